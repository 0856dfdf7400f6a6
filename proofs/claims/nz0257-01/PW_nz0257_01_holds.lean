import PyProof.Rows.All
import Wide.All
import OpenK.AllK
import Wide.FinOn
import Lean
import PySem.Challenge.RW_nz0257_01
set_option Elab.async false
set_option maxRecDepth 100000
set_option maxHeartbeats 0
/-!
The proof's declarations stand below as packed text (they were found by walking the program's code, in
many texts; a program of ours packs what the last theorem reaches; the program's own term is taken from the library). The host
theorem unpacks them and hands each one to the kernel with `addDecl`, which checks it whole.
-/
namespace Mine
theorem host : True := by
  run_tac do
    let src : ByteArray := "ZVtKk5sZCY`fKBrP>edn;b)?o{IJ:e<jltcO65~B;~`H!JyWbRXhVmJU{P~?S/CZ9#2X~M`2$(>l[TUEN>U=MR~phe,RC`LFcwezpK0YvV/N<z)!N>kgKcCl?R.UUTAJ&N>pem7l|D^${9l5(h%M8t
Kt9f<pniBG/,74G|X2xZ4e}aXZ(,nT5#Rll{T$BD3vV{TZ?B:|DdJsHKTU%fvQ*U2[V]2MGx}:<zQCa*xGD1;o4VX0g'(.7mDMOrXym'Tq$XYu4nM]V>ItUB|2VWs$(FA]M$94Hz^zM((OiR?ok=.y
D4$XMa#(Rjjg0#(LX[S+pSFrb308I*lB][NrtJ]d%/[5W8>iDiXDIC{]l#FsZim2>uGg4i]b(<4DTimBq>mH&mSO<Hd)3qN!znX}k^C$yF'C{eF;:wc8LgP=#w94W$DXfrKsEi1~ZT#T)0WQLHB.P/
D}us?JTifZ#n|l>8aw}1qy24J0CmkbikH.yDYexm[xm0[SBhy!Wov<n3ury('YiMzZ0<mSu*{OXnP2mjxGp+ASf|!}_UO`PcQE1Sf2RF{_hLaZyhC,tt6I6Z}46[*)k,NHZ9.W;~zp*;mgUj7rir80
IU[XJ,I7o'{|LPSo6vR[$];;jK#IQ.hw9KZ)he*'|Vf]SwE5e&Sj0;3UI}<ayMRx])0VII1znf}/F%qo2)J+nXb?z7Bt#RM|:Tf[x'Wr_IwRF17/:h+NV4ypb~.F#nZ1GjJ]z[2A5{|h*Y;IJB~`W}
?:34z'p{*00a%J]ew*+%$|rron48uCFgh[LkLPb8KZc{hLH[EFzk7d&5Kh*E1^p^B9eQ~W.olSdWX$Te^lZ*RKH!p*g:W(/r3:TE.k8.}9M?eR}REL=~8wq?EiLX`m~Kdogx:m)i*|>b%MUs8g>{Ii
x^OHk,`M+7TX}d`1|V)UvfAC|MZ0NW2g*Jzf]2!w:>p(l;8&QXIP&PL.%Dnwk)i'{kr~rx6{Av>cPnYj/L3K:dUYzw&_AZ0eUrmED.C0SUpwR4#H+':)]?.JdQ)5WB%JOLnK/133e9cqH0i0l`v'ks
=gLk)saS#3CHZSwiC9<?3(^oSP`x;*{Bkz'aeIfV+ukT(m?HocL4hcmD~:hYp&5qKJGpDbJZ^rm(0V4hKz<Ghs3,$9`?Jc`#yr!,cLxwCkz:2ocZX^FH<7fx!yE1>Z+^vjtQS&6$k2T4u`5V{w'g;g
x4p[&!pb8YX*c{=>}.B{XxCj%m4ZaIn~UoG?IQ+>2n;n|JoIU{Y.r|^GXtnY03C#c+MFOM_Ij]EVkf>64y)VtJ~:4!]*URNv^E?Q|8Kq_|eazZ6Q$l<xHkY`)yOym%gSqxj:kSh|m5~{DPU!wZm1i:
uHA.h0$%hWATpPv/d1bSJ=YRbIlExm<V2.c)~furDj<]/?zBsh?f6Q|.q;5V;Tz<!*gErY(%uJBH6*z1cpS70O&mWJ}ER<)1k|n+mif,H>8l1(K6T&o5y]q:1vE0zVGuPe]D{So7S:QF3~M<LrGPav
vz%&A^)$W~zX^]1x&7k{&^QE`C!5I3wCS9}*voqv~q`9iXf:Qqg_G4Y.b{4rL<P<X!E`b>tL312M=4uKiam<XwLf;iLa,g+tL?f,I~JU%EE2b'JkyValrgh}.c{`69[Z%pA(mtLyxb`LoiM^G($`kE
D#CRm!d7SI(QQjTv:Oz<)ry4p+mh<EWkLC{wQFz7`BQ6[(ZC&at&Bjs1WHM0s7r/%JUi1FZ+o%4PyKb'26&(_g#ai3h'[#RGJdeew2q(Q72P:LH&sOsK+g~v_X%r7>uNWMI$xq8_bzD~mo1c7%D(2i
Vy7V]shJ2CcN.>Y*gm_!iM*=eNH^ot?Ipr)3}*{;il!&:^u}a*9zs,[eH;iTH=pgjc7CV96z8Xafcd,5TMmir:4T%aTnkobjeZ'3V)p]`arJs;=d`;PfE~p:'EI&lo<>;0+5m6V.(<RAu`X0Ivd</.
2ljcRY;l~.t;u/tP`H:k6&#WTXuT9|RbB3G%G[NDyXF)yM)PE:`&EtF=,/`DTB{/|r>1Hy/Gqo'hK6IGJ'YHt[FUGB}kloCVuWP%],tf]C7.zwJ??mB]IB~fq'=K(qE}ca&x&pdsBzc[g.tF`jR,27
GNHbc;1~]}4bJ!]t=U+?`|BpV8R?qOe,8riH=Mw)IKsq6UXwGW(cAGAi7v}|zv?1>Hhc:z&>[3,swYJ(k(:7oC+g9V!VnOOD|%Rgl0ZcVUUga.o$aB;9<|SW).R6.W1wS;&nVnmW=^<?qo^[vGbZ$z
[XN7Ew!TWHE?T)*A$|C{v0PD125J;CLGY>JVkJU}M|[d,0P0QTE/4vep=V^j||Aq*r&!x`pq>9J5b^G>kHp7xF+NFS'IkTE%']jF;[[`56Qf[kk/^S7.>MAA%?,+^+bk#.hZ&(!Nd5V393D0D4tR&4
=';w.i7(l|Y^0>X?_`v,m9NGxS.jR:#=Hyujq}4Ls+CF$];UBlFA~:a,gvicPgQ;P`0R$cO$3,&o&M>s|=Caa0r)Z|J2K]fV6*H]|}ba#De>VFPROHgG0OWA+Fk`)r4i^)E==*a'z[F$y)cE`#I?,I
g=/kNrv1#!<j&nT=P[TX,C_.=TH4uo_iv]EN36o4uJS*.f='<#:KB#}SVume6t=5.PK~e]Jr(fE0}m[~hhDSKG5t6d9zzsWXL~|wL+eAcjL=Wu_Z>TaCBn[rS*xH|_hqz>!t_P%y<.30u;'X(jQGR{
])pzXE'X}'|h>XWY/U!Tw9_tG5>kFq(x<=y~Kdp32dbwE^VJ=$D&fNM3RHSy{[djU[PUM:_B,gx'l^g6+$hY63|MF[iBEak&lanQo4#lVwN*rgGxyd<+:*w$R)QW1TySBi_gEBkOBRj(JC!TZNGz5(
_e31$~VV;l'Z);+lD*g0H4ASjMczpP,j<XcE5}&$}_xzfe/PP~qgTd#8zHtEJuY%v;=WxCe]%FK~pU5;%>mG2]w+&:{pH(2%&DCrAB$G/bxq=eA)3cTJwkcX;}Q6/*,d{fJ){H(6md81#{Le9O:JH(
8g[P?fuqI]Rhw'y3$#TJqD'NG*tjAi0r$'~r,[J~~nh.H5aM~N;0e[Q|Z(3V.yMbbH~tZ~yBRt,ls%K5w<kEB0^j$H,7$nK5XRabqfL8b&=D8ZJs1*sPTUaL8kUCD5Xs48la9,U(+$Nw<**oS{3Igb
LCtb]x*r~%SmVqx_chSeGWH9=ju]nOO{5qm#'yhaE[7=A(w,05ZZUbx'_#z~JrENJB6)+I}D{}%99G[U?f8X76aZWs]glRoVyP6QU6LY%16AH&Pie3X;R&U%;z&qJ'~DBIF_EYN2hRdzt|N&n)lGrk
5nSTViivsmo]FuWIF>06Wg_l[IBnneS&KJgw/)zn'nKv'Y6<0_Ud?hsW(?jMOoc,$=RjJM{BU:sitUaf0jYMQNuv`MC|5/*,Roy0${'{I/,5#THt5~9UfX?Sn;9>qZP$)kpcD;}q?Yl&i.m+eA3?}4
$Bb|3W>M6I47]Lq`'p?n,iXj?A~STe^2%Hs_b,'CNEXV(*ZhiRDc'?A:;?v:;lh';.Bo#aWc#mPF/RoW'h_SN<gZGFz*n2;BKC,>:o18.0Zd3~;cd30Xn*&Qp$wUpcUpHTciGpM)U^e&du]`=)8qB|
iZroG4hS>WqRQ%m?9wx?j_Xs!%+3bD;n}Hk65`N8Z5AksD((b`13xzcigkB!(eRdv]B7xb;%;[HUI`T}fl[LN<|JV~0[Ssi$SG*sko#x3VZ2,lIyU~*9%E{c:v3Q)TZ^`&(E2Y)_H2$4HF_C[)UZ?&
~;G;T^?7D:>GZ~ZC_azZJ{F3jQS)!qW`UPIo,`$VK*Ph[2'!apwEIc9J%(vgrLxI?+X+)g9df=).Dws04~sJgfF55pJ=|kM[jmA1vEc>9gm/:i9Kh0nlc2vRxMagsD2%Hg|D_RSUX:0J84+QP,6$sO
0z!*#2OGH=:leFQ.`5U$o81gZ>nuSZx|78U]9eX#^zI6(Nx~{C&4V}hE3i5OJZR]BFQGHIfI;sv{n#SZBGT(L[KchUVY!.m,we,m!NYjpb5]B5&~8MrjEEa7*n|0#i$el{w1PIMF*K*C;HDGUOH2yv
;Bo`Xp!tJ59mr<`YV=$$2UcUW[s>+}dhzw8.SOT6|A(5)W:R'`m9)xMLRaRSqKh]QQn3JZM#*&)~vh^xHOdc''&|*OBIOJ^lRu8nXV44SzsH[HT/~Y}cP|bf&(s[_rkw~Y_Ut'yN;%G<p3Ah!b|i+n
s0W.d(TA,jBz>M|$m?6#Vtc3aw>en>4GgeGg7i1)>3}*M%=BnZvAk;}`P_Qy3TWe$mT`x%hPgIL`#X{hadgD8+So6.}xX.#E&~Ud9'`t|/=nmSw~#F]iqE0r:WAOqzw{T)))?b384[0A&sultOk`CS
ur*J)Pq>6~Rz4'FuS_:At/T.5,C0&A*Jo[f#ZgfzX$9r#Ge.U3RogALDn}.b#+:Fl(_Hhv,nx6atRl7W9>s6[_x]0x;ix]/v=f|mHir`tQ2y/rNS{Mt!_hMdUwXB!t,RP;cpF&xjy.)gFpb{/j,c|n
wn8w#Uz~X5W}w%uh!e7T#c4AA/Z=81t3ILz$2o2&95I>YyXjAI]g#138&X`jp8i!.SVX5TB_z]EHeAHwC*:=D{/bo.Mqq<Nh9we/pPel,`w8G})ZMjUMvrD)%c%uu}LRm)??3={T(.F4;xa2<%Z'Dr
W79|3`AV5:Apm7I#n**Ea0L%QL%3(siAl&p`jy(7gpSvEtUF=O(HDCmBxFik98tB}d2a4aPt1i0Q9xr]>BPGSAet4O4B.^*Q7zae>huou`6QO;4wH0W%XYYs_[uu0FQH6S]Lh7R%gKSF)+|2DI2n?{
(94|y2G(#)cBRH,k:jCeT>Y!r37:U%w}5AA}o*9yNw_TD0HcS}pI{Vf725KR2jeHdh]]+3PB}vtu:2.OFuomhOF7d&q&;cdDl=M^Ek1!c$=z=+kwz;b6(`t05Bw/!V0YoP6wF[GqpcyfE{[&eQ/rAr
KbPe5J:rj0VQ=bFDiuRaa!,A4D9Q8S>K]WaRUDT4FSb{m|R'}W!9'Eh=7FpX?xzHEV5[foa_96k(4iTdvczie#c+:w62`}1d.Cxa`A,nO7HeL&#(uC6q92/.^;SrwPrk2aZWi>Kt'CM]R0`!)3U93>
JpEt2Fw##>K]>2:H0ni#>+cDXL/iDpVJ1LD`Gkv5awGM_~fHbx<wc,+l<8>S/h=9XVN0JUm};bnxS;j6?jWF|45Y_xHb$[7kG#MRH~;^]u63$?K9K*~m~EhwA:[s3{Cmn6O7,emd$?w>g;2A4)bjrH
Fi9`4]L,]t}>`|)?p$`[VsZ%M,7.a,}G.+_^;|+sc$:=UP:fncFcRQS)Ysvq{:EQ7A,S17{4YV]^=#<^+KY&+?](;=`RA>b$DMx_:$)5d&55nY7Ub?,<yz(m)*&tz[M>*h8^1r%]|T<aY,h1b7BC]'
mh:lN7K}:vqFA>!#caq~}2??!M!30500PJSlv9C;#KA~hC8x+N;wDWI^p>ENPVFg/KB2kCKDslV<>{(p]h&p%Pc12[lD=S*OuLVN[H,`tHC.+eZq`^m>XS&S$*$Mho7b5{F~[wh5Wa`(nO;Ja,&8PZ
,hpE:1f%YJM;k+O`noz%7dsp+T~4UsfT`NCMq}P&l{V1CKI)p,p_2V&Say'lWoq;B)o]P7*y(O}KHOma*}7=}Fo0l2Cml?f|JW#Q]`DfXw>Q;y/:J?|33$KTx:h_'E?zJNDB&=&gu<4=$#_pymQfWd
G'RCVHrAf.swmvhEE0Jg6]SCq!a7``s*N+#y_5=d[zQ{nlPx2.Q,cDvIht.Po(^9woa<~87|]J$^HL.6;Dg9k)~G_FcV|Os'|Ymnp0OxM~RW2I~BhC~(pXhWO`_~)5.LY?%kmakXvQbxJ}.7Dfq}WY
ht|p!e7A)Hfkl9Le*Lt6<l[6Y~JAFuM[~C`fn3mLo]!>mq&YCUv]T5c3<a5QyyQfZ1uw/;`7%6,`>AC>o+R#%hXp/!I$xf{+)e:pCM&NY4<BI}$:oGnEU<o*sF3VDM1~C|'%.MXiRAmHrb!tp,z&9w
?VZ.EMV><)Jpu5s=os_sV<X}o3FKlhB*zxV[?`qt6NX&W{FtvsF|g/{{c)[csogEPc|AH7ll}Z^ogXVb+A0C`YC^]K4zfI?e`2Ad$GF!W'+r`GEN42ejEzIIs&Adj|DX5hV:+{![gaxJCv]vh_b6sR
zuf9i_Kp'*6XAvT+QZR90'AH*yn{n)DZ[Op4O)aM3/i`n)>=9{p2{a8,v=XW4<^gSb7oSZe8fT=8'1p0Q.E1L*Wue.zggCo$YIjPRz>[{1(I&aBz(O)fSaEs~5Un7^!!e(R3zdW3sL;m$VC!`IJf:a
)NbFY0,#7_9fr0fc.(:`~lcT1h!Rqh<QUi$N(j4ek|GQ4jzO8`XglWz~RZ5Nx2R}=|9+Ky%NR41Y>oI8&D2UwgtS]_m+)Z~}lUi5.!rVmLIr2Xo{;987#*)y%H*qS1URn=#d?i'x_<Ri3!O$u}*bVm
Mn3/bA6S^Hi:|Xt/~#XpX?A?lrV^7WF=M5P15II#}.OSqJV(Z=P;YMbai/^+}3:W^A]i{M>^hOi.2tK;o*;SE$5>vzE`6019$pebH.!,fwABtS[]!;n_:Ap{2nH%4,Z!pD)o**kq'l${JF;phma9^9
_=Lv<fW9V?Z<[oY7$J1YN$(84{Wx~3.d>NYgT)bgag,x$>=K08(STa04!p,dZ{vD!NQjn3cC*=Oi)cBYB`v_WyMj,6}EJ_)7?xH3kw0R;A264^2EBTh)aw2g}*e<c`yFPtFII,E^oab+|`0Z{f!ke%
H!k&:)dq2}.>Cl=R(n465{)vE']b?Qq[2*g7)1CI8bd(QSASMEVwe(NBWaGLEeq!SNT5BgP%+Z%6)r^)h5hY,v4>p*;CdR{w8p8q}IPDFY$~MR*~~y9_DJg9^V9n84m<e|*!%)TF'}BG]2ofB:t{P'
HM<}x=QXQ6j$|cj!.)*O6jQL8.C*#jo=,nNjLf&EULJu2yQWGI$($r~K2FxE0SH9QA$FnDw8ebH&ij!nLpcVTtMG79CE]AwU7l:v|.3}e?{Pt]fM=Y|PM9G%$<HVH{B%+?_y8{_vFS_'X~No2XV&3,
jeMZDqP2n};9BL[K:X]$kVvdz;,uI<Ij'ZAm1Rhyb;2l;:XT;dh^l3Edl&5OVsyy!BG]B_X`))0HZXuE=XmHJr$o,KXCR4)1z(s]=|`Pu)7N+F$sAw`:zU2(!xED{h%+F0n1fE{7}1Nk#(WG^$!!9E
X]F$GJwE$|>O!yx`]6v9Kd#&3q.wc?Lx[lB)jyCO#fc7,]4czH~b^zuVUC$wE}qeG,*^;JqD>Zb_8z{^by]CSktkty*ZjhI9c}dhVl.rp.<W{Lggm`['s+]5OQBJB_&{N0=rLT+W,[_:a'3Pw'1i#A
kD3t|aLTI[J4s7GLKU`f7L6TrO_PE;R9bWMwOhu&w#NfyIweUKCH1xx'mVifPd/x'~ZVET6w=*T(j])7R8*0Dlb,:V<;+F~K&G1kO>kpgYS:x)FL`ilxa3Xv/QTXU(,p%s#G^WYbD52BtC0N3rB=c9
zICDFCZ]Hu{Jg)b)W#=e4XphEt|txNHDy),u50{,fC$lm'*$>z|i3='FOop&U,/k%DN^g*oaEk[URPOM&O7m[LfEosjTtQ.PJpF:}crM946A?=gdbK7KtLiNh`'wL8k0hi+>]$_$(V6)ZO7A.s(>;z
XXvK;YpuY,[yzR5cn0wZqWEB<%]2:PIh+UMeI/AJp`R$(XuH]?Z${*J42uk_P,N4d}d~%f!u+8F/!i)M#qs,m]_~~Jyo^3iY|v4,MNl/qIbiVnTe(c!]vm+?#KeIdLtMoTtwevIy/O[)I?Zb2h$(|N
2`15x0C'8Tt$~/RRBvwtQGdy7+P#lq#DEuMFq47<y'HTjel>tm38_KW<EIv#G*GHb/X1nHeKAh:In.FWy[yAvm_6Ip7ni).s^~hC.;9shYyy>_b*8`6*aRuIakyMQG|!xZN5b'MGamo=A'CtR<j9[q
IgxO<UF2Nm~!2?:_wP'k2bAlR6!W1t,7xJys{d]Ca)x9*m0CtPi##IKT{0b'dL*_4tWZd>`DiB7&DKVF'22IHlEsIc|G!<c)R$Bk!mC|/X}$g2<j'o%:^.]xKrtYnbdB7L,_FANUo~AFJk29+XvNi7
L9CrT]rz}HW;drwy7j1A]j2c(NWAUBq..l`M(|0:U%tpe~Y8wh[mYG>e0[y&ua$T2v6~fFv4$*YVLg`NgnA+?idHgp%1pdFE64V(iP5&T<:Kw}?4!pwHdFMv*6?/m*+,[0O=8tFim>=Q*)Y1Afd1dz
{0&r*+HU;M&u5{(d+//H:vHWDHDzOCyaMw~?#n|>tUa$(r($B=%Hw?h*XYHuYfr8l;k0xrY6e4<5*A|8/gPG0V^c>][j/%|TjC/X$hubU$m:21rE^ck*W>n+z=QI<1]f]>9NQt]/}89F07mz8_{'7H
6y*bIJB8R$+z:As}{~oocEclu9ZMp_8{'Q^I:)w7Se$[4CxXVLA?d}%|]qnm&=1~&#$]qvWv1Q6%%Q8UHMMnSY5U*?2C,3tju|9xmWG0iD~b<$CI|3rbi`o'J_e,mSRs~+q4m>3?d]sXajwUx<2i0*
2)~SWU,09En&&n{BEp/j83^eX5S'2Z4ct6R0f8`?*X2`Ohv#,`YTMd7V+_4>xFAO:J_3s0#G+'Ug'+TqwV6U8}TOTcy$+T0%'eISN&bbBoe?KO0dD}22Cd^=lQZGw3V0K2Xe^FA(Zkrt2Bf[|Z~wDz
s%AqvChYKbLzJ}s^'ADgr?$Fc^SKzF/4EmVW7._O:(yw&+E,E[Jz8Mv=adl<l+:EQuE^v,{_C4~}a_Ac1RdM$2nX881nXdqE?$N|zlDL]6;cu)h{_#_pPpO1G[27K`Ss./ToQgbD'z=Gy86zLej^3q
~SV6$9I}ldxX_uB^L^jHXYC28h?x)n#s{Ee^c,)ImdKcgZD)L~PI^$QvJnT;,xfCy=WW9PRY`Iuz<EVS<`Hik4;0MNx6gD=3>[I%4}!CsN*4gLkPWWCY94hthSlh:~>8z2MEcFwgqfK`LsDJxXH,V'
~G.3EWI;zh[B|e7Ao;yI,3'+[}aGv4SS~^+)p}TFd]?GL?yI)t45y,`0,Z&bMB1._f)yLK4_$GZ;3AEXasJD%Lon|f[me/O$SO<dFEwvQ$j86:Ura2jji/a4r4Op'%)TW%`+cttI<VkolZ(mB#}smc
w9*q+|YX?U,mOYe)[{xQ`Ip4c>:To^WT`9wJnXE__;4Eium%>2JT/4Y'K^xcD4{zHrgvRbtI[0<!u:r=1gTYwI3}+Ldf+8]sw3PhNQ#E.gZko{*3QGd_H}NxHCRf}Q}gqP|)5&I/]lt`aH%7{};;Cr
,7`p;MK3in7kM]>;Pm`E~oxF<zRa*8QSG&(.X.WMyjS(#qnL;]2ofLp9N$jP(c}UH&biY{O&%]TqM3qr*H;^<tBE/eli^7(CeIAzM{0ut`~X?3kxxR<1}wSB(W/f`^(RpxCtd+NSRn$!>B]|B?j%EF
IP;11XUwHtzk!t1yne<RiGJ0&==&o.XE.10h`:vdlGuy59L^8W9R;)pTuH0)JMO?lqV~k#AJP2i<A6y;IK.)OYBCUB+cxWFOv?N0`'`Z_G*Oj580tf}{?&g4oK^W*z~LWVyaR5u>l_P:'S=.j=!bx/
in;5hT(#ZYGbcf0?(H!T+_#7Q5x88k+c^xS[y^XmTO>3f7Ym[N}8(1ur2fn{ZO:I*q9_khm}/n1(&Z',20uS^25H[dGuXn7QDK;41&:I?xfg4;5H.FyCS}bXBru+q,;hwd?dXPE:CM}yz:vd|P2~u2
+I?#Kj*iiZG(gg=HXa)&jUzZfqN5J'JX:e1nTQm6N2t*'g*MS5n>SxB8#sk%,~*Smwm,>bd5EMd/h<JbuRV>w}r_~%y6f9%om&kl6jhUf:)+4SsYz0OZSD6(e1x:40aNZO.Iz+r~Lgv+NI?Twp:a0C
(~>f1CZR*d}_25iznsi6Mw&6<!.Hj3;7cmj1q$]y8KEAWV(YXqi4;fCL%HL;gSzWW?]B4[|;+Wtr10hK,mPwTjpYj.Ab&j=$D'0.k3LF:2ikL!=S5}X4sL|45l(~Ii'2eMt<rQWu`O%WRen*s3tath
G5+xS,v`n*<R]py{ZYfaIth7}*TktNp%cP0^!BYs5sS~nV=/JSCotChpK#3MN/=r{<).X0rhN%f}RT'n!Gxy`mB0&Qbeh,,F[>]MU`M8nhn(mK/agDtHg.#S;q&:BVGh;5pwq9moJaN_$>5*!S8x[s
MEOxHiJ9A~r<oS<p:;^o0GL34$7!*Y7wOGX1>g.H,;{8H5418:/(ejVQOc1)Umx.j1X+].oAI3hX9}P%QaEX:Vn>ecCWcl*3B<VNrc=.#Bi)9'&L'NumuSJB/eehUbQJTjZa|7b=*3*O)^/;TvD4]>
oKVFg5HfpHebKfa<F`OB*,=zm_!c3G4toeUv4i%x~.1nZP=~A:tW=O{;BpYULJX+L$p+btJ9[DeOhbP[~Dm3BojyDNGn{`^'F+mhC9?]A8w5I;F2_;c+m+5l.R8K{VQtpu.tdgN+yg$Y'WrTF/)UqZ
0$.2f3+f(T!v0Jim~j.+OkN2k/z'HSpWP:'ivu:G`}7_#*uqc!ba?i.+JP2S,o?U<J)mqwqZA0H]62X]a.YVz0hf3RZ?BAO{P#I1}zo9h]aX|_6.(}RMs|}8FEcY6hb,sZV:#ZcqWzVUBn_k.M?=oJ
Pn89!,8YoXZAKJ*lU^6p/1Dmm&>^Q3ppFnCLi*0epBw)<.9BCQE(DUH<Id[]ZaF%|G&xi>*o(f#dfyg{K.<C5D~H9|M'V)(=HJ+Zj'pZ/?}b:bQ<{xX%a||c!0&FMv#Gx3L0`}{1~fCw3Nh{7IY{yo
DEV3Kh:W1`zxYcQ}[u$mLCyz#N6+,=%,&b/tV$4o{.S`LI*mTJ<pV)xB7DUu9ZTzWn/JbT6bMIRaNi{0MozngHG/=Q#P7]b/Q33AS+UKR.c0gXSylv?sTE7`%i_FwA(QL0X*E4kE7p:s;j2~iHX>aO
x78|=ro(`}5.1xUB7^FuV5,meIl9~D+0~DF%0afzI2wI6J[mv/U_3<g'DkTi]'swIzh[mn7a)X&]Z1{]k&1A!xfW)E{Rq=e~X$_H2R0$Ds37$z4ZfNyQ8~K2jv2=#~OlHIGnt;cuxu*(ZR=oJ!GY];
ID/X;Q)&S_/{jgg86G!.z*xaWEXSKiW;Pg,7N8k&AE&qlC|GDykr+$.kxmiE8}'hi`#Fm#ipUUHAjPZqw87+taHdX%iY>?4CH2UX%B7x:CGXUidS2+txQ;|XUhO:K+K*kLvCQ:My+gVMVlYqB1th+&
&cmR%h<~<HjfP{.kUbl=F&sk)7l*:Pfy*bHNM[I7FI)j9`/X1$PJ_Pu)t0|)lQprutOkO=6)J$Y6_wI^S?$#Zf,fK6w[HA}l5W,ng`;>a6cVSQr;Ov6a<jG{hr94(i21X<Cl<,qQi:D_$2~VtZ!10#
[PWiimm>5ZktdwX$T4,cPX]r'%XYND%Sf~%]Ar9(tx,'6Pe75PL#^(V$gO=P~8!5/Gj4=&{QU4LfSRZ]hi=L7}8XX&:)h.2UJw4HuqkYnlY?,nD5?#<hz8/{5uIbq6k#S{JAN'Kz_]m2kt9dZO?])R
sRlW7)r|,6q(bKnx!BFUu}#1alpVbLQE^(o1r=N3j)mz)7<+[t.qw&Z`$S#>hGaw$4/r1ag<!Brr/2S0K/=G^AK7nMr|PcfHsdyG/rqnHTE73Q^b_&V/o2|HflnU/'<L=]gTkp_<FN&$sR1<'er>lR
jnznH]v{62q>bp(3&YMF,2^+H'(_EB_NS4&m]$:~RXwWWj:CZc=|e*Qji?MQGv5Dl_xU|kP!%*UD^3tjRfkeT/%YSb>TRPp1]5tUh5]Z:?E9V2i9}pv8mVCl^fY8t:vSaVC5$Fz?d&ms}W2^M5njA]
~iUn*lwDmY;Jo35Z,RV+(/:9G;#9*/7R4F!}u;*<Ir6Jyao+.yR8oCHeuYLas2%A0HtW{n;>U!]+5VPQQijzp!og%Nqm#R4oEb5gdHu$}aBl<]=ZP=U*p&x:=F]ptoZzMPVv2$hm.I`O1UWm_Ay2&C
G655.G(p1Dgpqx2%>rx:EfLl&m:POsd/VD41By9p4ZSTQ~&_SIS.Z,q1*PW/]dJS_>0Ku?1U(z5bZd>UCtF]<`I5^$2l;PMk%r%cAd%Z!_IFXsznol>KHhF3;5JDEd7yR0mU413<pu[_9_AG04e]U:
.6iUtfs<j8PH6OMHS?rJ8[Q&~L?s!)6<zah#}d1Xk$q$r1|q%B6,]u|SYab%aXglbzO>5L*fz7!hyossUcH!jW[Ye'5oXT<CNrHf%cH%<3:;EWH48N1|dEt{Pseg2&!?>Q01qP(zJ^V6R}w3z6z{U>
m#$,{LXL)Y[$K&RN$aN5>5]2:zG~[Yc55Hefl47FNw%/Zct/{LGLr:;.wzc_M9tKh*3tt,`FL?u4pT0u?3srCxCW<r_Q)pIvXxQ>1HCT.~0.V;j'mr5^YWB0QfZ~amT;58:Il*M}_h{j3.FsEK/+/>
vAh+bQ/9V`1?~9i'o5{b<pg{1g+C|VMsL,b^1|*kRBeuikp`/wIhr$([<<VHQHkdP{%=4<wJx5.SVg6&TIqevC]b9#.ZaaUIzE5CkKa{my{?h67Y[1,^*aRzO'.V%Ezpc!KN(ekds%J6PWH_Vz~Q=1
Tl<w;:;]8!*}81!zCsN1#EBm{3T/g0_,~e9eA&YEteHdgCfa|=(egb>y;(!h4[jTXd3Yle,d$GA3d~m3KdamnmlVC&P{%|,I[r246HkUw,g(IDHJ2,a3u=9Mtn,TB$h5#K2|,GCBZ62}S*|`+&OeE}
N^tp77IY3iIc/8Je~j'86N(m>+fu9jf>f[<(?qOF{NLj?Ab'9nVu,cp{I&WMv?0}yvM]oW/M*Y&%pzwG9!Nd4;*D]*ng$=v^x_'JHb'IM;#<&Zn*Xx*0G)cUa*_o_$Yp1k1l9L5bpY0Toaj*VL`zIF
+2dPOh}mX3bC_4ex?S$Ic*^%siCrK$*9vM?b^_+(z4+sz.aR<B4t;]SUB/vsxhd_O}ZT+253rvj:ZQXsOn^cAFOW'vL+1dN'GM5:E8:pRBhp*4CBCY,*zL<=(5`b?bzL&Kvq;_uh5%1t!G5|)e5LA)
(GYp;6p=)X%w}(Z]W2G9`shb+2i[DTN260IZC2)]T:Rz(JKVX~c!:~;U,80;ob1s+{D/HZD%0>!0V4NIg2q_gCA3})K8<?/e%uWoJI5iJuM8z9]SIzZ0nE:9>RsH(b26'4h;ia5f4]=:wv(y81(U8L
V0wo{m#3U,SL>7~EqQs3X_&DDN/6Rtpj?0Li^S}c#!&?M2SNYYch4^wxi[1mMd]B%F[3OR*y4^2_Tgp2RIp_{7k>a,^$_3~i(XE1y+y}t.&w3{C_0sj7N'W2Z0<UaOSw7gsAm!!T/bT7;X4S3VlYrv
bH*O!8(*Y+Fl^[A[9rX{QM#nR^1*u(B+.DyT~1V^,E{<$KZpo/po!4`eRFyGgHJL0)no,hsTjH)yOKEabUj.$PF)Hig~~2CM#iNHz;GZ`N>6,,?cx7*m<$M_JPXZ3XGGE!tx6dVwpQART[>LtN1aW(
7SY;)S)aU|(y)arIIvw8bq]Km1KjhQ)f#!7W,jT~_[<Z5Gn}fS'K<|hg(cuxtvW0bn}ZWFMK6mGrU3J>9b0Dq5'7l'0v+,6M5^Ziau55,U6s`Zmt'ms?'|206B4~7Zw[pw~R^q?z<^C$Kw=_^lGRd^
V]M|+)XQ;kMl94KUJZ8P$#{g(;x)l5uM)r{uHC;K6{z[{Ra:;/CJ>[y3v0XvcK}ml;l}`kbcLj$Z6Xe9#w><5OaPMQ/c6f8w6!'sz`^fe0$U{YPWMvJ!H|()W79!,'t|L0,JUJlu#?S;sstnpr#<qw
vhDvS9$W8$*l&>{k?v=}h1`*%IK+M}w`dcZ**5HdM&iG/y<uBOPSIwO4~#H!fU_yW~v>&m`#*.#=?D7=}2mbdlv$0sHCV5=>Iq;o~*%v,6g51;Q4_uP%|Yv%9BvVXIXHNVi9>K|~5JACPvjTSZc>Kj
Gt!;'Z?Hb`+qP;Z{&YqDxEdiIn_~BpAL:nesSz3|Pu!!&js+w|`!9/*z#)}UbM'V$,UM8/;PD${0ShSH.HMv>E29[V],IaM5$i/+St3'PeLtj`a?h!irNP*scO4,.T|St+?8YN0'8u:{g4KT(Q`(:a
ft&;[xb0CTqD!#LY+_&OLbYlhmf[R_2kNocMHv>>5;jSelup^gR|ztzom#H$XGdQUrK'fWnT`x]rz:9o!uaF=h'$dD8)}7WvgkRdEz;.0Uo|Y5K{2IIGcFJ*h[!X>ArX6VS8]w3kn$8Z`JTj1Al+9_
k6({0o9MNMiUUCUx2Dgn{(,UH;}&m!nDMTnLJrn,WXOoz*u$)+i+t<F_ozaT8');9N)i{:q}!O4rQki<c`yi/e4^US<.rEbv[1>N:My4Mz?%8Ci'iHp)%Au&3'/H':_t]zRXM%U:2nu~*eA^+u!9am
1~NaONB/`He/<W)'1&cn*pzI0EeNCRZ[cA]{1;B*^=s]KhX|/f=_;rJ;jQ6au(q8|U$QXI)H0tG[Kc!5cP#uHp_v`uhO{$lzEke_i3b~sbXy6Q%'tOTgcKioKN}vro6}~kdT{W4WoW!D`%WiNe``g+
THnuI(Z!Q6?i!OuYuZ[$<|N~4Qy|*`I&re;j<t{9k)QWv$:&~O[m,,j2?%vsiCCN4TDz/|$7,IAoX39m?K^Q3nIxZL$!REPg}T7A%D[}X**F)/L~HU),),uyQQJ8PmNf'&uE}JRwc*xwmumw}ZN?}V
e!Rct:Z=++xDs,YtU!xd~3zO(eA1eD17Hxt2SAkoy_LcR4PVX*q&`/zifrA49U}`OG;!!mgmg?]WEw*_Nx&p%r?Ff#m(Ggk3Lh?p1=/d6]~iJKepIyKQ'IoTS8x>IvTF9!,2ux3JTy083~Yez]$m}Y
~pKtu+!crK#X?l#MYx0:JvuZQ?8r<Tzv#GQqmpV|v9~S{_dh0s!hPW(h2;jn3:A#UqF%L~AF?$<}=,fFH)E)5Wz4=fH{Kwu[;nI}^rWMm~jJ[m'g'&Z7i.'#M%09WtfXJAh6&7L;B;L6X?uFO=aa)=
^%ep}HWO93}K_f#Cd02=d6L!K97dG~.kx**'hPLMw|p5OiB:'Kj/Bm6=f;_%DO%F{!SK}Y<01*W;gH:9/74*S;/DELPN0q^V:5[H=;:14O&b)f>8^FHaH%e'A(+]N.XZcTwKOMwzJFaEnFxUXKr>oD
O~9EcOZp{1%R(Gh`L%%K,WIy]pgNz]]L'sInBw,!z/Ga8*i[,7I<Iq3w/??:+^gPjl|b1xWs$KP(o%ac#u1iB6pw?VkS*=qIdj/~nYS,lpN>fun%Hd9tf/cbW0o#<Y2/$0fu0a76?iSsj)|n&qBH0g
$f>!:$(1a!?'p%;s41_?VnXO5]{CgZnD}w7*`[Qa?p|f$>h}w]w!C>:rEHv%q>Q2sWI>f&5'tEcQ7x('qq6gsLPSR5&6ql;GLLWSk}H;qM0`)n8Kir6H('|_'!b|Tb8S{c61xgFXJ5H&Yy!kxqwbli
8oLVH91SP=G{X;SS{.lJ75%4u/Ku:,Lh&.z2QxDnCx=v}0J1kx8_`x~t)kf_JC*>3f}+5L8~Y2WJ<$VrQUYTqHTDS9#B+>Lxc?Ow=6B7lYe:)v+Y*3KAC~,RJ8gW*fI,]tP<q<P2#TPxoU9Bt/iGb}
Q!sdJ8^Fg5[,9OK~c[pjqra_I3>>Zj^h=w3m0Ti)<YWvf$Dw&z.ca:2aQqfEuwwBP9_%TGSgA[x0}wlri}'QKQ`37##0Rklq=yYvKqW'QCtJn1yTI'|1HvlZvbF,o,%4!&gew5mo1mV7M&;tTTVz.i
greq##w~Q$;lO}R6ZFFPa`v;ivXOsNy_e5)qc{3>^xR>X.K(24L1({:4MP!sd4o#Xj=F_747xlxE`$l59>HmP*a_Mad$QaNnk}^dyaVy_$%WjM}V#2q]#[my%2kDVlwywQ>[|?F>bU*L.`wk)E^k2{
97^:q6F#tVBPzX.fg^.F1B?GmTUSmcqWJmO?s.Nq}{6hd+z.W+*hNjiv0d&6cUrRaS2.asqr>2LFc};Mb=jYS/{=&kZ^H*Ts#l(.VJw8]OC_({rH,iO<>u^Z5nDxgh/A,Q{m0n7vPu{b,IgX?'iaiF
lIxHG>J4X`|{zmXF%Z%[|oE)oB#W}jXhVvxte:y^%I;'Y1)>.Qq%#/2]wwZxwmULCQN&>`**S]4zO3RG|rOXJ]|*vl9%[O)G2AHe+pbuPk+1)8Ei_Znc3_&rnu!4ps<oq7t1Ezr5kd*G_|5T:E`p0<
3N/gWuM,]G.mkbT0v?dWB:C9Rh%1,K}.3u|3$YS&Bms6I!.(0TkwY;C_J]^R&Tdf;9rp)1CY%p#2L.5/GZ1dcR`?,6|Cw0Q>P;`A&#/R0c(/tOUi}2sku(l8a8&ifF?X[:=C}$PXG25N%y::zj;(_2
Id4)]|A|eHCgUXtx7S[`;#K4RVYt.qYQ2C9()h/6s[XuUH]k]cs#0l0&o'&1NP+wHYuhRO^GnzI%]n|b|nXWcGyKtb*4B%vWEq/U9M.nwNau$?J.cEW/zYU'.q(;~)`5:!L^TUq#*{y$X=%/)EFD6|
#R2y1Lt?qQ'Ll)]iSla.Oft[fA0]cps)45*OuOe,f,tds<H)TmP90_5;c=^{0QtgP$,HF4lvk<1YlaV2vid>o4J$j`bvA8jgJ~i;IIbxk}e'[}QmX%9S[U7:wR,RUVi':a4HUR}O/;8vwO{={ma*]6
0~r}Yi:l2=SRx`hbeMf>gnnxn[R,zi$z!Z$SBiFV4Dqh|/7l`x}x;=B~y?tCqS~8w~fC|r^u?9n&*Yl}N(fO*(;<dbW'r{,g`#a(wct.9)N<l.EGliB])P[].Nw?}^NPp($~X;)YRj&mg?;i]gU66/
$&]]?}zMWpni7.2{LFN!kSx/M)wM])x|{vP4Rs'zm<0;H]p^9w.A0hF:+MBq2mhBr($?HXHj$SI]f8/YJ|a`lzrd0&WSuz+3H{jU^!slPy#GYFt}kaI&i>lRAF5}~P,)]>G:eO8Jn<Kg(;VH<U($kw
xQ3x~](Ks#zjoj2pw5^PQ8MJ_[X8K!f0ojK]q*$V'7,E?AU0amiv+es#<[I2+hB(P|Aa;jY]tfXIY_0?_=lK,_BXWfY6Gm#K:=z_g<bO~~`kK3tIVtc|qy&0pD>VT`cP:RV_ZfJde?}uEAN[od.v_.
C><:86b!~&=pcqWyC|oVUf`3il4:XY8pVO#^[f`cR!/YCe+9VlZgpbbs|Z^rMqnFD8?>Xm2R!.JviB0x7AbM5EXs,BB,GzN>$LW4ybMS[O&Ctz18}kmbfuWw_.ZKm6BA/a,T]rEezr#HZ_AaOxCn^3
hdQ>H5=S+k/suAh_fo#RAIE1]NH`I7I|2Eb_s#aEZ!s$U<o;^G4iGq]vA&/~s5n!(R4CzzHJaZYatQ'#w=U{6cO<e0gv(K^MWr4D7{kPa$Hpb;zHP'z2%cr;h]eXdk+8x&$`XQ|.FIE;{^|]ID/=A*
<QH|5n^$k85Z&F&pvm]e9cKv(yq`w^XD?$C&W=%'x8QFXVFKXVB5]b=47(<=.e!gh&^m%q4Hw'7*LTMpM}ce+#7nBg/8sqt9=?Mn|V5XV,VcAb}qDQGy[?MY$nB!~g?E5u31#pqn+C2u5$|x55bx#t
SMUi#.V~M6bTOzI3Rq8?rksA`yn!n1Z1Lwx/^,reM'EYT.G0u06&[BE[$qz9V{f$B,%!;4'>EOkI=5L!#C0nDL/>5CnM^:#(LYNUE|djGQV$1/C%7SvCo!.(pq_A~]TJB]5D6}hw~D(XB4c;7!2LIm
<#j^5Hkv#r=EWPT.iR(eYpDB^Z.C,(J)^xmL~V'^BYUC1WrAl)^tZZrZ{om!WHw*h#b98P8W2fh.l=;JFyk4]1P(yV'.(}D$+~1.uc`#/Gx8;+|H,0ejGP|NLwtym}{0}.1fsIs+~att//BSAiuuv;
[ZX.Dx#^`QCyVB4jR{+;Wb6]ob%SeF<W^A<jPCyfP94(WQiJU8?8k?Z6&Sf=pE&VdpvUd'Z!n/eGoVba{5.VQ*q*Ro[!|byV=%HRW7}=eUO+TrAos2GGwFAqjPEWY#q)YOI$tY%#nNFOj35P_8B5Rz
f!'gXQ3k[ZESD&)JB_Me:HYi'7TP5]^D(|Gma^RKfqF9Y`IA!/jT)[y#Vyhn(*R%{EVCL/d5e4npuXsQ`tHbp`V9^/W[:+Y`Kdrb#SsCMLcx/vEGcf#+1:NWrX]V>)G~W:BVgWDBG?~~Z12+S8.bk6
F#]mSxh<Y964TWD;qmn1Sz;BBw0OmiU#.x?2?4NVDykIp]sC7+r|tay)FuzCpKBW7qlke3V/X2/`xyYw$q45FB~rl/9SPEVuqm#C}g^N~wl(dPYjXWC+<#dngOK}4nw)as15KCuNx0XZ8HTi]Uxn!{
!K[S_zi&Znyy)2Iqym3[9t;Abu(rZrmDUDW;bP`hHQ_FD//9>m,he^#8Xy#Elv+i1%wA[5YltmZ>[xV)qTkd0^g+%,?V_/pgZ/{?d6JQ7v%ks?U)|Nm~lNj*yi)ACHKw*<1[r|p5D}5FYA2u^?%Ve3
]EGTT#3]4S0Hbqb:c:EYa.>F.sw$0#F^*`1j$3tWBqAX+mr7,>=T6&Pl';+1[(cW~|B$x1:Ed:)Ygb)$*S+jp+Fiua0*W7*+T=*_Gsysm!U>m>Ixdwf.5<Q~}0kTF<;D{)<jyLaxZF1)ql$I8XcqW3
t(?nH2j]MR$N%{>X0]G`/Y4G2RrI]=YzkF0Mp/unZEyz/<I}atgS%!e^^>f7,Ju:TW%c>g,0g2;c~We6}/:y~FAKR0,m:u5'ri+Wt5x$A7xthid=L%:=I(if'o=6SiHIGOqC_T{0XrB}./>FG/Xi{l
i>pw*c,F~kPIp1EXD8FI$fEoo^KSQwLtdQ)sL8;CXWp1bIP//+ZVM=Kz9phVK`(lTo)l%^l+4k6EqO1sFh2t5KBAy[J0>j?eYpD_.xHQU,+k=NaCsC^'0t)u:uryRg*gHUX|t5vx?)h~$i)wXh<S(<
*qmu+(wsVu:g$.`[I;6k:AgDz3PFX2+4v/43q~LYn+(>;t#b#h`uVV*tT<yR*Gc,w_%]);Brfr}KF#0|X=W+KBRCyM$U,al!^PD;|dGTfh}]yw]M*S=rJR80I<[|iD<1kWt~II,(t:38F9$1i8{I6=
X`e7P0zE+]w0Qqo{CQ9=6!|`gTAJPwFnITn4kL_]V/;yI%+BtPh_6*07e)bw!YSE*Jx|YCe&+0xM#db8[n;hoP1EAC5ht|NH]j]kxVU7E:8Nm0RbTp`6iwRnR*^Wu0t)6OZE.LOAHA*TcX%Zg|=PtW
[s;_ey/Ej?B}'X4Lb^bK2yHnn=>Agb:E!gkEe>xwIF]B0iI%Kw{3]P'Wr0e^VFsN|Acg;C%`c.PInNF7uR8/#{(6zUnG^,dN{U|L(HoVE!Ys|y1=:4~70h6vU(e6#6|:1sUvvM^c_:oY1anS7z=b/8
5suFRV7M'$19y>+RPfdJ#K]K|&mGbtSlLTb=w6`<BM[x(f,#;?|d}Iu4NUN0&KizOCDg,%V2lbE(}Rn2()XE+T<T[O9dU.Uwd,n)j+_fU>dFK^>nvP|tqK}mBC,>zE?SBK,smDUhJi|xIh+Xfg|Rb'
RBHh8)^rQd9Q(MW!)^Sb)Wkv7g_(GF[Dpt7H/80*f70F?K++Bg:jwdxiLa&u=]$A0^1EKj$=i<ZD^CllUSj*e9y|QIBh6LObO%MWPDM3M*?*Hs}CL0WpF(ZD)8r1#^=hc1|F]#&g02JYQ8g3atn.Zy
V2Rxd)KZ$r}CquwJu&x3hL;ks6H+aaxEd_jV^H9z~NUdY~cRhNq|[wF{|*qk>6JuV>Lo0ZDMok/TqQa)cDvht5<fYO^,a1_Ro=r|wCEjyEPd53gvr{SeaO|eW^3+wcj5UI{[*Fv%WQsMq~,.Q]5X4i
(5y*?NS#/:lyl)==RvGo7go^]OkqW3z,T))eNN}=v*7Kblg<G&|5^2VtHOt3`U;YkTb;h]Fjb;6j;7*;)FF<!2C[uohO6X~Kp,{n^.FNS}exu!]&QP}j)<w{rIm1(FhD't_d='g,AN%16%WlS&~~!*
RZpuqkVZc4[r<j4iSJ%P~GSY?,d[%b7o+cLO=A1q&71aIW&(}p9An}pDQqr>l6z,^LV/(9Q*!K<&KESJ*<u&G1W%_(P(niq/A<r';P8lH$TNZ`SQy+#n$+AU0P6avdM,$k}.=zua&X'PkJ4$Z:uqk]
|OP.m9p[.a;_AFgW+^?|DbaZlS;ZquyCgY+qx!Eg%m6=2>$Q[SV)?:hqz_g>*pk;3d.>h4,xp^|EXzKC`1EFuCOccJ/eX&EN(ROE[ENM0pOG[GttjinN[!j(J1MDrktC;jdDcvLnJ5lPN[*8m#g#(+
pL5}Rq/vY%r8l`$f2kvu$i2>Bk('9uXZJkg+IT`^MI>.<R{=$S/4dk&:jwnu_41<L&'yD/v_;M5!Ad*yOv|<7[E'Ko/]b`;&)_$];J=.,K*.}]~BpZ:HkdY?mY5/bO=CLeJO3BQ*=BZgJzlulHoXuq
!{#|!MmjC!60!/KPUkTZW?4jC8gCQMf+?.A02_pE)$4QFw.zh4=sk<roQUK4SbX_C<+evW*zU369>`$13~rA2=sHzGis,af^Rj57BaM)$iRPj6xPp?`jl6Wp{+xv}2w.^mRzvu:7qQfayidmwq'zty
cV>IP13AojqNI[|_Ino>QH16Q_K*FUxFKx.SC,=wZ]]fzzXb4ObLBS9?b6$t{T9$$K'vt?{gy8A>nST/JSxkteTG=9{64q2{pz{5|+tVBLd<ow|.5`i*g9h8wxQTv#]$m]B,AQW'MUYd;K1/4TRqcd
wlsj:uDfiYcZZln3n%q;qcCqa*kT2GYK?&'r)3;<dve].Fc).5F;2dG3*)Gc/N*c&w|,yY{yZOe*+aV2n`m2RBz~]&$(iwH~v2fpE4|YnZhMjN>3q2lQP_~>_<Z6Es,HqH2X)/}=Cz2_Sv}(G)`?,3
/RIW{]F1as<Wb(uRSC1!9`>S$8YqPAPOgodP9xj9N]pnK:V:AzqlHJnbRiDqvSfk[C>0Qr~%RmV~t[Dwe<=`+7.vF(E^z?O_b6!u+}SqqIxnUrZt;[]r+pjw%.lPYr42H?26,S[)RCn>/_=8che}D(
N(d~{Jnr8A&ku&vdU8S7Ifgb~$)x96[~NC467;av'D6LXOaO(qA5%]zl=Z>^{ID/]q]QH!J%rvc`4:4z`i)cAC4ft&uC{oIU=[4ct=Tj6Bl('g^TzxP_}7ByUOX.}&Bwe>X|:SI[+}(i>{2I}cEnQx
'hN0q'Ty4lHFMvpsh7~RX}(zm&$^nZutdL:]5dNR.'3z9Yin{XkFZ]}Ogg`22dnqb!x.x',$`_*`e86{6qGj=N)^en[N2>t2NA+N_F:`c2>e6Q5jiqdpYt[wrU25`ME(YSZC%9I${K,VCX%)&rD0}:
}n?.e6tf^.12O/1g:EnbaG.mGi}^8Zn2&eQ0f.6%U*+b+bM,|hd]c!#__&TOtKWMpDPuX=X_BD_W1pn]%/G~Q+qFnEP}DGgi$QAfr^N!zr#EMrVhnPhJMH;Wm<Fy&&p{cD(P9l]K1pg~>cS&(Id#>;
:,da^a;x~ISq>y'oN:GlMta_RDVzJ}0C+Wt8evW|'LBC7>HQ=>hj54pgI8y%9{cPVSC;ptK9HU*w{Rt[~HT|1vo2,[:FGg!|mmH[!9]}g9Zo,t>Y.as]otSQGX=*S%19$liM5+K;,!h}9m'0!bw=3~
bfE_J$>EODJ$XyFa8hv(~]sR~_NbDHQ<wZ<zEdwY~g]B![b13c1l<|om=PK4$L`tnF=l+&3q%_i%g`y)tcgUmWUxMHhMQ!3.ZT4FL)96S;F6(fChE=3Fti8xMCjvkeb3'UXzdve$+jrZ'].7gCP+a{
>U=k4OpmNK]N)w3X}G2gX47`Up*7P/ctAo)>5P;dst$mDw*bGQS%Qje.J3XT3gRcKKH93UDCkfb&X`^]ry!'2XHj4asLVb',6b2]nx:K~3U'e&p2+y,z)3u)^aJwZZ[,/osk=J)vt^(GW=viecnn}o
0|6Ps^=t)1qsFdSCsp0Nu7>%Zh7_bE;An}QWr4byyM0nJXVIA7I`d8mwk++#q'1mq6?F9O`a>`j(u8pJ905AM;5,N`hFAfec8^1&w?YkNjm+E*n=l[_vXmj`Qe'HYhib6cl~Sbs1YWKAHy?z+l25%5
6'>dv:)1)oEe(rl;)!ex_g1aO<V/mf_0X*T9k;2/'p:^3+uuT&L+]t_lf2L6Nyw>QM6^BT(iU(Yz+x(<HkH8D{M,t=U<^Gc1Xkck*w?.F+}&!%[?9s`M$H6w!1I6V.H]A{:fWD&Q`I%NiP{Z;d/sgi
Fl,W4PGYp7Z[hZ%Jon(h[%vI'9rbI}?}aVrk8iM6tBeFs+^RAo=8093W0B`Rj%vkWH*}Se;QVuxolTI(Zhzgx#tJ7q670I0.p:(wRWgowvFcH8*WkZ|OYBX;;hXW,$:.,{zQl^4elTY6AkGe+2.VX6
D1RE(K!Gy{c6l(>?A0C&%`Jx(M'Q({N'&=R||7$._!`7+S`uU]LOxzM3u,%2ll:^q7$VFH6Ov>Si}m0{CQr}`3znA(1.#syuTMve00[]/YQ44As{L)_Yu67:v|h?n_C2Ke)TvF6XWZKl%NT[=7b43j
n`<Fi>z*Yz!9tlp:%p&NeW?iw=7P+jIQz61'S<R9L7Y/KN?u25A29!X,3PgKP)|>/)[5zT+3<ERw7T7[SIu:<q7T%##QA,<xaVU|#1N=Hm(SpS%*yEG>&cQiO;TE*%vtb&5Ss*Q]u{<A}?N5#o{.fg
<y3!MIXht#?*q5>j.:1<q?v8>74<J[zrKJuX6l7&2nK]U$O*JE`IW+#IJw8kHnIH;'0w.tQ.0joM,1(5<m7sM<+~OK=>%rQ>XTo_fT3<A^#ss8VIP]QRiV[#Uu+`ihe.DYj%R*'N~z_Dn6PW|#D?Wm
wB{W]:k!LL=F&EhrJ)U{aP3ABt{>K!nwAOOZ[$giW>j>V2m<yZ1]^Y88rRhNm21WA/R+#t1%:b8V5=#4K74q4>lad$2w<I>P4Uo<R'7'>LA>)^&JskqLIs1E|48b5jKb*0<)b=GDC#2pGz?*B^gd1%
=F&=_eUXgWUZ0,O!(d=Z7T};gdPe|0I,5Lfk7ut]K]J[~K0#Ym3SJ7]URVdUBbcTf9#Ga)i:jG4oQfc8V8U['<6Y?.R6)o`<*L1CXsflK4j^s!M<Uvj1`H1i3%.~>HWH5KDA[;qH]u6I0t;x]Ih#Fu
6MRM?>SYM)xb+7&lM11zS7i2.:Rwq;l~B)&66*fyV[pk1sHiwx7qKEeVCBkE]dH<#`/ENtzN:%2`>0eMMfTt43|~f[&YSC=iXc99J`MHx!3vn87.u)akktl+abBHm()Jm*,:8h?...+5a*$&_Bp>rb
gc:UpGC;LppF5hFLY.5Xe1<4Tfm`/w%Q2$i7bYqo^Tl4'=$[RHpRcx8)3{}X~8oD6gb;LYxD<!;SbD+O_m.1.ko5BIqJ~7HK[;#Tb^P/p7|0:O;Uh4[lDkRA.8'xXMr)9o=>)NA6I_CP9:&d:kV9$n
.,L)H(u/S/4_38ESb_xRbM^;Gm]dp,[mrX^^'s,781VhV:?oDNUl4:BMJwEL;BmZ+%_&jEa?'mI&y5{4+)q%~Bzbr<zs2)f8H869uBpivBWpTu2sGtuDukW4b#70+)tWB$*_e>_]i(lJ6en>#v/M('
O[B]6YqTHu<ZK90k2pGnUt_+t8O4/Njl7*mGI=XSZzCEBT#Si,.4X:r=~i.a9Q]~jx;U#so7Rg$tlsDfr}%gD17)/')Aa+vWM,BM;$OfAlj/*h6#$]nc2n=U}kQtRFd2ev/(>V<(t?k{PjtgpnEB?2
t]KgoR;^nywJAkSfjCe:?.{(9AtVjM'#I<|4Zi,1QUq_kSZWmw2;EE4F*WWm(qE;mQI].ktHi+g>EHO8I8&W;Qh}.p,5L0e2f%S62YM)xIkAcyKYW3t4!Mf7<j47eDD&;9`.(!BQ!N)|/PV,bto>rV
3)EfWtIVfBul&Q'_wnk's[st9q>l.iz*g9')ZKs&FfOagxnmjFWQ>w~F!u($yspRN[^8HC'7:.~<YEPKg6qH2lND/b7Hn&y{&zL`x_+$PUvI{HX8%,pS!WS{X?/$L[^RL<%g7kq+|H7/F{BIBwMA4;
I#af<xB/MC|NN;hcz[QUS(wx=/z>ZJ6q9K4czrCXH_vfo9eM&!!K|$po+{HZGm3<bNB5Y<MB&y+S3kX[F$6IrH[>F0X'n.E%/{L!}qg[vt24L3YwTxj>EGXUwrZw|$4Qn$wG+ilmZ42t}[!n]boLRb
V/83ajDG]K3;Ps|HM$hqJYlUwL#8gSG23:gX1Emm&7z3`i/bGfUA7D]!IP+yv/O9+*RVIDI`]mtMSwM%[MO#pq+7M#Hv0h(m4(X:OvjCA%;kkJGqptk:Nwd/WNK+vNTP?u.x<A'f'zC,Z.3qH;Ba1=
xQpp}h9Q9:g(_^PrR+[<djcZY'3$[YGU*bxmL[xSbCwC*Ksz9>/xYdhWY?+&DbC8;HWp}D4`nlGWQ$35{%AYrRpen(|J_V)=9zg|e{kcv]SrpS*BEoW.vrH9n,Gii9$9Lj0{VT%E95JXFsHn7=!R<G
Lt]`/{f|&zLExOPUu=$B+[Ib}.t:26hV948P/I0hp:g7/G{d,p4zU`#<^?Ha?D(u`Xasz?RqV(<F}gl>^nBcLO*>3f+Pg=Tq1i8#NMiV2'?6A/VX<1[jz,2h0zK8!6]q3IFy:.R!~8UgA$!4F3V{4'
GMGvohj%?:~]<sZL!K5yl75HP|I|?7`<({lf}HMRiwN7^d<FCizS.H]0f$5|n:<{JorWTcR6>F5JW3IA^owwMJ0UN,M?xdu?OFXdp2}UXRLukVR6)<`%U8SXak5ULUt;zKKI5zGB4h71S!ZEAKKPb[
N8cO2WoFs`'B?VRm7#lmA2.fPkV~.U,|Je]AU#U2k?t8SBOn~J=bHMZ)}0]!5RhLv|{TK~)5yz8>CD4GFisadG{PbmfSZ*KQ?8Sk&(UIdvW5W0NN;yCm+<)b0'scbatlx3c;FDNU3lVkjXzthD7>?(
5!`n]%wNM<'2}5r)N#}rv|;RTf1d4{j#p(G3UkPmTZ,]7A15F57q7I^~&<08y?u>5cmK.xl(['%P&n}yXW*k~`&4C?[{p.rAehS)K#t^=2.g+wVHStLwkGT3Eu,}.JR$&._op{{KGOK]RslEj&g>Xk
zY%WgT,Ep9w13:c'DNdhUd|jO#Vd<5rYf{B:t^C7%PSuPOFswz88x~2h}Ere<S60u9mCHKQ_5Ufv/PJ)$p/%A)KSu0{V}p>R%&Mdu3ER.c+$#tAp,_1XN)6~$Pdwk`lehc,=X?53}|t~qa/ypC=?RL
KrS9^kwynY|dc`krJ'Nw~VGWJ^}Mb3&u~:jMZ^k?`yP$i'ug]$PYb5K?uElqgcVD6uuI,&~+:w=q:/c)}tCe]>0/][E(ehTG~<%NDtBz#w`Wk4Z2_!6}YV3xo$wWhez^=<5ngk/.E~~lxn3~>Rz;j{
9i#Qf7u<;~]h9]9u)%?}P<Rb'3]fKLG0WmXsi.'1T5FoI1f%zAVKC]A/Wu/KXLC}$Do,XQ+Me.(Kk8W*wlx_lKXK=2aU[ZsC9DF(37N<<^}]c:DN*A%ZWIL'uRjC5jF6_MFf1W&K(7P{BHW)L]~]_#
,Q&:'W7>*THxcoj&F%E~E4[ZJ,%h%25{x3%7fD]u!>QSM{jH(jgUY?gMk;ri}WiCz2T1gEbaSjM=D|TGk2?qe?U^;hK1SlL5dLOkjkhyDyU!&!x]=ILLXhlq+1?j?b){xy~Y{8h4&iaXu*;$.dpU5K
we?I0[_7zAbj$.:6qR'X9DIm'K_OSXuXY_Gl.L)Q*rGk..)B_M%~]!w&8(R4n86P=^wHusygo./6!>9tBS`][LIC#XIqJ'd][AJ[{Z9jhM+z.guq2eaZ7ft|CIMwchTcu?9bm5:6DuSP=X$$~/2ojP
K#]pM<CmS;DN;LFN*Xrz='A.UhL6Y#4;$O6*L|SV>5.n:xd`wO5a$8}8h<Re6NbIjtl4|PR/#pJ5L96Y%Tj~x)z)Z'oin9*qbhlc,Qcn0w~T7{Rf{E}~lD_*6BUKU&*JCHQ)W/l06;G6NL{o'6Nr3!
>}l/DSS&EINY<;rP*'#~My)vRO=tOu5KA75uUA*%jThmB#,?HzfV#j4TI'E2q<{78^emoy6'nl*jG}<q92&Y.vnUo$/nsm'V2PSD[FA];cSe~MEPq72?YjQ;v4xVP:k+r#}sMxW,[)D?;#wi~Fu/<0
Hve$_p|~mx*qGVqY9]L_2KYXwy=,%m2WV4Ul.8NwXUBkUTk?K]7C6#i(5i8)T$nbBQS1/CF`}HK3C0=caf_Bj={`J0FQR/fmQL|~B_UQ2|>!GBSga1o.Z'}pyf?(yKG<e[(]Vu=<r5GD0Vv~W/NK.s
cGel{)O'S7Od&6^avBgz0JEUz/zUOR5='96$}O8)UJ+lmV?#BXF4Z_^b$%^w'GIRT%CvHZOCz1tOm/y1DuN!LX6[7*P(}ay#x}&K`vLpI*bJd*Om?n~.P~c:>9(1NPHqlEDCrf1&u{q.`lsu:q[#)_
S5l2Mi5ykJ9JL9XP{XJeI4+f^*5QCzT9(&QVPHCZv##UuN[?c{A$Hov?puJtZIixz}b7Nk,3Jj9`yN'jS*!4]jFn&}2&Ju|=7lC_40n/y<MroG%fS5ijw_t0c$p+Uf(i%K/JFoCB56|:{]wlMK%F_0
pJKb.rvQYRHd_L7ol%/(^/~wag[wXQ<,*:js1zfy#rBa>z.w>m*97YR:j4/dW!n8|`De~S&FB_B>bbjWbvF]95:m~V4%NN5NG&(/BL/vx4[^BZ6h2l#v,A?S9(F~j8cE9PT)G:&XQIxSKD}=xS^Ih|
x(Ri}F`rqKK>Vqu!:3l_?G&;{0Ximf&E}_V+Yx.~!]15#5;;R:u?rvi0qGSuxt*|5k:EmgNNRqr_BP+L&pR67'5Gphc}I`.12sh%%ezEhj^i%uymZG];hUvy2>dv+jv$?fV':LGr=#z<f(`TXAU:z1
)*/4<Z_/X{&N)MKJ]}>B/X]2ya+'[8kjTxj^u]5vhADQw`n~pI*zk.T!x,.a#in2uFxaPO='MR;<3YiBv3T0?Dn?*pJ^AzepNyf!%tSLF<%2&opSfz9z`yC#dT&'PNUl=id`SljXRmP:$UmglN{(H%
*0V9}8UQOx:sh&4XrarT:Kz$z[s/6bOlt'30BXn1&GRA]{}[NC!Gf'v?F.75%ed.[vKvO>uL&':5.c)BynzgE|5ne/WOaT}g8`_Yf&V`LIVU1VqxkPRpN{M%i5usMzZOq|o6R2cn!=qn::!M!gcnmo
toB6Oxb)/>}3?~$aX$3YJ.p}?*XE5Aaylb)*0T]YU'b8tV%LC=0e+IICo1$$p_|f(5gao[uEiO+S]&^qR:nP^&wLUtCo,27{J'(D|k9IQ/qWNHYvR`vMK+]~p,2RC(uOdMo2:i,TS(c{>u`Di8QOig
fSH;3'>oK%,AhV,ogrt_s#DF5He|dk8_zm<s8=WT3u3YTQD#w5H(N;je4$ybW=C6qjch_>;PO=XehpS[#,%QC`^d:BQ:JXHzX<qGtGV3pu(rTw${qb<c364#,*w>VX<LoA9x*=0[/z{Hj{O*7.oxKP
Bmc}5^4oQhhMp>>!W>xNj,#lZG}E<{(4Atzu09&^I>T6jF(C+oF7W/mNRR&c`jol#XsKyXTRm{=Z^2!rTo_8y$93qlZ_f{b#PvQ>~NEcF!XH]1c*If'&Yw;+DQSd}K=qn>NKZ)t]$&*M*a!C3ytCp=
7~)#efZfh`B`>bT:5Fk>(_wC3]eTu*DpID_j>V_j)E$R'|H2v5}yv|gC+#v,vPNLkrfp;I9XvtTC$b=}&^tOLQz|^zX#`tEZK5D|e>J`fOi0CA._!NfXi2vajr5KN'1I,pV;LhWzM%U=]vL>O7)f}6
S?tQ3,K{%%,iOH~f_wIsW}Gvm]`tO:(RJ?,?X]$d|(&IT}DK9ZiMZTNh4_|%68%QIQbp9fN_b6KO!^=qd6cY0D=%Ngk7hWdrx{Lt88_MqX4.N>*1EvZnHIVv?H+tB^+`p'0T$7LNS|WXb^p|6Kk%>G
0+CcQHdyAS39!vJ1K5&&Fp<UZJR|<BGnuJ^o{jBq[TI)BZk?nFH(z!='{>5V]e:,hutoP~%Iz_vSgG}5s2<wyZQrm+68?y:k{S5N+0BmRmmw)j=''sB>)$7!7t=1Lokn1R'_$K*d)qz=K,^PPQg<z&
ZQuG4DC&YUY4Tgu1y$QjkC|kJFc.+MKLn$E?WH*)EesdNy,+v=z!DHF6<eT8':~Mi)ZEhneWi,HCMUM]5/;$y&j~xlZ~;$Rn{}3s<*l!W'2i`v{U(e5otXS13Grv')4Ob?QJOZuCDu$;.NJ(}M`]pN
Pys<R%lqd{:TC6&Sg[t3,k[&~i~D;'7E7HUJ2nrU_L2:q?.:77Fq^N1NHDJgyydQLvq5$Fx~MA7O%06E|u},6/kLE&xV'nvU3r/R#1#)0|w6zPh<W$J}=>lM{xJF(A]%;_pHiEe$d7jVL$}Mq=JTx,
VAztwx~:i=7oGcOGuOgs)}NoL[VN/QMD(:QipB*K]Xqm_Zc8bh{h(rN%!;}<E6>77,h/s'!AO*mC'59Xa5wzFDNSTphU8D'9M2sL,=XdfY.gSQA`p9A1*bNmN[p)J$^=y:dw*},w1}<N`51P=36u*f
at~6*'yk**T|{IqhL4HK{Y5)(+hZjgU:FHK(3BUm?cF*<ch,u_Io$(~uib9k>k(S=tq`^Qe~O'*Q;j6UKSS;};Ynk=u$,?P?O{n}oc$<bMoYY_s;<GAif$/21)sUHCT.oi}9Vt>]QNC<FhM$YhR^:D
W/Qg//JbvI;.]E3[UK'[;`goGL8Y2:Q'b?Fz%;hV8;!Qws.1?wt~Rgk4?)Jn*9hJY}$mzuzn|GIW7?j7pZuf&}'sl.WBnB!$vBRh+gN%F9LVAIlQ>H.(v%|oT>cWHgaC[^qlomT]K2*7.AxgnQ5)l&
^W$LdrWixURYWguLoj!upNB#N??E9J&BD7Z~*lY]}GW!huWw$K%WP9lX$<Mn'$IDPhtp%lUh0W.]z9st>3a{%TkOe3c!l[6e>Fh|hs4?nsmP_U`Kn3cle8Y~U`l6M{2gn]?oFiAL2Pi>|wj[|HT>7(
hHIcVufcKLjFa+xe9,y#)6By*ru4{w6Z{|1;`O(2a97>Z|1r!#IiArG'z5&?t6NA=3T%T*.+[.yit%Rk~&o(+1'{$ld]ER'9TV`92JPr}q(kh_:!D#JV<UkB^Wjz&fXj1#`+Jt'w~o:$SS4{+*.qMI
&cF9:bji>_<)=8vsi#:Sp#y<z^Xuc+&olyCc~lM+[nx['KblY)tp#`IAAhh7nTI4Y;UHz|$t.6D]_WvEOiTY'?}<fmYtyKGDXP[8mNQ25+zj(LIF0MJ`YSTVTSA6OW^Wr#NJ6[{V62sFWst9&j)h{h
Dc]&$Tr%l){,Vt4Q!'M{/$YP1xNd~m?%a+xuoFYgsei|S[A;NJ5s4$:%`S#'}sD6i>w<30BQ/nL,BF?_fIdLcH';OqV7*>aq$K25#xKr64=g=oTR]4^ua7`/Re8(1izlt[d=tvF'3P)&UlhH5<8)K?
&}Ef_j]AqjC]0Jq;o23oEhRkl'opXex#AC6E;uud7P];;>}`tchr_p8zS/y_sqycGI6;:l`w)vT?Cv%gw:266krTX!b?Ylk;sQ^lch7C&0NBg>||VGyyc0^GFn]:KI!30.'L!LkvKUDbqBLL%pcX{q
UMlBV.?TF)<3=Yfbh?Thu6+AYyZ't;D3lNj8^v]L&!;u'eI8].u^VRxxj;V]:uc|,}H?M7Uq`s^5,VzW]&d4hhitAm+.OKMge<0)}IJxq1|xFMu}(_!R#;u<k6R?HslB2b/]|LhdJ{~YnOGzA7zsOd
;9([|f(,8XGk<I9C~3r*aDQ5O$Wxyt*<kqKE+&sAlvj;+Hin{$e$#fH6w(9m<wj`?83W|(0z?8K!fRY{M+k/<JVz&y,(<nLT9_14It+gWVYw)`DzKy*M4..Q#9Y'C~7pun|6|fZjsE`49qnY3>>]mU
}5]6o>VY'k+.BdhVHS1K2~5>M!YfnOUFYR]W~Bl}?}SnO9r=cmw$gzLpzTp%I.im52/{PDt_h$X_PmfPLdIHfuyMs>mE`69_U6<gr_;PH'S6/&:.PmjI_i?nyr/2TVD73_zv(t=*C2iv~~1snwQ5<N
!J5*9RMdK;^<{}/_oZFk]]0{6&hT|8SA7K}he0q3<UB(j'eu$~wri&mvdonCO4_L>eh]*[{!yH7mYh}L#*`/n?(c1TZPyRsKg%6W7HkpV`KhD4xxnk<*T[r1S$!oD,CQ>}5YaMIfC<1ETBdy:pf30E
R2{[y'V?rs)Go7%%0t8u?Yd.I4s5nH]R/{9Q6w<m%aw>z5V_`:2!|.D?rW>m_HvHKYiLRDx}1fA)iYsk>V%j=K.5DY&vk'V|+Ixy?IQN*oWl8d|6(ow}3cF/5)lCM53OT5}PCm.azA[neiwAi)Owse
X>>Ts}7N<|'r|e+=!voG9{Kc7rd==I>/Lu^rs:h=J9iv$lTr>1p7+g$?Eme:<[H_!`ui8/B)M>ynzCch'2QkQHoy_$hrGh20hL_=mFs47*a&4|(+poapdWhQ9iQm'L9:hFL_eeNlJnE|nRUz$q(6wI
N/d%xmozl#r~[`.yc%THc'vXr1sfVmCWWk0z1ET?_OZg>)zA'}$38fr(P*7x8;<[Wga#h3e!p#8J+myxxi.vr9(l5BC&4.dW4[OinvA|'Fn1{ld9jaiagg3F?zGO!n>=/t,Q2WWmXcH}K5BPUULT|6
Rxf#U&kBi6b,13q2C2`iSJ6)BpD%:d.ne2DntyoB)STBSlmi2P>4/c8~zRdr]y>[]}tiS>VqniaP}QU7c#9E.`|;h~7E6Q?l&9>'^{sB|t[XLNx{tX2EG:|IssMh3L.*aMVAD(2QJO_d4)MuN[TUkP
'p}AI^|~#g=|NgXN<eFlRdkJT']P^*vJ4'3_AXuC=+#n1Q$7`#3[S%%ACf#~52~`q8R}C9<!$qJ$8TGUt!8.TYn%n+DJXbqC)]Q&tdz6CA09o7mY5,5AJ]%^!<H')i{=M{MPM7]NM/){{}FKwt/f6h
Yst}^qAuwcpwV{uT{+ydyl.0oxNVyyA(&Qo^#.cvOg~Mf7&b~tzL.g2P,4iz94~^f&F~B'Sx#1XsJqQ{FQl!Zpp8QU/WdS.v=]CF4+^{:#i`W,>:gb*}K4%<F1978Q$9MXiNb~C>C[w7%'Q`3E7VJ&
$/+BKga6R%2dB(g)hkKp0X{l+U4}j!]=(V#R|%$ns)vCO+u=g.eg0Ug5<RkKH*,iJ7x.mm.#o?lbT;E3~,:Thv%`SD;HMl.=NI:yR12!c)=|KQSX>ZH2UjKxO<jGvplW>muVr{Hd:i)S$bZFFM!f2s
(HCViO8ZN.0):x1E7yO+pwvFMa;D<!STd_?&)1Hq5n~(i6_d`LDn0?1xa/PT_aO:=p;.NlEmTO$oMbr]BmBl/$k>IqS6MpZ1YYq:+pmxRr%j);S'IuKBy%bOr&n3ics'R)=pn.u54g7`!!j')u?)0!
j/=;8n+!hlth^(6}(HiRATw$`(+`BHj*;FdD}C~47b115JE'&u;])UUw`?Yx]w1b_nOD`u#4.$ggV7GSC8j*I}c*Y0ut;Z%hpFCyN3gK+E/VCk~4GR~mWlxBStXfr|DX'9]~1x_7q}LXEQ#<i8.co2
U^s/R.+ZzV4SP6GQBwp*n9cUEmz<8$>+*!H/b%GWN*M[{[KAH]ils}!j7[&u*}h[,yD68gP=S8Ok|n`I?q.V3f3i,uE.YZ#9B9:t8?]O[#>RNMHaYK7{B;D/],10Tze(DemxC(?iHI&TlW(0%R]wpY
87_H9q^u'I<0^.)wGbcs*YR,bAr?;jqGGC6!LT=^my;~$[D&wRlFjhLtqCH33#KA.]&*v8/lr,?.nd7sU+{[8c7ATuDp9=e7pGx;>4#Bknf%1YD|YV`zmfhO`kP{(f+=k_1WB:S&xn5qdPD.mP6SWD
|KENB!cNOe+LNOyQdQ%q.vrwct4Jif%0x0Ky=o$_sHD47IHWR(O6VHz<aEhp+KV=2)Npm[>OGdwxpS+N$O5U&S+A&C0;+>jxt*}{JChlM5VCA{Yb~oW{P;iUcwz{z7v_*PKBQ?h,$fx,:Tm=3hL5(=
duCc7EglO):S5#ejolUF)H3WYapWV6L5+|<O._Y+w;D2Ux'1HibgcyLm*?rpZ68mw)Y*MM&&m1'J`oRW(q1~<hF*J'u~dTWSnYkn;J4L:~M?8__<+Mz*R.>2>5ccxIw*(o1j{%G4OKE43[!hbfzJ~A
91`h5c;zu,lt~u!BrXY,JM{W8Hj]fv}Av2&8I~Sb0rk8S$n96wjl2}p2hu$w?;c2>ADhSQ*<pDEq/jcnC[DT1uC7Vzr;zK=tB8VKJ`AIaO>MH(sT'DT{g?l(3`]AY[a&cXu<!jIHgZnI8WB0k)k1!d
No+=)3Rf+gn[ki9we27=/m9zX^+>jX|2u|R^U,A;L|C0l,}'^,!`($:]ulb!Yw['7,^1jHQpJC`R_wp,M.mcNAf*cJv6)nmEI:7Aj[|,MJ_iWo'3(.GA{fZZg]UW>Y!jt9QNqAx5I4}{y7v1LKYX(H
,f~`w3.m}wFeN|{9~f_gDmqjsp&|0NRz!:x#Qe59KRW%h>vX`6'tL4;Q%354`COow`bXX_d+1m!UV}dejSHp{0('8]|S_9u'?+dY9/,.fq+n,`i1k[a]&os&fZ~[Cet(4>J:|dBYm]u}r,c{OM:d!8
P,z0/<3%_]x]yEbtQDrDzU]4wN2`>7/S%3bF^`U96MXpn;<223|!tk:K)$kiw9,&kOwp9]7Dw5KZ1cXhCmia3nPs21c+{SFi0va4CG<>dVWwOm.Ssne*?<Ejc_wU)8:lji?{UGFTi'[#h8[)4j38X7
YzE51/(XDae9!rqkz2c*Y9GuAESMFwiB!RCp6Jo=)k^8W)1<Ejhtx_sO=0l,uB$^et%WUqRfY%aQ(|VPc|o9$PhR%/Q<]6+K=i^oB1Ij^;NBt2X#STS*r&9Y``Z`B'H:adMOVZsN$M]HrOqj_Ne<>L
vlzMBx)>XxlGle%p)t}[p.M6`JKAqcXD1.MA^ITBY!1TE`4p))hWeiz48'PhuYmPMH`s?!PmfTo]0}w3tD6)d/B^a08yTy],G6Bc+EbL9p(~Vo{3sU,xbN7l;/[5)z!#/m3ZC+OP4xN#,8#tk[Lajm
O~IJXfII%'CrGId]K!o9#2f$N*4b>]WmIPn_iK}Zp>3`XMq33i2i~5<m}]UN+bhE%}$(fV?JQUX,sC20jG/'$~}c!f3'^mJ~BBJdmFpz|AHP*YBHgA9~x+0(i5m?h&Xu|[yc$=X:0AXh_)DVdD[<|d
nJP,H^lAc)BViFLm`XJ,gK>nBcv6^*YB]ve=;mtDI^BJ/0*?#:tfUybX9G$D{*OK{q*X[DmmCs$yTVVjTgfI=7*`wn57w7^Au,YY7TEsY^N/(ET[Y9!O1#Hu6%IlWw^_bf3<3B5lFOG~+seXb?r,BW
Sy`H%Ek5%r$Xd9R3.CV?KFw.sqii8i_%=44U_WhbfoIe`]WG.c^IY|?$a*:[`puJm.,u;REhK_ou>Uc9i$#t0lrd:fY|Rr;e]%Wg~5AUvLOkDWd<7ao<*_ig1^JFhlH8e<6dXwC|!%Bd}PuZ&eJ=_r
7%P#D,zx5y^JI*OY4I;^e:q9L?p2:RSvoqCpku~W?~]:pD7B]k5LrGu9:Q&J:p}kmeS,C6AZxhbu=Il1+%mF]4q.tJ[.tr7f1WJ!5ka5[_4fb?eSN6:EbI$K+?<:9QlU|5xj(C:i+GH=p)+<2wLp$R
(6zB>y%xE;#ZHLnF`hhanJz9P)L{SkXegA>%W.Y_9|XfDlPt]ya*jq$(Ys%F^,`$f]d3=S2[5E+>WLMzE4Fj,Nzx=x>E;u1G|z`&d~r%9,9Kph~h0x+Bb/:}UFmr_q41D]gg[PZX(qt]81/&HKY/zj
^=>G<r6?B`iK!)4JHN+LPoNB'iccQw=SbY^^/v(X+t|dvK)PqO,9(S#1(w5eC>tz3HVc.!A2:&8l8tC7ajHV/Bk_P=N9(jXM2y.Ku=$&4tC{jI++JCen5`S3G5F/cW6MmkO_5EXpFR!6/5lsCTr>2#
,bOeXeWZPwB43w+ISgc1.*7YvCOjp=UE82'|T'je?XV_{$ZvFl)QZM?HUgm)b?vvhOI8YT7]#>Q=`:[ujMC5jrV+2DL?_JCtFJHvXRG2zSK6m8K/TX~8AYwx<Lx28~fJEcd(Q}p}H[~[eiC]z|{!x7
6&Z&Cd:UW$Wq(b/RD2K5{~Prm*+T'wdQe$O,Tg4|^mF8c^s{6f+f+FiH(:y{iInFjoD!Rc_~!'1m?&%2=5>h8$m*YVf#OfJ:}7`9_.wwd3RI0<7R>2F`LU|D03K~:EBV{4(3Huzc$,/lZP:h:m?cb8
r)t}Qh#NA.I{]`pmB/F/r>lUgX)lw;UoQv>JNo#Ql3JE|#m%7!oK|Z!w$X2QbD,o;uhW&V1T&[XAEe7OjYp!he`Ma~710Z'<yZFMT#dKVM32Yq5z[y8f^[JyjP%5JiIo<FIDcH{q{A6.j3%r:rqF4D
6=QR[oh19JuL+Wj<7TgR40}^cEfThh4G^qcr>e?dT9~MCs,bVXew2*ggU!:q{yrak1xLlo/A+k;YfOOy&__Yo`#Dg4i02zJ%:3;Qxt`$jSBv0s3L6+tyOc/$CAeA*[>!pPo';RQ,?7(`SMU;uGHK75
7oYz34'SHPD3y`&&6NgQcq678?1A(kv?rt&S.Hg:!i/]z8LU7e#`y&^bi]Bj9r*qYsK0*(A'Q6P$*Co5AehqIgfQEoc%^I=4$YO=ud7[_A%9[GHk4SW.5~bn8R:=kzn9CK1lXc/5{X_cxfBm(9KD43
:W~Nt`4x.h2$.7u5KJUP~n~]u!j4y6~h>xT0^X$#sQv8L2yB$X{t!+,jQH;:V,LpdTP`tthr5UX,]sz50k[gL5{xv7NF=]7RWRXO9I=D%gdN?pS(O$`7[B0#%/:QN#'(4E&yk97X~.3CtDUJc#=TDl
iu'4v:15}?WZ+A:,+BRCO'+<Zn8<*Yw1rmb|`)wg4ov+UL5w8[&[!tKO23?W:?X1M'uS4#zcYOu3WSSJBMaB:wF%rQ1Nbv971P4|c!I0N5M`o&(A3=n6V;[[$]yw>T4:[!Xq_|g*fD<i6NM}XYilc}
vcO)R_4f3JdI{_9)D,%..!D&PqvwPsc6Y=Wl%g/<g%fT,.FMuedzNWwaFI]n0/=4N.oB)8^wvJLjk<f)xoyr%L~KBSjlw(IQ_Fh(SL,P*w'%]v(REa7uL3L'~qT(z2w_5!/QG4?ngKkp)xXp]8|rn[
m1AK|GC3itOoWe/nJ==G*9v&%XfyC;kp5BjcT}(`gd[u:[vrBMA[p.fqhYNfY!wHj(U`NNvZW/x8lvTBTf8F2pJvP?l[pBfz'n,Wc/dn=f~i+E70!$ZNL9ht.2ii5jX(k/#OQKL>Uug$nH8yE_=~dt
An5^q9boO<5g5w]W:_aEPToy8PHCYc(Q#MJeVX738&m]H.^Ilj`6r2VQU:KXHndhywvdia3sPS#EcH`.*eu#CplVpVBUTbeG$I$`](Mrdcw$hD[~MB5UuC%[YbXuriv3t*F3XPJ,0WS:#[}x}X:]bF
=X*![_?'{Fhq{ifXbw3Ed)bFNkOx^BYGnyfE{iD'8)[2Ie>6f|m6}GwJ<n;hJ8]xhxEm.lS:yclIF#6q=bN6B}TU+}j5iIXtR.hJCiSt`T[{seJQYKq<=l&30e*Em#A$}o*T^(/X~_c;8=u2#`hV]J
&eF7/Ag9WdICTPClS9ma(>}.J3W_dKGUXdF|dv3%fpId83l!:C^xopB5.pd|t:MFRYH$Kh2yus83v^wlxY:5iV:..DZz4Gh9hK.:9j;UbslSU6/l?>a$z>5tHK$>kZl0bDB5LQz;4Wig,,zapaYs,s
hDCyQ5<NI6KIPbK7}}eRQuy8hDmE!I%mMVSsqe'XT8/swpwylB79Yy,%?7a^B.]2Q*,6G]qrtF'3Zd:j&kq+e0_=O4y(#|M8x)f]R.(5}mg>cM';5x%T*gp;>W6U}g<:4%A5Y[p_7;gc6FqMM[Kw+e
OZ^#JUjv9,'Y,/$qzq#ErWR}+WH]f3%#9j^]3n<e}d#v|UDq1j}NTGv;TlrXv,|0pAvr_B;z+xE^o'8Dlna(j8=:j4&7n_pVxt_!c;M5e'Z'_kI<SpSs[!hYkV6:L:odcpG%gu'B^iy?<QT?[(8VpP
uP.UWO!*YV1GF53&W1CS~f0zMIE;f`^ie!EkE`zxki(TM{rXIoAVmO{(*q5!eP9:L*tpf0L9bo;Xn.6MH`r$xlDSl&DCF#s'U)R9?gI/tc?[}0g,Oubw>K<.eH2g%VhNczkZ!c%%(7G|J{bhl!XzXo
y3z$k|0G}Uxr;E*T5av8DDQk^*fgx&6U,p<I_QkUV*1Bj4vPzDa&rBq?B4lbmpKGn3v$}79;hj3l1b|v{o7J]Za7u#_nVSxTMb,2g*ADv~7fSXe=uWRk)Gj.!0h!DA+G)U|^HP*gxZs{gP^r0eyIA<
w}qWud=_RnAlCu~/7)=o6s#&<,wGzmk}Ex^g)6H&3CROj$o%guVYbh?j)B?cRhE3=jgZeHAl)[f;LFh~Z1x>{?51a|t,`/!4p)PGd;(yDA*A`6xLW02AMeqNU$=zDzH~xK&xd?CBG0v&_=*P(pMA;8
|)4uf,i6^Jtt|E09Gjn{'kP0STYl/$oo6b]Cq!i;zOtPT`9/a/9{T~0P05MIyr(fgk22Vyz=0iDqxaM5&fwvQX8o[N>WU$MW0<;6gXWW8Xn`Yx},8prQ;I`tnQrtY5gugJ3)${aQe$2Kd;9z2/gCeL
OD}]MnJ{LCmPplS51YpA6A.g:I||}uef:.Q}'(T(?]F^$`d5Rjdcikp$WXKvn|BM(6G.C/$K^tcOyw()R;%U/{P:x/?G)YA6?sSy%zG{'A[3`qoV_NcG:`8[BHpBbzGKjmJN?JhB~57Sf&>4Eex~TJ
g).#q8W`n./MDA])Eih2<K&mCo[jU?IgHf}4*{v9pR(|zrk{I*0k3X6Wb;S<3g7cXN4!;]_'e=_}>:du)vPKHxGy&Q.<~l}v8e)2?Ct$Ev::v.a>d5xFQ:6[VyMX4'qY&T*;1?[3Q]Q{4>5C#G+0:X
~zKT<o&#HnumCl/<W<2!.;|Gb(tx/>fY4p!7v5&Sf#D1_WF;i%l98?XzR?*?`)Pq8lt5Dk9MkVVola(MOV!y:[U$WC1>wh05ijI?|Ux{[7l_*GZ]>^,wigZGql6$3ONLyM?&;jI>2xetbj~[6rrSg*
B:`a&4DPz2?]K]W~E<0SW0j6_W[nkU26{D=v;tfTIt>;TT:_.<?s{{/7X8Tny&0c}DhfQWoN!Jw1'(9((NucO;.S.mLo3(}R!UF!})<Z?cQ8e(K:D&<_3Cib?h:v;D+ZXjfxg0=KDXvQ>H9^v'CbBR
8o_c#C'og{$0409=A*~}tEqD95AzoKwF>M0`bXAU$k{Ou^Rx(B8!jf,8%<#[FLk=UrGu~D!i8xsfi9aSKK$EcJ};8jERAU$,I#+]$PTOmrdK9,N^KV`Y7{KI{C_nUSHrHYy)4(~CI.F$MZanOn9#Mk
rbcJkq]WLDs}zl_]WI.hVJe7IJ[U/hh3()Qk=R;`+A2kyO~Zn7;2SH'U;)q)A`7T+ty#K]$(]EI*d?3^=^L^cYIqDqTQ{rDFXGR>l#d#vne]]9;K&(R%UyV4zPVO}k;4&_A)c.<jAT/O_E#dP^c?B^
,6;5RcDM#0bU[9p?0HfbdlPi{{'MxZ6HM)f)#iZ.^U^HP)KzSGP8lt>KgEEe(C|(}*D.3zJAzUo,R:U'$!>upP1Fz`l&W`E1Y!|/c^'45!rLqT>lp+O|R98z,IJBh2H'N>6p|,ikw+0#Q&HfV5i4NU
b^8)zTJx6jpJZ,},ulqh~<Drc,.%ke(/4'T`8Od>?FiyqEoqQ[)7OLW[W]5!dvh8nG*t^N:+:SddYu=ZkjOJTZ>jUs.vodXA+Mzx3RJkd^!,D7P&ojhFRo$kh+QayN(XL,D4l;BWe?/e#':F#]DT,t
&G5HFNvZYJ^X.vzWeZX:9hW#xxn&ru1xAIdCS<Q?;l1EX:]X[=9qE=wi#)?ZQ'o_v]G;`WV0}vJm']a5qMzR>UfR3./Kf^/11hKPwb(Zd1UFo({Bd!DbrG~*/[wu*'o^8p|07TOLuLUg,2N03qv87n
:#+BYU>d3}5q}jNEnLd>|?AwI!.FMM$b~K_I%Xdd7WYtV&~2gZeU,pTiW3ztYoNUB$*BR14_tv>,%t$e<iy0*h9+DJaLh!?U1_eABP,._/Qzf{~U|*ZE%'O1'MycZb|0,Ncbo't9hS]4xkc*%^1H9N
7sqmc!E>K+J:Obf0E];ysV%1g2Acc&HbG_uv#j6wv;l#?.pgzevf#[|hWOcO!Q|GI.U`I[B.4u3i)w|VW2/.LE~j5B~)X,.B<X[(,}?RzT,GyUnKp1jzChlTRlAzsUo9w$I~IUKk3Ew~N%7?Iu`K~L
tUg6*NJs?]2M&Yu)xe(7a$6$[d`iAtBCbw_mEZI=:S(}V9>|#2E/D6KYw=am{l|h4cJZ'q.}Jh{F}F2aNujp2jD#']H!DYBWC?WEl8CtAUj*%c]BD?HaD=_G]*F%qX7tE>F&g/GPb=f>WlgOdlmF+/
KDyYpn_%*1`J.n6Rg?(bQ%;EvzX}B:0hE$v`uri>:p5jD[txJb0'%N=,qUrZl2Ggg:>6{f_6au:3^k/|xxpN1H)In8;JZjoBi=#t{(O]6('URROj),/b+dgmdM5rK!r9#050(0z0~G;Vp8ssEOf~=;
T)Pp7lT%KAC1Pa!r'NmzQ}^bQ<jOV&nS_x{>`IwmRoaTHg!N^Ag7=!AOFb$$x`gnfHUSS)kK<|F=kvCU`F%y12<c|Djf`xcyBQBNp!=,pA=3].W4)slMv$2)rhk3vU2D7XqV[3fWaFYV{zK>D7g/6}
:L2Bm>L.}AjUNqFTbxG5`dwVyX)#LlgkeN^$<ulU{}H74k_wtwyF;=|Yd<4pmNBcTq`Oa{Gr(DnL!QJw{`u2,d$WaJ)jmV!yb#0lI&|{Ysp`.Z;(+,a4D<5?BoQ)q_cG]$;%C{h<E?t4dB]MQ_J&,n
A<.K,AKw;)FWFb.PY0sNYvqqYC!Q*v])u,HRivo&l}0+FNHrHHeFT=()pxG4lGC'wdpo+/ZkG{p59Y]hEXoELle{ieiirWO~L*_g~xTH&m`xOF}H>2wLZjHAGa}h`qvPAS,f7?o}Eo9A4mXw^q44g,
hag(flgH)Y$6oMd,m)1D9!;>;L/n7`Q+S9[=e&0Q&dqbYz^}hO{<5~v%l)ni|e:[O&whh%88n%RZ6x%al]g#I_L[PjV)gxgb+&4d2n*}#YaOk<id8iXb[NHWa1!2|{;3<RC)g>Zuevw_Eh.3RKgU(h
?sE'dpotVoAPbbb_^yolBiHauvxz~u;%k?zIRuptiSC(8#;3G'5h+K)jTmFgjrTu$GA2o_6avvUkt5'qUAh4>fw58d|)tg&T>fMf22voMNuA~T&eKcOVM[9cCPxt+Qu)UM]#+~_&KSzR3m<GYP(ynY
PdA,`KwVu4l_jrs:l'NU'Vj8tbb9*xh`cRrJ#2!=b3;#C:f'}|fAj+2N}aZ{|j6EAU:OSaX(Sf9J%*g#f'EPqL?ZcC%*G1b')}i.86<&n6uqCxzlfXkJ$V>+bm|_PKwm&YvXARR3Y_Kgs=}{_n0~{Y
ksh.S}P7D%4]H`to!TItFSe5//[a:+9d;S2YmiHl(j[&hyXEsGRx9u0`W.xD>KQne}PrNyy`MUhzs&(j,IF9$t3rwe(vGqGIb~[)4dWw:{`TlBZjNEA^?`PCjc#w4|y[(btk8o5BEZJs2renQc1%UI
Oz;QrX9;h4BGma}3MLQ]%xejE2M,+*%NAz=o+`C#Kmzd*=p3tfsSl4vnt!|MY}kPWQ&DS}m:;*8^7I,58IoCG:B|!5^ip>t)_gY^PWP`ORwMekwJ6r,}F)?5c]L7Lb5?!lc2lJr&zqJ'}wFKDK/&U+
$}mWMOel$$J,t7IT*KGn5t7u3)3V13}D%Zs|lrF0z!cz'v,PUAw:i2iOJt}7elNbmsF+;=^HUL2mJb)U,uugfZxZP0^6R8q+8*L#ul8YU8Rso(9bIAUi`|)fU'g<:22B$2_h;syK;?/XU{UVV5TN[B
&/k6|u&bkn+UBm0qiJk|lFm!+J}A9ajfPy=y6>o|JljG:i%S(MRw/_Rt>kVq5]Vchq5]kN3~5~KC?755iA,6h|mk<0Yhu&_xJaw>;(^BUeF/kw^'adhB~Z&AT9l%'Lol#jzSpDlFF5opjDu2}4EbEW
Ax(QjVIoS>MfT&[Vm&47;p}9vE,1]9y{725kqo)Z$VXvF#$M^'QvXbmq=E:Q::a6}0mdvqy5z'8?F[?r>1O1fzB_r7XVzr_OGN+VJN(p'sIz1,buJLJZ4KcHuLfaD50Ovn_WmPtknu.QM|D3'$q4v/
Un?R`E|!85$'#(A9gM./Y)Xtzj==IjL2+wF,rEWH?OV5~XJ$(}?fds.M=~`!g`13u/:8:bV*/JQ:D8OcqsHMGoHnl5AVvNe9~NI`Y&$%k:*lQv:E4sE7$fTSfKqvWJeS9{%iSyT%|CN)pdGDlL!Y1)
0*X?x(.VnBL_{<'(cG];a~GxPm|s.L&3f:UFRMxv[<<puf%ojNHOPMHqv]rMy7b_U~]kE*9t1;W$ptr<H,%hLhzqs83g&'.`dkiNRw~z!ON,vp)&]B4^!j&g:}WY=XWxogcPV^4xKfjDF3>uVga7n{
OFD=UjAiuDE<fW=zo^?#E[)qp8N(k{+FHIi]?l_j*}xI(OgS(SaDtRpjQ~W(2Yo&'6#{'>sdRtyDkc^}1cnBaJ8Qd0[K9Onpw'qo_uZ4V:rM|Tf27JOZcuq~v]{'uEGZCTIs+a{ss`#}/'){1M=ydW
)7A!iShKq(ccg=2XVrfH>|8eXKQ3SO6*k^]pDH&rcv4%_^oAr]`TkwpcTf5xRc)gV3WuWIUkJMwJ:WmaSV*'?nEgwT>9U.FTN'g5GjA]V_7?TrH[ST>?L)6eZ(sX6;{Tah]^!E];)!S*Gz!u$=_F^z
^r,VPd*F]t'gpEo%q>X$w[(~s59cd:gi9yv<vb6<:4B^YK_3$+T.r|<oo_WZ,(Zg<4GsM&DNzo3kN:b0cll_8)J/$'A_wDzlMOmU7yH}4$qER?ZA:)H``7*sIVkN;snhD|${1a(xoJ1!IbBg91f{_I
MCn3y}ioK}MNRj)pM#R.DYb!DOM*TZ4`,DLPxmA%Y|U)zLbNac)j^)'TQE.Q1896n3#ERy(OH&!9.]+|bn%;FCE0e#[TOG2CQonhX?DJQp$ubs;MEBXTXR~G*_?Pg,|Az%k{LVm}wm+`S17Xh>:9BQ
|JcW[frX(FkBvs}>nwuoG[agAx9HVudpp5YKcIQx[/daN%5E`5hvn#=HN!Vuc&js8iXQ.Pw5t>Mb0Fcjt2=p&GawQ^1UR*=4>i=k^+NetdSt7hpWKPoV5kBTOm;VrzxQUn|,DLSh^Ha_UVZZTt+=6I
#uW0.u%z5z*6hCA#gd,mja#s~<NZtxWUFfkq^ZS(Q2hFs4RSKrH7{AE]Le>#A^PMi+dRaGtRZ*>9wBE>f69om/SoqGIayKY/h7dyF2q^1)/Z(R.|UzVMg0?D)CVQ[nrY!0*h1D!G]v/zQy>J$1(An[
YhbRvl|2/Hp3k!0k61j}k&+[vx!LY*hkge[&N41(qP]go''MSSmo~2[C+$R}yb<pBp8}w,oP;QXb]69IMIeT_igkpgyJy?{b=2{^fdGpy[SFHXuIZ3Fp0laVqh5R9}%t[}yUN><Dl?;^'_{2y*,_MQ
<gVRz*PqeW<7_;jMw>Kayqsm3{wT4['zD4Jc`S3'HXjpI?}OC`9JxJ6l.jZVLtxINsaFf?[K*xLFjb[pb{+J6_U{$[)qE6e~>w]nt;kCrB&3X=PQjEZ}w8Dz&jF045=#*$f;=d.+HkOVxzx8JVYZ]k
6OcJ&cTESu/W`GT_DwGwv.jv7G'!,}i]aE>+eD5V5Ag&wr9`^wBsqzyTBV0Q?P/w>op~>*^C.3Q`xwSH[(L!~T$f:T`W87e&]!v6Bo/{]$*'$>q({^F:vm&SpW5%#]2).Nvh#^A*cUT/rQF[K=Bz(l
dcIia^ea:s?n(8Wac{9A>[j}'%P^37_s0WZa1TW46h#XM9W6p4y]_+6&J2v=T20MCd_S{46z`SXBPL[ode?8IaD9UO=Tl8x3BLh.5([fQ`UZjV47(~f+.Lt$0`4#pO=!^[*BLy=o}]zRu(jclJ!r;|
}5{K.1/yEO%Eu)eUp1RaS):5Tt_EzTlloUM$>Auv9I1z[Ij2Z.iwS{H>!^~vWNV7I}U*EG{=!?I3Ua)g)C1[CRg/%u}5!BsK24NWeR44Py;OF}0r3?6O|lWI[&$Ea_}%>g0lE7X_Ku0BN{v]fKFBIz
w7yx.YsY_P~C/9iiCHdCMQ%'TwV`NgbNNqDyx).#f4rQCYWKaW8?f1,Q6W(y+8S^R7%'~H+iR$wu`d$d!h&Zl^.!6*0F=rM4T<zrNOhjzDqwGX$Aa`%;lhK6g4W3;DZ>5c0B90RM23r_Z,x%LPaI<W
yg'ac8r~=_j$R*#*pV{d<B4!Ows=qKfv3koNUozRWg>QSdamq7Id$$.#4zI+DY%?=pCBR2[nJJ!G3CoKof[?i|fB^.ZNq4UybRDKJ_Ugnwj0&e?&bseF3S~H[Lgh6)tm};}}pM/xISOw0jCHk`L;4F
tVfdzvML0LeUTW,q6wtyp]~_nM6R;OF6^g3fNZZz>A`R^4)uRQtu;enN)_9;Tl#XB=H>oQPXk~u%gm<>a`J'7x.TShnx979vF9AM`s2kBJrp!1/60K2[`7V0r]BC<!4,]~)%+V^#.Z2H({:h,C;>ny
6Z:Vz}On#8/^Fc,E~ZpLk/4Hx:97&i;lCDzd8#C93^%I4[o<5Rs2!CptE$!K`fuhG/gh=z`rkrbAv4}j?}uwQSdMbYh'1}8rTcG#ulj;'ee<X5NDaRs}BI7YEZraQl*O6{g8M_fF)}b3eF/U.jlLj$
KJF1mwD[4N]HknAg!hj1AGEaUMU7v8BKXp},QBmuXT)H[X~&ChR>DpdxA|Mb$*goHPJzqW*3l<l7wl(?D%Ft=&ut+$|dG~KJyiXqW.OhPdcv^MZqp%>.%(F>j!{(>A]3Lu:'5|QED8`wn7aV/T{#Q;
ttt^P+{I/t[u(X#?Ea3EZfyD$v;S`eGV0WN'9p2ojC6Ithz_%Ph_Cfdv5%f6WadEL712#}_lT3E6;KS[*k0Wgj|R`~j$m9{DUVkiq;.2:OO4Ae,;q/v6j%<a`;5SSIF*`7V?Y|42GlB}P9E:d03/2W
)m]w7VMcKgPf,ezkg(>N.sc^pY&Lq70pW%DyD;bQ;zExd]PO|?e|+ZS34_*+]2,4_+=d;,/~)Rt(^|k^[hJkL814b[e}Iq1|Vh!,4.PtBocvRB(t1+<dwe,'QX~|%POm3[_BNdHZMNm;pN/,WEBg?V
2.`%+Q]Rc.i[;=UdF>z&9sZn*eX(aj1+/Y?rX5GHhoZ~(=alKDa1:p8,*0Tq!_/|mt}T_MKVq6f{hFF}j^8IIAAbCMbI,vC.JH`&JlDw+y;!B)qN'fyC{gK*#L,U[i>&igfB<1vlI(Ar]8w3IC3_vo
m?kJY6:qs6CfB9K0pVV9wFCr[eq+eMZ/h)dp9)uLTdbCtG#ZVswN3}b)]~me>eE2ORF3A?3;v#5e8^9~qkf6ed5atqUUJ/.veJAFxI163eL+`C^ev=TDk(UB.}ZQ(9Vs)A7^(N6K+Gk.!(jHE6r<:}
%H8Awm]q6D4zpn$B+iVDEHz4c'?Uj>I.kY?7+0Fl%1LME+PL%=/kiz2J(2:1+{|Fe5vct$=#Kuw_R%Fi9e)SbA5p%hjj:4_xKXFG}UoS.[xpNKFUDS_zRR!w|x>xp2,/|Y0X]c,rfFvn$+{BPN^ur,
yyD+e)uO&_==zJ'V;%1I>{OADsd2Z!dMC(v<+:&Jw0:Wj0hTfkVa:(xed;0zpb(*Ni0Y+P!zQrHVgXWU`W}#_2XRa?c2M/p[ug?|#B7n!0fMPT;Za)8<N8jS&{O_QGSZQNi1ep'%C2~jEGPZ+fXtS_
j]4?lRJdzl?hHw[!jWa{vgxC~P[hv^&}V_9O17Nn<QrE%Pm=mEf,0~H8yah1v`iwvRx%X}9VnQ($}=+RQ{OsG!p<X0>aRqQ8&R1xx<U*#=cp^?reYH9vx1n,&a{}Dq}Cs~#sD}k`w._dgAM(4U)%%#
455U$*Yc`oN~c8YfyXEdupCjyz7;.(mAj.'FGS)/oZLb?&sp$GY04~D7Os3F?Z]`j/iF5P5!'.7]A'ffIlP$,DL~h=oq'=&*YkJ%e79(n|?j^2I'nRDk]8bI#(<U+NZ_Ct=%6t{<7)QQJ6>f]Ikdy9
&ofj'BVImZ`)tpg:4slz?PAe^dK/}6YOoq#7vk%QbwgS^3P8<IDv>#%&QftZgUmPFhH4+OtJHevlKsm*50ac&t7&}*<&b!}59z,s5EZWWRey5trA%~K=JHP&n$d'PbWZkUUIE:dQi<ghOWXCF'b.XR
8tT2ps#uh6VHKFdV`Pdx##rWddw/z9w8~(fcmnzXxT2L;kFrcPT32&F]S#:22(AW?J9hS?V;OX`JV%7+.q{$ni4=aJ{yFrC|4&sDKpju:cN{BapxdQDCDVSK_C#3~I%14S^T*^uv76DwiM%$^dlOqj
Y_|(3,+P]4NP'#^S=oe(7'oB{f9<DT[h9`Z;Ye!fksMFOP9FmfrgHkP]|7Fy^T0)I);5F_4Ez}a;LOZbd),~|rj>jj/_h}hR$y{2LPx~>6z.;1T?$%d><cL81R|s'WBK;aNQ[6qhl(mA#<Sgbp!U3N
Gx]<y&,:|%OJA,obj~k{N:iyxVri>>Cpq;diCh4;/Xn7jz&(~^'X/K^u!HXpHd[AM[tMMRe+q+W1.vR>5JTo*Y=<OJ1Z'd~>iuM9G7/0Zsa!SR2$pEv:1Mc{3Bz:CKDOVqNe9cTQs5[^6SPZ&C$dV0
!GEzU>OC/?Ff!nlu9cMJrG6);Pk4)/+<v6&q[yza{MzSGV=hSATVaAelq_b*T[PZ%'&lJx'fW;8%~<Y&`&nm?B%Wh:D*Wuz1L`(z)=&Eiu~on_s(>8<wrkOWN[1_ITIp7~$uq%7f=*Q5<b,$9`SeF&
0;{YmzAL^,SbN%ER[BFMwBoH#0v>H,egjZ^1ki4nS}34f6bQl02kW!yhHp{AJ^VCtUo4'26~)dW0Fy]#C!VxU6}tB3J(^Tsv#)l4$='E/}u1r3lcw`v58DlVmE%'Et6!zu:f}Upo,}lsJh_~]{#<R~
I1.[rj,7T(Nq%sIDx$t^vf|oM'U0{q*c'ZLcX)O^#.SSh.lUdOBldqT{R?MUDW{!A)xC[XGq+{^5)/{_#2pvK(wf9]fr4DJ^W`n~j:MW=6p`:#zADAA5+8!'fUq~]$4IzHU6r=:TfA<79:bRt$g^]0
q.yDrb</XuZz0eDE,28uHE/w2a)L%tL1kqs5?p2(>sRZT$Tvi5hVt/<mK6IS'x<{7_+M?N8X4#i=6s<jia/o[KJJO[ocZWn{>bwAh>:U2*^lmW,y1KQMU#%rj|2&^<2ze;:n~V;^4C,b{[!CiDxuR_
c`x;gB;ci!q#2,{AdNM)IO[:82D{5I:q*biY[:>|w5uL$Mz8_,<J=cY!xub|Mw^M$`U,oWvaGiIbTAj'pC&=7cSFd,oLazA&=/iBrSz1sOx'p&7(gGyqFfgUb}MtMcd>19wQ16!XXlJziN;7i<[q'w
E<XokX($nI%1wklG.O(xB*PJ5(}#vr+zl;9W{&3$x[ZwJM'GX.kRg3('}ier9]&Y_LSp?N]vFSy>,4'jmG'|$'g7+7=qFi:q,uQ8#a!7kL%6Av%}S/&+y,f:xv=!aGQ=/w.50TrRj2w_N5EqFV3;.?
k/j5k';.|:<I?nLjQr4uetGQSIeJ7ye5>|XQri!tkENZETn:*zF'AS*h;'HOfUP}Eq;rhUvg{{/.<G453rvx1C_c87U)h2VRJl4/PK3b,|<Q|8OTh&O.'Bunj'$rw3y+H/EK`d7?vEI|Egh5zB0eaZ
i5zXLVg$q0mGk!#n#FpCl_>edn3lSNK82cU8Fa!kSgJ8RPA~~XH3i3}C8g]#d6N^^zQ/jn:I>E0b8bP^WipKq/RY}6'omSC#`trj~}+.v:1q#H45mv45q&_XMd8Z6_5qa|tod+02V8h!*J8b7V9yJa
'92Jl~4KFNx7HHD+i0O<t.i0d]HbBl($I}SIv3lTpxZo]OTApiuQFzY;SbP!vtl]TmEL(k%{Br~]]qau%&`]%[UZ!NkP:XIBB)W>?EgJ(%^G],Q:+jDYF4+>oNd.vtgp6~Q=+zHg<W7gk4d'}c;O5T
u+w%e*Tq3>7[b*putH=/PIY`cWP)2Xg1FHFzSLz4u^FBdV{4mQTQ/PEn!f0jOsE%5s(^zyL1WE?#~[HE8QWMp<a13AjL>y`buZPE9Jj<Q_)mhjW{H4MqL_HjASweaPAG/+[%_KECV?8U{m'3`G';Q=
_MdV{x]mMR+Uz+o}W>=:~K8$%K2{Mi%}tSJdbM.tIj6:=n=Z0jwjW]U8P9u_n.t~g(q$L'v+PEca%N7z$MVO}}yq:R)KMKiZ!q5c6E8A0Ch[EIskT(:Ia?fl%D3J<[zsXJ!X]ba^G1.Q{D%tBOVw!n
c:_|)_LJLG4RK1<.k/O*U|ScdG_lgZ'FZT}8w^Thg*BL5'[Y~*M}Vd<c_=mD6gOBk`,<yy8&yX_Mh{W6RvE}(<S`u7'rSzJQ&sZ]NQB+&8r.e6T5$f$kPg]xa+mp#kEHkTU[w21t${H/ic4>7oc38_
Z0Mgp19ljNzQA)V_Sz>u(a{(Z6%P'$[PtER:><~KrLNQ'z;DF:$HkqA9<i)iXSNtJ0M6ghKL*N*5F=Fl4oRyAWr)ycYmcy`N7K.>S&s!ENU&n!Ak>5O|B_=W;I6w(X2X!{_%3l2~wdu)J#O#eA3jf1
=^66_ImTI,ZDr~G$Zo=UsV|,MN}{eP<O|MIx&Bjam5&G&3]A+O$925ScDtAP'FsvA}_`#f%}Df_>wM$z_Z1{:sfO6?=xlxL>=IDqONkRx{Af_mLg[ecz/2c5^8+H]i)cO&U.4;y0hhe{3dl1A3qa*S
QqF?fDFTHjhNa+;u%|Ie1%,%.}7mCK|d?WCzanV5mccaZ$p![e=hL43.?ymA3kd%Zoz0K,s:_Yk{W](4c_:Zb,%]e}LDCE4m7GvoTQC94(4QW4Upe/d,KYotGa7m65'd51`#jW?:>yDI,owKdGM'^k
WJ}6hWpcq]w4%!byf(iwA~j#^O]aiG*s]fnqtGNxw$#tj_e.Ii=~HWfw`'1}%9>Lz3&!C,H[9mZ'CNk}q,eLl^kQbML,&0>sZ/7oNJFd<i^#jsSe=k8mjOy+msZNUiu_HB{dgpgl%fbm2'kq8#MTsK
fG~K6|Rn|u]);RH7E.qU~)x^>LjQZnt0C41mw}wT&J/{5j2YZl'V&DyH4e&FF9Ro(7iXQe/j8+;*(dN!PO&oI5[FT^:lNdU6fhKe3lKQpwvnH,_BNd*qN.bF6cVnLJ3KU[%%sgggLS^tVAj%4`q%AH
]L0SG9c,1B2oMk7wCCkvQa#}1|n;_>ggX4Vk47.nX9ElCj5;X4CK%%,EHfmz81%Z>`{VCL|q*FzD=F)':r}B9,b)Zr[5wt}+)6{sZPc6l{kpIZAyW&`:}ms?bTGm}`aUPQM)=6n.Y?8^AObX[gwL<2
&^N9kM8E6'GOBY%t:+4'l%&e]bP,UWC^Y.cDBT%e3DGK|TkeO!b!vLu!8q71W^!DEvLRB]v`yH!1FbAfbFtlp{$E:bpWSz.Tv`%xGrFU)+!Z$~NWAxx>4Bk1S:c$~kF2V>?8!`NrpvgTEV=`m[NQ_J
fGv6G(0a^mAwAHlmdp7N^ZUBwPtn}k}q'fNTWzBX:A'.fI*&lff3Nm}tX$HB.tcpvu!X%a=FxpFV}C7v=dSSBpB!!bSKs.a()Iw9kST2#pDmvm`d>V+W?~r19/sHV?m]KAQ2I5|QFW(/VVNBi'/^_6
*8cG?H3$RjV$nb/{Nj)Mqn^D%~ZOcA/_h56M*})+oEZ4~(,Ni7+N;gbp=9&>esh8IdXyDcg_#RXeKY!`WI09Vr&;+_00wZfSirhh'_C7Fp[S?ri0nlV?3%Ro9c7}v~n~0x;xW{Ph#!4<;hkv}q',$5
sYbNk?OHg,R42yG#/AmaC=p??NQCiU;&_5o.Mm=J{&]PW9J<pBx8aEW{t~{Rj2#b3b'V_L|$&]9DEz>.}84Xo#F]cUvskYH^[n2cJJ&n~$r7hWfA%^=8_#qJ/g.y!$Jp*cP_j?x%iy}Zio3JJ<=myB
,w0E9BqyV?XS/YI2hst1a560%^l=NZ*]F*v*W6i8TO4=&xa:blXUu=hGNUKl>UGc[XM`#63T?Mp'xpjMLak$*2g5GD{KU~7AckK+*[5vu}8iZ1MYeis$PdvI+/U(kAa)$J<MunLmkqdli4:_P^GzBv
d)Q$;Tr*>{&h_Ju]dVJP=R6?jgP^]UjtszZ?N,594(84b)$a>I3SD.J%/A_TA=/~hQ^sEby%9fs|xeR=y$Hx_!GwRkvJ.wiA!:8gePPmBd'FrNF+{r:,zuh=7WYx^4UvHvj9!4ZwsN`X=x/CF:l15Y
0521~sCx7Ge7+PW`mYd,+Ks^?il'0ewRGldft+%q';heiY';Fh!51LXqS(`sdk_c`_Hfzg7hm`x8eXF,SXIJj4&M|QVe'!+Vjg8o;Pwt>MGdRIDf.O^TjxtjXDod,8_bm><Ejum6.sPa#:l]]*n5D%
!DP_1sBekKk<On8fZ'x'dUGq^598M=_<(_r`($Y?07QJnONEM}941ir:,SpgbCs633rx:nBlcyx7J^F;F7_V_?'Te5LR[rY2S/~l438Fl;zTdOyzFd!*2Kj}K^^T8e}3.cD^e1]En9m~IOHa'/7~_w
Yx>T*yWO2I_zL:TKKhIm8Gafd2PFb4?;CuJrV~9J`L5~~b8+^u0,,(I<V,7473(gN{Xgprjks1t'P2K,!*Ud8~P%UIV<xfpPvFenPQERi`AOGfZG(rv)xpsV26m%l.MIV.l4+?;&D;{goCIRZ)DZ;h
Dc=;jc<UctPR_G}}Pc^A:+w}`}K_U+.yt2?p#fBn9ZfZDmK)wf}M(Wn6[LE3Yk'wJ=FsCz=WS^TAZk?FU>FBU_Z)SBnoy/V8(wrJ_nV4IBUSNTLH+$N,:/T8/f{q$I,K'WSVC;4ZR:w_;1'9WZ;+yF
*a&y&.aypO7~8(aL1=e?F|>pyvWAy{ecm{5sihpxiX,e_w.4s>_R((s0Tdg?|8'b:n[ZEM]_Wm):'K!{5w8v3!+)>y>(nN<[vAg4MwaTe03HHR*|n[xEfd0|fG?0c3*?,f6lo.u?)mmdFULMiDqbJ5
4W!&lj:TV7SwL#g,]RI:QyX)!jwv.c^]:s.S:x{AbLm*8I{~_l7*wSFr2:7Xk8YNG2P($?RL&SMB]PR*qu'VSTG:p>H`C$ZB:g0fIRV02,8c,2^tZ3EVwvHdwiNp#Zrjs<[0bWV7Z?US^^:eYp9{m?
Cbfz:^U=.Chh{>Flmt2_D%SB.$%p6dBkl?cY?Iua5K.x&C8K9LebYUEHw9;icHU'$t&A`L}6fnluQZ(evBt//19.HNVjC]kCLtmb=1tMfU'gfog>?Ouw~LpC:EaY+N_ohThHHq#]1!B{8SOl,,Q<$<
EXA(FUm$)FG~Kv+xjsXhRCgZQ?gH~]U??,TjW4oTtlD5xbHa4IQ1x4Q(2NKIPh~#3I#VFn{hoWXt/DLv?d?L9=.ALXN/$[!Xkz(IM*0w?a*K/'C5Q'O3~SM9[XA8n2K'pVLN;B;uj&6wH4.0x+LxB[
Te7A|Kg`L3TM~G(xbK&?_}wBv.hcp^~4X29BN'AsHRuv}DTlOMyn)~,k]HAZLv7y`[Py3ZWvZ*y0A^3adV4,_wzqW^fW5u|t1F.QBuubC)TYtps]D`$Sc/$CPu]A%MSva{#V(jvPV^5lsL2RX5+jt8
l7AD>9&*6OVWH%#J6P)uc>m+?HRg{|p/VoE,vc(x_[Y|aRe!nn]ny6W7KZZ$82T)Pvw&_fXk!fqWs;M4E}R^;34m?tByN`PWr!dA>_OOYEs(h$GzMn80f$%3TE4kZ;p&$o%=yjI`M{s;&#)83JPI#!
y!(#[iE#y*G},HquEPcM35^lOVP0ddfh~4xMViux2qa)GhnrtqoU&9Z)SCLHv_5%GCftSzC+jnAy/|]Ze:8gThJx76sFe1sJr$uPv/=/5uF`]^`qEyIfg;bj)E#D`dPGt<y'hdkZzw(X>3*;FW&1L7
,_Yp2TR?MJ>a+^6}ZE,d|U#=>^R*a*Kqd!(JFBX,_#'$!zUH^JbZ>HlUKJTo!s>U)(_f*33#33vwitc+(F8ngv%tc!8XWZ^Rnz;mY[4{^hlt?v,<!9(RG2ZdZ.lyu)Ui8o21$OE}}.eVj}P8Z'l2$g
bs$Cx5T>EGKMb30oIT&YjViw,J1};9CQC+W'mxX7=pm[fn%X8503~lHP_:s8bnS7/DX'U2o3Ee]]v+`PcL=ES_#h1nmL|S}oMs&*Hjl+Vy8{c&e*$+jj0hf%UF2r=R|D{7J=Qd08n9uk}o:}nB'JZS
T#u.^!k/!XU2yv,Pgma)SKnH=~9MOO4mE<jFy0H|~bAHr*Xb]+MkMfJe6L?o~z1TFNSRj#y~1yz.m0f2hMJX5*KK!!wj<,+CCF%i^`_rSoe{S2{^0A`HPl],5;^}LZle42VBmxxn`T_7?.>Gk3g;q`
$Ky`bY^x[4c:TA6'B?wVm0AJArt;ju+[ir5J(p$kf,lKVK{CG'L6.T;v.Z=Fcw[n}(J)pX%7&Lr}Eqbq>S<[DPCak=HGb0n;b{f2L?%dW5/a?{2G88CkY[c{uP74/,)(o_m?;ZG+J94hXL;/Hsf`Jl
Rh6|>g9PO~?#/'E'+`)8YV)TpbxD?Sq|ldV*,CGp#p5%vj#_'7Ne`t2lY~+.V<LS&_qY5(qV5/'qbONZ_cbm{<wGWM:ae8q,B5elQS$G&wO=eBxVWV*)2$6t<qo[C#s?i)R[+J&T4^![G,K]k+%Tav
!YBUoVri50Dt_Sc!Qen`M<4J/_zx6//=QF^?;`%!^T{TT`^#.XQ!FTQ$;h8+i:m?14TxmOcEt[B<?Z[br>RNV1Kk(=t`){knA`{6y]j0DAsWWIV5&^oidy./kzi*IQN]g&7BY`Jxz+B|zhGj%#6.2:
[FQr}%'uc,i,^t?r{cmu02=RafsQuvZ9^(+?PCX?K$,OU&^K)RZ5^>E4.vX8uoBg{Z=3;D8iH*]H?0)E}z/dqVOLOnRILxc|Itwz'uv7yr#x6y7P|A:t7*TP:?iDzFyg~`a:$jt^x7pbqd3TLs!J5i
!DlqHhTE}|o*Ftfi&0.{jlfxkf?}d10_OxS7qBF68pWfk~xURTuQI/D}cXUcS!ob'k3h:wvD]z*Vr$e!1g,IEM}(#1j&a<&GZAm.RF,VcYE{3c:sT?GrPt)Lt09G#wEJQ!)Mhd>s[ku;kxnhC.h.z8
$OaBJG30mc6P>KqA9m|n8b$Sa>V01!zWhgBKrVR6U%;l_l]P*p:~~)Xn_H0!iLU:N,H7(;8SfC`}l3Mx%&+s$;oLp&'ies1v4+M]|Z#HH{O}4D[Kt'/|97BE|cS:3PKnE$u2wPVpSkBc19i72Qf(D=
|0i(qa.AFS=d*)y%Q)R`7gS#0~iw~C!O>d3g`L9*dT*'cUlEu<U#R,;R<J%YoT%E~*iYAst(m4`IUGk{WLnB7KB>&rJtQsHN$G&8R[3h~,{^ivFWyc3~UP7xp4nT;j:!p7;TnVYVYzJXOpw<7D.R'0
g~znp+UBpAbIIP1mvI(s'YZsKdg{7O~5dsmoR34m0J+/JXHuIxl#|uzt&YLrO?zG`9o7Ld/l}[R_'n4,.(!$>Q7,J49WY/O?}Hn9+n35Rh6LsL3._LRb=q<d#'O2{GYH*_|8TC1JFhHDiSGR'#c:L6
|yo]LNx'385qd66Bs1XK[FrG%)/c&7u>1iY(v%0_>;=aL3E6QdpmIH(J`Cl_M1?b*~Qja#7#G?ou/?:#fl{*KjpcCd}k*^3HY3+}eh#$c)>mztQU)5%dR2)#WTq}}]|8YrRrEK9npL#*N>Gdw&,SKV
6t)VT#WE1WuV8C6N&{4q0;E9t%XIF%3(je#t:krbQeh0f;WsueEOW$zEwdouU=WmWJ`#x:B}Kr+?jv:X2;BS.$U1.CHMKJej]9O>0.%bP}gr7{xs4hz)$=)#42G/;=8y!a6HO9h</na/zY%`{tZcAv
K/[0FG{?.:^CHk7.<~!u/0x;sa>&r`XDBV'W8/0<dwE3]/W:qw*&,]0,V|3_cB;CIVK{FLc{R#8CBq/.7c%k~8r|)x~}Q#pfO`<_}Xg^}qlA=z`Ya/A%D=^NAS8TRZv]7s'v#QcWDDSKe09>#Qu49k
ym}i.Z_{P#MdN`A;%CQBqU#/tlu`%_Em`&GwL|vw+dnj^HnF8c~Hc$L/2a&dO#JR!0=3<VIk5<fp)^RS/sp?,;^n(j>X/zMZ96~CSVu32~1$<3Pr7X=0o??j&%Y^eS=Z7>wxegS`kl;n,96bB]~199
{!;7;%e*:AR:})pWvia~%HSL[2&;JuCYWZz6vKQ7kN>mcvfVGTx_=^+P>dZoTBP42*uD4Dx<?zE`JF`'O!%5KZ+TV7W3ANd)+~dkIx=]^(K&9/N`//rlwnG83dNGGYMh(rmRlH2=^Sq+.<G']6{$18
'k|.MdEC[cut=|wf/&+]IXq|:M4{C<3XiwShZD)*QJ{>?TBJgW4:9.UZq,<w=}5[t=zajB}Po+%sNo$E&T_XN5lnl[h'y}(3|.<5pyTXw9S#>_0|=X'jB_:.M!'ETQGTHg4XNDh5W0EA&/1;ENLXz~
?kAc<+NI<y=(9QOT}P^5{)QJVj$C%Plf?HW3)FG8vB[;CSnyhvHaDe=_.$,Mg1kxZ`Fm}l?D:WI(Ac'nKZ9El%0W!lmhw{pETb,XP=R8dTletd5}Hbr}))Hf,Fo$9]QU=Y^Vqs=,P_sjy7yP&1DT?:
mna;q]Z~VN*J4'=+LtW105X4,4mx.{O#lBTzZ}$J9a9Q4N243Rv)4Pf22K(rN0G'+Ja8zm(.tXa_$]OQr79G.cH.4>DNWyv[:sU4&>2h6aDz[:*Td?Ay(L^bDJT&|'}ord]n%:%QQ;:;%B810%Dd!,
r1<ID=<AD(,Heigr}q4O:!5?'JNlG$2XLy)/ah:x'8z]FF~DwKD|<'{'^>ck4,x;P[4y2eDeaIuLVS:tK/r)z2o^2xd;~Qp_nM7?K{zL!aA+.mh0L8:!Ut~yWCI<PY2?*L>BH{~QCp*Bs.3+[.4.}z
R#BQ(iu`yDQ_W,FW_iPzZxH!VO`/qZL.={<viaQDJ%=`%SPZ,B72..Sj:e9K`af+5'$$4l&z2Ww(hrObGi!cp)dnvf=Jw=:'0E4vX}:$zPiJ&.Mt#'>6Ju2?qtUO)S>sx;Kclne]kMx~D'*jTT3']]
pV?z?<({rAk{+D^6>Tbv]|tI!u6Nn]3fH+!M.Upgvai`BFOP]VyB38lk%IkG;9AWZZS|=/UW)E3jA(,?_Zou~_vn0*~d5Y5`/C$UF+B(]Iv:miyt+n+&Db]yxqPL;ooOe{y&^%|Ij|&a0tpL:2({w{
)))5RlOTXm4`a]&j:$6vnD`OUK&COKdve1kBzqxOmMgTRk%hoHO07?]<yQC1y{BHW('C{A[+^evL;;sH>6n61a7Q%!+0lM{#0Oo[6S$,H2gMx>NHRos>=!#!}Ax:,CD!E^w%R].F$z2lbDMiS[IcM_
V4S7~C'u]5o~L&?9?E4$l9O>7]u)D%j~a4uc>gO5Zy(To<a0&^6b^69zK)8TU1B4ni0g&/`lU40ak<mB!pT(vL4Ns%Q+ENH5Bd{{Z#_)Q/8#kBaigyJjfj!{D+M_:qpgFRYZQpir4R~%li}F7eY>Kc
|R=Kb=eVW<?iWfx6SYnP8>d8l,GzYw2ZKWm$$1fNXIT;=&UwUqNP|Bh!G6?o;bZykeU(K^CJQHq$j{&YgS#[9qdE`q:pdS,lX6~T=e*t#ULFHrp5eUprI4Cq=~Q3?qfM}Qyt]qktvUQX&c/<NnsM>|
w|#EtA6+]O2F6CXD_B2{pU?O}oi2l'mX6^451Ogk#PO!'D*$2U):O(pMC74*,6N9f6<xacUdVyz;!2XGGiW%^v]e'lGsFwE/G;D~+UTM<1?sHbai+c~Pm.kS=|GW'|3^h|?9MbYG.^czrTh<b&k&HS
8]Z.5I+n5^;S+O]6b~&Uj}Gw.KP$ZP]M7#vfX]}Bjs<[)ni!=NICJh#nL6MFiNbF.,iQ+.?:97~^2,t|d?<3<Seg;I{=I[r*$2>}.Tzx#dYW,0SU{ie`(;0tjZc.cLzoH:]7l`%OW##1ntT>ZK%Jzs
$BIY{pd5cYL{0wRRC&,jvBfX1Vg[Bp88,PL+sjjjlHQFN&}C68go>hP339nJ]Ve[_NZF+uUj?um4x1w.zUiIKvmJ,.7obpC,uZjm]kLQlYFpb{T%oiivps^gc'ei<aT$8.w({0,jaMEBZ1f/ovf`?u
y0m[27%[wI1dcrLhDVFA7+8PT#jwBR3G(KP'#<{1&[l5xB%v$D%9gJ8%j/<b(1bleM<8O1la$!p5pWdL=WVJz`>rp3oBPA<,[0QFd}FG0F%+=*R`1.`w!+e4Xya,?T=y6u>Y[Nw[/R?yaQV!otVDT2
K4g94^VCtT7Pz)Bl',&>^xh}Zl~khUB;P+Q[Jtv8$,=oAO?k9m%:Uj*ioasg=e(=n[8,6^qA1cjzp9$?Q}i1^R^~z3$b#gSw3O,t$td}&=PuZqeStf*tpN91a~O=s!X>=u#%Hp]?wSc$[WRA^_x5OS
T9]D1u<Zg(H<%}W_FWC;<I(;C8f{vUf]+q7NoaYs`vZ2x7i>Iev!`2;}&up3,Gt3Mb4ZzPe6DU=P4uu>o&_WI50[/%o#bKObtmY/}Rfi|Dp0QiCD;3nZC}Gk()v}k>wA60/nxISd!Mer(nIf_ITVsG
TK2od[NWLbF['59QFhhEo#*ViZ7AnCb;tBl(D7SYRqYnc:Ahpn[0a=o?pG.Fq{O[M}v^rEbgvV`51Qc9|X%PAmb^fWnQuAcJ=cw`TFk>LskJ6(DFAr1Zh4sjR?S90>wOj[kKQ}QGa+ea?[WB4rJ4#?
t(rx%P%t#n_nFfRQc#`801c6uiwHsGv]ZRSoJr4o_/{GJ$L=*f8=7w.K*UO'~A7z'0xn6>m%`<wfCRs&K4HBnOKin7#`FjFf<(OW[n$'viV75q{=M;b6^J3Z{DfPp|VMHn1%}2O3O)xl1`[EHDrF:A
(hD7IRLJ([+Bo|9}Sez_,L([>E&$mvuR<1nrf*.=PGfn4}^E!Pl&arm+aE;YM=dv1:&H<i*;vk31/F,`nv+GkxSRgBY+X?8CslNOJGepf1D#_H)1&j0z,t7bpMaomF{Gjb*:^b'Df}[3isKB(=_Nn*
ZUDAIEDUH{AI?<(I7&8s)FWE]%|/|8>kW9C,{'0j2'_d/pgc^chHYX)L}=:ympv)bv8q7,t5vlS.llQH}K7M;>xLqENz]G=gdnr/F^>9P8P3g}4XAb!Yz[Y;_Kty(M(>ml}Q3{EOt5gdQES[qm7,y(
_p,s)5KMFu<>%[J9C8%*oI1sCd*?f(98]Ay]r[3Frg$/6mU$t|Ba<3P;*4C?;kXL=(m)g6t0,eH5~:D!^zvDk<^5u?Ie'pB=5Qf'Fl*i|P%N2E&43RN^(l{6BD2}4~6a$<NQqdnH8vHy/L+j>l=rb0
c(I?#GB;0g&jBu!9!:(R/F=PfDI|;7v`{4xi8YsgC%9)Epx.xvI.tK$g6Gb&TO%vQ+]kaBTve>&mUUWrv'>}&k*H4nl'sUHFE^ltg}Gve&'i>~X1{``0[`g3ddKibT~)P#,en8pshot4)V/c9NeZcq
n0T]|B0TAcVD~/pc,CB(a/9a=X6:>4o_Uu97fj2VRxTMY'Lp?s`#oY%+wZos8|0zR4<hG4*=/f.y9Un,B&___A8wRdu|r{0#6(rAeiW`<^wQl{;a;$K!$1.W$+3~`Y[(3g?%Ma$rnN%)9+FvJYmqvP
H|VpBwp:i6]R=4?FA{VuR_NS2>G(vVF'!o?AXq*Q'$P=.N(BDmWtyv'!BF2j2Z,/)gS{`yj^SPw~'eUO9FND(uz'Wzix|Q;ad`(+!anALm3L1JFw},FrNWdolPp!~k?4a0qO3(!&S$97_:hxDR'Wv8
o[5Y(fhU#D5l):WKZ1Z#_hQWNCINfg:Q?z[uRLb2`,T6<>v{zRZd8T8Tfru]8j`F.8DeB?apa)T>`cEOKiU|zG0TmAF*w)N#M>H0M!W9k~lS3X|~m;gXTWP%J#x4d{M~:gG{vJb<p$wbZ5Qd~~6SR0
T+OomO*S7CIQhUAEy'iFVa%VY1SjLRq^AhPSk68j14?QDteJeK4qp>!qKU{w6k<=dMw'MI1:>qC|`C0#'$8?2dnC>]KyAB35DFh)wN!s&_^+]i}XHP`Eijb:,=mCNs*9Hk{by/~)V,7ci^J'DPrlye
+f#{0'*QE_k,~Kz:[M!0^2UC>bi}iGk~o/Nb)vS(l=ja+bH/DEmq=$jp~?qIi!~L{pdQ'w|W#`thb]7m`^Q~~w=:&gn_/nsEb:ezC.|m#<!>_oEUaoK.J`EvOJpUU}^/8}7X2e(sE#Qpk:xv*|v'fM
`&>1c4L]w(p|2,%O7O/^tjvfws[wEbm$(/xvH%3%z~.'JsEZm|4h,ELWJQw%[;.fkZ^E%|.bFg!TD5X:[4^j7C:Atx+%}~sBpE}Z{(twFExk:>VpAQH(#r43'Ud,0!2*v/Be)vLbN'J$G0Plr${h``
{;;Ip$zwE$U[L*c[kHEuMITSnwURsaamPDf77EnLpO^#&TOOgY=03G`=s*16!XrTu+UM`lJDu=!~oxe`V(pTEeB8e{CJA=wWHvCYM#yawDk}hj<zfQx0O29!:v3GF,v%Cr}~s4p0od$y(DKf<irF)R
2)*M>3[GKhiIc1`E1<NcHIj((ORDCEtBMW!KXyt><_u.pa+YlBvu+fasSF2&B`8#t)55?/?M$QaAaI*h'S377WU)WRWzIl:ohUR;MvqiX?/*_1qU]1UR2z[RdGRX>A*D{hK83s}425R$[)NHW~i<]$
xD;OvgJ8|dYQv:!/1;8?YB`WvaJ<Vdxb]`=rBA^{SBj6o9`80]exvuz>9Xs2w7=_jCp,6!w1M;Bg?(w:>19:S8`EN?lYk0h,FwdBt!'fydz<B};_>#'j~0~aqI<ZFBat&H0S'}pnvwZ)C&:3A7G<k>
A^1RXt*vWG}RLsrhpiU*6`C^OOb]8otEbn[duL]XPt+!WRrsV78<o8Ieq{aYy*gG>.8w~'^iA,~~y3VD=~^RS]L2IK?{:7tp;?.NYam=,A9tFfD57;(akPr#Tn}q<Po2gMK{cc3~JS;i`*70chVMd=
<Z'T#XT2eDzCCatj}(Tp*)k=Y!PN(vs+l}7$|2I|TA_,c=0L5O_[G?N2EW+qbd9E}Nobp_s7Jl`B<T2z#Vyee{[Q4Z8EVK|4hfEja)y&s1:c(<);qu&;!WEm}I8b[OcO6X{GqK.:Z=oR7pM+Bc1v#O
1e0P}S^;s8_=yWfdoUucQYe+MUUQ{!/~sR;4LTX,BAXy_l}bZ<G*)m<1Jme*%y6c+:8!&/H?Un=l$b?lT5qJfCToh!p|b2kZ##Sa,8?I^33:5]_(#2w}f^A%PnR}]q1L_ve!Y/4#/a[Fcy+XZ26vV/
HBl8H*iL)=f*A5?[!f^d%WQ=h&h_kOr4'[^'R(.n}Vm?uf$OvAmowc7&86{Y0=+#ML{)8X85o4*'jPZep/CcWtlnVHLJCTixLZ>{bKXJ!G]1/^+]B=mByP~*=Mo2UTciH}+.dp<l}s}~FYEI`w)Vhy
!!q;Y*?y&+{nO1s]|7DlG{tKh$^r5e9ur:mNvb:b0vxCZOBKR;3KR,s.sLXHCA{fz{kW|qZj:Az_,Eu/%+Dv[vGUawJCc%.hejjG$n90rM0|htcE}19bv^3d$ade$m$X:t;BHr?g![1]gW:++rX&Zq
L<)hmP&*sM6|5*;PiwVA,m)Wo9KRz#)D=^owN?~#LOnQT`UC3Hf|zZ<tTA?k(eA$N;4v^ux`Zg)#UzJ0v.=iOP:zyVyt3!z}2`OnCCil%'W6fm]y56W]*YV3d5_fxcr'=s^O[[BRR{{v%h<t#Wzb7`
Ltjih,=/,Of({~f||WcuJdN~/2t7Bc/gvRvd#1n%bUxK0~5z`%?)nh^g9QV?9Z9}(qxiar:f{jODrx=/Nm=I'!z8}8y=s:Cy!yIdY*`u,n~EI`M.f{e7}(xRAUb:wKqx=Y1_vXCQ[&_^qLVV{W)OVp
&<z.2kt}HTlI~Xb^pZPdTqM#?N<nlYQ8v2zo=rYX#7:qt;4qUV<s1_zS?_'4=ik5DZ3kfM$M*<CV18f[PJcNr4q4L.N(Ya+=TApwa5I>vh8oNRN`NT,xD?HHs1gS)k,'ZaEZy!E||9:m'K7cvq)|3)
~8hNKXEzb`Nk0y;ps:v9[Z^g~PA~,E)56R>8~r>nAUi=Vy,I~M(r4Pyn_>hd$3]`3zoct|wHeOl5Ov^u<0:`[`.ZaB*7Al_d<ODi=_*Z=Z:?b`*+#;S7M<ZkCl6|5f;^:wRxPv7%YiZ;Ut|axgEM5i
dL*JMp#0z2o]bL)xYEl*6/f)mx)&hN}(UbF)W.q`&21Lfp%02k{5g2Kt]qc{`av_g|qD|FPv?byAuhY5kZ(|oDcjxkv`lc1n(eeA#3~YfL3eclokL7t9PM#aouO:l?I,3qhCK)8G$yq`oTSUhKJ8e%
T8;8|E#[6Q(zJzIgTl2MnYzZ0!FV'E%]9TD(ZkAwi3Y6c|hupx3y[oNE+g9zrcu<>^`G75zOgfhEgP*WDqt66[g#!hZ*W.!|Y&gg}Mp6/Tx#2JIt`qc2{Huw^^YX3;G9uyGpJE=Q.zn9n]S!ELWxm/
>}/Ltc<sL[OZXL<ux&e]<92w}MoZSM|JP4MPr_>tH4T8>RA{U:u6>MT*jgyKk%!SDz<2L1%~r`mDmqM>5T/dr>$c~WKPCR'wk5TW.trf.89_snlu8N;lx#%ll?F&7kByR9x2ACgamdy//d8}U2|GUL
BZ(o=TkF[3np6u+m<p?!vKqc;5yN5GTYb!}8d3r]BjU'(05z3?=QmI6i7wf}49}npDM`=`xF%IZsKVi1+A[DGN8RnoVi[PX4'k[!3(9k)oxD,w{r/u&O(=nz=I:1,|s+A[p.t_D]8Zu#7cv;GMK.bl
t%y+'.xM75>,rYU`^cEd7h{frpSG_kqoOEazIju^VpSi?BLkc3prI6vs^VWw0rG7Cr,<3gS;TNo}?E<<=[>8|3|HNAwb??M3%0xa{(/W;pERIH2^HmyQetEYE4aeZRDk'=j%fa|*_z1|x7TEj:};J;
m&H)6Xw,Z{lz|h=P[bbsA1mI5Mq^Wao*~#k.MEM8yPE%>8m*4Mfc~8=5F|_9RVC<4`UP=3*|W79~/n^{,<LuQxOSRV{KRD::dy+k=F~O~vn4^&2.ViB4BEN1XZj(HOWr%/86$=HU4{^#Iky2!8O9lv
0:GQhP^{JNoZjV?8VeTC}{,I_eCcC*A=caH/Y.P7<'*u^Stz}os|j644Bnp>*xuPP,t8&me;T5C8Kzas>[3*b?i.IjLAkmHa~aO{a'JR2^IBuzsY9s)YHvBIj[){~tOmn[Ad+L%&J><y5d7NgI'3~s
R%1IUf^J)xRv!V5PG1_$B;)J|K8skN}`QLn~(=(Tvwhg(^0<85QMv+.ey_ZlKQ'p#Ax!pjSx)dQwm;[b:m{S]K0]jp3p{uEMU?#tsX*Rk|yK?Xe<Wcx}R+FC'2ujv^M0s[u;4+uFJu~irMN.FGYdy3
+iv=}DLua?.w?F>>z3[ftQFOA?>'{.WE>T;LbpN*tdC:|Tl,/hME,os`[g[FjAu]FQN%r;]o}o}|e?WDnC;x{gaQqqr[7/^B1.BemsISb.+Xg,'V}zyWI3c2d4QUsQk*SQ!C+9?:=^.p:+>P|r%ct{
b=N?K?,.!2?k5mW?&SJAOMIjx'g7)$Q,/oj]uPqnU>PM:XwsL#Y8[ngWbWz7SE!nSqnIN0%o`'{`7x,L^HR/<0d9Ppw),:%;dNlfL}}vEPvhJrhB7y73io*x`wu}ub+1]{y;rp#?Wi|em)2QDZWD9?
$4^bBDQ.s,UdeW(+?d)FJfQFL%Hmie8$c&+Y7cBT~0fI]D$W^*WV=i*P,CYNV!F9V21|jw/1]Aq.e^tktePM#7*J],%m.6e+kX)ni#E!T~daq~')rvNX*$YoO_47M^3B*y?Inx1%[`<,/s,L{(KW{+
x/]TkEL2sB2T&^ZKv'Dwm4SdtQ9+:OXj3`_oe6#7|QPe~H.{kDP,N}5mYb,(I*cVggo}6f#r+bHv3BhmF8fPYDUODaEuW!WT.s7g_5v)|uj:B'5*I4sfp58uPW%9L!C2Q!B`6%!XL$MFF<fC(nBPvc
.in=q*tB)n6AtCJz1~v$2ZNrh$F>tu()`:L{z4B_C*SqJ{>r#~%#cvCY2ewf{%[BH:]mC9{o,k_?XaF4QmM>VTkW:AjcF]o=sgNrVq77nn~UGQ<9*Nx!dyK`yK^H)DKun47W}9~LSJAtg~S|ex![zS
kM$%;yXgj4Hc&{V,zj>xoTarp!z!>g|NDN{U}4Iqf2u1.b]`ECcsqh!'XF$R<cr1ggC*9KxXJ34<g8GWGPN=HUC0WI|799fNyhYw7L3V%#$K?=ZA03'n~P4U)%(E?U*DnP79OW*1J}B&T}AiQ}~[3p
ZI_*</k(z,`=7(Yj#.QQg#FhA9J<JLH'/~I]w:ieQ[LuqA=M+QR=rQ0lMGWd~UDpw'*w#+(()_$XVLWx4j7R>xeH>q_nyX]k#]vxNytDdN])]L=e47HqF9gHn/bp.A,HNjT*{QS,gRV6ovkMt_%oZ?
mIcBdF9|fq.9/lo}WR<F<laI/6`YTy4Mz^KxRhQ4T'4hbsoHjM=BetoDCCRLb.E6)h8;OuP}#KOp}u3lW]&8b&.F^z(bAYt68Uts6J4(wGcx~Op/(R`hUl)KpP<GOtNDu($`!ethQa1tt;;6g2EMsb
/()Fa6oiaLG``^9,Giy]p1q[|*'.CM+LsQ_NFy^bN15=;Wd)[{n=nwPLYo:7d&KCUdp:pZnqP>x{=k2jWei:?f<A(FA>az.)H~1j6Q#DJbU`1)5tf>60yJF_']hCvz/LRM1*|I:Y7B3NSZp}9R<u5!
!=2%%_qNVV28O=1<7qr6B=T*lwt9WWHEAhb:$v88WaEV,neDQRu)'K4_G9Q#fmWLa]G<ZrP6C(Ro&7Wv149ZoQ~XPsWmM]u{_g[mXw*LGuT!_153E4Z>fIo!k*|W6W?Egxc0P=kyfu1C4DM.FK>:vD
h]c*kZlEx7B5e*sXUg*QJ%y8J)dV`C;2?&&J0U`3NfD+J$O_Vf!Z78xT|9/B99]>XtDKJAd]cbH~{~q{y'b'a9mqmH0`;[:civUF)kZ8!Kceuaw8cd|R&JTT'0f_[~$vOW4e'E>hPB):CA0GZEwDgT
DmqCJaw1e{|,/HxDOw}4|fKDU23fUk)JW8?5X/m)>p;5;ts.Lf$/]WIh1u!buL~GbxOmEDKw$9'3*}8mhu7wC'BMAVN}nq(&C(QA7s1RX%hY)F(B1L_gt5xsF$XE4soQ3bU_7xd~3Wh3?=V]c{5$nx
fGMvti'xV)'5KTj0ehsDZaOLsf^H$lSKhG|^:LXh([;Vb`O0Qa(zi'1^j%S8f~:urr(&Eo6zI=xxloxS&jk(Sw1LTagH{f^T+q`1x$1K`iNlgcqphe))c{!~4]d3k=RpK!#OyE63jinr]SJ/N~:(TS
'sFq5f]Z|ySz[>_GeMW2WbA!,OQg`G?W%)i7{4%zwgDRd;2Cm'~)kP1*iEI!has:neq]>d%DqDGvT*Axh9y6uNu:OffbzNzTgM/4*k(0sUu]b:S=LOuON(25J_jT[qcCor<_[/Z:^=LZsuI]!6_wbC
0R+,ga];wrv(jMJ1*;$G_Iv^`OxGSd.4<T.1H]^Xb<3]t^:iF_~z`azKKH^eJ,%Q9FREHi}.>{^`_[)'1`a++y&k22P<kP>2DHS3Hm#PKR13etL,ZBQTz_3Z;P)ah0Bh;KKa^4}iR>$hL*~9>c~ujO
;]UAZ(?HT|:eo5]b8qMtseX?K03=_hL{,nx*cE.5M`MreI:L}p,pTdf2<i=dgCk~bK!]v'$ao$6j<n')5v<H36$+D3/5y^2`qW}9E4<9}aFW]J'G.#9QoV2rl4nc$3qOf9$XKrA}+RGyQ$U):%?&J`
~)4_BnIg4*'N`I=`#3F.j=B^gAdD/JX8YtS6i033{V]sWpgTt}EO}aZHWdv5v~1BKg55D,F02Kp/gG)]v6)zv')M#m+'yo}o2Wqcpvr$=>Qw#oAnHuK<$dm,YcUko>+gO(1}s?zSOU;*WEP76J9PNQ
#I!L#d)!!AY*auVo~Mvx='pEroIH%PlX^fr?=o37`K%SlxmTiA[r>H=D4J^Es8+S$mP:E%15Zhy8a7BNm'y[GmQ.Fnm!XkPRDfODcfIm[*f^:O!Cv>t*57cIyaFG_G`bi[6'<<d:$dQLkWe}w0?A<5
'[&<]:&X;f[N#W}V7^TpP8+VZrI?0i+e(cXJzQkBs0]<Dhf9hmiS`zF_!SHLA|2/*gGsQ!V:]kot4#N%qp46G#O<kgsCOR<|W'8=^2Or;qKj:HGGC!{Y4.<i,iV`|Sc0F]?{~kJ}g`tQ0&EDt6_D=h
rS|,Z|xMvqhY<g(8tzsCUY%k=(Oym'j(DV`Aue9&aX$G2_bIx8?HwX4^QEI`<s_Y9lEC?T7]dsTD29fC.[B;wt{xlnqoCtYqk.&9s[=,E3Hl,:EA_/?A3ABiM0*dBTYv`U~CXcp83>zV*6DSY~5j*%
ZTsHDNC~X+#V{voxvbmqfo|jRb<Vd*g}$2GA*t!*msz?+v03d[F8ip%eltdvH=)<sAoYT[uu4'=,j+LV=N)WtzgQenzgV0K8kG$VO[s9oamkD&j8ureu|#Nm$qs%ZOpxcmyMreI(Ghx1;,N?KF!}q}
zeNvfCd)%.|[9OW).p.7FUahMt+x+E~1=uKi?'*p_aqndNaE$/OZcQg.4Q{;Pb*8yjecFW,>y[$[H|::yL0n&$CfCSvs_boecy3]T/Kdrd+V#(a:6sw^v7W!R/H=t/`ISatlS^BKj_'7_#E}k%[uq8
V,6,faD>efSBcX'd7.qYE3.Ecc7cZD9EVg;Aou}o0[rBI6&l^+_p[oeE[Kr$qm[JWEeN#*Y?K{{FIcU=}RvC)]*))6sWHe`Dszm~Yl+eI|&~r0`:)62=Y*FV*VYR)q(>oX0uO6AHgD:,y;hk{?Cr&w
d2F:6&|(kl94OjY57JsAxZ<U$Oj5b5X#`=$d9^7&fSN{sbiXTL$H}nMajW|0G>#Mp^X53Gwfd:Wg+?;4f3?%8i:uhW>{Kw<TEA6~%LA<FH^)}g9lik'4SCJS<}iSUYr+SsFZY)UA):PMc&PH~toBkK
`jIW]1ohpWfx<r&UZ%E.7//oA1]!+aH>T%k'7csb`V<NqHN/Nq82+cgu0R?lq>dxW%;=1vCC;Bc=6/0rPP5x2g`!4batAW5AW}Gan?>^laklsXRR:F!WRx3Kq:#BoqNmu7cV`d{`.%z3OrKc}99ek:
>j)63ix$9)?fu&!Xr2MyZ2BL.U#E1ohE},=zbN'v>U,dA9Jq39,h)?=tM{$sLkAkQw?(u2N5O%2f4'k[RHaW=og9Neh$p,L{mMi76VLZ=|r9Wl6O1m8u}/[!}<iY>,8_{PY2VoO<3}}h6|$Rx+mBq^
_eOLzS6:T#9d|/$ZV66L[fGLd]SS|X!2If>$N&b?P<1.,+qPN&HFSt3oXJ:rZ$zxB<fm3jX=4hA`87|n4cr_cpR>^yex{1?NU.kWIl*sh8bT0PO%FcAH*|Adb7p6~I,wCRl=(6(1'FNi$Zo8G6c&6O
_|'u&fkwq}tfNiXG%7QuERs({u%2tSWjB!cJV[caAj~.U2V]^p2U]Y}5R9O>?'N/{Mzt>?w+6)!9]'yDa6_zj|A,Ps}RN&/NK+Y$m,]=,CPA~EpBxh%xUg8KN6TF;Exf]lJ)f(kd2{dBR.:yd&1Iv#
0}zJ|eeJq7Mj<).MFnzSpunP|r[^1K.V1.1>AOcjM&0#BHfz=EEz4zo'~DzI9/23QA9>6Q.!P;cI^c[tBeU$afU>zB=:/;F;Nl!Xs_k&Dnl}/3]M*=ff6m#t5^srx_O?O3~u/X%,Sz,~UQU)%=P_$S
tRBd7WQL?$|Ku{&3>yCLC6Damibv8*9+t:!FN]A;B~F1.[O#<OJeWV8gqDx1Iv(>A4H0Y$}{F6Y~E<:cYxI/r7km^6*I#Q1+d_xu&:%n`)nf!13m|$3R3TgvySjpMv[NZve2~HcAoLTDF!g&~t(|&U
;ecSAb~LaK6|oSC+BO<:?!^C01k}?H'eDLhpCtl^ecrK!GTN*4e|UHM8id/pp;SoOw+fwG~+j!XfdED,%ay2_,0YHnh{dL`30ZsK2yo!aT[MH$!R92h^zJiPu(]AKs6W8T0c|{EiJ=juO%&3b&QwQo
ST)42qUdY9?;Mu0|$0/EsBHfot)oB%:.Yn}>dsNB6c_|Z;Y1_5idkL9D8>!/imkdC?tJ(sx7z]?iD>hwRi]E.SS[&O],y)..i7un5r9=yFK5)|z'lJZPW:O5ZLAT:zjev`]q;sFhhUq*2nW`UW*Qv=
0A4(Gd:*;m7D?FQmV=ukJY*R{toM#to|aiYu,ZlUy^_Y2(h9jm#=SdQC'7<z<E.^jl_!Df|3M)|=MhJK+bC2l]n2+u!Rj=C,j)zHfK1Btwu'/2Y)Z0'o3l/RH'1R5e}0*r.^N7H!E[U0DxUBF*iNl!
B/g`sRu%;D)Qhd?rh1~FTZ[+<2}>O7!&aL7t[(#m'p7W8YhRM[Mf7^/bRh9:k5}Hs>^8lIMYg9T|aqE#,I*99bg(_)O,B(c3RgS,c*b`4.<PGi8;w&++<qPLUzu>JhPZI8uT&+s_VppDHwsb;>'H1e
Rl2V*Q_}!_((/JSP|vz`W+NIo)mj[g!x~ENiP&w(PCv=?TV|8,$*fAbL=y93=Gp(3}CTEgBu[g~NeBR40d?JuC8Pxg%0LGdXYcu2jUZai`seXzpcPNicZs5&+ilWPK'Sk`$#j}[7Wb5I'n%=lfgPzS
|Kow<ub(g5,+9dbY0H|i/t5Y^e*Q&JXU%E/bG9VdPFy,ju2wvnh1}B1PVbu&UGusZ.%U1HH]q$4T?0#M8WhJcSOJ7>LQm{MB_Un%ecy)?.bd`X(SquEtkTxOiy^E~Yu?<mx,X$]^XPS_='6lvs&.,E
<']3ak.A4^^b~=.E5OVLT!c#*$guzKZ+'~TIEd?v0^&d%Eg9.T[_V,lVv*:zt[fys|F0']m/),X=*_LiiNE/m)n9kJq#X(#0{U`UW247Di,vm:Fg6#s|pxy^Ty6wJ*+i>xI~&Y|B!Rs8#oiq`w.iO'
$0GCT])$nakQkI^YIL_N$vpY#|1DgxGl^C`v;Q=YhQSw_y3t/:_p^~Vu|g6+h76+`x0<[xkV;FaqkSD5EAw=2r9o#dF|JBUXHhh=UvzZ=[$CW(Z]>HA;)HT~XWW8oqA_BSmF&<Yk*L]}FOFf41zQ$0
J3R>10;uJ)3|Q}L<~CZ}juwdM`w4+1mDiCM)36{z9AGprW~u)2_YoVM*<uEh,bVaLk<FMrXl0IZGY8=e~iTmA.e5?nSe7I<^:#.eb|q8X%CT.o96|B(1>^kBV,}VwL?6jx6RoY>}gv5Y,<~&mEL9rR
A/7c7S4G]B%IaV6ac9cCh[>xjl!Mgz,3yd+0;'V6G~kAav~JK#2cb[X*&YwTm8(f6,]CF4&j/Q3[_`!t2DTHw327OSS{o?/1eI4>xY{^`(PLS2|#[4c4)=c.)!wKF=^I8LT:3yUPKw%Vc6|:PZ'dN&
<rScE$[`ty|]Lj,h12B16'U_xx9FCfHGIIb+a6x<mZGUwenuc7m$KIwNmK</:h,R:mj+RMu7B(IFYB$UMA=FbB^|Ht'U[oCXjn;XUz.6nnkdbmy`<{CcVC>gk_kd;4/SiJL=T'l;ue>P#U<H?JoQUW
GXyDT_YcV+;EQNeP!o|bo*<V0T';URUA=|p}^r<;,q!*<q;,^gMrz)1qW1rf_C*VYIZ=LwC(vud1xd3R(#jGXRh?Xf:BuKVaL9{k,TQM#Yg0eFKs`N[?Cwe,0$QyE!4S<RM1F^4g[!(4&JyqvOWk.H
,iO?tAUT.|+{?3`Tgi7nMY=Q0/_]ll<W}Hae&Fi~2XV';Lphhl~MT7FA;YreKCa}>n6CQ2$k_Vw70%7:G^:pyA_5F|GA*MqBsqFmyOuFFVh`a97r81HZm1;mv_')9~p4t7+1>yTn~3:.k_Xz^z{EtQ
0OU)0ADcB6eGo`z^5`|ri3(C;uA:jNL$rmr*2`4PB`!hAT(nuG,m>/IqxRc|/?$DVsO&H~5)e_A96[rzNvTl2_kNWgaA,7K`rjwF~FjB2UY0lzU9>$hi4SNZlnOQD?]Yr(f*T6'HR8H4qucdj=*DC4
X(c0U_nM:b?Scb_(ICyyv+#mM:+>hMA7*GlmXpAA?},Ng/!uy50}2]uv_k[%szGC?JU+:4Rk:*W]lG;~Y|?.JT|;.+BNCBq/n1dv[l&Bn6.[eT_i!YSf,H.4y]^6CoK+XOwaCOdW0)CJlOoq>}=*3^
^h%zO[Xm/p0BmIBmAObQ:nS}5Jm#E+W,{cSRLY2!{A+.N$nV2L{VF,wwu;RfP<h<5;IY0nR^=~2:.|Ch#uN~HS(>W8EwX)&yrh=Pb]Bk^D|e4rF{V,i!{:)NG?YTWWfdp{H~Qa?dzB41D3b&kDO~O[
Yd6V7fotNTv<i1LZsk9p]?|=|}Mrv2Sf`J{1Cl]4CW?LNo|h':(+.PF#B.u+P4=R29~;|k=4m2R6?O6bDjgU2#N}n}aq!iPNq~d:1V.Zk6O.:X)V{Y>2P[XM=zTi/Zu>WSG7Bt)YtARYSscmk.8^j/
ANNL<3)Y:vWmxfva/5/C~Ao!A!K4[u9:dep#0D3`8yW'.O5ev*gIxW$#Ru66hanet~:Z_V?<qT+9Ky=6SWyT.1+z|MFZ+,=r_Qy.k`m/[PBCmn`F6gCPBrlZ}|m5Cuw`e|/H8_M~C!o!_PBJJ<$gyW
<Y)NV2aT~MI%Q5l?pC}:5;`m`0Myd.`gF;OPdp#qlEgrjRAqxigK}{,ATO`x7MxjB)LCW{q|0X+_i0{$'3V5qs'!g!&T/Eo}AhK|ilye<'5M9c}vl{]H{:on!Td,*~mKbVD`P[S}_l7'v>ce.(/lxN
z]XF*d%;:*c)9~TeDbxp9[u:r^gx:VnrC)rpkP<;:;eNQ[`Un%>89A0R3X*um#Z`zZ^Jq[:KqYq*SzR5F?fCB3<>9+Vdma?%B%Xo9Dxbn^b2blxf&!`m&GWzc~Im&+1'7&l.;%Us<1iy=u<9(pfIHb
`,`,xh6J4fUD7X^MZ!_Nu9hKB'Bu^Yb_Gz2Ff6s.UjU?1N^!e7a2YJ!ie>7ZJ{!!)yoekFjY`#zFLy)z&:~c$4~'DHqXY6l`>Z,OBZ;5bs}7K=bq}}RcSX%s?siNH6xPtt.FSyYfM#.V:/9(5zH>'3
6R:C#V?dMSWd.<IbYGW=x&^T3]7Cg:d'*pr'8kM]vuYa_T(l`9?+Ikb%YOtO`dzPEcEt0sC<d<XlbshFuOzG~&/3y*H0VyFHK.L(htX{;33onO*%E[v9ATVfH*~MK37ARh+]b,s9~0$h&SkdfqSh9R
<2|RfG8X<pqw&.ZS,n;Dz!9lpBtKyl1Z|MS|FT6ukU/qPKC.1Em0T{.FCZPQ+s=3kj?rtgawV}<_ddBqUy^]/]#e|s3PNH$0*6&2796vQC:MjVht']V.]3muwyX+.A!e25=(nT)N([r=w.^=vV)VkY
I|1)7tgiyiQd>QJOtp4A!:|#Fisp|PtdxvQXq`BDD1of)|}+`gJ(AGFH2!t8gZ4JsdKmV&%k.5Oh^5eI6R!3isaU^0r?QVY[NkgsPk9Ux}OIR+h[Fsw8?75?cP2,Du1jcrYDBL8%;4Iigac]2Pja$,
oOzt'tMUu/RI9vkDx&8<rvts=hQw+*g9EKsE~Jvx#]iB2A+:UBJ69+w&'A4x9sy//C9$0Q;J<#XP?{2PIK,*&E)*igMOn*T$eC.%{THlj2ffv+aP]&>^npfloq4jBi<`zL4__~1ER#K87Tm$njM=pf
^P0u`wEmf$Js(h}1vU%lXmxgaRUTPV'c)dg($Eo.q(^f^y1NioJ#MW<1k'$n[&G[?COn=I0w`X[~2]:.O1NoXU^G?!rK22ITXo5ScH}MI']3lJk+QtON&wA(M#Q6%$>2p>9s=]_cv/5]!e9^NHlMO$
PG|a]1ZbC4Aj6q`X?lYOmo6Q/C(t(cmdCv^RS>I~##VV_z..pi>~4dKn<'qxKY9n0)j.=:U6t}ZVtzbaUVStG)1Zr/l8D,Mwf:P3^hTqAW$_jUyB(=9M)d4{`+{`cqAIyUTCgbpQ)^>EXSR&C8pk%z
fA:6fK4MM6<63|SrU<)boIHLpG'~$;W|#`uP(hFfe90,.pxht{G3S6D^sizd~}os|hK!sRhw]0tfLqJh'$)P)zYUEDqQmB_/,4UXG_|VsvO>ex7^LH!09vB:OFc)B4(dB%7e^?$1~7cd^/YP&rW~2~
H0TKHUM<9htm'##xc)DV=6h}mZcEj{9j.X|{8Eab<;])n+x+jUgJ|$8I8fKH_A%T:;,+,9$>lm8&7QT!cyf5^x,&Pppac6T<,4!v,0}EI*}Vk4Ku*RtKeQw~A8/KXZTtY6m>LN8BV:w_.YA<o'.7y]
r+Stm[q$5>kvsBS7p1~35d&7:6'`a}^6z#'d:oE9AwN4~yAv<pJ0?wT6Rtm2duTFUUWwR!'4^_wDGF3sy%W+LzGv#hH}ouygkxzO]9~{MdQ/&TLa|!2:*z1AcuL$NzfUV|$ssR%x/GTZ6.Tna$M}GA
9nJM0so3T]vntqL^;[=z^_<>E]}~8}&xYeNgMFL>Sq;GPk)fI4,_TYa7Ptk86TzsB*[qd1;GL3wgQ2U9|%)2Q~9uM6.s[;JH/tNWPx7a|q[m/;`sEb$Q=i^2w/3.Y#S3g=N90=ww1&RG5e)8GFoCB6
Z.BwZRdrtErtElRx+?XUpxJ_No$m;,*(/$_+X{aOD.{~B5W<CW[$E>_JBn!x;I}ki*^Fc:'4)?GwM7stB}eL%y?<Rmu+7^%jM_Ew~}*S.j,GZ?U.s^AKFL+<lCKNatxEPSS+#jb#/3z$8~By|Pi%qy
M[Ip:dB2eU.yq.h4Q,W~3X.p#eMh6na{WpDB7wUAqdF`TMFF7Co3gEvEc#=.!*/_z/{!oO!M?jyj,}iFt,0h[V1g7>R2uF3rsbwcz{Kv9;K=CC_Nq9Kz9}s[j:$tmc,|!M`U=XUV8b2HIQ=ucM2bAC
=DWSTN*chGv6H:{~.D9gU5T9mMs2:/AyPNRqzVOX0:L3T8g*MiFRQ&]xG:`#&0VbNnZXcpS6pzN,lGrSVUF3o1.I6xD]iN~dO((Y4:^M/OSdw'Te9P_E/{g.fIX.d1J=VN!#0&OeoKlhkmZ.<N0^`|
ZbtzB7Fe&V]'X8k7cQNvOX|2Ywb^>TYZ_!0=wcD6pS2Z't%LQfy2w+yCf'>!W|{DQY~sb6{]qE;`WrVpgXr=)^yA0Qmec}`zRx0PI=aC]kDdhfe=|nZ:gF>1j*L,'?)DxpR`_:<v6Y*_9h3o1;a3/:
L1URt|XnSOkU)o(>aZC_B{crK>;]RB.6>$90^TqAI:9z>X`OtEy;02a5w&VGo%kS+<h!j9p=FE3cTPV%uf#C0T:W$DFhArnoCiN0__Wun='bYrAS6z1!G&q5ul8,|2p*##wF|j)a<z+B!?<75pwaM_
Qx2]UJo!<[gDB.1~A(Ko]QeVIfhn^g`X].R4!Z=qnaj+UgllH1,Gy}?*e2/XP5zyNn27oiy]li*K|O[p<PBgdStLR>`D<=c2b>rg>#?B'Vqul&{699KnK4YP~:&5hvU/R``4(.+9;+2z4:r#3Q$zZr
!#9kC7'ZOvBI|TPLSljcbU%~ZA>pn00|AWHv>9!J?Nn!]:h4]1Via]|}wSwkIxbdy;2X<7+c4ThYCc*vx36>4L$GVFgW|t.b,89Ex$4[tW_j0LvI[[`~zIaIdt5s*=E%|(][A.(>;i#Ldvmi1aAV)M
rV5MHTEJg=a(B,o0~wx>I#zF>Iy$<`U_JRrq.l[5&[4ymQBmG:mhq)!Gq<<x|h<j:~>xAeV_+)N<h8c~&s7GVve198h!gEK3c>+0D7AV+a^HNbQZ35vO{7SLf47;g43k+nq?Z!&L_rzVUx3F|b8YX7
|:QC;7r.fKL}r;8hiaq&DCl~4T._V}svJ>1%HUmQ:m8V2]cw/8ft!sFkC`~G;o|#oMR`]Oixy[8l/UNUiQgraeLzDkf*rny)1){lmLW=<MV,0%r5s{xXz+#{QeikVCui/o$:cwC5xv)B=?Awr5d/:E
2K5=,w!9mV!hR;#1|!OW_pc_C&OI!X*^4`pHcT:ft_|8L`CJo;#MMlM|Hir?=yQn9D$iy6.h('M%(tcKs3{sr3qJ3[$Byjybsqz=HOH*Ee!udDE)q:[=+f^+{xAr<uR9sZq|=<2'`BuZJJsDR5GXEt
Iu#B<eQ;6+1b#nkAGP+[EW2v&rsq[##JsJwEll*B.HY+U#!NgQFaFp^Gb)Z:N#mB:a'*;Sy,k2QtaUBpTV<tKNrRP(MEy].rTth5<!3u7oq|F+~ge4B,DoZSh>O;0##;&ElT%j~z|A?c>vk7HP1<B<
P4yG2:#D!<t:2uo*Uo`B`MR+s{5x/o5k2M`{^tRQHJ&QSo=2lW%N2sN+#N!V~$w6!Q6[pzPY[6^XykV+i'fadydHYqtl!cts]v>8Udc#/wT?_^2+)X0&NtEX9j&vz)FGY,mVhns0tI^**<|U.qn?j=
CmYVq{$:nBgF[*fe'sg2W.HKEhNcUO3([{sCdN?rFO5K^_!M!/2?0Fm{f1WDrA39PvmY:4nT{%nEPf(hSMN3Ee3X;+Xl9rqypa0)?4}?f4^N9u#+WWZ6JHCu*33br.*^]v)tV!P]O`bn!F1}A3Tx|g
8:P}KJ)X^&htAWX'[YZ^=Z3IVjWB?_j+{;I|?8(vt|a3_`a*L'u'=34DMhal,pn_S*HP%HJ*w/.8f+>#=QrA|enbKr<G<C;;h/Luk)ckVr,%?>u*5U](%Z/G4s25K08j,_ot5S~5.j]PTYui[^XWFX
laEO5HD;vK^)]'+[}:xGgdfMK<Pd8CV6jRz{)AEEu<BzCGU/jh{(xS0bSq}K?VTAJ}9/W=jC6Ar%59<4kX_UoFPGR4^&K[qTpIE?<AN0!E~oKa[v(1^8UsuyiMsu:m``NIE(}Q~27L*Lvfoqy=gr3s
*%+~[|::w!.dxqVZz}llsf},#)qq$yb'imMfRzYc.d!h|vbteXyOeZ[Km2rm+=<&cSnnr>O#1ucw]5E{y~dqOgxLlRb?xiGGj*3~Fsf0M6]E6G+8clKLI{#hi&$%bgBTNs0~d_iQBMI5WddfRnhO}f
O=YcSLKrB?_`g|(Z`!1HQHJ0V(VM#3T8rFYN7M9e!.n02q(9'}6M4[xk780SQ/(q8zg0tU|!Nod8:RVr_u0$n/#0mWeb[$_QhE_X:!1G:=)Q>Fx&s:>Z,wjh]$YKHHieq#0vv:xVr|H7dm?F0Kwm{<
]mnrJQ>:>XpqzLn?F*4Ub}0xiJ_omX~SkR{8WKSj]79bMITJ3:G{S]2L>|KxY+b/LiLha3nFw%4_J,EOa7D_YczdGZwDx?nT}W>NI)#TQtYy<}tR$t=,M.?:(>T<NRlG,;}dyD:1Aja&<14?[X#$*r
0h7Xj2M]knq'#y^diK``cLSE&HXU<Xl4[%(F?bOmjJH:|pSz`0%}X^W#5q4'F?Y+~`9sdHH`}<dPG;lshT#Ai'XLL>?bX^~8`#O2Res.QFVA{m&|K9Jv:#ozdZfSi!zUsb1`TW8nSjFFbVo/P:,2he
'MK?dd6JF%<ID~;27nE5O%>F_a,HRcy^#s,Kt&vM8Hd|1Oz(^NT/66?qno*oZm9{2#LlH]uLrDxB^#J{p$+{NJ.RzhMS*!_lH6E>~OF2uHEatV[xhI%9>V~vuge/zk5?Foa*Mq:w{3ml{x?H*g9%c'
0c4n&,a,xx^7sBxD#pfdpc]%$G=16tUj3}PjGOU,H4/4*G&t;!uVU%dB7sEye`6Ot%<ErT5ygQ(D*xtZtUo91;ZxWzYN{*hboNh82[>mD)c;vBjW2!I7epcy1qQy68NqFvvN_+jsM;|fdT`j$y3g8a
Q<+70E>[/~dfRX{$TOJ6~&kqcO}0TJ)K:!GM%Ujk(;Uc#1Ml^;)Rb1~dK8WM;3:lkQ)1xoG5Hfo[^]a^~6.Mz>41JnV4j$B9.%_y=l&$Cp^(;xSEybk{Ns;~r;e)03%*,7k[Z+Bt;^98qhphr&f>E!
`]|XL~XI+Ll]]uGwae^XtZcPa*?d]$KPq)o~9lExQpRJ6eB.Iv5<JR3IE7U,z,Hd1z.R1M{tvQ8_Vtt>HzA61q;fklkKsv8AA?p>2l&zN}|J=J4XT`qux:9F9h4En'0O]{(kV}x[tvjM+lSYYd7>BP
t%G42bExI'FS?8X5&S!(M)!fMh])_qjZF0`G'2H/y0gXfj,Bz~#TCorDSmY(r6uUpLivKYJ#mTa=<LDjY8md~Z`C_?R(`=r9K+GceLlsMq&8F/Y'6$[$&Dc+e=taU%eE>0ZpiVt53%N56Hui?e$LD0
].j'z)5n2<_G!W+b%WFr!}doVwYjM8Er18sko~[AZB_m_{g6U52Dh.kg2_kp08#XYt]<yz5N3L2a087eg<o=AF$|tH:+vvN*R'XUN2fw^FUM58o[{m~52$jvs?2=uMTl=V#,189:zAUp+:KhRRK!CS
S.sa*Kp}^sOoKQP/a/P&0NO7SNDn$T((F1f~EYu.'MGI5>d)j>('*Q'C)}'P%N4B[B>T_1G.aHh;[4~fvT0M/FNy^{:4e$rg}f23cg#Uz?eX9<b4p4w)z0NV.^./7Za'J+_/IoU?#|R;MI,s42>Sfx
']m+IB2+)~yV|_AxT!%Vb2BEx1*u*R3`JR1:cmtU5>/*^:LD9(qGUF1H%.)#7HLV$YA<+U:rip5WnFDCQZRMtw3atsVt`=Q>[`|p14?vG)Yh.n2kC+y)[Q=OR2b![*36W)9072cE[{A!X1`s&i}rmo
mpDrn2TAD^~s'b)PGu9sRr7Crj&`>0djb`Q`EHBbG=/?fSVr#)z/4,8[^K=PAv6%hn2^nCn5C`tPH=:L)sG]R5RF;RFd`n0{G*1^8RVLX9V`V^quXwDIx7,C'D$Rk<(DPm3VVtOXzGFR4KQ&[!%k^}
FYI/7Z4T8T.f>'qC%1pU{.s[?}LAT(1U%VNKwsbUK`)2>tyOS*Ve)alq.02AGk~#~?WYL{SJg?}b~68aw|1+,XFKy{^eVILBr8<qE{j}S%^c_KMYjHrL3(|w3]Q|8[|;9T#PUvWU&')M3ho8(!XNI*
AwrW;f/P'+OHs[$&_oX4Xc6~>516+X#?pOxRoES,Bg08)g11YVtjN#&Z]#vc._,rp],?Y3$:rhknOvX+D43Uv($cCD`vw3V5,U*.V^.|6T;`w+D!8b;lAuRXaJ`_[GZ%K+UhIUz.2ZZ:W{GCFZm$JB
Juoy!zg.'0>mqgOE7MCzyvQYm`m;X~`.?NlxJe29EJ.R|z.,<7o|&K0DYj?/jRLctOqQ]%8%62957`vaw]iUVKn2Yz<{!?O'`^4?k[+|*XTu&AV`:NNLxfD=v>c}aY/e+9BTvMvz3x3{3([UKiC)F]
/Cl{}1EW2zmq/LH1m%86)E[jUC)rcPmpo;~6|QLw_+CiXSOi*]CG49V%CZhd(&lw<)]Z|dZodtcCZ%HTa9Hg0Le9[oHKb'rsig&d<?zQeEhzbRgjk,e1ud?<ikMQF0O6f(vu(=[K&OZC(vc}EOZHM(
[.f8Gzu9t_(XsY%%m=C0uN3{bzZdFe*LO~h7oPO>&2>=J9aXuuq&LSd7YS:xDB7^TzM(KZu}45BE^d4Wofo564a<WAZ3kr~LK+pl[ULq!(7V8!TR<q+I?r^'&5'45TEJL}!P^%6Nih!m/SRBWra|*&
(mq8c|I*?#)_Es7:4pUo1D$a/w6z!7ET}4{PcH{H^S]`i^N.)[5b$%4n1jizxc#BL!iD`IqD|y>C=X1K=mE5K[!(UbTf[z+<j3*jL5WV+1DVhO>&~3}+[~K5|=x[P^Y)~g4obq6vXWwK9/Qvc4l[5^
Ev|Y$JkJeza6eczSR`FQY_y90U&Rx<rC1<4C[XpkA^O>byH}gQc?gilep]Yb{R4hXA;|Hg!(?+!?8qKC45<[<+#n`}8Jq*K4KAP44OA>1],$igj~&v|~'F&Nt7OGCAU'>XQrF&9Cn0gnAC3UGlATwY
nM`7(_L:biy!D8~_ouZX4IhZ>N>eO1h)(V]WHSCCVv,yny7rkIeH;Py[>8o3UTm^a^$>%/D&UjyjLo+`~#[.3glAWhcxzB)8873$0lKKj9D,*3cU_^Lt,,~oEYWg><_n!(#PFeQw;:BGdm'9wRuC$Y
Xdp8dRy?4eZCR.LhiZ&ZA&6FN([)+[pQA<bN{;p?v>hIrc|U^k2tEb`*8.[:%0xGhUO$8j4lp~s%Y?Zy%tak%.SVK<72[yppy+WD/eU}=_A%_Oo<Cnp=(k0AodpI?B[ao/lDWG2+06+BuF.=[_gSnq
AHMMd^OpQ{o~ISu4,&zK[Yo`[A6nC[]=5u0Bva+Vgj:oBf5l_D`k%MNzL$nkyHNdEM}qE<1}1X)vLEKa9yo?Kovt=ELTInX`iQuD>]Zjw7ACC/<K|SAxVuRp]OAAcg^eO=Sy;So:BY9^C6gc[A*F6J
#x'K?)3'wRNZ(v)b)|iNZNYdWrJRTH)(BX[u!sfSY/9C!mg2{x|21]Vp>BuG~S98Uth[O*x:g4r4QR|#_8MeG9'A~13W8}b[y~!]0)one)ZV`lKmD(X0<I5Z;>rVh0=R_/FxAFyl>3xjZ.4W,)/nX=
<s(N=}A{E.D4UB8,OqPLPnQ{=Q0B<4>fhMqQ/!UuF<0VM{CKETJBTB1B_Dj=.U>})W&#8hyQj#LJ|!{f/(~XA`Qh=y2hm,ubW^53XRNv85}HvL'I1(qi>rw*y(!l*,yI/MA*DXJ7.J&*36hnR5psmB
Ks|.mKAuls}(nNuI>nmM}g.gGYiC4v/pWlZ>cJD|vZ0gQd`Gn:wq`zaboq;T*<;KIHq_#R+nks`U&3)Yhl1^XQ__WgOZhlW=Xt3,i&tYC;UA|#0QLTbI~f6UCB4m25Pu}n&_)2VoIAY#R)BEtb+Z=c
GMh6JlyTNNTA`sSP?G9mSi+E/glR#j:rDfb_Wh+RS)}Gtl*x_N3d0jl&OMqKr}EMli0d4Wk0i<|9]]rGAg#`Rom,o!('3Qfvl5p_8q6Vka5<Yj{(H0yli<k/z?bB$4`O.vhIs<3U|'$S9}MG;p|6pL
w)447{DAe.Bqrfgn#Ne?BE|+iiW^*_D;NFb>WR]Wu%[T{JX]/YiZfI|x.GVo~NT|%`&?SrSd2cuweY'H&YpQ4zy*e>.?qe.&Qq:,Uj;I3`[5o{~9>.I=^pCfyn+t9u^$|Lj?likO^dL:uSJq4I!q'4
V2HHWp~*%b?[LOJ+FCz`Vmcgk/(6VZ2xPQuH(1WDN4EJ.N*%6GdENFvrF|%8JH[r`yL>.Aio,+[HE>X4k'UvS7IKD1o,ZC*I}TjkWN{!$CG]eh)Byafy2|GWEdpN5Na)`sJ`41v:Yri8)x/qLzCGLM
oN=_xM0e/|mM%~U!uz{jlo%T5.yNGU40,8kZD]%Arq2TwaaEWyST)I,;x[,Q|3y:.hkRjF?<YnRkc<Etxso;Lsc<Cb%/=Qs]GI%=b2;qBy_4op$tW#=pN~{?4F0/4X]QV*1Ord7Q+,>m(;LHT4&5`b
%+>z:VHu;}FYzIz]OrLoC/sj:l'^_+:l^2CTz~a0)YjcmS7G?NxyI(b/!jej!^$46I1F?xvG(/tzd`q[13LfDI.OIHp:ktFX!teV:U|%u?ug[*l#Wm?Xk^hb[nX3B:8fX&|6)+0rUU?O.$kdqRlGHB
'7>b.V>i5lrnl^tBLPpoM/U4vcVPW0rkoxN6QGfI^OiQ=k`pUvF`hE/bkl<1rn%FFtZL7pX<EZr3^z9?AHRH+c69Qc*sPGM9*nmFFi*T?8:nN$6p>$*+)zm9mkX08CJSXR!k|>V#c$[H$>4{3ew<vi
tTE;KL|Ev]!a;6<e7af0nxB.X0fB}<F7PziKLGVA&&vgnh4X%hYP=*4TsRW_o3~90I_ZdQk4gfe1Z,89V4P?FduXAo#sWJ`6'k{)gxWNGR6r0^J=VJ(F/p)tjg9P*BL%4|],Dk]d(~YjB%5DNR/`NC
Je+b)z!8qW'dyhWIb+7=+CtI:/c7Qbqa5KIKS#'6)P<t{N7=i[8L(gNibS9Ru7W'aKCgWz=:+PAed.Bd$]n=Jn_#iD25nw&q>&~anc4k7g3}f:)}l$L#sQfDuUj+R,BmhW:C+ru7VCB&z$n)svwtIC
N[s'0:{,BVl8Pvx[%*ad92||]x8Q9GdZTOI9BaB)AmB~8BFG#ZU0P()HqN^ZCyl*TQ,m_`p}D.&gXfFvK#mMNa4R&q$LX`t~mA!(qg0W':%K+={q+.4xthK#LU7=7Kdk(=BL*>#l{5`ro$)x)5R{WE
IJ(,f=~wYrp.ao'o85'2mjJGc$Z2kTy49on=*Q%6HHsR<[I<e+cLp`JHp^8Hq}0Jm4{t.AT=6{Yedp6`F7(UOIKhrG1[cc4wn8R`L]eA5#c8.!6tVaF*5I?VQVVBv'H;+m^U}mBTZyhJ#bepHVwuB1
l$Oqc/F&frfjKP<FB|y5mvrsJW}t8}ay~C{&$_!Z(r7EZh28c)t98q#j[fs#]Qt?;WT9OJEM6t^yZ2PK%00`;(/)n~v.hwK}%Ku&rwq*},+]rd~~|&kV`5.#4:R'[G:~zL*k{bMo|'V&;P~gvzOvel
XJ_.<{n#7?o}G.?&mJtk^R+h.Eud</9f]H<^Ki+]l]>^)b1&)k+Hix{*md,#B=MPn4ARJXwgcXn(F}`f{D)p:ZWP+kAK*7#fzjE][^+oB}u{d1uOO7YK<;ZC(#!tJEa|[GGMGk=1:Kvh%u5fI6>z+W
=OxWPpaFiwIXk8'WTg~A#H.#*e#eh;~W=|snONJFzF4N,_b?EM{*rcY*LgGIarwk](.'dh2URplgpUUR]p/F_^v7`3+kZY.]02{fm/I]Yf)AE`:`(sKUBCZv5`6Q/V<|tuFl%1x[%yc.oGa;=RDoH*
r/Z?k~33L>v7sEyh#qe5*[ty{,2:{nI$o7I<Z&#tTep~707<D5!Y8x)jz/ti<y+tz/Mcpw0MSlx5.aR:k,Zr?_4qVaF1uNxBMpkYn8N?+.Fq<8=2_Y3/CoCF=l^g8rsU}]FoL4QK)RyCkh<o)PWq'L
rHvu)vVcz4zKpShyc0ty=1Z`gla02#g*ZQu}%QF.D>0`Gs;!:o^8[S?BVhQrS'(sDujex/+i1vufG7AJ,;`m;13P#ykF=pK#cx7$^eSoT|VbPQk<{',Dekm7{;><)5/mq<a2T>SUB1G}:];#,2bcG:
Qj}*l;)BI(Jb_aZaB!%TRZ(_>/'5I|COAR4fbi(dO6uHt5#:!TFdwGRZtcn0xgm3U%;8Ot=G+L`4k~/*(%6&29A1k}}8!bPRZ&.!&*4^Lzh:eeC5gSJrBZ[{<~'(d7WZUtzfx<D7=2Gv92L1Y/V!KS
j{Y&kLJ91!Z>;tFU`8[&`#zj4p`ca6Z7!tQ?$O5~9ZJ#kD/E/Y]nfVLk%A0KAwI59T1}LGBe5=J/2OO(BZ;RL)G/^$Yy$c0EJ{s`S,By(m){Sk>1DWx,oSpo#/+(H..5,e&{OIkQ'5Fr(qn&b,7Nr^
%kO5k0:z>IrmO[UUZlt;P7ey4gYul01wqPVjQ?Id>1Y2JQjYqh.D9e7gWU<!toNAj{xCyad2Qpxc(h9'>kS9jHH7%(VUaqw^fm=1*W')C3RaeiFee'ocK*Jmg,{UzjRgug/u~3lh|C1^dp|.S~?)YH
EmkU.Y8g.340/,csN#%E,,B=Rj4XhIJFv0kd[4GaH(+RtztG+}j6c{fh:cU8w[YQLDBCLEEEFB%[wR'R5,Odq9.Eb$?*`HLdXx({fX(7S1oug?]=xh][*B8vR$>n%B.2uPB6[RPEvG1hS/gD75N{LQ
`us}hOiNE}yhK?gs$.uB[$rb}N_wQdwn|2ZwcAAIG7=FQ5)e29ki8LQv]k|11CT_>I}]&MQ7uB)>#QsvcFGrA:_&=9}%f>8njrQ%|&tBnFGJIO{mzKVTk=2AYwk_*|Y<g+yf0%^oN|`!/8`OtvkwTp
1|+UF=eyZ='Ne)n3VgA7B?PxEFCI~)s!WYr<hYYYSoicZ[J=vwIkcF=b<o0Y&,xm17nO}>|R_sJB?KFyd.VFrSLRbwxPV7d2b!PKFPyHWm!Klj^G4'ZCK+UOtI<^s*z;FUVwYCe;{lYFO=BGyAxc<%
TUtIUv8y[PM5SKW^(n~.ki)#p51%UP.UP`+l?}/L;3_1kvVM}Nq,t3DgW'+VC{}m2uD)`^$qQcOaT>[[miDO$NJcMty7)sM]UR({bRTs+j/*%ZG%q}hBYgKiLf^pe5THKcMxNxzvDlKn{thm4M'2R*
F$eT//`LV3Yu1[ZBZuCQ0$seDs+zd#<MDA)YG7+]r)aYQa+iV~Cc1}^GH(!=ie?1[R^]F:uv;*Ez7aDrzDGfon6+iU~{D9=$31U5)<(n)!h2i(!.GJ6Kh~UV}#xi)|&*mp1c}t5_lZ9(YE(SZnwWHK
1%[Wh0SmJl?P`4FR8t)[MT_|v<DDMx_0R8FFT6M3}%jJr~&BJ}c)<,''EbF0Z0V4vH$1p^tR5no;;J<,oX)M5o/.O+qpMqVIJfPbL4AgRz^wP2;&zT,p}w%8<xm_E$J3.Qz|5dIIQ&h/>Yc:lG5#=k
F:o2lsEE<mGKON)<]Uw9ykR+NuV><f,Y;5myFo<?A]PK4}(hhHG;#a;nNU8]O*30GHT|Nvygz')8L|!|Y}kA61oVfUB8<v{8Nthzoc7r^|<u/I#j>P%cQdl9kX7CP|H/[o>_/VE8mRF?RYST#LtL&d
.3INW)T,HbnVbw)|mw(tQklZFhE[BL}UKD$$f}?76nm5:?9Bc$8YlAz~jIeF;!7bQe41%Ehs[u),Jxz&Iu7P.F4[9lYZO?bJdaFJVX}1?9e.L]%sQ]on+E`LMBYt$0X5TbMx]RADI3d|uF|LW5x5Lu
a^F8HjRQsR24Y*KA;e/%Z}=^=i^QI#Vk$uok?MehHFo}Y)}&6P]M_3:,/%y|,oe9.Qcrkgf6QzL5_P`%vMEtCNq$]/;!fb)Ef|)U9%OTer4P$MkjjxXWLu!XNrdS6h;GD,MONv>}|}NU5,TK]Q}<SS
Bu)'b#1rpeIXM3,JKU>eY+L<G:yoN>2Z[McX~J~Th[+_X,K'eaQm.pjI$HtmOV2R{&pW$ClM'rH9[?#FOai0(UO+({5Sx]tDRqV|9+(`?w[3eS4,>WW3oy0h,ueC#f,kBGdkj*l1_rNm.koT<Mw*Gp
yK)Sp<E><.iknTBwPb9U9HHs'S0ms8:T%[vE>IVEc1/xvoc<.~3t,|Z=.[[0Q,]_L0*2._*`I>3WPhG8Q2R6mEtc['F38ZQDnR8k}6&h}/rL/&NR1JH6>umHoLB+Ef8^yKr,b{wD.Zo/=>h?M}N'm{
z2~?LCn#^Mt0=7`*r)=d!UY<%Z*h.}`:9kx_[W&PM6+:D8yU%?Q779xtwVp(vsnW(A{AcoK>o>pEc7gCPD:fy]v%b`>'W?bzO0b|2}$!kB&d0g#rk.a{TNqBp7e7NOr;T>ciY_CB)wPL*.6dw%Hw,8
Xw&3Ce%0+R8S;M0?78|]<3ED1`4<XnVm#cz75_YIZ<[TUtRZHaE~*6h6$rt?s%z]fL/+t/A3*?oV)yhd:wO65OjN}:t&B`ny0Xni/HXPwNV>C//;WoM[Y/J<ED=S0dnr:]WyIr|1:^)ma's[=GLQkl
%R8UnCqoTr<Gq98C$7l]8/n,1Q}ZK1=k3?Rh`2|iQl/J>DBqZM+}4^,QvTSmJ$1;:T:}[W'01Btc0kLdLCvq2qgNicc~J)u2Ok]k6I9?&lE_;go}J*L&Srrk7W>QEzSB%:nM3U6oqRT~>X0~dZ.X+A
OI1IeX2I0anrKQXrnS{GZIiz%bQSrlo>z#7JQ.JrLv`2bjWUVx:7a1ddkL'J=E43ciSnP>kOI^_P[O73Y[0.0'xYhaAb^.4AY0SD&<U[gh`NK>W2i4h:({.+Oe%D)u6jI7K2LFS_^o!#>r<XK3Zhz_
+|.tD{;5#dW%X?hSrnShe%z,#LBy9f%4f4vnwFj!)a3uS&Su(qj,*r>c]ao!kA|Go9UW<3vq}7TRv=;|>$wS^ZHzddNRz>X=:wm;cRP93MEW*)f1wq.8XE;}KEP.nIa*,PZLKY%gS!4/=#<`ERS>SH
;R[^T&/19^`OCA&&Y'uYPkb9=%sZUFAA({i6S202W,5pieS+CGc9O+.'1jj{b`io?5i'7G1+eMp?bK9Whk?=i6pZC,7f7s:y0(=SWJ)=|7wkyiU|Y|z`TURb$T^{|y2XP_c_CcQTs;#>6i:JJBpO2j
CIWMkhgi;TruGj=Xizs<PfATPFjbk01|I/a+o'$%lg2B.F5v>N#F}t#.x(50j:ne[:9*hA|fx9YHZv&7eo(fAjA=[ep;VEUH7Ql]Nnb0P`hvF$xcO<*L6o?gBt0:|L&:!?BJ?$?1.QJ#Zyqk#rYFJH
)siuic7<U1e9,q]h%E`7*%k]+/VD7O#{CZNQf,0SJ~EZr)3Y.uF)EmWvAnwF_1]qx.3EBqQ7+F;kyp4)g8UK)SGTTT?u>}Nw{vk,JL^Mv6:<`6[TH1E%x*]8rfLQ$gctQ`c|tAbq/D|=P8&Nr?['Wl
M%+1/oa2CG6_r$#D|rxo64M?aQ)=.4Zk!vd^36q3q!fmQiW.))ePS/!TbwBoJK3c'41+5/#,~e_.K[x](LC6Vsu5ldT2M?MQ1.kT6W}_]7/O$}BU*]$NQg;.;gj.sV#Xp:xgh<<,.[6b!Y121raUTP
aFx|Lt*a?HiN&pa`_^E$el8#BhiTzpU!`ov#;wX#pTVn|e2[.d>bkWKnPMuq%p>uCMd0bYb#QEp8(]gzf7l?<{YmUBTNUap3vX|Jy'{lr?jInguW'k6k2>osqPmGyAlhNvmd*LcUbSb),tbgNNWyhN
vQVJOh/BQjukQ`3tkRyjmsWV*)HXpqd8=`DM5D5QNFt#8{1MAre.)WMsy.1n0U;A`y4O4WGar1Wg'C1d;j]IrkBTXCWgv,R~b$1FZyrJEwo18^nl$gw.Mi6qMFZ<.s.6rn*oXqGx]Ws..p36=(uB:W
%bq;W;}ar1d6B$c|sTtjy&[qJwoCb5YK+m3Fu#Lx>BZ<DhAI^j7g,n,m=8&rYptqc66>Op^/%7hF+xwde)6I0Ve4K|vp.0YO0xxhJXrX(vR_o]H(fMY'>bz(a2}FmgZp^ZSk%21Sa/CCY8h8GnHtK)
2O%PFGIK&%i%#pr`gKa=(;v4H~=!_c&,qfY2M]72:/,KPhnv+4Z`Xi+3s99)+_;?E5,l.w6y`o}:'A=fDi{u&^*v#hL;{<gRsjsU:NyJ'9g4|%PPhez%j6vXSDrTvU`Fg*C'nxg'>CR(uBqhd4o[A|
6CTTP[>t:0dSN<_|3(sX#?[o.qsJw/Wq<,sE^.H+)`=1gORiHvLd!p(mc&O/v3lBHd|C<oK(/C^5#b&xj4|,x?6!eeBS]M:08Px;(/n}N,=!fGd#=:Z|+c+1MkE&bxPfE&xw%>I3`m'c_/qW>#&Bz.
Zto.W+`/,95^4eb%PRYM73PE;TW:QLS:b8g,RdFM*J0q*/'68Qarp4aGeE!Sf9_F.MNH^lGZiogs)!z7f/<Z'sro|$s9N{2S9qeOf.woK6F|h!Z|>HKbU,pv<d]v[=vVYwMp^d$UY$[UhagB8UcXqv
b3j?IKBl*mO),bL,?F_7!d*'Wc}'#|~U/Z3Mg`(N'[|u|0jZ<mHyR$_TrnQc=HRw[X1c0p!s|[I_1/werZ{K6(dI&:v/M2>j1_bHJ'4h(]2%id1A`Nc'lE`YX&O$HbOC[G[I{MWGh!t:.nF9YR{C,>
4FBPNJ[p3)<B=Efs:1lb4Dz*<;8)R|}tXC1[YVO/jMx0=!_rvHWuab6Ka]m|(}pN[tw4A^*#ZWB~T|OE:XbYy!mw?;P]gts$`*[=EQT,_ZD63^tp(g1hz*cO+sner!c#jh9~cY~~iK2I[eFz.BYQWt
sQ0qRrW~#vGMfZz%k?x>4I`(D%#3'dvL0|uv9O'^$T~B{h[UgrV$'zWqABKN0hyi%D8#D(y$(&7'|*O}BB6e0,m*pa*5aDt/K{Ujs&l9}j^WI*5GYizrH]HhcI<)c[18KbA6sm!SE!<j'sN?'7E'iS
RlLpR1ezJ=7,&vDzs:9C$3Pw|?[uGnFp_4{]<?QK3(jrd^!oTo20*?wiBxT?&4%]qOoMV#.w#%W2TO{Jo$LeA$=M}4q#'*wohDZ2I5c,T^lS#+JYdf]Vrd$QGVaDp[!b>_LWN__%$NXkB#z%;1K`S*
ypu*kg0M[uPWOpwk^taWwb&|yHmHl](4{t|W$eDcMNLd]8.Si#s`Y<u!A%{{z)lBit.:b1c]Ss0O[$dF$TeCVJ/?GO'(Q+rM:yB_Ut<:=5TBOstFyX?.f`7G|wATv]tW&HbJM=QULU(E)61E`O+t'8
HY74a_!TIjl2M)o%KjM]N0Fc|1]]=vTBpyK;ukk&red2rk*A0Zp$emVl1wUzTPv9Qwl]c:SCP`s3TkI;1>&^s7bUoWljYbPy>nfx2%J<<zLWYQ+vl19[`m`FZ6:Nl/_J19IX33r3~'M>zN/g<0O?kl
+nQp=,YB<qohEDfKhGhPwu*fDn+BEql%,sS,57TmQAqRfLW!olXJ?uBYY|siPnrG^^^4+Q0'1+El|zj,k<Y'1T4bo_HiBNkC5:GwI{!WEl#ntknqmtp0|0<L#rAc(X[LtC^&~jbv/Ln*Zi9wk_x:1~
Ab(%ahzrh`w9HAB{^s$!y7,t(EDxkBXZe2fc!!I[|)QA3wZDHOZU4kM!4|[impA+{mdTr~^,UsS53EG&a<D>ydP{|jtNs'E7UK}W'G/!I$uc9,q0|_P)b#4]n|#W}'a#D2ViFlJw$7p**Zr^Wk?U!g
)g0=NUBCPFAW/+^_29}/n;Rni^_:RcZob~Gyf2FSEw+nMWZa{!o`?.[C_]EYATMYveAkZzRH7`)QH)Ulc}6.K++azOPEB*#0sGQ{9kX/>S$dRuQL1H>Gg}LBUy4%w]LA:gs+<sY)4K>#AJm(?Mg;Cl
do}ZCI?!uKf/evA&((XDz)kk#*q2D>0'7#qbDU1ZpPt/H(7l*u,]Rz8$sTWIxa6rlX*.;xBa&.(/U&b2pAA8eCMa&Hrz7%UImfOg{/<~d$i>mY}>>2lEE4bM${itZs~xrQEzEuJDRQ5qDU~a`5lY8y
1E9%km8`.ZUnJbJn|/+(GZ9YinJhnjYNN(G#~dy=5T^H,fCfzs<oSr<l[wF4,QKV2Nfm:Y`2csR?Drzkgu1?f6$`iy4EVGd5U+:<0o`z1VBfTE5K7d1J>>m~^*u_`~0R_sl_a!R&x.gFk0_SsW}2u7
i8V*VABQdz`C34wU6.uu;*W(Uh]i%}eoT[1Vw,_p]?ODPu!1ha5k'W:s&aQB;DG3Ai}0jw|nw`ni_Gnw'`5o&8Ja;xAR87J=W.#whHV^Ef0~`?/$n!zkD~i9y0*Td4rX9eS[d,1jT`SRfZZRuyDm!A
>v>EU3|)7e?Q4|ZOC3sw*NA[x.X4`9SLV7{r87=Lm!!6AIW9AozD&.axx72:EKIf;<U1R=UkR]}H,D)/D7zJ3eoSqq&;j[s?R9`SIia:54]dG}2Y2PN~3e>1ioB8(op;|x!18V9Uu5eFMOMNQ$K,K<
1eiF%vt:/0kqK%e)ZE;z=t_=[yP&qd8xC8eO)VO<_XSHOJ=$CMeg{G_MXpE$'bST}l/A:AXP(hr)pHx6j4k+>~)PCC~F_0I35Bv_#eD*:FA&vKr7A%`TdJBrrZ`j|t%,,2;enpIRfPgA[+x#L~2vh*
jpu5?ooBjVpxBSsy6louu{fmK~exw&(36Uh(7~Qs9CH]dafr=5DBSzWdal`jX_[uG1p2[sKx{JLz+NQFc%pwW2nZasy/0<4aD2=bGxFe]H/L:=~5.rBtRT8cLbML^i(&}U2LgjAmg.%WBk5}UV_iDp
s3L|[Al|^p%Qr(AP|2ZrYz7;FSZLp,V6x/f`9!l;IM&tP{LGslt#Pgnl0I56w%%iyg>ZTn)^N:,i:iD4;Y)Sq]>Cn9zZP0IpB{>/j6sUHMipLuYA8Mam9uLWA`!XO'5FgOeg]5A}HI}])j;;M=K!.r
3zhnp.Zy4QchIsFVH8cEhrL!enlRkfQv&ocT1n7l`~,EKl3SO8dm7#C;3fMbHBM)p|qKHB<_kJmhMa%TU?B!DQw2J(VUDVI9|pp4z#XWzo1~)w;L`B+o6!o24y]DVY<bPI87B/=WPs5!`t)[u%V|7c
?m9US=KC%LmtV41|Nr=4JvkC6#RD(RxeycU4)ynDp*mKpoLuVrX:~d6b=aTBc?fe,6}iE^R7'LK_xc.T7d8*ZX2Gk~'RB^:D9Xa^{SQ+GL;{CK5YKd!r<S}^4#pdFx38d6UO'+`uSOo(I)f%Q4Qbs_
*/;w2Y{K3_)Y1enPSOfiJqZ_2_v[3ry)F_t4Q*2ll&0S|{#Ak`J&{gN5Fty3_'),E;K&pGJ_:Cn7PX<[}ft,F+k]UJG(6p?wiYUk[kP3fT)]dW2G_h</XfvOL2xSk#ItuOEm/~3}K0*gQ2A!7I:be&
l/f5yNC|z134bWQX9o%(tXhIM':CM,l$|1ZC1}N2/R:r%Duey1#bUYhb#nPzBCB3X</_B{dx^~WQz3K7=7'yJWTzRCZ+}+.tJ#||.C(bO<Dwi`_0uUJg|z<v'l,8Eg+*^1bo;'QN.#1?},JoXV:iFU
iz>eyan,0j5mli{>j8Zt6VB+wQfvc|mZwV(Z'JV^l{ISPTo9n`HMzK07{+>wfRkN?<'Nk;j/]KmmknXPf/g]DOs0^1P=B5^;4`(C2LNnjj'zvgra4_J^9;v2xK~`28lcbuEi&+D3O.OUWCptJf<?V!
~i)l2*|iNRN9,f?ct8^A1*FusxDEn<:]*#m0f#6j]K`}UtSLdwX&|iC$9.M(5Wa(lel?CsGcspR/<{.VcCsX|]trbS?%?p69boVH*tf=14O0gUfAn||u=nD#ENYi[p^q2#+!<uX^Wzu94}_$|=`d&R
x3$V&y}}:]z4ruA8LCSvsclhAA}WcdlwnG#IPi.xQdKsJ#i'f9][~IWBe]?2,iKEbvo}8+K)6qDA5A`uyO]=;`0P:`=EEUB1N}kLzomL#u.D<,vM.b?PuA4Ah}/_qkn%G6h|u&hL4e1UUQ^=l=Uz6.
g_IKTx>!&o9Vh8n>g{FQ]yze;V21~.G=XuO<Rj&zCEas1jK`;~O'}Wlq*AwG$HaZYKdl<K#E'xR%H]piI/+s+x7~~&.Mc*^HnT[&'M1Ph^s+'Dq#YDuTme!gh}]!8?ee`sII8)>85`w/9;]_HO5hjX
<_kJ/x6*6V2y_Yc4ZNay4'0hUZvmd[Muu2RNwp3.wKN6qK0B&nU~xSTZ_V,sY]yBT`P6Oz##(%Qi^ZLa)|iD4]z?=!Wh!~7N<jAiFK:(S{>0I|'9/,,$`#$xN0iqEJpij1khry+;,oRwBlmd8>#{63
/igLLS)1?O7V1}&NmFQD~ize|5jqWJj~u#7_Zt^jDJVgXy'/PZm9{^vo|a:w~:a2UM]K'Zr(WO0j;^[>4:+[s$^A#~:f/};XV%]3gg:3S]Rj>L,e18I02PH#o1~:FneyI][[8ns+gmA$%J!t;wyN+S
?6/,p!<({$K*9>5P4[/C^KEuJ0Fr&VE.Qvm:rNOs|?Zck#8*y8S6F!JoWOl|samM22XsnDYNQh^>V8ThVZbzy1xs$~z?gTn(pQ2{gANglzN[XNE_E}0gi$'9Q]`lzQR1?[OwJTUAJSOIobw/oN]o`L
U3nLdf.k:Qp<R'Y&B;ACU:rqSE;hbfZcr'gAS8$.ZT^hETpOJ]ITJI7V3>u~iUiW'o|Cfcd]Z%#s~Xu<1_9VS|WA(+<&KkHfcjW8_}d^<6`4%&P[}~f,s':Z!2;wW2Ax_GmHgJkfNT1VtbGnr(q/A.
g~6?usJ2pT!^/]_1.6^~+sDXcY?.52S,kE33+p57^[h?6>,}G5blFbX=Jfsr,Oim5#cWZ?,arW*cWmkM$4m#*D+|J#fN`$Mw0j9PUHOUM1.DvT+7T/3<n!W]JBm9PCxV}*rL]6`#_8*H+O#G;?wi#|
G>+4t)TNM7Q6'aOF~i1GjN!!5RJ/A=&~i?EYe0k_Ct0?/|X}sBh7e>#XfB~::A4G,w*4'8GAs`)A^|Bp}o&8GiSF:'o95X`ewq~g1th9$`Z/|,vOu2jaFmC]x;t<jZD)*=t{B%*8XH8T0KM.znGP.q
|G<B/R`NuCC>#W+^(9)s8tC>lc>!!St}tfcU:4]'n_t39<[8N?9Dvd)8!_dTl[2V8qw~PucG3FJkO2E+%,6;gA5'{hOq6&vhm4f{ouS9zf#D*V2C*u~1(_X`9hZxY'cwR!Ob&c(%F+{`jR3+VveQ2V
)0,&$6!'l[%{]bV40aSgBrN$J/`$JJJmU:~KOxEn:Z6wIY,y?w?Ch_zEg[|D(dk!_tI=0i&V%;q>VAH[a$+J_.L(fTv=`%A.x`3SJ_p!MNk/`'ekG.(LL%M::~ET1I8riAbi=M]i'%=P=~X(R~#<l5
<K*JYSv~3f):CJkx[fzyiA/YY<rK<[svg/f)h_swP70_Uedr#7Opd1|)JPr?d92opN_lmTLj04Y_y=A}[VliO2'Z#Sp3nc]'}DX9Oe!VGHA,F2+:F{XW+PPSBpSm&,'qQL6Nfcn8g,4hqseG4T{bE1
6l[wv`I=jVIt`o0kbSx|V7::Gr;v}m?8M#EH2z<=h+?'5SZm=7gLinr>$9]qgN,k!L7DW8y1vYLmbM]t,Y#ldN+V)ev~QOs:#6Bkl(5+h%egx6KJtv!>u}[LPKW(n/5os]<k|^q_1J$?XkDt&Vsk}C
$[9]1oGF&Kac{_xCqLHt8bx`J2z$0z6[Ak.%D0?8bsqu2OWnv|3)=L:'JJDPFva,|*#78UhiMgf+R|OM'qso!vnak,u%[`Mh$Sz=O_$=*IJjVw,7_8I1IY{+Gk+.A1OJ|!Z}edu1:)6o:g|&:ofj_r
M>]VPVXcL51g$n]tP(u}2Y,{+j*9_cQralrHFbxGQAf%WbTwy0%=KdULN+tL$/O7=vLpha(%aQY43?')ujN>a:?j|y(ItSXM)7~zrLzdYU$^n]Y1&u~ItGWr_XA'|L9g$9BkR_k3N8&TTw8]wjsXQa
9jnaF,335+B=BV]p^S=AdB5C9m|qmrzH>E03B2g,OQ3#=^~iXs[AJ%v61#/QASknOcmtmJxK}.:Pmg3K>(IBh{`;GM+x<|xkFdW0Z6)(6y.p{95#AS2gv<E5Cf?jXP&0h;0]9Vq!3#`w.`6[fbgV|0
pAiEbn3;SC8F1EL[27!`|j.5Ap_c$EVan9O%atfKQr'9zPFQ<~jxr*z>q(IP}^j`>hlIMMWgpjK={/5eCg4{{$K`GTNH)1d*;(gItP.|3fN07YD9V.zq!o`kB,ILa&}BY'}jI7`v$*4&65bV|kNY0`
#Mwih|Tv2p,k>WjLZ#(Q<IYd+Afd9QPX!~,:PX/q0JgT0Tv#cm?|U?:f,'YheBP,N]dz+$YSbJ_x1L!4LB6?A,Ak'+*cucfkA;N&y:P)=)/cHk'Hu>W7YwqQXt*Mfe_h/9]z.<MehDXI%IJ,dyro.Y
v(Jh&:`N}]1BKFm5lPB%1dDEh_53#44W1gNwbX<i#d;>KJ[R(9Ajeo4Ba*{jQHZn17OatM[w|I:lrU{{]+'lEv`%:y!usA)N5Agj;D66Z#FN2;A'1d[&:H#~_cEN,Qf#erfG4VH[c&D]0$`5]aL3K7
&?HdX=O&/jYt}KBqj0(DWDgW_Y:5[}ryU%&V;rfq^^1):5mHiv9S_:I'FZby9gugF:t/N'61>~;n{f<[D#lLQJTi'^^6^AD!((F_lDmh6{oC&cKyR'xswN`&/wtlrRzj7cl[M:/o4KTwcE>vhZhz(f
~Udix9W/'[[w];r7{;^2nQ;~mv(SuvrS?+YUbK?tZV;jaWvPj&0(g9<l`(y}n6K4reIL7RDDA0xUC8SoY):jPwaalU'ozZl*9]m.5$,oZaKNXKF?#v`(75t4!)3]S3Z2f#]u`wL,PpEg;ZXs({t0n#
<tVb&L:LZRk2#8p))m%jyCMLxvb2z#|80wYA>AeLz;KGKCT%9O?wJteBsWwEvPu.3WFT=SkvVgJp$vb#M'g~mO&.iLK(L?skTG:P&=Q~Ty+ssH&W$//u#ohf[G36v_*[1i&d,NM;#39XO7={]EQ*zo
Oahv5`$=zdx7f]QDB4H^BE:d`|*a;LV1JB9hB74yWNG(scY3^Y$=X|cEJ0q6fkj{CrCwq,qC7g2J`LabEj4qy{+bx?h,){))5S[Il>{A|)e^'hFw:Fla6|>UzwzfcnCE5~'Zn|+s5$JKL|],L>?[bQ
Mh/8swk60}ga&U>bPc0ad~IM1L(w~S#te2I44x=wj`Q%fN1)?wQWPw9&m,.)76lbm>XKw7p^Sg(Y6I/K1qj:Kt>:QQ+P$lU~[~J/W8};N(_[L/~mHfv}#vdpY.WV;c8l'?sBxOS}3s`Log*a##OtkU
uQb1_Q1op]'co9UQ_]A6IndLyK[pqlM~g}b.V4WCi0xOfA[NC,|DK5QFVme_0iPOMK]oFsjrC6]W+f={%')c)k6ODLPNCXw+:7Wo|Fzf}*'/JCmVy')6C]6aE.(FZqM,#hPO!Y)c9D_;1,ph7{5_Qq
|/Ip!(nWVHDZ=cC4OyJe;<JTRaRCOy'JwmR6**:)T/}Q>%XuNQ&ijHwKG6U$)lex=JFN89zDcxbNcT_g9s;<3;zKyPZz#vq&eu)V=.`s}`n37V4FQeV4w55{L|gYR/A{*By<].6'R:e~gEH$l2D}(K
W8.(A)uBgCe`Jh{QQ/Jv&0<[tF?yst:IFqO1,hgxM]}jcx1$>AowfpC]7.%N[N^136`~exG&<hnioFM7%VM*Th34AlD0<`M6h)[OXt;`aNC?'eXR`s:!NIS<Cv00U9!YYP&)~Je<tSW_<S(#gWYNd3
&7c2!SGXLQ{O'F5O)I<w3xug}.,{j%ut`52x1SFCR0)L)B<u]*P.=(1pPK.65<oV}g5c2UgRURu1D51X89ril/>d2Q>3/Az~qE*:E|J|F3u]6)fBBLX}}Tf`X/zpELwKswO#[mX=dyxcuP:1.8v$JL
pdi'G8TDHN&hC3j9H^hD{^5QB3q;qv:px~W>)hYcsk0h*q%'Mt0|P{ks7Nt}X7[U%V$T?>kV51)d.%rsuR(%E9s=VX=>{M$$2HUy|&=dG9NExzl[R>Wh8=e5fDxg3_/BL7UUgt)|n*6WAn)&}OSVv8
}ii{HA6Qhm{)Uopf(9&XrLT.rGvR1.=A/f#+2ISTAi;r(^mr{G*o642^8HAVw'{4~]S}hv5BMQIo%QpfvqCd/6GwZrg?7c7L']Ii{xDT,uZQ,=?,>OyOVl=/N?5.Es6`cyCmSC&F[n&N>7W;i$D>eT
3^>*]dHcqcE`;1j%CqUg*TG!Li'JW25Ra{rIB7W<^oEsRK(3}13f/bcPc_yelxMfPT8&Of?#Lj#z%MjhVbE8((%(<Etb!}bh((0w<#t+9xJ{]0Q+s:`6Ay4*b;dy%H+;A/$Z;hQ_0DgIx]pC8)]'y*
B&3Ti1y$H`zVAqo[MxJg>:y'U%gF*tE1E]SxVe?W*$NbdsxV2{BKZ{]i}Hm#iO0=(X88)8.<?x:5.4.!>3sTc9dSt)Vh=!+ZQFFLk+AqL&~V'p7sK;iG7Qp~~&.VOtP?S6dns=L#9vV3.J(kgDny1U
[/`HSF.ZAhYBUdLit^;$[QqgpAzETXlvvC&115EVfLPeU`>^9AL'=xM^jxKDRays]6nS0Y7'mT*pl#6KURc>He08Te$q!(dx!HhO[E5(l4m{wwbOr%Ib}N2,6bK9(X]60kz*^/ka]LZAS}F5B.)ZW*
}Mvz66oCHJ7E^ifXc4D?}2:khbfTLq#Q`$P<V5kS(fB%{|<yL*_k*tL!ywtZ#2%#eBsIhuM*yAC>o}k'<aEpwAFL|b:<Rt~vEwP.oN(z<sCu+Sw':>841qDC|JZm)2}C+zB}u$lZGq'6cVcu$ic>;2
=VqRD{lo_3Gp}Ypmt)8{_wDS)%6]b>S#zX;5}E:xK|ftU^cVukYpOb8hN5YZ}_e,#{r<QuWQuDva~GenkRnNGS`%J]A.VQ|MLT,:iTuo,LQtm;dI+HaX_:bGztjeNC;sY]]S)Vxv}8747vhd]6UvIq
t(+GnxG:GmkopxPM)8snt(lxg7<+G28/!]xe%ce}Pc!|vFf=RTES7lS7u^tfW%TPL9[8BzvNLCbxAsepFP_kx5z2AV?5_LZO+6#vu<Vx&<9',^hU5:`y3qtO?HZ]VB!!>e9Ud5=V2?!C*?>NR.S{Bz
;)hmQg+Js6rqCZ/!m;esKSXS/Sf<}egr~SqC(.tGIlB8XXl0yC4^1{pN<HQ9`s!dq_iR}[FEOOL+2Stmz#fO%nB!D4>]j*//C78Dy)1I!OzH`<Yf[%vuWJWSd]jn;>Fj%}q7a5S#*33?Fl'!LdT4JK
NI#ahBCSRc(Ai7]1~<(Kx%Z:LN0EG^B~5MG/?e5D,aDb~NCEcgQ_v4LTGWm(}X//3ZXj$JdTj$l6gjS_RVEBBO3h~'!^m/$.TZ28QY1Wo9~Njqxqy7Q~#c3y~FBrOV626)X`6,p|zn>y12KDJd&kP[
:GqU&2yos$%i2zHmL{`xRgKp[uQQzF4dW,e.j9yEBnDzLRII+ThqAMd>G>|l5v#E3S}b!5>ZWvUTY.Xz/hVp=iS5pDEtS6k_9ggI%&&eW:duG{Ko1o,JW5[&=Tz43:q8F<>t=J1:,^Yz26s#F$fCUl
|/..TgRQ&96]TlQ#z^*f$P#q}4)L9jMj1`S#n:q:~T]yKR?C?s5nHT1lt5ehl|P!nsLd0YMN={f|sZO~g)a,U#faP0:gak)o04(=F)G+#'CYaV'oG~YFtJlhp8J{#FjiSDE^z^^t'g!Jq])^b_qy~R
zHis+!'!:9>T/pu=;ruwGb]D7RA5n##Uh3My&GL~}YS2s?h^%CtmVkML0~]m:EdIm0y!045<`AjTX|04gV?*2OV:BQn[;B04#6H!qv17b<S`yKL|ZPnl1.YpB]/1zj=0&<A1Z^4rv<D2_O1lJh~8!C
(sx0e|0r.<i]mWWo/b&M)<fzxQjQ0(M(:C+6y{9h5?+KW9:J?+#m$P3R&8UFCQw>GBS;s}I<]/IC2tq~LWG(8<7WjWdm%N^A[L0eZ:y$fHNbVu;Yo{bTpV({;}%R%Mf'JL{PNOOqI~.n<yJC7inhkE
hU4<lLEDTJj.Z,mo$QJlOTx0ksoTXl1n}`yJ4QV[ebjR>6vf~Zy=[Mi#Ez+ECBY~km2!=g7/G)ZwE6t.&B]kn6!,qEt0r8d^SO[tP)8{2i_z19iv}~S?C]|tS2W#yVv:PrS#3`^##HM`r<Uw(vPVaz
jQ{6rnly>`9f*tB#o!?s.m>%O5Vx!S^z1S]Oe'$?osdQo2{$3iq.7yA|2xCU#~=D[}w+QC5I<jS41AWz=sL{8/acE!gb9e=?'(9MUrs+ai3g!_S{qjz8k3Qe<L0GfOf20=.PRAN5(!!s)c>1m!8S9O
mXPz;}0YLuA<'M&$i^;,Y/HQ_r9qgSlH'^V)u]ykI}V0*Ybwk(8+ivaWJ2fuH|v}!*znKCSU`pt(viLP7d&'aFfVU>wI7UT!&b<+RH]Gl5k;XoW:QQ){JIQmN3`Bx2pMSeS>=Qh80$_PAH^]$?UDB2
G8MR(H?Ls5Va6aLC0AP(v+kSJAhv7i!;LKgZrjigt`|9c!B}M6}DJBfmKvw?_#Jk3^$3KDF,xuv3t`JMYFwq~,TSA#,VqHnwnP(NzY5uFKn4Y;Ehxng%6hg||ax:ri/3fHLnZ$`CQNu76Fd9R?sx6L
S{c<.|pWY6zu'__x~mKdG10CL>^K38>qbP*Mz#TI<jNyj~:mTT(sW^brPHyu2`DZ2&~zIXJUFWEk!_qa4faiy<XBN.fz.!6,ZDCiW&m,JUQ)DUg.?:E'1BNM5BG.nVn',^8bpGMM>EC,DaA?>'=>Mh
vJ>RQQ$U&[rW8b6Ej]f*'~6*xh?38RIV9=u+v:7e$h_vtUfv9xpvj(*HIDh4~VR^[B6[5oQ4l~g#6r={387)r88ap8WT<lvD:S2IlaAKa6bh$fqe1iO|_`xPZy=kKd^+G1(/20;EHK!bq$)+B=P:u2
}DiFD]o$B'N,EfF{lt!('!H}?Y,ut'yPkf#`?rE|U7YIKWPBM*~H((*evX_y/PEo!`{Tot;FslgAO9e2c'[E{?5u39T*igrsg/`td`!86Qq}qxl+QEZ1)XNrCX3HN;oD2+GDcb6R#/6tafIby6_g=d
U}[IFj$;DsJXBKJL=_wNQcVQg:e3l=%(e%0mOd'[CL9tZs]M:`FBna'g%FJ$$3[O<QTs):5x+EVPqvDb:B9~g+gV5p26/O&$Q6OTUa'tsaF!V97//xwz4<#O#AAWr|,M.cGM{`c7Wh3QAPXS>zBpIH
?6W7_m#+V#}R[FWBVAO},mOmuJG3'ZuE;XbpmbUY~)+yMnRV&gF,e]|'Hg6v+Ou~[>sr?</d{4E<^v79Cu^gAN%/l{rierXr^cG^.5&n~C>t?lsFgZ9x^oU%os]8&66Tvh#FvwEHm.HqN8n)vb5K7c
<g7bPfl'$DP<sG9v2N33D67=7QhFuPEj2o>&3:TXX]vC4eEl!Icvkk/WZ`wh|ptep5kVNvoz*wh=bbANUwsBhl~]wN&YuLiKF*?&>_0vriCGlgetCo?C7auT[qCu;h|u3!44Rk'^k5];7hE4OV!sql
#Jcq{5npY)*?=M9rN7vN`fJZ,Wp;W~Z9jWUD~?C3r#2OFV[Y)Xp#m!/4xS_7R)jf,LUZI;OLlC/`ZUt37ge!qdU|BF>w.tm{^;UcLvo~_,;glsQ16q+)Q^odHo5q=~0Hc_~e0R/cHh7D;jNgqM2{3w
78QVkM3`RSq]YdkKGxI!%1viH{dsF^L]6tx}r#bu['X0g}Q2#3MyU5OV|&WotHS9=kwZciV)M.^&w~nYMZjR:*)O:w~5jj3DxuffpnZ4XO`|T&|'qF});O=><Wdp|1^_pClH/J/6&PTlP}.rBxtS^]
:`XF2&8.6FBV/&$=&NHXv2K&{+uN|B5kZ3bpPZ[9L0li,#I[&1jY8sK:'VN]k;%hU&fYI1^;$MF%eo1p)3?[z=6v&+d#`~5;555p(LfMKm.%#xL~Vw1kvcR2$oL7R^K`dKw}&V]<htQ,Uq1i[+]Z=h
P<FVThm`DOF(:aMj.<Z4%0x:DLt?_T,*rr`|s*bY3Z!xjxv:BI<*}D;T!Z7LrLL$*~NgtGv&?6k8ZS7N&,Qk|,x&Hm,`r0|BKZ'[~t]Ii}g=Vjz0Y&Z3(OL[:?dC|:=grXZ>>bt=m,^lv3OZe3k6SN
<.I$uLi_t9YE1ntZ)}{KW1}~o.]zvY^JXT+[S^=DUEKWzVG[&Y?WAX3~%u27/4(|_>LR9PRJ>a43;)&Wx'R9R:;WJEAc~'W=yTW^Z[i&_I;3hD?;3<mQ0OV0g|=E8>[EA'B,=TDoFZBA$}g%PJI72y
aK~X8|Qq^M!D>^)WyH,7z&;P)f3m_U}On?z(1Bd~*llrd|zg/hK_JKw=Gs=K1+M;^|sT<yb5#:YZq{[;cj]G+N;<XfwOXZ;xu#i;8k>8?JUsf0}vGHJR~WVewG/#3&2x^6/Ba?kKtSQ|g=;/aG`i]x
a^3:Tw??H)HIP3M[yWCBFTHt*][z.mg+lZQwSb<(3SVdnk:y34H('demYx:dpKjl>T)t}5S6g<<t1A,8NnDG}3&E~_ATvRd.!xTH`pxd}^#29/?tW'P,MCWXCclNS+.ZSUeBz7ADw;Vgr~BI+5RITP
0BYIWJngvwHK%dNlR~+A_FD3!OScF.P9Drmq43Ekb#`^YK>+WRN2gaFc)W]!=)~XosV*?BT{CD.H5Z!kcl={i<hmmaT^+RYZ,ZiX($D~gb[YEQ:k_Tk;[y3h%s2p%5tq$`Itm9}lDj>+F(0[SV1AbO
5VBdwbHw5tmZ]<j*N]OilNN<`LI9KY9tg,7z)L[70kWMP44YxdZtwrvbmzL(B{qRLurV7UFC7Zc.p%UiEhB[~['YO?^N5j=,%S]r?h$O&XV3?%9UZyDrj;[&|!(&#!C1#F`b='lOYipT4r3}&q!;(9
K`<*$O[?CX+:QJB(1FGe8Sk0f,!7#,qng?^A:p?z%=r<#B%PQ6D!dd;=*A]bB}h/.;;ttK#vz_vkUy#yX)c&)N*)sbiUanl<34YWnq|L:&Q#mPC_ol=3]ke>bwSxHZVKRVb!1e;z`Lx)u[N?g%(8CH
1P9T39b~#J#[<MLAANYb/%}JZmv0,l`:}j+sL+)'n1`GV[JWVG}vSGke/j=S&Djr?A?WdQ,z[pS?t:_&^^Q=%r<UMw4DC_>iXrOG3Wuj.U[{RhZ+6W[jb~A;79E,*32tfQajv{V|V9{oS9Tm'U:e[1
4%PUu1hlfz4fY=`8n++B6FU%B.vpHc7EnkS`mC6l|#6FKolf2q(zTu[,68LUbnw6c~.7aiBPxn]'p7<q+SonT$AAX191]Gf{7Z<S?q'amBG4$WIc/s>21^U9H$}KgSf[hJ01Jx/p[{R1AS/fUmv2kK
1c)5j5YpZv6'.M:,7wDRVCo9d06[`)DiK!0^ls`Zr^y_eS`/??R|h;v*>hYV`ZtEX'85s!k&7fH:L1>PA4JzAod(*Q]`~YCZcPuq;<r^peELY*l}yy*<B)*k*r&CteRP*YI!w:n)D9B]lY5p{_boD~
68<W?x>MIOfhRuYb8'NFc|l`e'W.jHHM'Ka&6yzu)=MbAHh#Xjmi<{8T;EjFkA`TM#e]>IybOVY|.oJ+HT_xs(&2A`|hrZ%j||oT`$h6DPqbZz9deB]H=zIk[|ON)*P,moCz:/*OQ50<k7c{V/#o=8
,_aFgsKb^YZ^6r!:9v$d+9vfZ8A*~#?WILfvAi<SF~)M)8~tcQAxH!YhF%9B/&9l5S}Bdrq)Yfor8OrN$QtEc{vqpO+!_u8EH:P(~YDws3>9V:e,o{h:95IB00vvj7GZ+7eE<4&aGUb6XiP>C]jr<6
R.9&)H^X_H(1%uO`.=Jdz?tg'fHIy=43Tz>+/;P;*tCKY{!/MI#FEU1F=?vph_(j9I*oecexTZ*Nn(6Jp|D_2Pl,.(mN_2f}r;GFbMBN%Ka/~IMe<8:i'BNmR8%BZBJmhQlImDrPf]:'[ju#zgEt**
Lp(#S>S[.R;MWjr&[2<k!IF}?ms{T787Mhz?=.R|cgzOdC&u:u^8~&6!S'I&.vniF(Kk0uX49[~=Q?essU<~~?`{K2gD5B_&u*Whd&Yif7h8LC3tc4Hd6W&CQU1K4|b[*c2;pp=Y`u+w<3L{]KbI2Y
W>Hhj3yw=xn~7'D03;^Kgc9~zEyt7OW6`k[j[Y4NalBKVG>PN0NuR4CLGS=:FR,YN$?CxQ47;e?!%H`L`aQCua+=HO1ze,tSM4vL_5(nHTCG5ajwt0kyXU9F{K'fa{_Xr9$SIw_ga6sCRjm/Z2&sR|
#!P+Ar#kuL1l9DO/)0N[m,:_(M:/b1&_oWYAWQRVc5;lmA/1R#$sn:IaPDO.8s$N/GKmd7)I53?7,OISEN:91,Xd0GPj(BW4u8JIf(6?1pf'OpZxwM6=^uOR(cGj{g#G_Yrn=6}_q;9ETVbWu^[+QC
E4q5[TEsV,q(#_>}XS}?N=q5U9>2Z+sQT]b<,%zCinQ6W_CKQn7xrhv]]S&5Fsl#UieAE00q$WvgVG2M0?Dl=5[H,;8%dMx2*u^(_((]0Ui?Ge2[bY)H_n)mTw*:g$,SOn&fr:%C/9mBY?ZAr+Qf]?
3D7X78(8b<qFhZW]dvJCqZT25q]3E?L2bJG~f>[c?XImIoqRJPxdZ##FZb(.`Ww2>a?AarbINXr~y9|cKD0Lok;flyi)skBwdA;{/SJ4oS)rWq>C,TfJ|2![>d/e9}['prb'/oM]aj^ZHfMc6:bLgX
PN3FMFr(4N+:=T~95v2hiUAqL7FE?+/{4U)CjO&^#j{V:79SDDfR]qm[:s2h.rWJ^AQ6njWuGR6+0=E`C!lc5TruBg~QaKSZbs(1s_foh*OlWmR$[$t|yW#XQ(&Z)99fN)`[/X>x,QU+AzceisP#['
[<%?;bowad.~Z?1]`M~&4u~ge)I|7xrWSGgVDL|zUWzZ.iDHQK_9$Q#mM1&B+oUHb,V6tdk|0>H?5F&Jp+V`3}.DUr]M{o4PU9{2VFF$5=<Eos=?$a?N;6D6eolcrdpQ2q]AB~~L7mn^VB.BfrVqod
)%a=GqPozT54U<4?eg>?#$+pUvq~NoSY+,F_w^Ng#FaX3vX.+&7h6Wu{LK>e|>M}Yx)Mc~(w9N0W>JNBsC:vyafV,P4AnN*dS3vf2E|)]&[&`?it(6;PNv_i&R0njP:=q6;wWmcI[O4`m~[;zI+]]l
7IzXe65T#/Pf%E*(x5AOGa`uEdDq<z]/J:hMVkhKNyGpyrG)nC~M)E49Bzv~X*4=S>#i{,<HUpO[?T>8IDlyjaM+Tkg4XtNrp{9igI[<mN^n5u?X#j{swS*TE2Xjq#xFs9~7J6rJ)tAX<>3e3G%~8F
jcnnIQUe/W&E27bm&X1OguaAB?]b*NSbWo)Jf2E{*TcW'JL#XU+)PGHT*>=q_!9M3soK#Te3+1VfHJKeV^d:=vpQy)i8K4p+G~i7}uyk!w[NB?|eRJgud/BMHe=gJ|oITS3z>+YMskQ(C}NaDHBdX!
WZw,k5&f^587Thtp`1k_pn&SUHcw.Jz^h2[fxInVsh7Lv.];yD!KJ)nu;34x:,Kc*Y'<R/RH|DIFsZ,^rWx5m,aQ7Mk}yHL+dQ)[*jxh_MKRT4gE%*fD>!TbMgU78ulTt#KUCWdwRV]rXm&05pO%7s
WEPl(zk+~e4s/CAhxg{5Zx]0ns6JDna7i[>k*QH=;P;e:m9)Gm~mXmJjC_'sfv&Ng*>Z3hJgvFkw^;=6Bo6t174x5te}t0`LRH{zd/N~%+:,BlQG!QusIT~i3Z=3V=<wK!lDZDJ+|];JA.T.3fW1?t
,|>P?XmP^i7yIs1ldov7WK)x+zs2In~mq&uD1P1sGH(uLDWDQrrubssX/JLc3VYcF?%dl]MYqb!stRnNzXYg~44Y5pXKk*t*i>4DN9fI;i0}9E>=~ypSDalxf*E#i,6>uFRWSV|!/?Zf/>7'YAz<=O
V<pE(4/$D?Ozc51z'd|t*s.L,,]4S'.A{p%beYcr[w='N_Uehv5%7V*/NP<_#4j73m}?UYl/sT~u_;IH:as%~J_(#=ihG{5cRkr?8.:!i]'nVw2d&a=o;U4IfrDV3b|1_arjHBHN_>B?_SMrbNzU%2
;]d0Unuu&6Pl(Fw<VbH<=Y|gm>}XA08kf$B<#Ke2y4NJCR}/DAL>|t$EVU]GQ:tmapG#gRA!STi;~9&v{rk&R^n5whpyB9pT+Z+zXX;S2I~r6C=FQzyF!z=iYq)OL:x{XkTPSY+Mr=rQdOKVs[a}_Q
~m+Nnn8SK8}zf#`y4eADmi~t&/q0.8P{EW6c7'/mT|,4TFFu,Icr%kq7T,$_yB4%5CkJ.h549aLInQ$;&{AI)%!jB66`36?jRNnNe7#nQr~>GHG;RMSNu]ovQ':jJ0y!V,VqM}<z(*2&H<P|v?yoS+
T6K/5h<qSXPtHOXBGgGV5H`+K}R.'a8lim[ZnShDt*DX+tb:+Eya0*6YnoMB{axxj4*DXAYcub9~xu7g}L+3coJobGI+b3N[ShczCLT9KuSB]DC81/Bp(FrG*oP>Veb{+d+BefD|rgOc|LZ}s3,icc
Bd;T~Y&p=~f%_zMM~'qUfc<MdZ>KCS3(]Ey:,<X^(o?i~:HI+pGKv>KSS%6DOw]DWofr8]H{eKoH{>Tv{8rM+UgP1xO$8/c3.?&?Xmut9$A740dfc)[?LL5wJe!1|Le4UObh&U?K]'H~oz8du^kak!
%c&Tkgmz{umQf|A7x!w(Fa[sDO$ddv4!94O'l~YLIj[r5KNIS*!]BVo2$<%FLW;)mZ*~0YYI.!BQOoav*5Pwdz|<5=w;Ua9yR=,g6HMJE3d~7='nImVb|?<|/cjF5~qFEkbGC?M#I+3zQz^:%Tg3C>
;&|QLbaFh&oCBNqF`Eq!tdgoPWG:AUeEJbviOr_3xSnQvXbdSv|tbsEN{Te(h(&Yi$'_^8?F;~,|Hkk~t&6Ac3!g38<)b'`(U0R)JDeMm1,Wi6OIm34pY.ig*P=Vo1I'1=|1yG3$3n./W2p:$Q^a94
+%fGjL;WK!VwQ*(kcHMxg,?2lpP*;Qp^.^gKM`z2iJ]1vXQsEVWUb*xsAo+)7S|E[<XD!>T+Od((h?|)!Pcx%n7BNM8dl=48xLdcYD?/Y'nJ^!Iw/{xEsRg:6^sG|eQkcp5vj$ypGU%4a9A!g$P^s6
dCd?QHds+mDIywWLj_)szLv[.}6`_?=uVesPPM8kyG9fEHBdN](#VL&/;9r({}4KFVj9^`mw)_7n/}#4w79(&{_tvFkAS5iE4~eYet/5NT&S:(^L)fKn<C+k&sR25_Bn'E#9S!7Xx/T!ghB;Jp2/S'
YQ.PcJ6C^R[*[f<V.g1mRsHBjPrQ>naNO1U=+jdLxK(Md2`KCbE2](%/_j1{8/5I&Yd)m=uxCHFD>3/?D.CAwXRvEkO8+^7;y<ZnLL+9]YH%'CX:+HF#)&Zoz!EtUK+g?hZw'x'X&/Fg<zNDF)9~BI
(D9i%*JdB,G!k{C[(x'TO%SG;S.BAOi:3V2488#zX!v{v<kcf)L6nF$,FDy~cEaa^eQPS%3`%9tl20_Cl}q1>qxFfBKT0GNB)t)ENYe!wbEbk+')yr/:{_rcrf~FiW4T:y7I,qBvb_tx0!GzMN1J:p
Sg4ZnJCBI./6'QIOvX85oqC)xd[wTsBz8A,4):eNh_YN4s$Rp`P7`u:=J=+,A2MF^!)2dN5>W9>~#}p7PE5KOZ^O$e1/fB6o/[pVjK0is(r^,tfc_B[#.adzn'(gfSbT<,,ZiU.;LBP~`I,rJv'4OV
u8zk_;6uT>JNEkS*(#+UdZnto!jbVt<00d8}2zU1Ba(7va/yAd'qvxVZYj][UM.,YZH&B,=M<ExW.k54.!.j14{&y`dpli:x_KeDf[q|7>+E|/?a$uXXaT<i^I+^_>gkZ[`=#fv0hg(Ms?!1cZ'i/7
SVv)/5s5yIBDANU(3A7o><%MQGE7L7[y~UGrgr;aH%_^H'v?4|(Z|px]R(8q9b&3iGSp>YzIB9YptoaIzFO,c0h/v4El.Q(J9:!1?'dO,J3'o*pqRxXB<xx|u~mf`J9bKkFOHXtzZ=5J6j#t|Dz(Kk
h(SDE`/in6H)!n4]u9osg<MaZ;1k5>!ZvUd,GPnT+Jj}f=Sq,qFy40`K9'.a$/J!rhuHBa%D!jd(5GpX^Sc$#NaSbzW&XU'QdD&Yd6r[5Z$hsHbxnHVqB_Y&^/QjWu{;M$#_W9lBo>'c|&6,zmPxKe
&4]|n`~P3(Pv[:!1c(YzS+gt<34~wwXm=9ICyb.b`RL}*!JgT4lJ90JU!P=|Ha}2X{ydVEX2.'`Nk`T$vpuUXb=zFt:S&(c|#o!G5)5R2qm}sBM,33y66oe=Db$5qKqNQZcqXcEl+K)*'Wjg2YZlMi
*bEci>xP5j%.U'+Dqfc#tlTQd_yj*=M_I&heg,nWj`zDOGO/q:N2t>W}T)P,S].a}jaK^I`h]sk>rQ<Gj#uX'Z&8dDH^t8SK]LM*ES[01?PpY7sa0q~Yta>O[dIc2y:YHt`BEX=z<Yp1qBp*3E[EWo
XTC0t3&ls}<6{wi!(D?UEQ),9uz7K6ebX{fnD2{8WJ=s}Z#u)f_?/X|Cj/}<u*MYPuAf&P$I7+IaHzpkb=&JEFTX_:~KuC)L'T)aeNCCCEkmI<twLj257_0l]jTNBX=2aw*z.{dkcyQX`XuIRz#k=_
:0(~`1]q}P?t!D1:_gd{sRLI(V3xr{b6e'st!~R,v>;HFVi??>3uJ/8nU4wufG]Ty+v]o!rEdb>)~ck5]okK~q?WWF]f#fY{)]lyz*4*tjP^)^#K#SYuMjeI^=!O3lJC<8VX(4~.^U(6,3.U`1,:al
!IlPF%W[%}Y)z9iV=$NeXnS3&1:52TX/FC!$gakI^.)i#k~C$BVjbStdBdpTQufo{qIHDE(:~oInXp:d9*A~qxfgV?Tv_DIK=e/<#VSN3/~dYf<>*b|qM9>*HTd|&A*zIrzB7jJe&*!MV~FmA!57St
q.QZ&D>=VqJ9v|4bZo.CikeX6}nB{_?81uE)K.+3$cpQ}zCJB7>Ibq0Se<<xfs%LzpwPFML0'KE/CzGhF.x!C;T]a$,nlG}QbZO:<I5Tl['ezJ2gVLC$1nl/G9zqikyT/oMrEl9o!J,ux6MDuFI$e|
.eptKXQ9,s,teg.G}}&?He1Dm1(R/d%HEBR(1]=|jX|0lpA5NJ|Lzt(^B?fl?P9Mu.HjrNK|jLAPA^hpJ`rQ~8^H5[0d[ui:_HD7|:r5<f<:{8r{l:{}u0=wkC{Y=}at1H6SX)=j4|F_3FftM,^B9B
uS0&UtJ$&ZUeFY{#{r]8M]x~A$UWGTu0|+T#ppw|.ex,UW+Y3F=)kC0rqCs==IC;DFS,?YUX*'GiI7]wk,Ac:Tug5!)G]S$i}CLHH[udDHhe*e:Q%.R+9%MgQT=~QNCal$?WJ&n'4}~5CHAJ.b~_uO
|aVdT?Yc)4HfzV/a``<mr#zZ[t(qaz2OvjLRyJXF9}i)2HW<7u:/gu5jH3.Q4;Zlsf%F.*bAPg]p6F=s6^zD>e8F`&r#R#!AC*81iPF*]9Uxi^P~)W,`_SV^]Ul_{+3+w*GGwN^3&KECNo?PUP.)xI
1!a&+3J_C_mT24Ur(2D&ikYp&!0fOPJ0p]8)L|aQ0/f2b(E{As/9XWGXQBY&Lh92v+.2*&b{'`JS,Mff{B7Z(r;:FJfpgahK/MeP&=TpQDGao!K*8iW<]K8cmxp|g`tbYDUW5b{pDk8q`XjX]O$],{
#,LNkNZ^E]AjiO/;7]N>mF?T?/U4`c|67Lt,[n|bKoPJ6h,Z;Q.j2n;W0._ych}m4A):3K&VA/':xf5it*`iqF8|IaUH$kud<Rg;B8x|;YxP9L+W8YV5n*e}']b(*h!na2zMoBVjE;jiCN{8a8%'~N
k8135f8H<[s>O5cr+$W?J7R~/*iK!bNbk(mt4k_D2n7G`=1#n>N%D_RPbWc`*B)/.ewWF64RWpJLR:%/<sFTWS(dD0*:#Lq|a72FB)~qw*a>|g8%K+S'z.=d:B[m$T)+T(a}G%4Jpsj9O5tP`,wJV/
M{,YMbE9VQTTqeP}(*Yl8zlT1?oH&Ww2Tn*Ur3&0?{fzo7uLFq.4;MK/VvB8}jy>,b7EDTLtGH5.`nZ7|v0!VN[0pOM(BZ%D.NmP<1UJavEPc<*Eag7fZoys_t$=*XaYK}41mBWS]W=/B]KT<)Tl7P
PMKEVsW'#L8Dvyz:|td&MbK:cl{>`qT1mt&tsj|7~nv:a{q^h)VF<3y='R7xQ_{g;}f&1M_J[Nl'Zyy{Jg|t+Snb{)&I6s^lQ{DC~M0|a>&i.N:pgo4A9+XuJHV8u1U^Qgff'FFv'9{.wDH4g9;hv/
2zIaTp<OZFcDfcKFv%b1q'.*ez(1d^+KL9'VM,Z>8^FcQW?NT{sW$3ypM99t09`{WpB7gu<Vb)yv*tAa$B?=P%p1t=Pl6:glwu7re%>z;Gi6L!rebh1diMw38P}qB&*cIF9WVj:b1PuY(7P1fyQX+l
45$nsm(4,Mdy4x=gVXuc;K$T~NdIMRCBJ`*Di=(&z`y?+<`q<Dd(95l9+H?QVwEYbP{xW{fl/,;jx>3b)ki'b%Lwc64U8b8J]P#hbGJ;87mK2I83%6KByN{IK'r=s{ZW=W}sD?_!&&aNx]mp8R]:T+
ungV%=Y|to<%*.|NSy)Y.',bQ6zLBN(.n+(KM/YfzLx7%]QLw[~{4<SdiSI[2n0J$fSY,#Qi[eB{8_o8I%PwI1a8=2'!`_]}%$2F2[?CXulV4]_7~G~b,ORuMM8OShU]^s*LB:kn>It&ZNGfQ&**mb
GO]C{3]+Evxb6k6t[<RNENdk(w,2#>:ab,b3K+~5kf0t#k]]ubo34NgpqsZ[f:eja/Ph`0&MmS]m%H1$MT/rGjW?{M|t7,Y,EpFr<2khS$Xz,~#MHL8oIv/Di<5bXv([7(g0G,(79i$/&Jzixwr7t:
za9!:.i/fX:^#7=W?x8LX60iyO(C7>Ev1{!S{cd12p7YsAt75SR]Su*I(mEP`PAF;iDbQN1,=!tJL3&rqGSn<bfZpS0$/RvpU(R{TM{u6hK#HOwb<fkN%Dt8_>ma5'WxYeo<+4!fl6BrqL9WCjS(ch
j]6s:5d^#78>fA7A<qzi*>0QG$)$;CDX9,#+Vy3mD8Y%aLL1!=J|rzu)ay5MW|{w10Kt`*$wK]]8U1'Bfmop_eF]+ZRfaOWm3fC'VQo&sk=yYHGV{y:*z?C:[go^2>T;fmj+GG?zq#v(:.?FWkA0t,
RR,;_VM&>.DTp+%),uSruuujF^~)uBOw3<R4`f0,oSdSQ+&a,BPK#s~*iyKek1Uv`>n,ycb7K%p1dFa=rwT'Zcduvm(!}DG=Wg!lMEb3iOw5cXR`]+XnuDrY+i2H[[C+.9'!>l{dLKf{p*ICUS}7$[
Xy6?IG$?yai:+,,Er>Cb2uO4C[mj}Kpd6ER:;txmLW&<?24$q2G;'f2.;$M%aEay#*v8VTmq?y1Xg{bt^wVu}6OFROKQr*S(I4ZlM_`*jp;e1Eu#ls0YFSn#(/C%o|m`N$ZVb``_bc_h!4oOhrH}wE
OZ]+[<ETolx*1`?Y*blZ{ub`ZGjfd7^ho>(H3R(+su1w8YTd/tR0q&T;W|w/67Xu*N`0^=|RJE[l>Il|)iySYlp0UY%Scg6>Ol?Q*NnLZ/V%G4IT4iMFm?O%zV1J!C_8HFcq}qOdPB#>U[L0ANC7w1
u|4t2?s~`uQt%|[)[:5m4B:ot;pZ/_fpb+BbdK(l}ddiO6Ur/[5EmInKeo{c|X52HDv3*r#h:X.PC1h8v(>BBGl2Y!F=;(=<W?pgB%<`U2xCF?}Be2OeLfQ$1j.v8W4~IVk:9Cjb=E^'dq^QZd;3VQ
W+{{0Z!H;&r):|Xqalg0'YXnbJ,Krxtcd$U#IUZaD+AI*^!J29U(7AJS}0`Fpy8KzRZQlWKv,gjE2527{:2Ew7[G_;bl?*eWA4Q/nVHF48jHu3}OytbN1+H|<?1xLYq/;Q}oG/#iljD&.^=REPa7M=
.<k$DZ/9!^*5YwKk9<=C|q<^fZ*;,YvRX.D[0|&28MvIH`%/e`%1TVWhyg!lS(MAK4^A.S(e0Qmih3N/V>e)[/C.|JN<5C^hd,mGjICf;h1JK#y^ZrQI,XJ0fCl5V(^Jo80U74#KKjA%yz(xN;vU{y
L'rHiA}g?C/aKouDuig[r95e>A7cY9!RNHX7cnY4%agEncOQ.FFtE5;EjEnhcKd(d0GF#zKY6i=[}8xU0t_y$N%rl3G~XIf,.t'5}.GgOl65`[X7P*8`(%w4km#Y%Y.!~w}l/|z43rWwceKdW,{jtt
sUUCHioulsGr5;iG{ACe+[Qi4Bl0NBsK_pvlqVTH9bszyGdqVWMNVD_m;#SIO=IibW*E&n*].^w:S<PGDk3F,TiM7ch.JuMnR.#A3(1s4qGjlVFI.#<JJTE1idyeAi'=$,>5pZ0%o'oC*3T9VU^<lG
geICBsAb5RPE5hYY.5,8rO19|R{pIy7okcoQLQzx/><{]64zem6c.s|P:}/.Ud%RXrx:/u36'NM<#BTJ&#5Co$3t0qA<)UnfH5hImd<'e9G_.U2_p'jC!H6<oij}]P(wuMGw1{Qa]yucny]0K7ml6b
+fjJ;tuI.^vz'bPZ!$xv]W;~7z|8[[r=_SdJ$hMQL.{wY=`Xev)P7fm'>>R6mM<~'to~D$r#*SD#c7N$pfIW.~)R1E&d6Q]=bZZ;tE_b6r$`!}y5ZN5G%t**WA`xA85%{a(KXr>vNqk:'PLH7[(3/?
h~n<])g|yncEz%zs4Gz<FxitP|0FRuBAjoWo)F#yqaB=sKpI}:I7A+LlAIok$IK^2#PumGv(duiu]~ixC4>6h[bQ2x;E)'OsjB|Jl'!e;<}br%1!/YLu/2w.V[_mi|eq1Ma|GikL7(J$X((7/?_9]$
T30DVLgp!==/VjLM,k=k'Y%T60JB.%(yJvJ:Q_F,VL_._(imz|Ug3tbXhgk7R6:Kx:uX|&clUj~~yEm;89C]*zd;z>7X8PP|5>vV)?*+CGxS[_9|:YEY,Bmpp$g)ozMhka)>yk#ytW}4yZdmhDGf+5
N;o+_WYou`mY6[l65b!xAE$u1F1m(KWutT07+Miu2/H0t7L4ut[^E=dlhz=uYKO$KcjR]BV$PebGhcA$/N0auLfq4z_taXV~vt;>D8}zd2~:%v_8(P|JP$Wsd*lyr*eOz5AA[H,^*]2y!8>qzWCS8t
9I79S7i81s',.7h=w?G9KH121v0U_cU$J(p3xO!O0+U2D78V<Z=^ZsgLT3$s8FWXL}z=TAsj+(06{S'J9sq]ibz;rx5bqXjZIw(}~T#lr+o7Oke~J~(#gD3`B!/Y?SKGyn69(vm/qf_^1TUfbNHWN+
!E1PO>LX{FMeSbkh)ycFE]i^g6a7Ef7kyA':lD,m%f5UU<GO]#wp#n7.];u))Dt,RoU:/K#:{Eq4Ps{lM><7mGvR7ot7^hVH=g>O:3|#W[[!roMAZCB_O%W2%.<u|r54Ao1vE~sVCD:O6u|5:Eo&fP
^kl*r#cJ]dbM7Y`+f{$2|4k(syHsg2C3I%<UO^nMOIIZVNzG,M`Jvp4h<,HB^ibw+p^c;1eBNEb.S#il<=UTa=WK~o3R[CH'[NM~Ft3i)ivl8Jz*]3odJ/.]Z,UqWeD>36xCgGiQwMA^XMg:O)wdY,
_W~*+>,=:z:*Ke_iMD+d5g&9awP>d>8%j|z+i=,he_MKZvR*I%[*bZnxRTU;<Zi['uHq#U_CcY2T1CT|#_vDb}t,%J;Z.1q;k!RbbOle;ULuk%|itk|%4Wg(d}#pn(p3orRDzMu6t(t9t_I|=mzPBj
:0zt<)KKsql,l+gKYNq#yg'M(A|',d}xg]/8d42V1`'H4nu``w^$;pMG7'G_Q~5f>hym4k*SLb]w|.Y>|?O^x.AOS4?ci3_^V,Y6szfre>^?K!FlQ{SozXrG3Pf~6,y!Z(|6DO+!j2(I[/h`w_4&sy
A>7H?,R>r9$B!DddPbV.^BY(N&A>CU{k]IyoDyBsF*OiA5`IL]%f[?{~4U1j#e,1s*/O([5HTBzyJ|IcmlbRUiLuo/v9&NirZi(+g}<a]O>$QUc(<{^xRUc%f%vBz]~T)*|UNX.(Fo*ALB}W(K{8h+
;!DOT/QD&11%9`=u1D:Spp1t}_8AP,U5!6+Q97M2wQF7}Rvh$Qeg&rm'R'L|2t[xBa^ne''izj3U}/3`>[7ALemVv%RON!f2V]3)0]=p4!fAj;]O9!e{'Qf_=(dEnIddh=r!f;vjo|6kb.?`?M:|P|
JddIne+z^>Ze2ihw27oH,6G:1L79WBi0JH}mSn3:9~dWx,{ok7|xGTkfKp8L%FjUiz6,>)5I#y9miqL>eQ;!zbC1?TpQm|FeG^TvHc[l)SE~L~5`?/c&Il(]Vq30{G0R+hq'6Tbj6s7?O'G#&x/<Ug
%St_WZtQF6!yezIA)}/5^Y'trcju!6o.I[pMYGU1U*jeD%f{(YTNC`l:QH?FzbHMB6SFeJ`=ij'j%5$CBZ$0B^A|4*`_*QITV'x+HeoD.c&H&7=l}{890cYa&0$m_pR+O*A:RQ]P??M`3}9rPwvK{i
:oQ|`/0z,[cVy_a,OHNt1H?A88]{I3?D8s,7)Qw]u^FMz1rGdzNWH3_O&L6J=AoZE6[<C'g>~a[nDD/vg&8(`ZPm4}A<$xJRXhqS,quKC1ef|y2{bkZhY#kd$B`+GNa&xO4is4.!*cVl[Q,U?0J{`8
tfRQA2%jy7y(4<0M}sWH`s=1pRcvEy2T,%96fi8|l,e7|L:hKoJ~,2e&1hDR/Hh$m=Fe2xl=UQ`GVp[IENn!f#K+D~[QhCqM68UkaN'kM&K{|[nvU?vk*dw[URw)}jT!_cFquQ7;23hQG65NT!o%u3
*LfJ_4'K*['FdFU`27`Kw{reFpn;$9k&ra1[${L[y_s^E`7j`:wNW]]$iL[^<x0(^*e'$9e2g_yctj6hDUe?LYi%i9S=o^=t'[#gXuI(Nn%_{~~^3JKGfY<+Zz'vPDa}^s|htU_r1h2.%1_+*]`.',
LbH5x&PzGzVX=AX;=t;/gD%Lm`PC%4p$=<9?F>oXBOecm.)ixFTPcC`#S`{2N7a>!NkYX{XT%ML+0^,j>|AH%1b;xVe7RDw4,y9PC#|F]E`'wD+m;5{=N7gFrmQJfD]uWK2f)4:t_7HTDnv(kfW1'X
m,ugFzo^huiY(C:nB_2zGUkvdu$QUi<#Q*6y6IHF,Mt=,^wn2bTjXjose:=]2wmpn}cRO9%lsaccXQ4d5%TCMV_c6br!e3bi[x72V8Pc#,ekt9dL]1dEX[k+7}+?^qV||;ysN{]F:4P<mtxs#D8i_Z
r2F^`)CO[W&:|Y>2PYT%1kIMQ(|F4tciEoXR#[(eS&KU&1eL~'p9?zYI5rN$>%<YiEIpRh}Y{yTd[.)quBkQTv$!KgmMWQG7mkK=MM3MB:)<RphL;$&;;S5.qUEzit,L3Z`AO`|G*sC]Weqo9`1XPn
(]!Q6Qy27Y=0?[A$pv6O%F?)>Xv(:4l9t[JLRlq}q_NPB5h(#gO#z'&9c'0MMe8D)EK6&LZpd2LoE1;|iQ2CuT1$e1z2#fU6p#uk9t<N4]dfWz;5PbOH~ukk^_4&cRnBJq.Y$:^FVDQ3fq_J,/1*Uw
vIA{=dH*xZgN|h0MoJCGh//$qu2OARdByq0)WHX^'C[uYMf1`8xGaVO'7Tf,cXJp2ik+/e]uCmc|t~lPl^y~58uYLa'Y_sdTPMhEX&5h21k/BVa:8/WTXnm{O]Zj[mNsRF){^zIlt'Rn?^[vt9zsnk
.B?UQ|Or^$~<D$.P%H]5M&x;Z4&1!0xF`slU$vjk]*p;spX7sQr~[e8zzdsT3ksD5CZ_RvF};d&zU7D[.'&/}fpCWRK)EndFZ%:CU/'*5upHcpEpCgHz+V1uo$QU)<n4j,RWEKbeu*uxmZoV=%9>,Y
`t6fvah8/:q^(5b3|lgxJ4+za)R7TR{>>WY0h/?4%[|_88#~;4{:1Ws$rQJ~BD~GtlkOw9VSsH<G%,kZpa31wT?}$Hvd0s>*!YM|*9xS`N__As9xJT+IMr5cd4]?Yi+a7=e4Q**LU1;qW*M13Hqaa4
Pvsq`X1/jvQwTRb2_jgFn9cC.!2v2HNFId860|%&H8EKpGmRxk6;jWLsf?0Q'v*L{k!3k(G3Gl)An&:VLYH]5v_|MmijI&(u!>KpA*u]5s9}}l1bp9H;qDgs~;:{j|ilPC6%O|;a8<{BAF+SMN|5~x
C<GeS~+~nP}%PB?4}JKZAnEP#'>cMn9s,1':;Q=AvWCr&j_3~F[MzHLPsss/fyJwc/4|cLUWqmb<2oD:yd`.Gpn|hdzfkw|NkJc)8K4NL8hl^vq31GMn:vSS|3Vj2j4|I7dy#h1kp7jtjUP/}krUDU
]GPLhF^bpkEj#?y5s`NrDi;<F($_11qred:AtfA=Tth:Mff(FT2oW3^~Wr{Vsh;JOfQ&[U?(QmcG5f{kJk7Y;8Rt?E%)SYkf$ZIdO}=ls(5gSGrZmZ;+8?P.HI|`=*.28+2*3gss1}m|%'92vTFY>+
BcUZg%xkF[xx(/J:<A3_;Oe&s;L4fl339nm5!gsZ<vrWEFf/yoEt5Z[fY6Q<.C:[WMy'_a.xkgjs_0mZ3!=rvNAgC,{TEJ.Mn1#8^~W93WuG+qkdr$bMA5V>Q/n88.1wzC.}S</YC+ERTUC0KOW7**
h|)J~u<g_#6xrR'oLgAB&FsOfY~edt4QpMgvc1,D=heI>0x<x{)[*Yw>LWXvQa4.]V<ZZMTKf+QEwB}=6UN1]$Bi9|tt#.7|`P/ob/tm[7FvO'`Pif#Op|t,xP14Ak+(EHDhg>0rYira/$J[QOsj<*
[&==.lp)(Q[h*|AxiJ:U)dxYgOmHuzDW?tC<NkpiE6hfZ_a/DXzFV?sg}H>No3&6z&>to3xp'u{4&jfiExxQzAa)5r^G0O'5q92LceJbO_=_mxIoB)lzGhxvgUe)h<O05gI&4.dF(K&dmypaHvw.]f
B>gZUrnr+ajYK&]m&C`V=Y7GENtXI*~bGGMk9':LX[Dv8%GB]dJZA#67WU!)Sz|~]+JQdG&1DWLeootTjn%i;+^.JnEDAx:.[NiL$7Aq<lz&?EHK;bcX$Ig#tu`lLn,2~Ry{==2[*`)1lnxrdVsE$|
]Njv&AU{j,+MPzjFE%o5n^X=P>qV4r3n_^[3xiRt+?ZmG2]8|%ni+W2cx7!>`4EH&FEwDcWI1.qv&q%/*${G}&hO`CsAxtq``m:4s8K1ql/Ud%Ykw<B<!WpS}2rJ0HNe2=+Cbrf$G(d%SOu`OZmluu
FL:`p9Y3kv4w}k9+V4O:zueZ6v#W5C*?shdNynVnp(6wSWJec5t0gM=9zj|IZa?<s^:>sfrLsx1K_nF,*bnrUn]_qGbGoZ24=MzR|yxgSnx20}bBR,=g#%Ko5~Pc<U?4qlx+|W^6{*k_ZCa2e%,W]9
vs1`W8}){c22eiA8OU`at::CBjjuC=3+%~z%5~;A`df6H~37MKaaKiwXydMIQqPiT3B>$~oZj>dkg|d8'5C1sF`+9srw8E9=LNr[O*)eKTeVMfeqU$5/ky<C+wM.mY#v(Q6P`(Z6P6~#5#cASOu:BG
7E)bne,}|#{[b]%L5RrO}s~}IQ<|DCOu0t.3~pj;=ZtZ9NVhde0Ub<ae'e{Un,(B5<0CivV{25i6}lbv~p6?)_W/NQR{(5>$Om24WVE:{,PYJqsRH?1WJE'g+DTab(>'8(]A?eg.O(EA!5]ps;F%s^
Fg2+=(.<k[F>Sn3YY+Zo2cfqSy|!wkg}DCILhX#)A?iAsVi7hMBzTi5Wo8[IT?wty`|S5Hc>'LdfhH'XWO;FTsbNZfl{VTYGrP!8AyYCwO/AA*JFFN}Zz7dXN.XOVjHn+i%_z3Xjk$z(766ez:fG']
tVa}p/7,uDt:akvv[8;^6#c&jkcx4Jn3x0OJC#PWcUeh=TJy6^}SPzU<;0$3&bBWZ|K}G'48w!.g/z*bJ}VRb]i&/P^?Sg;YF;K&y^&L$Da1?~ZDEGBV'/q.7A'i=d2jSl(gl]&X=l3f$bvVdUreF$
/$qi]_.2I~_Mk,j|!yq*>12o&8?Cf?^?%#s[5$1}Fs(C3)Y$i1Ez(+Z}<n6s(]Ks^v*KUVstd;_=?3PdM{^$0?H?Kv{91u?6}%9_cOI*pv{sDh>iP+2Q5.9hVt%=qP|sK5^5Wn.M'W'nXND3<O}MXm
/=+<=g<LXvWV.$&m$}AQ3k}*9}}MNB|v$7u1J!{0X6%i'A]^EV?.J'<i2OH3+nTIawZg:oSlxy.2.+!7ly}R%w|Kxy[~F/'/2,($fkb[4TEO<PJv1v:&Odn;FH6,[MbH47xhn>?6)7L!|8~L?yG}&D
U*^I.U0Py0`A3<o<TKEr|buSy5vDStTl:m`R(hzQr5<.x~;;,eJ{3$Uqt{]Y|]oh{efdV(,hen_YDV!.UGcaw=6sXI1|P?am32vbhVjwtlu$Uqy<%C2Fq8/8t9pK&QUD[=cN]w7d<O_k9e!e70+L'w
R}NcjA>k`w!S{G*b^~&[vsCW;?X+=d:'/Gti`w,t*sK}{v.K&g7(kY0JP?_+cwTP;NQF'rI1Qz##ThWE0)}BgNv#|<|.*TTg?xuz.WlDx<+8DXo|6uX+*;D^~S5OC0*F~DQT<r6u}kh'wu`|!0DX!n
[9E*N~V!.^7]X.)3h|J%gBUmP<%b3XGB'$$9xLORyBS*B|z.mo]h#hfT|#w%x=(vd06k)hKc,zoMSG7x>%7GI]lp.*S+cj*+c`.QV=B=.6SaFR~hBK5I4XI;W7;K$$iMd?{s3O{4%?)306|&t{CQqB
XJVH32gA$L$qg#^X,`Z(7nX8e1I~K]goZ^UYDuI*F)PI,RXRiyBjme4aHL~N4y(%ttW*P46oX.fBBXo^4G(dyv7V<%+&d,CAL`Wz:rn#iIK0Y'}iflF,v)ru[0fMb[5w,xK3rWJBQyYcmHF[XWfAw]
u#M]Pf:5M]M~H{J;Qn!bWz5TZ:GkxE9NB?baLib~%/#z2jD_^bo26VTB!hFk<h.BTvEM#~V0TYh7F{++,QF~lB>p[&<A<l.N|zZEP~NJVA>C#=)y*_xd:b.HFm/J]{li?Ee6H/6DX`_)uVYDKoa,q;
O!n+vr~En)%RnV/?spmcE5Rqz0NciZT7GocI3e|JWLanA}a1S&L9p[T:BoByCX7hB8%*F*G|Hw:qcFj5cK8]9$#']WlP[Ll3|Elk8|3E#EFlieWIVd_ReUWMtlW+=a~`&,(p<z6myvt3v2KGiU$yh`
{4UGZIy4wGD'X(06>MAuYwsc1![#!S2_5XXG2OdYw.v[Q#}`D/)mhv*N;k9UJNYIO*I:]YnU]#T6a[kt_?yX>iVn(0VDY,;_DvkN&>es?>D>PrA7)2R2#or4!/#;<,Y'>e5hZ]K[)pBq3w!%%`ros{
sFTa{Ym;[+Oj1>_Y5p,}LLE2%0AxX#NDW?x7jp&Y|q1jPDku(U,]J;YiQ&?tL`l+CPc!cdELUgLu#GbPy/h0KTO?q9Z?[alX*jiyGjKjTh(o%%&B~TTVuiLtF{9}Nf;5C9TC3[Mt,<m_4ENcFq!T'y
D;7^'}6g*O1<xexdg|aFtSQxaj)Vdilh9r)yM.>/0F?Cz(T#b=fuE'UUhfsJZ4k'2.0DRKsL`5?YXtixEZ_R|4G.z1y%Asd[jZCkuK0FyRjf>x!.$i5cH{tbr77n,pseJ4G#}lUz>W%H&g|'.`u*2`
Op;piIZE.I2<r4T.gsx8UKHui;W!a2{gOclVkL5CjW=(ur3MH^!Yb!_$~veYw/9ahXZ2JvcW]CL)#j?R>__HVi#nR$.i.$J+D6g{8sBY[xR1Ak:&:|SX:[$<BsP%]UoPiv^vX8Y9><#NtCr`5z%0>h
u}<E>$N?/l%d9pyC+B3c+]U06nvPE36f]o=]FhuFkuace?nL)Y<HGj)UmdvvR!:Cwz)Kfe.9#U.d0}6{b|$KHjKrJ=4chw_b{/IR]h}!#6_rL?3HYaC#>my)F}S5~E!jY+#Z8];Mg`(0K*x,>F&rJ|
y{{7&&`[Ik4nT^7`Q[j$Re0sk~Id<8A]gaz[w(E[1jruTcS^.x2+Q%.hI9MyOBWw6y_bS&h>jab'.=vcT!tu`N*MfJb]%xYPjA9vVlO[`9FZz]^_Nb)$kq)Yp1RM?s;??=Zn3y/kIME|jzKb,2F,{m
)_$X0u`rgLo;Wp~$u]]`}FH!D:jfY3BpySt2'l,mc98qZPqv_H{<%keci:eNtr,WgueznMb>6N$)m/<8Kq&2.IyLR7I%.zCN}Uzbr!nV6r<(V`lfU>N^7]XlTJPq~)#%h)XSrX6aWSS=}1lYB7aV<~
aUF0*jpS0;c,nYkK#XV.yvisidWA:U<{3Ml36Ej}YQc7)xj+ou?b+{y:>r^=M0Ry+&$GM>m&ha3ELm8%^nvKP7;gt7azE1n/uWMd<VmaM6efKe4,l'7&h7A6vv%4_O3}PW/!O<BG+Hb}5uHz6<m~d_
}iXDk0dCjA(&f5%P;~yv]UlR^xRj5P}BME`;|8+08M!cO[:/=RD_GMD#Fj|0:{Ts3nnr+{wLg(/LfHpFxS8R#rq}bzG81jP8}OQS#E6yG]t)PAdZ;wfC?{GbS,gJLvi;g'q*s]?sE}hmV'e_#^cE#`
>RqO/haf&)tKU2nL/Kts+s<|INs?<U.}LX/zZb]d_2qcWVx])FYx&>h$,Srm^LNdIax`oH2EDgaaa*T2_.&tF&:$Lzb$QM:Wc3nRUKbiQfg!P(scuKG*^b:bReZx)R~yXl5x]i;}(}Oz00u*X>/1v>
P~3(7s=^YadbLewt55ICOe6tTvN3%#5tjH;i[/[e/s9a;dIr4+0kb6]Ck_NWSYQ>F^jp%UgphOB0S`$e~~scJl]:$xQSc+^{q{8O}C'ig[*3?DZ}*PNFG)m?)aN8o82i^{mWkZVC%yrW;gEOL{NyDF
Lr:y4d(Jr4QCE)74S7amWw5fLf;Oul^Q1fogGcS/mCP0fiy/rceTLC/PHrfwu2o;)2U#>y:1j<M^U!1TPRR5BnZNc#p}Kd;]3]xL_4kM(s>9rV46,<p>BVjQ*e(N#<e7OMdu5Xe:6SAY4q/YJJ|'ox
DeF%OmU(Tlgoh`2+g(nf)AR2XLV)Tp6CA4:},^'CAcf{9(FT(#e?[veb(~Q*+![?|c9{`1>)2>,a2Lr*)=x1GrzM/b20bIwV_GlCp;53IROAwnbo!S&SvQ?k`SypEj,VC$n|b4yPomcJ>RDz^:UPA^
~pmhBov&^.1h'%_)S4JMT`IHg6_vZ6bZ_t9it&w~eM%od.>pa)#=.%E&ltYCcG4:'O^&0+n3RrjCPc,I$2'NO9MKrHSAjh~NZ'j~3)kK}O;51,Re}g}h(Gh1_.hIxaui~Yutkb2_{bVGKwes>z>1TV
3lqo>%L5>qTm_5Y!iUsx,XJ/bA=,u0Ev!?6K%kQs^C;/a!e/I5V|5Zu##2QYR,jzn}vY4W0~FFZ}{*bfY_,D'mvr`V9%Y#yIx0/:,u?iHQX/spUSVS^$SyQKD<?o`k5uzMY<:%y3~_At9{CCZtO4ET
_.i#$ZdyVq=rw(IUEGdL3fgJXzvs/x2'*iDe$E_(s(4$nY;L25!h/cxo(V'Rbx47ZH'DFfD?&3!K8z6^V4!GCoHt/4?&]V*Q,6(n*Wp_]X`zR*H~nsptIa=A>K0GfeB%hvO9[_~wrvNz2ONLZZDEVM
T;mHm<J?=0#?gP9DqW#ooY[UgucMsE:FNE^#Ke]m#>'~.y]bv2kKK~?y|qh,BsXURojKbf2G[W?aZY2iQBeIa?P7BuIIKRO9sK6:rO)73IILSR>jQ]W*GAQvRxP<9C8J9L%e^SVK[Tc&CIKw$bYbTl
ZQp2uWY5y`=Tu<FKnW{J_q,Z/4JUCm<IT[Zg3:'WVf~%t!fKaY<oq%9dpz~dJ=iCu$^2~ZwfCj,^iU,}k%x`^L?;(1z4:mkd&I?u+Bi%pk.ki8VsKO:?:u/U1qzKFd:q4su67}rvR}ZA&9u(IlnW4;
#.Q=;lW!(0wY[7jd(zlZ_$`3r.X)]~0TxFcjB`|R(dCN7ZXh;#cAwjV2TRd,K5k8NHVmCR]?CY%/z%Rp0*;g{6:Y[O&Fri}2H1:d01qs}M}G1uvVE#O?;Rqt+6Y):$5FK45EDr+j.qx2aqFEB1tn`x
X[AoG(nEVO|U^zPAG)$af,9UW;W*#3T?{UVw$YSZylEKls=1Rsn5Cjw%AZf)]=uh1^A{{^~eHY+')T3P2o5Jd5C1uwE[{bfUq$CZ|~EoYPz]sN7842qq(2F~'H|)V1,Vlw=IEb5+N%>}rdpZW]1U*U
F$e#rYc1U,Ee,WBizV4=0s=)q;4XK4<Jn+RV!&J=%^q$M1Ogo;9*RsYbgz+IZ:?FS'KW;VE|{K&YtZ>qXv6$UD;KDU3ykfZ<k%MCO5PUa7LN)qE'O!:ybu`aYN/6*&6RM0.0u?dCGivlsFUcbNV81P
rD/y1WP_2/EIT{^tNbIwa?#4DuVRBb]fLTm/:WI}<'ljm$mb4Sz~H!zM.}tS.yRySX:w)lPseIEDw,lc!72P86o`bXRYnMnl8%*'MJ0Io'csVrL1^b!0R?]~l).OXEClW#u2n`h2K)*&|oicYY<CDk
93SpmF,~UnHoumEN.6lMlIH?4T+&KfQ4qeeEtszqp9naN5*s|{&WeFFno0qXu4QAl17<k9VioO9n4M%hhteiYhPO?RB5?j4&CYE/a_H&Lt=IG~B*_Y3yJP.}xueE7njHs59CZ)_Ku<#&&cW=/nt[7I
~_r^v9c)Dr+'3J4Va8:#Z0X:UaSs.C0%QzJnX=&r0fnYtxcFGNUmE&,Zu$wh#he&RK3$t13~1.7:[=VCnS3okea?Q.idyPOKNEsngV.suUeyWD'|G(lCV$EZEK~vbHp+pK]SPEsy5Jwx8MB4QDcr!%
$Lvk%/>tg5ez:xa6E.^R5F3HCka9[ND8Vxqh>`fZlb89%P(D2.DQi5V(z^ry$QX$7pU8SCA_GU9W2wW<F(g,MGYJ#w).wP6ACZ[vFMW;4'TW5YK?vr1h,?x}f|Zu<=Bthr+mEC,x:DwHGOkOvR2:a{
;66Oo0qf^FAAe2s&,rF0lNNnb~cR_ndU*R;22fc']Mg_eLp/J|?Y=`.=M;39Wjxv/bD2b4&+DkLz_JHeEkj3$/4G$%p9R:5s#qsy*6=]c]u4oRYANdZTnQft=0j.Yqr~#3j,96;s+%55p7iFhr.8Vg
Z1_Q{&C8T{DIjCdl`a06uI+OuoJE(!CHK;0*z)2lQx8y#?N1UvYB:Z;mhTE.hUvY#9rU?*|?[&0vC/sMc?[?VJ>>%G|ip%gA(co3QNLy#fvf2P(x<xOqw${y>LcV;7KNeC6e)jP~i+',]hOb!%$#Uo
+^I6(;g8Qwv/eLKs!}9lKQ]c0V[qD3vc*dNOf2E]Eib<,>09p?4M[E9|]b#tZ<Q1%Zf0qhOyCOXyE.Sw:$f|ge>EwIpEnPdpx`P'Z0>*A,RhFBMT;Kt!s$*2eWgWR~)AK1Ff8]d2Dk0Cy{m]Sjfju.
*cG<yg^qAoO|T<%FTGg)UhJ60b~g/l:<bL>2k.R5`Q?[#k#}{%f!cw2Rif}},yQL[=LK&Vq8n)95?Y&oO>*WNp=o(P:a}PN8Bs9W=HdER[]l{47rYF%{J#[M}i}MbYbZw?BpCJcjFIWJr':uV/ucvK
])[K0#lU$feK<X]SFv}*D>Rs+DjBGe;v;*7Z>EEF($1Yzw<<5rfhTr%`Ny^3bc^|p^+Uk#,i?W[tpX1'Rnrpyvs]fj6PyJzc|e,N&7]SN8S8ZW%,uW:]i4%NiCI)R^a.8$xNt>x65`}${vVJtk0Eqy
BK?V){cCO$+}*IS]tJBIiN.Z^(zjc}`ZpZ[iU$WFg30ii7Yo[,'{qcEwQ4ug'/j):!*qTJw;RypH.sZEi{jw}wTbgW%{Ug'kJ5O!9V`qw^A_,{!|AUMwi5^.HprD{Gg!eiNwP1O&Xhd{*Y`fBcj(TC
Z7&x(Pjv|1OHiqCrru3J?>?m_vU;5I%YvH&vPz;bRV'Yd;+4xAhNLA[Jq~Dn`Af`kJ*92'fSny1/[khB&VNPk#K]njOxtgwGIk!ZM'b+8[1hLp}jNSE6$b6A{4xDEb_E`b5Hg%`O7d.nxY(,4oSctz
Df;8^/YuF*u;,KMy2WdcJ]?Jc8;x*Oq2NuA|#?d#}i5HYbP':>DDys'yg,*DbI6KdJGZ_eikMl0hkpaY#Ekv3IXY(1gFS:^v5Op7T/q:,J?1o7+XbTX^0NS!GLV]BC+MQ_OMy^px4EAmM<>G?80~[`
}r'h{KYTkYEQ3y$G1HlLg?YC7rY[S/wT=hz=UL&^R?L]Db:>G_!jDSVEc,~G(*fo<o4AD2UyKtm$8:zP='&SO,JTQ|ww(Bvr;knvZSZ+oY$.<)AKUYGv7o$ULu7<*v`Go);P}1eQnU`wK4yxUP+#%*
x4q_a2::$L&/+Mg[?.JNXQgv6'QV.rUVnW.UACJDWSZ{%g.6r7kykSya>dXo_gK=GW4#qsYZW7rw%5b.aUJnvw$FdJ9N0!Mk<Su=?P^v;z7SpbJQ%c9]h|k5]Q=`,+fL1wL>[:zL#hdML/)I*Nt|j!
.8GR~C8P$yemM`:T<0QzK[GL|$'_pGcZrICg[`)1f&ATh))#p#kVRMH2]7'yM^5BgixhA'S1PvBqk<i/erLwF{aKOg/Ysf*.|s[0~_E8kQq:1dmH_lj{u90:&(p'~:M.ANTI)4dyWkOBB&S5FdCMAS
KSsCsZjxT>a^xeO~YE#'R>S8Jqn2AnIQpEy(c]$u`TEopho'JoS0zlx7,*Xir/&3'!LuEf}r(,5sStJA!~hiwHTZxUr:|}TB30%Tg>6pKk.X*1A2tO:x:WiU=~Hbwb1Owo`o^Hj;F'?OA]JSQYDp*'
_rMQX!5M.OPo[4h34)RHa.w'cEFpm592q)V`!`N<l]/$`i'v=w.:n0]YFW%[+0z(EJsE6snQ9%Z[>E<Pu;%HyEoF9U4I$1m*6JPZC`V:bvBIgo!v#Q^v`&jSQweQ|VFC<:F?2`SUpqKFSc}y5IBmmY
z}C+5.pRby!U;($P{/4T0n)M)xeS/c?`|F03S0XNDnFre?4EU.E:8WuPs^TEbD(4gZax3^qwIacUXMvH{D>FI/bTN#gP2VUe!gQyyi/d`~9N&>dDUJy7F8moehSdkF1bx>SU?wppS>FNuk2pGZuKiE
+?^O=Z])6fT,gY.M'Br%LiHRD4WusxDUE!bYt5Nbt'}M[H'3GE?fy6t4Oo?%~'g~iwO,C4o?|.LybxsIiB|afo=[XRKLLb^pZ5#MJL&v(`pVF)/^WiHcQCLS0tcJX}T/i3dBK|.?p%Kc09WfUy0VkE
]4w=J|Rjo!PG2;#n3YvyTQXMU+$jg)jbB7=r7yz1$[$XHpkViyO'Wn&#|2K3t=(n{)l}y~taoLEs39WrE4O;#w.K2iY,YtE6Ry|Ou0#(EaWh%?bvF.$5Y#|mQe+I=.Ybv=u<[umX|8/kR'~zp*%+;?
u~0TW^^0_TSk>w':dntW:gwjr^PRog_P',mL4d'Y7e>hEQY~1vyXOpf~4[L^IWhB[hW.|5C*x,F<<$rC4{zj:/kSEXGgk9FhJ0.UJIDKx18|N%xeI/T&MmFm>s7,KKicT~.M#6OKLSB$5<d$K0&f:O
aW,^g%`5Cn8r_VX{Vg(pIplS,|JIQrR9!.tCQ>|+|TY{FB3qW6(99KbFss<;MsC9R9qShJB%{||w,YR[um's^[~mYgD3rua4Qan/Ugt/h,Wvu!h;k;)myhzoj=TJg!vG3J<<q_6<2)^O`U#$[M/,LS
P?F~Xm#I%7pt&JE{,X0ssypJ3{FBYgScS!smZH'm?1VN[Ww1jOc)%$f.R*8[*2!7QmvEjbWhRU<Xg?#qbU*JEfN'#jPnzwES5TC,/^t8M.Q%_:75B)g$&tz'Tb#8!K}A]q|jZc5Af[Y:O5VVkzto_#
H]Jh.A/Lza{yT:Y,x!l:q/<EqduCj;;A.am(;bbROnjIa:}Gxni&`x')6<w|;/PHp/kdBDOWl%.1%w<Y;F.i^MiFbY(+Phl7j{EhK,}Ky{zpQ1{^dSwZ%P|j,'<i.[Ad*0|NOjEk+n1~qx(}8lDa;R
*?Cp'=zlhD&_kn86|],ZsfJTw!Y2faAL8K]!3tOOk%dOER~4k*ThTtjT#U]65>^Ha{'0rjp|Grg`v;6j$|4=#V9otQ!b_2/0}`Q^fX(Bmb+>O3QMVvFf9go!,z;zu4Ag4Zj]z)!)LDYy.m.bZfRjfN
olsq54SQj%=k{t4c;ewyIzkRGK+$}2C+Oh<PxN?H`^wkD{THm!]S:(5&;w.LXO#PaQ|K$Zgn`>KivZ!U6d=u}k{`7F'z(f4F0iMix|eSQ'HBQh#}28Jyo{U:e|xQPzP%FVo4Zb?!z{_5]k+;|LT?P$
](h8WA?C'?qY_^<`3hT6{g>g7bq(qE},j7}^0vY:u2PZ}+&!5$PO/?PSaM/&Td27<!_|=+>9L&o=r1LD#!j2_f*S_{Jw5xxp<c{_8w?nUl`jQABntbmZ^I`n>'94hCPU((OYE6+L='Kc5VtuF}c272
{jsDnre;'q#Q{PwHRcybqB~SCTvkNc*Io?iEsA:m=,1g{:|j<$k<;M'rVl7.^ilZ8gf_~;kJ8(Q6_At+12G:{PUtflY'T7*+%f[3ncS?1cWmCc)Stw48vQBiJ1M:2gfPq0{,N/Q9v8.}R<vV$pvx!(
=DH){2[#kbpw{[ZG,|l1.r^$n*PogmV^7j8?H<&::pV8_&?Pe.{)5zA_=f'N?`^H^>7ia#`,#QMS;&?wi,#|JCe`E}^J~daT~#<1H;^UZB,#*&9VZ1}yO;7!:i=(~zzmROj8'9{?u+8lpj}0Qa4:cB
j&[yj}+?A)?;745nbar{e#OUN;d6FOln4xp4p8&}lr.`qyym<5~S_!5add[CU7YRSJO?oWE9K7lcLm(*guEBDk<YQ,&^}Hym7euOby!SH{#gN:2g4|vM(M<65<kl374zTPp~Ve($Lo_ed>c*a%9!V&
'!wvuPBXmpP<W&y{na`6YlFAN4P7LbsQ]ly#nWk4ru^Er)J4gLVBRA:'X#Ek9bpGgV{!D1}vMk3i<g%xb$9BGb7k9v`F{$M{9~)dg~ymj/+#9tdj?t&h%v**OfNg|T5<z2leEE|mfoQM]0SuVzW{RR
M?[fCG:lL16VI=W5cJf{,f_u.tIzSn5g2EIH.R9,^VUb]3V/kY<7Y8}PmaLRNZ&!TV'pGc7K:k*[$dip[Wf'nTDs;7Amg#*oCvE5%,Ax8o&TUTHC/*krk]n~w~?Mr[UJVG:T7c}30^89L5*RMpo=#x
_/l]IVE{WuEupY$8sJ&t[ttqs=tUTtKaXH+!0!pzhUwa3{lt.G}UoFvFQ1bt/c;PBTix1[`r{BOh~[pM5tpCok5KpjF:?d[DVi>OqU3P9o[s}p1SsEeXdSSh}4n_GxG&u3QT{i]e)a_zcDZxL{F&bs
4lSEa^fdB&/JAGUx[X[dI1I:Rij)3Gi^wTsC0^ViyC%HpZe(,S`H`pGj~Fh>IsQa*F$mZBdDtxKz%74dZ4!6V.(d6I8bb.sAx{/fZ;oJ|ebV8.E$:T%r&N(QyL_Gk?FS,Y*{??tE?TEg}tuLW{#a~g
_l?133VHJ*w)zBrZ!e1}evW#?V/&J%:zeO9B(%$FH.A#$xiMzT<8;bVa4QL>H+vu%yN6<gxxXn%mJmN[jpkmb]o$00y4exa)Sm[f=g&W$q9ZA9JDl:!&X0}Ag;4wS},'H]J0D|lnG~zDNJ&K0Rndd;
SZ)O>598{4y=%9(:wBw{(hy7CE~2H^+U~L%]aQVx7Wk#rQu!1&#11P1x;0pPudQ.lk/tw*s]~&s]zKBs^p13_M:m$lNEJ$hWO}o}NtjgFq,{7aAG:8*`z^?5h*O:Q{*^ULU8s9ubXGb98D=AAw1i{M
,yN}[Z&4_eq%v0)NPr>k.x5RwUBBr`{NIEO~{|?MeX/vGh[Q}BV#DR[X+fCHf$$/E9GI=?G#~fj#7A*s](rRP8c4O7P`2K].I}&`=DN+oM(:UkPLN&if!`]'[>M=E!KzCL/DDewr?oGa8>8TQ]dk=o
Yt^JmL/iQu!.I3DB:_A27`/goV'YTdp4{+9fYM8~{e9`(XF[jiq#9G=7dS[SnDCYjO09o6nD8S891R=T3Q+h]otRZ#Nu&0<V~=e6n&at*(EA+<QAC(/z`wnCj]P^3yn;^1%vPv~s=?|[g|FcIIvb(.
%H>2_qujhbPXTiYtj[~<),UT);F;gbr?Ta=[N,IS^#u~bCw%l4GUahYd?<b5Iwmb?OgK&]H%#{M5_V{<bgQ2Fs%(bH]DJa&yg6HKC.N)wPZEBM<<,J9NuH!)bm$Yt<>T{1aK91)OxmSsip>chCJuvN
/zZ.ofr0_).q=rOwp>1XH:hu$kF[t;OQa&yL+'9M[~Su'S1Cb4.Tzm*b}5Jh+azJt(N$i<6l%i2[O:A'?BTj=^U!AxnhmSf6co`.>px8RK]>lK}J]ZJv*R0GHTdbXYYD(OkeAFLmRhds{AjqjLjA*,
&V|($IOALwGt27gWEb8~y=FoP8~+.qG'AN+FC/W8*b?ri>K,q7&=vsx'Qx*]h&DRh[d[TR]BzWu{!&5=[:B*XkB1q^3~bdM'#M|tC=65LbGpNigB{q27m4|Bx7a(*C[!N8UgaYBPt3,stYz[L*M+W.
:(#T6vYWEV+`l,g&RGNBpQA$J?$b*lH[|XnCkwekD>kUpo`T~bG,43s.|0z.4.J[x|]IMwGWnrX(|NHMlX0BJgBjAVmSUXZ/}lNf`:qqz.YE!KY4H(8YS>{CrDgd+5kK8Nynx|Z{B#+2512|e}T.J+
2[P|D&Sy%ue7I.BH5F|[u?:!^fK)#j9[d1YfQBH361;chmOim{]/PV.&Fxb2Ip&1c~3d;oL?*f!*zq<8,%$5:wV'xf;d.Nfq^T387$UiB_Dvvi`y:rx)e+kBG&`P`+Yat4%?ZFE,w!nbH0QmjVp*(B
#oR8Q[vnjfLlDWdP[?4xFNArayO?JNkzC6gv5h8<_}bg!A.1r,~{BC<Kyr<Wpt%qyc$(h6rQlg3hP,aqeG,_#shq]/7s<M,}N_s/hzak]wu[,9s~Ed+4w&iXyH2Cf9F!2(*X:lkNr.4(LM=,+2Y~D%
+SXwJ3A;JFo4ZL|B/B|4r1ZyAN:]kBX+vK_a<c#/[QpAX)r5+kV2O;_3}yyVXN)Wp^[NM)M>31Fc>bJS_{T)68(Jj<},rpQwbQf~DYNh8Lh9vK[n!O0<V^HMwKs7w(^hryI>gPeIa9ce{#8pEYP%71
,Wt`qm$o#j'wy*M]vfTDK4X=UFnwd[/Tr$H=B:~SCX4Pz#q24l?Y5^t:Y?X0J(DZ)>J*2RJx^!z<UN.F=Yr.jN]Ki]#qwtZPG/+/*Z8v'&^r?[Ybf#.c0[Tmggr?e']WRbcF86!dSYa>Vvy5Sz]O.V
&mDnO0?%vkk{Y3DVS8;8=T;BbB}o$IcUNofb]6eNZ%1mS_1IMypc6x;TH.f<HI%u>f;x3mp=RnxXyqozF]ot|c#X<={B`g%/,fZ6=tOZZ!']c:h[uM8hhMIe`|iX4X2bz+.;'MIOG4%e&r~Fi&3MW{
fyW]:r;ddOfd:H:Z(&0F~oOqn5sh}qLN8IyM(dU1oawbx3NwXIasdu[hG1_,lPUBE0r95`]l[w4FO7yWqF6lvv8fa:I]&'WO.[dE$18dlCB]FPTm5ASn5BCtKaQvrtzrRx{>6U2o.1u4).q{LCKAL>
aA50I)lvO7w4uwA<C[CX5u|B~SWy|Z#cY&dGl7H4`X6P/c}bn~Q!9$!lZ59&Q.Fn_d~S=xu6/Qz7v%*[q<}4P]]kY'g|wvG#lSzW_|P1RSP$Z+6EC;|b[%=79KLXc{E04cRanW}M[lkzJ?Y)649Q'r
*{^m/u8(VXTj2y7z*MArss?qnA6GydF<V}RID2;LY4+SQ,C(_?;Dgq&o*#/JaHV6/XlA'mtc>O4t)NhOYM>'xAzIfnqnkp?2VG&MZSI?FD0F#Au/(biyyV}j9VbP_X[]5vMxg2SccK|86!t{;=6<._
/w9TyR,w!H)%L$La#W`jAdpX68rU]WW:9d^+P*Ymy4pQ+WGYQP^O<:<IS`<Se%hDX(rQcAdkZtvW<~SDP?CP[=Wogz=t}HUkRDA&=nLmVs:OBt|GsBF70aNZ6#.,:sy)EZ]=*qV,4B:iDBw%Nl!0y&
Eu.DY5:*ZPIpm/:|t|Z`T4xtWEUv[/~!uwqc%WoP8{Dpb?d)X0}81H^z!.Y1s`3ko]c<ibd)guHp?K*80D_L[[.V)^rSZe~m_xcp77R)[;4%{G|IT4hf?v|if5mV^q2~TSX8tY>5)uV}GqAd0YC_lh
YM9{D'_&K;G`kUN=3|PJD[Uu2(;E624e`&,m*sD%RZu]m&36a}UZ>[_TC=uW^.P~7NHn{z)g19:viZ:,?[%u;+~8L/zq}a14jT<A?Kg]Fb+uV~.:O,wNJgBS=?M]n[9VZ;Z_L*DU4bDk#b*Xb)k94=
DMcC&6/mqsv/v9)rQ:Oy[uP5lda>*.t49=4x`o^x|pz~>Ywh[7UZVOxW[;6VH*ldoQ.D[Qv&GivNEoFnFA#t0P{B.62q5RI|qKBS4D;9ym9TD7)1^i;HSoj<B(_?OE,Gl`vS!?}b~~S&^6b.b/tX/6
D{AW#q?K,5pke~_&5[!t<xWOtR:F{+KB*z]SH)2w~yORq6}]UlhQ*e(eQnaCO`c>J{>&'e#We0kNBPrP:A,m#g%yizr5ISk5v9CKms!$''8wFmzf(*&Q0QkIK[%O>g$S_#qH]&&t{/J.>3W$B(Bm}=
7fFSz'jUR:+'aVf`uC.K0qDs(1vjN7jL>3r$'?lqMelRw3^~'10T?u`H8oyu3L0K8o&jG=wJ`WfhL;!I2|gYKKj4=q'YzS%2uv`A%:XDb/HNS0GtZN6VT]bcK09+V1enn1.pOb|nz(/E?n0(SN!EB;
V:O:^i*F,XZYT]>ocZvnC!)z;WS><*QmmF^61`zZxw'UWa#o$XP|[#ZSw=;8W$Sf2V8G,K<~t1,F&n`j`|5[0P_5{#De<VG8'SV!1e1g?CRgD!&A,x1$TsU{FDkPf';+g4kn9N]~?&}=RUue|PQIU^
v64nlfMrq*K,GKCL23$HK#OtY5I|jXf^.|R8thGk:5|Oc&:=b85s=%0GIoi4xv::>B/_#$[{,}bq&E55jlC+hvn;qX&u2'=n:|f#W_=q/_<0wKx]y8n4yGnGrEyc]5g51kH<cmZs`E!eI&jb&xxujp
uXre):QPF??:WN~%T)4D}PHVL=JweJB8HPKpIwE&*7.%Iew`}D0:P`DLhDR5J%_Y_$r!6`UmC*>6I.S}lR1q.4O~*`.Sjm(I9VHPn=kH(XP4s4,l!LU,SzYB]3du4GBsC%VuWGqkr|G9Gc79*jB;.v
8dk%18*Z.J*7+GwuM6qkj[k5K=:+Pcb$d&f}cqzaF~/ZL1%07Y^q;]~d?sy#][ws7?l^FI^S02e4T&2[5aa:=AYWm(Nu3*#B%L!lR7|XL_9;;^m&lVJXL;C=+=[dp<0d:E'<D?|%p+^[l`uT$~P],D
O>z}`]A<v>pYU^$qJP+L+XiWu9QX!H6>2vM0frj:ZERR.eLOXvUE%QsHSy$X4jvZR!NAd.;F`8b&'nsR7<FN|E:MgCTpx*c?|RyP8O(1h)a|}.TPPYZRZ=^3##cfRR=cyZBU'8=#$+zeS!ZEZKCx'T
+bt^Sh$t#W1Y^Oyjvl{g5rzpm>SKYz1pC~S$V6FUw5yrMfq0?LYBPZgA3`f8sY~fHg(=V9P?F*|f]Qdf|^nTGxazRVxIOFC$#3w3(T;{'4~4)*R#5{C}6jzukKdj<gYxUxz5ox~MO3KR6<MRnBm`Hu
}RI%{*g9<+S_vhi}TrshSP2zWc`VSZT<=<NC)tO?e4O'CbF6Y1m{LLk#ou<f_5NrVi`s:u&u+}g^;4v/kg'l!f9nWDbFjbTpghI,?Z1yiDX[}A+?X]mkV>/P?T2AK`=~C{y3FKWUFA$N^^|E{+ZjRe
(PG`8ayLO!v6vsqcCoIpiG}4.7VH}{hW8kB08WZky]5<D]BtysNV<lYp4f=N~*<pMDS3n$K3HNh/w[ZO6boJMB>c3p=?lH2_d}|0OujeddR8,bF*Utjj!?WFR+pq7afI$4qE.Z}SnO2~isLMMy+;Tr
}5Jr(b?Hd^Sh#elBS~P9:+[Tf5<~LaNd(f5KEQq.>Q/Vc4xu][.uVzv$:9tM_a}_66rJ.&kqPa,iqsRaCbth^(Obn&VC!3RezDO.bA?6ntf{+;^FV7;:eR).1SmLRnL:(cs%4JW|K%g(=x0#{TZ9&d
?:[7[[}3#?/5=7R9I7]h~'qi.S|em*gd.Yzl20C4pG*1>VLU?*aK)!qyygkW%GwVn*`{C<9y{4Sr^!:9ls,6=7CC%y8Gbk~yf01t5%`r*;{l<=PL#$L,Q)``e+KLYAV_idv5;vcIKu;/QZ/YKg/;/J
{3C+?y)cj!]pHfk|EIU!}p~|K!Hh]_:3u~Y;(5+GVoN:+N~TapeYuMpSU<s#0GeqguPK^6:k0(_zq9<tGk)OvAS,XFtU<fKj%*yy;55omo1eZf**#u?^=w0Ju};HA?6C&uX0rf74X?}0TDyrB,3Vbr
W/6+nJMV~09&5G[nZuyq:~CkYihUlgn3)&cpv}[.HLRQr6+R*#FtFPT8/MBn(])5k)T)PtLbm&{48;#,moc?P58'E&vsq13:tncy~uTF]U(9jz+iA~yyocnqjY,OK%L}Y$|53G*Tq4r:1uwV0u=BmT
%xhutKOvYiKdcAxo9B#Gk4d*sCmEoyBIrV/Gr'ii)k+rs<T>Zv'+!6}^f)J?k%jh!mYYJ$DK0,pJV*z7j9[gB[!U.0aXOFKw32a{EtD'3${Jx,V[y'j[gl++ayt3V:,[oUl:x9IM=ae.}Iu[}*7h5s
Z!Nvvg&TC)c*MEZ?IYzq2B5DM|wmTXMFjUYc?z$^G{!>B;!>9DEGJyW)Bm)v&1V,MM]{7sRAV(uX9Jik>oVfNOo6>~'evv_ll'1D?]L.I;{{KUQEISvvY).;%?)SHq#>c4lsKJVv;JHx!=_=4L['Cs
u{z{cElGEL'bljqZLg]7d)2(:=U71<l!j3_o!>t1Jd0M36D)nxpw:zS?/YbmCa(X]LERZ]DtJYk`8DdYT.Y;^YiG/4ULrE//7P*ANNB>gnX5zF$Z%kn,J|_Uz}rrr:{8=!o7NJ.(5`Nb>E{__ODyLX
YA,BzRigH^K'8AZH}c0Yk<0]9tQn?cj'r<<sd!5B3;Fj,rnZJ!k6]=P6OklDN~QmH&3tRDj%%t$*};G/+]&X!eM`I1`IB4~Ua[s`&0'R023=G4A1>6W0($Zn<*~8?),^k!TLqfDs$<Sqdk01=Fwedd
o),a7SGY|9R$2xL~e'DAJ4YpJtV?38=,&rIlR>^wcwOYuhq16hGt,l'1k%CwitZCo(3]1YC~5NU[L_xxv!nb{+5/X8'A'6KV{D(pf4Gko*)JW}hKWGQ^{ro<FlI[L,B}8t=6DW/?hC(DdBlJ*FT1ka
B;0>BnH']f_N!$zwMc[ko'A)P2BOi2Gm2[!L:r=waC8BnV7PuoQzGy~*/emGJwa>FNpOU'B)n|f0gx2[W'fA!2]0D::_xSsEaPnYrHFl2`qU{2'UlRjLf^Yx(wdS/`{]|~/|jU7H6TJ)`zN|ln7yhG
[r1x|T>46)SPz$:?k:z$?9]_'~MOW&^NeZr{(ULB4dr0JeljUhzUL<{!PP/WWm2%:3`6pG|ViN%mJXpHtA{8Zl)f#'qWaBgYr~*i)TfLFyA1DeGR+B)hP/fUKJH`5o+ZWNX&E198&)gXoyxw$I64_$
gT?T6?jUuE::t<cntuvDBC2PDR#q>JMcMGK~a'/TS<3XD/K>(rIdgwFueO~Ih||x;mQ%WMjr]p$+nb4Nu0$ao{RLp+=}}Y25c'2B`RYBi.dqmg4w<W7L!3SKqeViZDIDazj)xY/>yGkb_%4smC6(7T
qt^X00X&77S$mO6Q5qA$=<!)C6}gJ&tcSC^F</??3:[9^13]<mXRgY;O]CXTh/#]Izp]~puU}oL|,Oho0*G2V|jmm147[WmU]m8,hNibbJ'LM%%*d97#2<;{k6poP|/Mu]m;LAZ?gt`0nS^U!k89PL
+dq1w!eNs;)aGsmXniNc3!^&UyJ;%%GljlFmJ{b7I/92H5*Upend;VI/`U>Sfw4]hub1c4$3}]cvdu}P8CJB=[TlH2Am^G^Qhr)YJ*S[YRIy$Jv'qgu4,ak}Igqs0(`#FoT9H$4<hGwlpatR)md(aQ
qsy:l^Bu!RBwPL3$s=8r'DtTz~}%,KC6nLpZk;NT*CSrddfh0BUj=rNqSBi||Wv[15q#}z]?5OLsBBm'uUrhren,EhQ2INcNKWcqU~RIL>]mxymf7M=OwXFC/zVx:$0E9xY5v0h2z!YnM4`a!9r06{
pwkwR~x=bTNx8Jor1S.F#),xm9^}8)YFbNdXg532/giD.=oTz5DIZ[MWB6;p_;D_^qqR=tL#wj{mC4UEUR4N:9K[?P+|I:Ydnm7}uLsM_y~0}_/hou=[e]WwGue~xbH<n!N(6E[hQah4ESf(][_Zh;
hip.sBp0!_t!hxzOr5TO%[G+Qq_N:f^P_ea.et1#Cd90Pf2~'WN#5}/%.RJuDImSEQZq~T,Dsjl5jevX9P?|a/{GH$oE{*PJVcXsSmo5Q#T94WTIf_9wP37A+ZHg}|C#Qn(X;AtCrA_OrVz}E*|_+,
(^u$z=:W:',Uub_IYHJC<X>pX9y]T`h5O>zFqs''b9g.+HE_|flk{$YaWX&D:dTqHV7fgHr$D;RD?Zy^E86&e~|m[uM&HkE!jkll;Y5s>:Tj0qU0u1*W'Mc:j0LB5pP'^p>wf1?1v:(en:nSti>'Fx
6$p.7V>#jo$EEtdR$jKbQ{GT'fWB2|4P$4+Fb4(Wk^]T!j<;!w]}d+!_P#HMZv!~'3+x2'Z]Z[ssg&'v2q8'`7S)/tYx+I'W_]Gvy3OO7q~R{j)Bua[J_tD3Vu*l^ExBxmdPcSK2Xk4{knzB|A65jR
ZSW3u[jyQL&cQ,C!|e$?dS1}]F}2lV`qi|mwF=a0^YD(`H30#fXjx81xXFj:K0[qr!,UAM&70*z?Z^].%jn)N}x~L&rI`g{n??t%,#T=(::y4x9Ga#|#eOFY?>uY0h|onUK%:TD4tv(e)|KSV.;'fO
mS<<G$Mx*q<jL{o&gEqz]%qdket~v4VHf`0.<]i}dVWPxxP#}:Q#I*YwC22yt)Jz+KQ?_c%pY3'g0rXsKH;[E.y0m`Vg7;GiFd'HI/sGp,Z2jLZ{+|ImAhhaSJ?AH<z)x!FfiT~%sM'zFN/fo(JWeL
Pmt6Z4f16RQ`)+QP_(||T)Uk8{%$nFe_4!^Fd97w{7aa%LQO;40nItNgrIp293KVNbA1(/dN}0Bx&B{utJY]84d),Q}n~MNib8Nre8cc3zIb2y5/OwJP[L5a3L~H)Te(szQ!`$]#Pdg;cnS8w:4~w0
E>9$^L(3Bp9(^]MQuv9O*Z'PDfSBh!tCppJq8{l:_+717W^scT&:PnZ+3.9]}My7(41+LP=Lj&d>Uzv%~n0#TruFTzkE&BLBYi1Ksw(a/hZe#y!8UA<!f`2/YZc&qhcgRgGe8l5%.^y?zc<L1sj#Cn
6!S5wTSAx(V2N|_~=..~6s95<.)SbPBDzp<l?%xLk_*KtK.OCf5+nN[?y0wFaP+L4(U`[4^{EC34rFiF}F5Uw^.8L20>>LCw(cJ{Njk'szfR>gVl~NZ~T=1B9CAd.mcuCPgw.;FAM*)s+IyBmPAa>|
S+H0|}wd$a~c=H'F%#GuFld#7]5Yn|k1KZo?>*`~ZHh9lttZS*.]+4>Iw2')Xt2{`UVPS65j*vF+3WP]bd%Ayp6?|)>b<!P:!4=.]benSd::>}QB{hYh(x!3MA3B?i'8[Gu{:^+u,5j+X!jY]+}O'g
r7|X%ljxYStsRw/a?%J,td8hQib$z~ME#>&NEZEz9NcrB4yu9c1a&LWYGl,}O^LV;hu'q_HBfs}~ZnZFT>hEx44|['klJuL3.J2a$N6B^=V<J6sfD!1Jj;9;$9/,h1bSYWm!wt&[womK=1hvS1p*N7
Cv'rB3~Q3LSrA$!PWQ%}rl|s:N81K/U#nw3.f/R878syF]gc:kbWEU!~GMA9Tl%y2d]f.j!p}B%=|~3MONF:FaH{e.,P#CT(F<z_Z|&yqCLsVKWWNXy#5b/?Gzy/*#}yiT7~#LebU_?+G%$Q!Iq?!n
})Ktfz%Zr3'B;oZi&>_!ccwYU2lz5';n_Hf07f:k8Ab{LoT~YjAmQQWXwh<C;k7wEsxvJuBJr#k}9=S!1KQ]~&pBO^]r.USm>pQUw(EUngVHJ>[&+t/qOSnnnZT'<oGQ5Lmd,WpXO1phWzX6l<PP}L
'W96mJIub+)e<ew%f%R%~SYfUo<ms?7*v,J;h0Is4Ih=yGKyIsg51OHOTBXGx}l93H!>]p^CIZ&+.r3.cTWjR({2xd1Uy7w%$.4Dqtn.DNYF/!PG9QN3WwMsEb`Sik}B/8eCX)fR`B.}Ie1F/sJ6!8
2upvM=050'SRL:&)HzXD5YPC<jML}>9RRZ%=?`f+1'IX5#T4T+gbyZQyw_Y7xwrH2;Z#+oh5`DE_5?141X_Q1lEthM]a3xP`BH,5AO*aI/41{B_D|NJ}ZS02p]nBfJ,%2C#HEZe/A_N[#CRX.:OctJ
H/+$KWk:/ZLPTYG_xq*>6eI}>:jP,(&,)tkC>9pZ%/7j}*>^bhph4hm{Qq]5kK+yawf}=~nBM[cJ6wcPu9$?f<XOs,Ej)TOxtfIs1Q5;bhEH*hw<bjMx0gVa(2P3oV=3O&YIvoocgCXL^RaC=hR:F?
bv38UZk&Sv%*jLuR=7E+_EOkQe['}Zb8}BerMkp[Xn0$yYiwupC5_l&>;['rq{=7g!D7Ubv|`T}jCGotIZvUfgs;1dNR`~0QzfPPr_%x)NN!RwY}MN(gZAqj!2'57NW385yy5H+=sDkyKo)KZ($,`B
:a5aQ,;28>1(pSG1gcJ9&7o%:J#CeT^=ditD[V$Sz?n'>ct#e1V>&!{~i.JXeJ<IW};'pJUMcG;|Ar~f/z7p?yucN9r3EicZIB;1NspRt~Ox19Cg;*s[Fl]?G.rIl?h2Ac[2jFVI/%y=&`(_eY#fiR
mgnRZ,DVGH>ncJzt(2qe{}Tluj47cpW'uyh'l)ZvW/!^|F$B3'WuW68%;K6I}gm::#,sRR&edVtirLJA*/l3v)sa{Mg_pZk.,k{HnjlkJ,1H?fp)[(,7BBqwq'2Tz5[C(9D]*k4/<`#E)8n}]6T'Cv
nD{+EX7gs/6lR&9KRmVPsR|wXi>UW3E1Cy2SuqW+q]po_vjyT'}DL'Ksx,mw92,9T#*S`g>dJ*{NWV|dPxKZ|&XK&Ib6:.3AkYi5~G1+Z?qG}P](8MUaI2T5mJii&[o<x76]jb9Inv1sF[HXf9|9fy
TQ`)Z(<K!gq<k)C'eJ^BQ^>FQc,=x.Ts9DfL%I}#9&vJ;5?XG:aq.7,5o{uKgP/h#:/GDLH)xKO8GA2e|xwX`OFZAh1pUZJJNlyhmiiZ{)x#9,>`F,Nk6^]6kKUfsn54M$w^29K+tKkA?,hYG[8mDi
V=;e_^'b^{#C`q[9PTO1^C{Ri.yb0Nv7FG%qgV+;c$+?[tT`0vTenYs)e9NA;U,I=iD)h2)=H}A'k[F8ou5,<R`zwEs5Ju4jn*5osb}|`soo3:JoD1LyD!YYdBUul(7xLEvtCx)jQUQZTpw&E6Q*D`
^OJMc::8=3}rU!SJV{6h5K+eP2*OR4.j~|*k.JbzAf%0h(.`]9UI<^qBsY}XM.g_e&j?6O%c7}tP`W;7^?c)7OKY5ZW*Y?Zl9UntxRL1S2}W2'jj,cd4J&fgN?qS*A'ivffAO4+YPr!HMYsoj&;33D
Ub[HTzKPTK4z%oYFXLItkDh^|/|Wh(h/Nxvq&;hs?!)!ZFlJ.[n1t8Cf/DRnB9QMOQP?KXGz^#PqNY!4kNTUpgD^0f|z6k|a7W<0sg2Sb!%<Yz^pBp!4_AhNej76(:Pods~(;MSf?D67KqUNLW_.V3
6z3h6d^(hr;)9Z;)ngrqd~y70dv.Xv#rCq5}2:+83?wspG$.uJk=ax<Hy8_HOcc&~m%}oKw]gL63S+H+`d.P'vlRi<9oGJSAn]|QSk]>>Rwym,.Xr.T:.$snWzhU$97)Z{o(G8Mnh#lHI[1ZD?2cAf
]C5Ob|LYD}r]]8wL<y3I_7L}F>*3*$^8V#0]P^OPOx#;fR_4[ks%VfpnIVtULBJY.>YqK+}5m4|4;mKVp0lUElUD!gg<`y9b'#R+di~{l]2<t7;xF<y:}'x9V}WW&=(,e}}?Xnm:*jNEmh%;zo|Y1Y
61u|&Mbk!M.gK.sxuCjN]:*+#nEa>#;5;yqDjTFet#ZmC]h[JS)?pSReH_r]%l`RQTVrcR4+a%.G5B]bM0pS`U5879B!V%A'.MrhqJk6tEYzK^C*!D^r]2%]A>[aQoj,*HaKXP0*.YYR+7jcovb`0(
tl9|CHGIEG9tdn=dYB]*<P0fc;N'<PZfwCK]_'r!I'$DJumm^>l=&7WC]K;_Z'=3ScJ!FL)vVb>i}3QGi/tJ*Cn7<DUvs*:N9H7>C?=EO]%lf#6i`dBlhb+3n?<}B3q+<2vHUq>$*B[X,/Zxj{>'?E
9k%*$:{<<M)b}1zgrDSqilgT*Sm0cO#4o3RbT=ljd7o~3L3Fd/*3WV.?9Kr]K0N2xd.$tDT,yO35rrKRVQ%>}0W=4_F*WDzcvialprVTh]j+0_$)xfp9yv<%SGS8E?KEWH${%BLp,'hH4$VFeyXo+,
j;Ury!mAp?e(MYzf6Ef`vByyF?]Y5i:.aPi|Aohkb{6cmd^fSzq=!]{1F%NH&q,zSKCngW}3||U?NvChC?K,dsoj95!3x5(3V/S>e*:K/`},;P}ks`xKKo2S%m'q5.{tcFq?;B.A|(L5n9l*J7xEx3
.%?)F(JgWO3`]jNec>}/%i/=3AF9LAEAOI`[UU;^0G&ftWnf>J0e;LaCQ$2A7/!=v:{EpyU2ZnCswagKAaC?r)KK6))9hWyk$E?3YS(<`HX>(oC%0:Xe;.Gxy[ZuKKJ!/OP`taDjj>vEz1iduvHT!j
C[HRVTS|E:BeRzY%&rTE463p7zu*^vW;H10^a4F?{Lz/d[?}y'9~!RM88hOCzOE1R?6#5~:]|SU`inqM9bjc7274_S%I|0EJzz*c3O,&$M9^ZCu8TC.msHY75tSPZiNhv?.j_kub$Zwc%881C=17Y#
s0W(&oUpqf{`;5g`WzY=]FbXV(if;DItl&mD,PypfO:,W:=*988L=}tzDS2$S#/F'FQ6O(J6h5S);;k!'QzVgdMqlU+GM*5eKAV}{S0|&J!KxcBnTG}%NGjBMUu`Wby=a^UNb.4uOnM:nla:AWOc1%
<sHHNMt6p`k)KOQu`<nq|~D~5'J1n5TCgt%29Be<Bm=VhtyfhWK$QcR*!xEFzSUqu[j>W?7`0sScEAW2Z`M!5Qh9xs%#;rJfqqQ4A2#<Me8maocThLqzFH<IPMf3%8MO0+rpuYxh&iZ5RNYhRD4}tZ
M<D+T%kg$+qy<.CVtLdXObDZ7wO*d<m!yU7LkvPF.8i7hzD=zli;p2Ku3b07?7edp%NlQpJ~f>af>[i4zd2:qTD:?q(L7mM]~M=LX=Q'rcmXMtP|qEe30xdXLUk<+8w'[8'_V!4xSSLkAXtsPO.];!
,=k=>CaSE]%WUSgJk~'En=Pz*tDL#ga^5*dWDi!(YB;`xP~jN6b=>OAtEMbH_]HHvdgo?`r7HXbFa;0J#E)L>V?(q#l=*l:Un$]c0fn|{xY0keAdpaLG3hNe<s&TV0_[SCvX2(3Ago^!u|N^Bffsjh
t)5M:vb<51,}4$#oz{rAxo?j1l+0~uLr>mLk';CoKIR,AN,K!*,1A/j,`Sg_]:NLqo6g~]y!7ii'UMm;d]Y?/UyqHx%!`<F7yg0NGrI&alp[a81QZ+0b8kR[dweaC?Yz5R]{~O}O0kmi4GbJ<:JVqp
qX_*2F7_IN.3nM/E$Lr)hlj15RWN~jUgUorrXQBQAb]78grP},qro[7>YLLi`E&+s/(^^`^f*Q`[Pq2t/(yf<VF7baj3(0avZe}O{H}2+l1[EK*sFO#T?snZwX&Pb/Tj^2L=FxOUge~s[z!CfmO>31
!~q6|b,mr{Og]S%3!N8W|j7ahWEm`ddS:tH1rOKOg:_.b^|v!`t/Ld'O2}nrEm%C:[G?a>nk05].4VxWtjL[w*S;(<V!>r,xttutA7d$JLa1{|BV=P>YzkKIK?|CPGLk1U}sJFGy`kM~rOJD.h/j9#
!84>btRi_75<cZFcz7yT91IoEL3'y%V8C55|m4$>/p^?|;/[vIriys+u,z?JlxKoIR^4ONDjsPzHdB;xZ$~0UmM<PNKXSRftZn:sg&$WJ!f,TdU/}_}wkM_'T|}XfAgLLMXJAQI3SHVm!i:hN$|3{B
9VK<PT,V8l{tLsNv:le~^BY5fnT'|lznZ%f+)`R:^bo$n?HzcAHD5K{M&(~z90zdzuw9N?67!Yva&q!97$^4Yi,#(sJX4Bdb3R=UE|()6$N|N_UI<tfqS!T)u,k?ANf'n|LcBy^/98lv]l[=[&u9d4
ZjlQ=)d*U0PbXjO3s#m!%>*elSR`'!PEQ8jFmmLp)bA9vkHr%nKieuF]1_!&LCYlRrT%]YW^6BE6kZy}H>Rbsq3ha])g/+,.k<{EnOkkWqUwI!%7o7FiLY>P!n[q%{B^$VKQTRre{R'Zq{4XC8oyhO
3x`e=qX{en:s&4z:MGEo5oJ*^X{/m1hgUce/y}i,,unLAaq,A(C#v5pyKb)?gZ{V~)b~GJ`HZ&Zj|07y[#!6t4bRnZuwB^W&1:k&d|%zhq,:xK{Oy#Gj#[0deYeoncC'B$~ZflL+#<=pDw=~pehQkt
FgCnR;;A7T8LUGo!|%kXsm6Bm(u)$gl2GFGQ#A2gRy~?X~`O*/2Q+=X_PY9yKV9LcZh|tJ(&ake]1eqKknCs'S4asJ0YfXt{pki};C'5>n|!nFJt[?vw7cTsa/']i)GlY)hlqC5}8~gEhm~RII^5Tf
FL>&6T{}(Q+zoKtsryAn~`8[8F7*qr{=kK)9%g*vf=YvMXrlq'jlxGu:g]A#fX;.scx/1&4izTRWyL(0qs+(i)ipTNLrd<])}j*XRB#qWqMc4johU2MX{b;+U2#('9hz8~O!(DtVasQ}>KyUa29po7
{0QO9,0sy{B&>:_3wl*sHdk(_X}ajW|=D3=IePmJx.c$m[TGv}t?9Fc`maeCV!/U)W3A]k{QB!Se]Nh))9nd*d]GA?PCwj1;+<%1ElK,rk!uuN8BR8fD&s0ys{wSK`mrsK''f1]yBH;vCBwMATEFRu
1(uDzC>,L;4zF1r%OR<4/C`*bzn!:*nz0hu^`#'r!wXRz}yal87`khN*(fNPT^m,a1_,p]MXOyFw?K%^FPgev<D?vN2paM]^3Bz;jkS!|:P6~YUjKT9T[::>5qH:o6_z?DPUHuzNIHVp^*NLw>u('3
Z1/phtEGak&0|7G&gTnvA?S7Ih_5wXiuHgv[!(pyMZ}zv[pFo[)E`_OJBfv&0FLW+#_`M/!1AR'|v#I{)#YR7c40+LLxkGhZu./x[GeO3|~>(B%yk>G~2ol?_bY=eMw!e)|6u:z~NDTVc7$(?f?,2o
4u'J+6doMy]!JO}:7u7mp`tQyS}%0>Q+,)u[{ZYuzgfyl6_>~+u9lUurH,&{dDYx4oZB5]8:S?Q47b{/8ZV)Tm06EByFc/xBHGWoigB1Mq946Um<{i/S9.(?_TBd8!e:u==YuBS>9<t)/d#fLhe]Dl
//'Q0G?,.S8=yhW|r%/<}PJUc%i~!?6t?TJF8K'']W$~5BiE!mTXo3/NO,~^X(_IiRt+N*[&rTC;+EJ~35{DErQZK={9t[zc&Ej3[lq)W<N#v6Z74</LVs*&c&F*:Ny,^0y`y^:en.GR6Xo.UpPW+]
e$wA}ih#49f{?W#QZwY=~Q0O1rqlTg#,0i;%M=wAV_iS*{+qO)0A(><A_wu}z[s~FtT#>VH%Qhd}qb2N+s8`1uv(,|5;|ZmV2F/4s^*c|[ZX^Gx]w^P$V8t;U6GYvK|`U7Zp}!CTyZE>#h:ntjudoK
Z=[gP<aY{44Qcc_wCU73tLiz&F=dVF3Ogwjl_vj$&|=A:,30)+PPK9U,KkdS2aaKqJ%aFxuBdDt2y_Bqh_#fk$!/Iv+?6dq$!;azL'Y}!I$/NO;#5jkufme}xxdPCYU6kUU/>A:>DAT_a,}h9#M5Z$
~X7'37dX|c(d6[6?>dHL9)i=8cfR9CFV~<b50i^VnBK6~20aQT%}exoitk?#5)yfp>5}q^}`r%Elgc~|PgQH]>)H%3c}do*nP$TYI>~k~wuqj32&>z+OrGqIL0CeN#J#mk#/hHq_7G1l]xuRh?gze!
b,ipN.,*C|W?[=M|*^`cBT,vZ+Nw^[]$Sr>l?h&]t?++1jD'snE>>_{ryL=|1fj;Jit;VfB&,!S}o'7/N:E:]Ym.?WtktwR*:xAwlP.dId8oj<NTC>.MD2LzI^)Y7_|xQ.{Z(y)La?5vz>H/UK&&dx
v{m0Mn>McU^%%]eyfV,HdQ#K1BJP{!;'tg<9Es715sxQN}>4eVG%A;0$.rD_FCzK`,fY;=6Kejo.Es}G//]CLhY_bHiqt/xSAu|KtZ1!}+WZ4?$#]BrK4,HgieMi:Zi.esaeJIubV^1hU+(XK#Xcc*
A_eQ,(6CiX4IPZ?nTZ$N}Ox*.;Xk&39~c;IjXbBO:P,<}N7v|P6N?]}Ja1fg%CL5<KKGN~Q?Rdsd;hA5C?(NAZKZJsg_=Gsd);VZdIz6j.zDKA7L)4>ikNwIWPJ~ehf]fuX.+^BOBi7`mR.olGFHS.
#l60:KM`$(W;Tgn=o'_F37]KvuuG!+9qb'^(3=}>XTPJts,8Z6f152`tu/vs*1|mV._i1KcK%IF'6er<q7k[(hha$,YV0?+}I1Z9QKsg!kotNUtK5GK<4*!>p}*'UR_[a1pHxgxjp1(,dVZ^yDRWYE
$an+A]xj'tCm:6/a<W=WQpC<U&e?%*wt|`nV8wT8S`9Fd|_1o*)c[QCs9=,):ZY&;Y!OM5)kYcFFWOv{Q}?f8O<!*:j&2vUrPQXn<N>W|x/xS6POmzos$Y9?i:UY6a.jLF'crPx9#C$oDyvbP?>mVJ
vK8H.aGOip{:=hB2)<HHX{8]wPof4nAOHeN]G!Fq18Z>Q$/y5O]>#<B_I3}f[G]2or(C8_Y`*G/xDc*8a.U<]5MA1,r=<W',(3{Ze&2[&X}9l&&Hx!k>An}Zl!9y*xZ:kd>zp;S~!{%gzf?I/BYuVc
A5Ua9#ielPAHwWi]?'t9n&F~9ZlAr)/fU:|RVdnRcG^.HU&'T(^aWCg?;iq]V)^NeN&~h>9R4;f/O6Amc^'5&l*,PkKXKDIwrv?W#tg01'gYdh>JKq{SA{$tANkhN8f%Q:<;0s5}}RTs})9=D.?lyQ
:h'MYl`{Sq}w~2H*[pmODAVJ.Iyp6_J$,_={X1r)2=6a??`dlMC3D%u=q!vVv2sH!DBX#e+=CLDYmHJY27?JW%/9K*$p759jtqAg08mf<Z:(NCed}WkS6|Y{{24bH.K[WWyb9:TTlfpSJtT&`7|}mu
<duV*LL3i(ozU6;1it'ahz?W2DE*yI6n8GNN>B3Yr1`$U,_5$.u_VnM/S0!W^i:t4zLR:nY*yGwc2vg^H)lV&)qwH9j([}u?;<S:U7EIgsk:S]'?zWqGG%D8%4N}bhS9[Wpu`YShRh2*8?2Lc1n1E6
df:Jd3G:.E01{s$W3ic1TTzQb8eIS_:1Pn{;]*W>:0[l2&#*9l5=l#VemoMy6YM(Rlcm!SMHvpu)<r6|NSju;}c*UZ{6'{%e]aMR(52Y?I[TXp[?mLzO&l%AL,KkN,sp0?!;C?[y{2Xf_k<O2(`d:(
*l?,BPrA/[//=V35:|V_nb>WU7oktYL&88;^7pw'P?_X~a_80Y,pfcdOl}sU;FmOX2?(2Pv_7A}gkJ/VhQ8|e)J;&='A~~H*Z]QV7B$)|I_`H,j?tHoS[B3rnUbsM5Y^mR)ZkAa#WG8ZMn*._;$*dz
_VXPW%,CZzKx0p,fMj#X&d?G^=|UDyw<wvjg~`:D%zr.d*ad3FdbEfnvTQf5&F%=CjkmbE_h,8AMB7Fe6>[P]wo7vQ:f7m9dI+[8X7(Mk#,2|4TfT{lf&Adj)J/Bq!)tf>RkV2PF5d/#gzecvy|(_!
uxs$IRL}:,$k&]!tG^E>X*2bFCLu~.ul1:C[#GA7p4w^&:=t]*nBw{!WY3K[%S+hDW&'I]*7Pd9.si6(wM{`j/b;Ri}UFoB`xY/[LvhJb|5Zr?dG~OXn>.zTP7=ULLKJcoY5*UzLgQhC/&tnz=hA`h
V{&'n0Vf4i#l=DgEbEIod9#[+4<Iw/O1P'r(.dC/Ld|u$3aMW{{e`K;ee(A~%q9tjf+Zr7kO+7)}URYoTg!6g?SacIGw4{!^BB0H2I/#dm(YH>bkeD`4OzfLJ~|9RA{>Umxgj:$/83FaHJBTq.U]8i
I>n`T)ynjXVVY&hUm$PSv=X00nxG59?P6y7cK83(^a.;M>S}s>.?[6Ve=Lq8175^zl`(2k6q3%[=zV{mDYpw2:loPxE5xA$sJb1%/Z&^H^&~/A[Jj2EmUM7]0gu|<C2pJ#nl7#$;(|)i*A&O.7xKU)
7ZO#F3M.dU!AGcs<bHjf?1.fmA.[$_4A>jIs$Yk';/q_(F:&Iug^$m.m39Cj#&e!v&Sfdo#NhAVCfF}^xR2NxUKj:b'9{rPRX9Kj5`D.D8w!Nn6L$])g4$;,>5$K^'8#7FjbSd|j':W}HK5Jf_;^CE
/g*nXIwo=KL#:2^E{?kV!WWZ5sa{u_tT]Q##(e,{w]H|s8^P+Bk)_Rj$HubU2C9>4zA8?K!iDi'zo)49%{7WyHXv}FEO}b^'l[{ocJt5'AK&vZ~737DIZl#>Jg`imKvJd]|r2.J)f]w*|$K5AT+Yt?
#WGGso/d>2VH]wJe:J?{uO$v?`IOZ=e!f0}U|#>:taSt19zT$1qQ=j=1D#z~U|=vo0|,R23gWdm='QlHqm*.k.QN*e]$YRX+*O!1.e<srY2t3XU`)MZWhhEf!.>nm}?]$={~lN[Fu;!9nkh!yt+Ef]
)gv80~1%}iw!~5%O;Q%c4%9g6C~Ak$|f{Ve4ewN?><XH5yf8rf9PB4!{*9^F2nia!f,8Zz}lZ3]{+i9%$F`Fqhf6iB}'g4]I#YHo#'fTIPG12I*E^YdNo[.UiTs.%r8:Y~k*;#T+!yA0GJj2<FuVon
fp,c%4P95gg7Q4OCXl1v_}Y55fdJHHt?N~1c:*7xx]o#SgtZQ&<et=i35yb4/bXVNLtXgjjD5.bC'6VO!)d?~8IE|By31g1O6T`1F#CkFP&E6&;lv(.P?6v/wT5jta|xe#2NleAI#g=md%[H3fTAR:
kr^(N>wv?0O'O)X_*C<vLSalFtnil>c~EE]10!J20E/JvfGRnUc2i/zfRM3*t%kJhMyyK6&~o(aH!~eOexH0/ZV,$3f{e6),P2K9fd3w]8:3#8MzO%o1G,Mcz;*Z]t;:g}yOJj38b^2n`{rWn{Z]q1
ZI/W%+j%#[8dtW^*&tuluf58HSurkrhU.E*F#?`$SqvWTD^QY#/H1>?yY^tgg$9C;NK0Y,u)6~'|:X>PY*ujYWiefa6OJDt]pcT)0{1nAqMtO%.Lw&6t:1=#`Q%lujn5yWWNNKH_vs/I{W~PtY}C[a
AoFVRoUdA'GNu*0,OEnps$*.OqO.F}%fCq];zZ%fe$t>Dh}0d&w*^=Wy#oH4iEbZs,wDW1*BC&zRzW/n>GXhd1$Lg:tW_v/Zx[(xDnI9(5/nnJBe0Q_^cG3/CP/s~cczxB)ogKc,xq5I;3.lJki.j`
TR.P>uZW=K3'.&Q)=jJly~p8f4)emWkG.iUXG3P;AY^**XugLTa:n4sd=w]W]9dy<lPD(c!n`X:}}K[mm`fUxOc4udt%FaO,l8Y`]0}PL>z.7zZyg$Q<Sc:5)B|>~D5B1nrtsl[B>3;o]sQW1#qMw8
wipD5pX=A/w!NN6'Pnt1fneBoI[39zvVYSWAE]PaopvI!xk;Y1mIm&_5xWFg8`]Ue+DJhKw%q4V;FR|`KuzzgS>WpF9:v#q+?cbkN#$QwaO&=25Eu<5(ojO$ze]&g9E:K:rt}Tqpv1^?A&2NO<6gZ~
SZ!`962vZrm|d/Xx/w!hM3cdQR0s4~Zv7>c?9h~MDm;z`^llclu!C+AG,hS`yf[L[~#RKGz!2wXE+lRI,+k`PgHwN(ec$n((:2=TBoO~'H$m*N{{<W:BYOdW,f$c!#P+,9A9uRC}S~J&h(kH15SCC2
JVB'WR}eBAyWynSpc(:'M*i*VX=F:gd.60hDEqw03ns^>]RfuR.VOv2Un*%$U+F<AW%[33E&SjQ/4LaQ]7gR`Z6*nk(e#E?y9DY81$7?cMb?O&c&u5A(.1|}ODt&Hvm4`>WjXZWQ(T_q*uTVt3Qj=w
5WHb:HGz2&V;_|0s/wt|F09xwdcq+Mr][+Wn>utJG8cTXV7PLj{ik%!M1^J'7&QBIZ!vc<J1kXJCzq1%)z>^aCeP,_JSo`uOv!6}GF])`[,4^=(i:6rv|u[x1db3gl&]j$q%c{c$>gQ4&k#r(=E~oo
l&:4rQ4wg.eYU^,UFi;{+64j<DJ;/iX.w8Oz=^8!_E%Ti3[}tX.]/5Wf7A?1'N]0:JM[l;O&`hi*&R']7>m*/%mz1b4WApLW=~y`BQV!i,WVK^C[i`8QvI58ZZ85PsT)EbS+loa[6+'zLm}kJ;I?z(
t^ys+/8#ZZl:gXyad)[>K>oK>W3q^|Fyq!csOR41il{G.b;C5q`d$':9orkko4;GdmeG(gc!>4d(].=Fj>]]`|TEc]gC&}/EtOS9C;:rmyBAKBt_~}5uiZ';)>$F1O%0IKvu^nBVMruLfg!Y'N^9Zh
e%/H{GA0|s3=n)As+!x3{zi$*Mx$_}UQAi9BeSgM#<G;R9KD2K!|^&)HJ;q8oxN]T(NDS!1Usj>jIO+(P5G9dmJxW_dMr5yk00NtdS#?u:x6&XSI<yqD;cNc?9rP]R^!3=#{p*)f1**pw)63fdcHV&
,NFa~mE6pSZZ{~)Oo#Hd~op.8_.WNNnH/+BC!u:SnYVWAeD8gR;X4Y[YvUlbi=Q~tfx[[):]Y~[WRkhcFTzCAT_wCvBq>ovS]<Rnn3O`LQ&'}g4'aIon!/0)ACB,9?VARA7]~sxIBK^(#jl{V=pL9g
)PZH/z?8Yf%<UE4OS/jnrNpkGJgjGoBwx&,`Z4'S~53<8`wC~+$uM)MIf$D}}={]6Q[ZmLf$yKPM_R<xgh]qnE0h/d.w{0VE/w/DvoJzK'%(4AOQ/^JM>7Q,s?`2P$fs%Jj3!N/:yDdYhel_A84SGV
R}4_0g(AK$=hTz(=KeamQhA?Ok#(}w<l&ssgqp.EjqVtSbq_[G&S<<z+|=CXUupF3N(pR/BjfnKuwg3}txY)74d)3z9E#kRV|G8vrThBsCbS}<S$ek3E_XfAzp|F;y^I]ygYooc&b>y5}O0n1*.`uz
Li(.`BW|.Qhg9vqAN}+vY3sH9KH5}WjeQeRe/JNY'OTBYxwqGTH(dh`xY<V`Lx?CeQMSq{lF030mB&0A.7~X[?b6y_HmozhobtHB<X}$(4La!Qh:p=R9v>1CPd6%Pp|#1NL(K#xCaY}rqlQiQns.i6
=l`3DQ:+LtR9Jpe*H|<[a&OLpnMJFIX3NZo$?&&iKf?ccQ%{#5.Vn(U:gAX;F]sl![[UdF=W&`3~P}k^yUI6w%Itc.(Esul?1(b^<pF3}'qwD7lGPjeG=6ZzwKw27w&:pbbGQZ('z~(=wk]Vq^[5:6
#jU:Z>:dd%NOf19{Xk}W<%[i}6xEeG<2?w6!j7cpbr)B#y;$V.NfTt(3lM+]qN*fK%!>ETVTOdSZbEbPw+Bgt[f_yaf,0+=Fy{rJzXe?Ba2xgl2.JSZhy>C|&>wdDic>[v]Ai##<mYev5c?h~%XpzW
JL}<Yu>}b/ND=aE{6`x8D=JaHScs_X,A;~QX)5T]^_IeqvS;28Oj~Mo9tp]~Kf(gV}weSw(O26jx1*Kj!IX.<edLg698SF:XpzRXt?FS'Anz0|}U,&R=Pg&=Ng]U36Y=n3B3kLLeD2j=*}Zg?.8NLt
oeFf#Q'SPTbv81?sA%CD)a/eGqrFX5L=)NV0PEM!au#pF`k1j5nYxe[&Ut{H$2,.nJY_I`3&&n.Qo]Y'dLJhhxR1&]C(Xk)HH0H,vN[E=<^XSyo}7Jdo`JN9Hj}S0P&;1bwet8138,V2+g+R<VY&c%
r{9Kl`u}vizk]^?PI~':1T*N*eVDPyRPt>nqBCR:ICt2Cg[;/njgmaXsNL~%pn$W9RO/+nU~;ntAjBhhb4CUuK+SKHL[^h,^Wu(>mnRx9sRqt.T=MJTZv<Bf4Pd+f4]^Eb'[BX=TR'6k~!9]!nDpt_
K1=AO[r^;DlDbC]K824?}rCS}cip`baoLAR[o5ICq333{9_oYwSFHxuZ*28kPnK'9qU8(%5h['dwQ6{j4PQCT8JMG^`^WQ[UqRKH!$Jz1Q|3h{W$nM'7:fVF'>j3eIg0R[)j+p*]5'%EH0oTXNd{GN
F;~>X8yU}bF]jw}'C}]?`*y{baqrca^#X4c.?DB;VF+fS0LQ9=Jw5$l(M;I|68GC|lZdi!:=z^h0Ie{NFf&'r2*CW6VNp+xuG0h:GRKNbN<va5.ugjY!Gr}kx*Th{Q4I?dkLQ^<CUbiOVt74K6Scc:
.G]pf`M;2&N?&+AXWVCL;XQ<g<T1ok|>tU)9$}9}W%^)q5V/1ahV!F_W4Ag7Yfg0|`3b$w8v'1.>J?=A],s3z.fKnu[dYDr>[516)OKS1bn7_kC~&g%Kg,&T+*3Bbbv2&&UiPmRZP:t#gu11(az`[o
,,dW6F?Zs0wM3|v.ppc`'~>V%,jCw_/W$V?9j=uG}G7(yU3w3/Bw1V_b&sXOd3~/tOJSGg<?l8x&}qmqQW'Y|.v(?17cjV2'^eJ2[Gs0nEnI[Tk9>m`bNc+ZDix`d,}WVKys./9PLxVC6`=,b.ni3F
nn1Gn!$n5%0GCZT&V,xu=%lxFaW35,P]YmsBbS{E.FpzXIsdYFlv=4t1&Z]:w>|NFo,~SI7s;I!Y&3m?R3Z=#H?ZD4w4GXP.y'W]dr}_<#bi$a8U4,n##U$J11[wequ}IAhQc|MOdbV;toQWNuh(P%
5ljj(Nu7:}$Ik$0Z__:aV_l!%pY~.mvwt;<Aq$}^JL}Hl1zP}TM,'v&q{KgrR)?zB6m4l]LCmo=2ZJ,np<22|k8=jyZoipp5XgtLEA(2?K*!m|fPYI0lOPu#n3Uv4zP|V|Rdq:`A=fqEQd)AiiFf_8
j]*<r7'H5pfaV7.u9=P]tK=CZQ:nmz.ep;Qt(2!7}_$CfP//64K,(q~_z[lG$h{h7Tks6:}dqE:w^4X%!(FIR}]>a~m)g;2gW/^+)Y:`?;PBY6~/5dSoq3>y%56ce%16y93oM_87(Hmpp9V]mrnfG.
%t^=X!W;d{*^y44[bHrCpO%;fmC#5=cx]'J)W<XUX|NN]QvdP0TFZo$;R/<(N<W|bj4X#m!*beNL48'_4PVA&8tC4eK}+;(7V5EEzjo%H#v!jd?zh<f>cN(^frr~EY]bCzr'9gh3(Kj+>L~3}=Jlqt
K;`ulX2%j+C2nf2[TzbmlPIM;2+TXeY(a9Q_z$[VRN]+ira4,y3`TzxckBZW>(/R|p+%Zzorf/2,KW'4f%c0rxL5Hs.WnC}j?>j;9?y7ikPS=wnr,uTulfVErp=hZmi<]R!gDxt?Mk66EcqN<^1#E|
D2*cPH_Fjj|!'og|`^t[A51UpSu+1ATe#RDIF8gdV>D^{N$jz2jG'p|^<r%W7fYTiWp*+aVZf+~_&)]^HhL>jXz].6X>;W<6nqp9`7)`Du1'KKFYsd|';fEf6?VW9:5Ph;E7ai:*<WlQ9]//D}o;I'
(<OZH+~+4~2?gVQYFZf|1_(OUalIJ>/oqK<VIu}]/$4[QF}dn_dxt?b`D`,gXfIy:knS7`P5oi^c|gv`:2(Lq39Se$`dNAlV/l)mN}!*}zP0f?!J!Bb#/ZH*Gn4h3^z0hO+}9Yn'rk{jEs+fptInS}
4RMj92_pB|S~VBu+jLXkD5Oep+5.{<;XY9I'W/,Ya_qej=V058cYyPWln95cMj3N!m5:!(vp[%D8IjG<R9F$}6K;i'SD^wtj|._#)+3EM2Vr]3kOjiJF9/Y5TRYK!g*V];V3%1yZfyB}2RFW$kyF,T
_){?inT<IS]Hv:RYbLa_s[Ouq.:]F*LuI!^zNK_m|jt9mrf=3&_%DbjI*HHPP!ln8u}sa?i_Cb]}'Q_wgs:pa.U04Q]|eA9!%I7L~`c^'tr6.hmkb[D;*KYf_,ebv<bg_ixe7e&Y)v}R#J8[wVpf00
x!_L.ze*D(fUH*{zft)JX!kp0E[cNiyb'Wj$7f{J'd6{nXkHznkq*ptUvE6`9(5w<#%;MtkNuv]twseU9Pl{L/RhZ1y;AKJ>3&D,R<=6%=4r!GrPDS~.UeJVZj1XuG`m(?yYj}=^0R,etxDPu+t3I'
h]pou]lF5C:+~,bQa;h7Y7=iIOUs=h?z[xGXB*mHZx=Zi*]>#4+$J:$'tUU,9gAp&8l=Y(+pF~5%/m;zV&C,#$yw/[o7mH~bkGn31u|Q%xpI:hsi0vgCg;oh/Hz0O0gS#R71krN>PU;gUoRpTIeu.2
dZf[+|Be1SwkXOv3F;zvi1~'rruWXQiB2kG6&+zR:=z!`1&^D2ZzBXYbudvX8N/`)Mb^hVivI}6jt.$F>O7O&Y2fT:4Lc4)k*Aj*&`4<g^|sEf09f7AS1XW,^K~LoZ*P?Z;]R0QS6MPx9G3(}VrQxH
+0tmy{;bXoc%^f8b<D3n&ii7|`7F^ZZRc{>Xs;<1zE5%4qq=)VO8n,Ao#:ruA~?MV:A+,+p^CN~%Anuoh.8nib.N'!'ho?rc)7Gxzj'p2q?J*z0U5srM9dKbkx!qSPr)%0yEx=>=B$+vM}vD,2av*c
iCQi0:v*Ui_VGN5C<^/8{em7`4%0`<[T*WsFPba?jIY(;+3pSkPZW6`_~eg9)GI%7!^Ap6ot'W?$x(wX5dy&>Yjd*RrMy/N]Gu4Zi5:SP'ZXG;sPqSPq[v3!MF?nNcM.YzKJFm~H/foj6IEqV'y!Uu
FOxWT'/hiK'wkM$1:p0BA7fZo,*PBG$Y4gi6t!a(IJ*:N>Bog:dW=P?{#Q%1$l,!rfEHj/94w`Feg<U=E]I*=eb5{sD(_SBXl{E|E|(IRqq:daC!h3X[R,H?[zJ(f#L0n&?p2,!*:=w8{1NfONUx[;
f~%zQDGe)|MQgYTqf!8wdOkDt7JP]/wdO<+5#dUVr;_h:'Jpm~K9*>$H,1F??b5<m'1_t*!4`}//BJ%Jn7wqLegcuPvBkK{r(M^0'feIAUfyT/#2's=GAx&D[N(roOK{XFi.,)VacFMocqp0&4a~4A
uKb1PJNonpKAa6Te?)jVsH_pk79YW)47P!s'co!#Q:tFD)p.YVWnFi$0!aIK$=XWB+pb2m3J<$r&4vDwd0S/9pCP&F(($+gxDCq&a^zKnID?9:GA8`pYrGFANQlG}d%fl#0F4<]'+'a?xmH#NFJj5R
puSw^UNb6=OWjS_tS>_S7SM'gJ>koxgjN=^k[(8Epp6Vaq>fQ>ou>Y1l^2:`UT'Zsz+UMB>`P<zz!FxC;WOVmz}ChKF;n<g9uQ(&zv3UkS;uhJ%QMea<el+Wle;S1iL&y7>pDJ}rKY+,(`h6CJ=a.W
Cz)0E{[G}zt=g:yxrC~%s.L<rO>bI`:}{j}/j`<`OOz:24gVCNf=fwP+[QK`7gw,AFQ.'ae<!w;yw:Sy5qiW?:FBv!br=]q!A4GFyYm!4$L+3xFX^7fmu[?!I8]n!(>$%^H9O)K8'+!?AOx}clS1MZ
XrX9DVOMTk87HU{Z:X$e$}fDx9[F~G_kZk'2l~Y]e8N8?SGoFp#U+_Ro&gYl{]/!TOM+^]?5r}q~jY#i81d]#I1$N&q0ayqKIRK~9RJijss&=Kx;0<XZPEAXB!]c'>US6R.<;aO.uoY#<TyxCHTVys
y|l(Gb1t<N4HpUZ#iAl=DuiDInE_f$wbKonc:dX4vMYq5FRY:G+D?+#^W[Mx1MWopay#:?vHMp.?4I2hO^s6+[A_F.2]m`z;6_PQZ%b8h|*cX|gKsJ<|,L]%M=25]J]O3yMNn4/KKoOhMk~MH'MG)Z
.?q$RHUk/Y))E$_vJ:H[qXQ&dwFoOjt=S4yvGJ%#w,>3P>z2Kgk+t1OoL1O8QKeOmtX;eo1k+6rDTQ:,V1Fm77|5vXiE?7/$]&+JyUqCcyLrl9[vJ~h0Dh8E'5<:kc~I[tR65]fi;co_Bp*P.3&g>l
HuL3Wv+jeF0jJwd]3gI0ynMaJt~F]i>38t03zq?Y+bIE2gc?.(Qs}^Zm$_%[mn&b+hU>b/cadp7f>rwJ^}^Px^H>=v,AGs+~q*f2i.Q'EY+DW04x;`1`EQT7FK3Oh0oh;o*)gl)`QlXl8>Ej3[LvvP
,/&&Tf1dTGS(Sg[|S<{,jK3H.9N,[iR;2n$Y~0e.?$`,YZNVU!}E{kC~_#f`))47YfoSs(?=fY3x]r|`.{gl`ma58k<(<`PQ/'SZ6Y1u.iZh9?XZo3}7'923/Tu<r~BAER[09:Z&Kv<Q.8aMwU9_Z#
U5FPbS|1COb^f{3R#iNP`GX>TUY61%R_[W1Iw/i%U(WK'V*v`,dT9~Fy1bjO*FuVp;?>bz?!&b9F!PZ~n(Le>Eh*Jf'|?Jo5c,wqLM'jTs.)]I<NSR0EB8yl0^vZ:ZT|Y$[~h1SwmRAv&dSC8tQh%T
AR*Ic>;pZo>Gnon)OBC/Zsp}2,V=a2cU717,N5uBC<$Dr`l(HN_U=4tGSa6$hxD>7ZLC1BSS+_k&_v|kfTFpr}HJk9UMq1cIDL`*&1d/=Ie^)U3p%m)$GA#O)eg}+3cU;NvB9^AP(X7{/GbTVIf2':
z4k#{1+5M`(S`r{$b0k#PBieZz6n/F5}C2G/xNF*dC`#?zz{u'*_bX`v!'GP=yU=pI0)21a_A=R`]L/A5]$GOv~^.Cg}X&=amtCOjZv/OKV5&YAHu8]l_AtQ*BIy++zMEz#JB9lvJorns:jzv_Pj&W
swVR|]`Ea?i<'(lsB$z9+rD,gQzI*oflZv[27BxIo4;o`KHoaleCQkH]mZ'g~IL{;$M8c_z+1`hU>4E~HR{S%65mgb{4'&1U*]XWV`lw13!IZcwuun_5ph183DZIGp7ZN1'cUIxRTNtInhG7R[U{Ys
$00c~3rD)AD'l0%HP%qh}WxtkP3b*W#Mn^:6.aE2.6Du%in.Sw9H2s6l9~2}U7)(}Q.:m(s!]e!;bVDFpk>a}CqGvtwSnqHPgdA*g93R/k#5M)uf&;NBpR[pj`o4{C8ja3h0X(PXQ7WHhEGeJ'i?WA
4S}ey{s>L_/c&(p&p~1jV]~7hRN`nZ7.uIqY,Lm<j.=qK)M_N?'~'/%87D+7uT3B~O>CbSBtM|%tY63oD*cDN[C'MN;!A;_&IE4:Ouf$%GQqfza~XeZv8WWOr#'00$}{V>serZ&G:6D|M%S0^x&t/s
NZMEY)l?Xt]B<~]MB/17UGO%Bl[XqXG.DpT7}t&V~h;l_3iuCf&&D2gF46kP;9PS`3:?v{igLdg%+Sdy9NfyL&PQcY5}tOe4vN=U[#sLmtc5)'*Cf^{idO>4SicB7wGUG]CtRXMuT}XDYMJH!i_8R4
r:wPAH~4Ca[Bo&+6~2La5'+En]:Bf;Zpf094`bb,B;*'6F;u1a<GNv4dNE|/*tXh0!%bd{J9n+DjmeNFW:Cy5x0.b:ZwG/}oCX?xT=Td$3Qh~2;EA7HE,!1cQ1EIvQoYwk:==we$U,uW*7`62Vaa`0
?3kP&]/?P'sq_hzOx}^QJ6q$M!!>x1#6m>zGR{yA=*?b!c'N9g{Y$N,b>&R03veXxo5CyEkAWO5,L[2v<{}>?n7_;d{70#iX%}[gO!}RJXC1I,s>fyN6'%:2Yqm6Zs2/]2R_Ik48N*L^h>XQI^2o=G
d7Z,orfS?Z57Sraz*Yx'I4_#W2QbEFBav4&;GV/_I3zxOPQzYTNO*h?YZ^].|8$JQZd(&z!_S6y5?9}65(wy{Sa]+u8;a8s}fuR;!i~id7g]D&%ZjGt!m%zf/>yRZ:YGqLDhV<dZF,LAjwtz/5Y`8}
R)3c|z5jy{si<l7bO}>pkGHM%3^zW|WQ%EhQQbn!6c|,nmD&Y]I)cSR?s('ScZEc*2*/VD~8d^w#A~gsCV?*PO3uxax!X9C:f4Qp^7k!.,+HMP'%zYjZqa$bUR~q%%/y&(axafL~5?58B&tqxyNrIt
XVSl.lq%J}qCYU4xe]4AOOyY`Lx2=oETg'1|OMl/P8)AXNn>RJjD131}2o(>V*J,MBP:4xsZWexV;iwf'<(.5k*MH+}6boGm)zf(NAS&8|/`Xw66w<wVGv02&r*!&&rs(N'HcJ:cbZQ(wW%QRWA2}'
=U%Op5m?kauF#lFa&C5~5Ve3FvT8KPBfdqcO}9Ph'F3wwVqV]psJdarIF8e+9b|<9v)b?Mb(bk[l#o{dewBuNWYO%A#+8/p%SR'Z_..k~:od^]G|Bh2mVqCY5415+hHN66TP6(M&*gr&O*N~odd4OO
.4h4u8^&6FEO8(FTUL>0,v`5t7T|,naoPpUuhAyS05+DW/jd^t3&wn(j>|DI~/[0+RhSH6J>&}fmq6=iyu)?4hk;(mZ'muo2rPl)<BN'R^y)j6D%bRuc8d#XGsJBECb}KlMDH?7],8`}*|&i'7a'Lx
lQ$&/p})*5|MtV+G#)^;*uC+er^JJG(OT;QC`%|Z[=sl/v_Wa*_^myJGsOqWo5dK8ppjjc~/WH.O,dc+9Q#L,N_'/u[eqX/}'iC~NgZw57L041$Z[hTy54'4IoXo44a}khELo4G!pwX1wI^f^CF$<V
p{f!^(b{tsf>i$ALDr?7s%^v!;YbE,=DN2+kldp67$Lc#YjVJd}Xy7R!Bk}%C1WTUdoAg{KC>RKUH7!:h5(^d,fx6|+*yo{q`:JvJ*gLq.[qYW0lflW2vV((DwZ''8}2J,p{az;JT8a,9tH|L#5Mn)
Cs!oTD8/u$*r^B,#Plv|WBxDtLbxEKI5A/9{`>jZ/W8Wa7DbyS2iQO'o/t.1;Fx4Puc4~u9V12kwz0.duLu!/r`Lml$HJu:qfV#{v]+MgUo[V?::vqQ<iM(5[ygCb3|K!az.okwS[T&iHC~rrk1DfD
g#!x7XaqQ+Om&E}3,6!y7n^o2)tWwX,/g$e>eT('RJR[HlrJDw)$DS^GYb3IiVPT<xg&djjDskF,Ru9{E7Ov(Z0AL)W$U{'it;5sn$yBFqY?bN2y%8pJ:%TZ}|,=5djt;Ha]}%Ai,cPH&p~y8}agvR
>.;;6BCOFP6#}4zOqk%kYA/?tm$O&iDwmH[X#>WBWD4/x<hllwrp6G4>dE``o%'vAICNaiQQ|aT=Kh=atkPc>Ek%hEXzdhM_J/Vav;sU_4L!8Or;7)o_hB%{c3{e1YD=Y=CrL.]q{4sloMf+yz(JFO
{{$/M~a(4jU#OqFHioy%WjIRYF2.>6zq=M|]CD8%Htwgs'HFm<#pjG12`x}FPiV=*Z7<On#P1+_sXuWT%Km0,h`]hH1^iIML:'3refYF%/Z2tq_4bXgAp0F7B_,T]mHVK1/}s2k{|?5d:l$82F6<Hw
f4h7~PCW0BmYq:{N{P=1g%=K}rK[QbeOy0kIix:QiI2Nc(2ePOGx5q?k'YS&~bZ_nW6>ez;.WI/]MT}0E{Cg)`p{8szbJcwAJAJH&9JZmAg_,qkU^A_~7:U+qTM1SSLlYgiNo>26U`~uI(=WM_'^A_
+*FWVGbbG*mRP,(]!hnPzp2C_eTGQ_PB3xMw(.CfmKSkOto_Y]%9yRLKhAR1^<~&]]|s'Z?_i_NxJU~4f#r]XYc=|>pzgnsU+tZ*36ro[E&2Se6Q[KGl`9MjBq1X{ed/^eB+tftUV./Bbvgtg('p#S
zcQa0.MX{by4eF_2Nj$$#_8}+88(82/vS)[9P<,)k4,EDqT0AXo>7Dz&y&;'^o.)fM+c}4y1?_e4|M}xh*meCAha:>LQsaX9li!cU)y>ja#y:hw!?NS`>[VI9zHP9NhyD5VMw>(BiL+P|m3[L?FnKZ
,2]S|aV.8~*njMT,Q*.<nZvWc0K?O[f#bU+6OS+x5TY6YZF6JR6~y0fu;z?)ys,p0m9sdn94;h13~0FMH)fcJ:<$$<N8<t+h8UV+>b^*Wp?J6&X%o7?2[k|XsrA3(8N&o>kE']>1qx<z35Dnqa=xg,
MCK$?:tBhH;}M[)zr[oN,zoL.1i&4F,Bi|uaP?SG1#'&8>O&J'reC/.MSt9N,I*:Y;BCA9Cab|M.]p`Lu;aK?`/c_jT[`<tx{H_=d0VgY]J3%3+D(D3x9N2IvPJ?r+<!269fK7T$X5Uxe/1&:/u,jJ
'|tn.,S)39R3%ahTU,8+]B_RL`8onIYf3uUl$hjO~dGDtL+KSq!Uc[R^Bia&GwM6C?KaV[6GnQU[0<{W|5ADp~B_6zZ[Bb3blF9{:,IiZ6[(NB~GOS8(DY(gg:Z1M<qNPAL+7Aw[X(a9E4jJWHx3?W
hE2Jh:[lq/512(k^XESO}b%K;G?bl1(oP`F,iCh97Z~[~iZ{]MC$+T$49R8=&:>5%%Vi*V)o+6k),reHSN&w&zH.OwzmtWCbgH(+=G[dNE1r}?A^tZy^^mIg/4r(P[/4`e3UIjJl3:Lbr[!Yl2i(/J
rSA$Pf%m4||F7YXd7_goSJsxkE04Z7G*Q{r<$V>29Gu%3OWzakpGA8Li!ZI>RKzVAi)'w:z*RxC/Z]bNb*2{,XmtdL,~#vHrzJPquO~Qk&uY}qIw,2unrnq~VzDjTaHajCoT&>hj';U[;+i}.T[R=n
2$5{hUSh*3DE]v,$+2EYL0R4I8O{f(MXslLa>ps:ON{6Oulhm6}/`KRl65vbH#D.LceTuY'3t:+9JVC(Sq^O$~WGu;1_yI)%rWobKFUTd[LZ+')t9Ae0gOXmq2/Y0ht>]C8x*(bFr~D*5(K:/F.'76
bK`]}fTI'{ii'<Gz=M5,}:o`,6_jC$XoDj.QDkx:d4|UnFR$=S+j]L<La?*d4ZS^bMSz%fh:?_yk9T_0V6GOtQc[53z^~O;r~PO8aAKPFQzb43h&ecoY*[Ov:8ofUjHgu$RQ71~0KNEaG6IK39NdT2
|_>{VnUI+Z%T9,)fb]2rW`k|8c<TNP<S|rV~$Vj/n*I7gM'56cMs4zN[hA8<R]qn(?iC~R(sj+b:(7k/)4'6r`lDm=Csd29i4o;|.e)j%A5!7b%MSUZs~KlSfR.nKDt+W3nqX.fh`6)I0O6W}3gaEy
E8Fo{wdqCz|+KRp2OC`(sUYHt9qkm^LR4Re/j0#D~uNZZMOuc.YOZOz9)YPAK;N8XAKC`AjWawJce$KHK8B>Pb24M>wK68aKP4,6MO%]T']2SLny}rA1[{LrGE.sA%rT~C^XG~?AJ>AWPHw9c#=mK}
$A//n`vd)(q(EtiZez<1v!g{J#%_C2|vpG?TK}c}~Hw[sdS%R4>g}^QszKh!yu0l*>c<$Shb=FDgSO2dz*#ua&goB'}CcUi=%1H90SZ#srPpcV]pK[p;3UtH>K(NNMMClk/Yxc)fu2ed5##l:x?SD}
24fy:BwB4|#p$i]uihMCpU=(W</5Z^z:9Y?Zaf3U/[0}?O>&#5gmXJ{]c1f3yqoB7:o+Z]lBc*~);^?1Si'`Q`#N`HOa7RVeR{H8f+T9VY}z)9f8B+Ft*PzwlMZ:6_;1*2s0|uGJe.Sk^'1G%B6q!o
S9)KQ514*|gvy~G|{!5HPt>vr^T[nE2~tfsQ6<GqYjQQ[qAH%G)gJ!+JV&qXpiw=W4'rU;:<RO'x[^`]W1CdLwZc7`X3?*3Bfy={eU#dvj_GMbu2*`,c[y%fF]]ztyptz(BjC.NKHn:TR_J'6w!T8>
B[77_jWXiKLTO'qQ=2['w}r3w5TA].YD!!{.m_y$T<c/!r=:U_TM$Vrt+2U{Mm,?>DB%*5:6qBU,[fCHb&*Q+Gm;N1cXms,GNZ9)sjbC(wordvQ+3pQWAz+kc*%,f)4gP2?#:Uqqn}55$[{Ge;0~!x
NMvy'^K*nzjzb4gkL~x#YTZ`&/h9U9a9b3Wq0^y{_ZYk2s.!imRK2n!B.F:PU4H]+)cTUF.#X)r&cN<zYgL/7jI8Ohw~SZL0:$~`BZ&cE~KEva}p/,3VaXZ[HFdVYeRJqF0`T,7hX]+)wNQ6yqsrHe
d/TrKIfV[qB3Ov9cfrK`lcI#Zm&**jGP.Ry]o3>Le*d),M!TPzXQ1|;33eSARF/'4~dkW`^_+?e:C=kHz%HCIPL9%4Y!aE2Rj7:SK|AyBRvNK9opc$IJuwGuT|^?Z2*r8DG.Qke;P&sBEfwrZ9[P|#
NsNmONGm'?98B2scr5~x$K}Ka?&rUk_)19Sn}F<2VG0y9N4vc2n%G%,HH,IT.F7Kub8ZSDc+9(G!hR{0u2ime#`du/7Lv;9l0MmbWD(LE3]n[ZQ(.DOG>n&:_0{jYNrk+KqJ!l2f&igw_P+!;2C|{~
b{)u*Q7a{sMKob$ja_!K/*asN8$Z$v$Ol)/`uc95l{Av'LG#QK`iPK{!{:Z`%d:XH.Wb8Ox>rx,{'tN&rD62^R=.HuU=Yl&Y[1W8I.TVoFD^8Tyqls`HqqM56Xpa=j.[2UaH{]IKULNFm~0HCdq$mQ
./1/3#tc.mXO+9&?UG=>3bujxr%YJ8L2CBzGM)87yR{j<yIK#G(d|[$Jcj2=|UW|ZoV{K<JFZY5M2g8;UvXc{:>}r/]wL+2|k/VF/1QP8|IVdm>mo03dIX<*d4.dmr5[gLe|Lw;{R?6WyZLv82k+4e
0!,eAVuO$r9hi3;N&]!PtX6S2sd1!Se2{d+%%Buy+W>t_:~5GUjOhH4493g3zwGqOysfL^>m|H5q=}cx^cD5{QJn^wqr_s4!R)}B/JLxO04FTGdwYrTxFb{Jd&8,}mg7JAiF`}n)Lj{(d5<lCq%}xh
#XH`mkChK06sx6WvQT^hDHhv4'6%ZF(k[`{<FX+daex(QRJ)P<v%6EP0B>D.p8l|9jGLNr1wtfpblEWBN'*nP:d~VvZU]iUB)Z]Ar]&u&|&E=dGY9X:N4oT1$<ym;'(`&HzsREJ0N]Jz^BB*2|G(&;
`Eu?]`S3Vjz{$<fgF.fy1suzyW}s<CF0c+aP$kB%q)$afw2}1tl3Maw&Zah)H<=W1r$0L=x5sbK`DCRbJ7v']5UCRg#RPca4g[vmIF%$}H>G^k*,CQMM32rD_dk|>1=on_n~Hg7nKxRO:0a8;cyRp1
2/52Qo={JmQA?F64A/EGJw<X%vwlYN5hHF.RA#$HuTLb%4jT|IX:qn)3,mN5t3<uwTpq46,0MUAlZIHe~+{'jMsl}f7dy7=F17VV<U/n/XsGFsa,uAeqjpTP7,u,04s:[6,rbmuMcg59l/#X_llb/?
Y;T<O!Ra0[1.L>AAA6w<]iTxLE!llAT.f_b=:P,8;Hwv~4yXH)db,$MrZ04%H>w#5E%~}?DICF,[&7U#|MKqx5.Zm)!=1,1q[JsSgmd21)>F4<GnCuIcEc6x29Zc'ez>%5.^3{XBh9Jr%eF~*}K(M/
Uyy1Ae>!D3+EUuvGSt}(cV`v}9as29.k_2{C)M/Mr2fgpy~Pb6n4>~^/rD51JIwF_$G0Cdm58e^(W7fpJMMXQFo}a2A=bs7.%5x,:qrF4w~6YYl1|E{3a?t:hqXlH&:GC=gC8N!c13R=6^(gEu&uF`
:Z2L/jNk6J'L!xoKo:IL%U'4.6GC{$[*g2`rU7EHmA(j,^GH54!f}JL5kqv^G+iKciSZB/IY3r748~?[^BQkN..6:c0+p]3=oanTDNU3^;KXOqCfBM#'CkoX(}Wyl}VA8,<bb{9mlw#<1]55N#8pNB
02QJ6e,jV?#wO)rf6{|~z8T.XVJ}Fsovg<=t{YeMJXWa^D${M<(d23,'T2GgvZV4~2&lXloPBtYcmAUwDUor:XahxOsQ^(S.`E71Y{ax&_RwBF*k&0v$,j[b`O1=R&,C%L&ry`|h1<xp_+4mMjh}ru
2VMooWXU|vGMVg!;e+x60(t8OYE87Nw$&1vlb,=Fp8UVs1^e:<ZOTF[,7+d:*&)1S.ysf8VcvbZI7;=Zt'I_PAHwMD:0H0+D(*~OE3;rJy:m,SL2a_x(}+w$4;|45SG3[+SUuE#:1J_V>}HQ.+l(oE
B7K*>/o|Q#BN9&qf7RnT.,!k~0INuNEu*.TqQ,&k*?T+,EJEWCUl&rF#_6yU9x6Vzt[?WpNN/S*13iS&'*&7YOv_uq0m4hjDTl~w/)$ZFZ{7cs1#AO'il%d=9~[Tn40kk:`F>[2nxiFiI}tGFL9cF)
$%D`*A.f<I|1]>xN:K}B:W,n0,3O;dh}>qt('<:i<DQInE!G23i;#M:r$vZpKWeZV.&3yRw3aoQ:Y<BJo3o>HR^eC7BL(HTcIdY`~kq'.+H(&W^$8WLCBa3Uuh<V6cr]'OkvX5qVzAHa_dB?}Zb~H_
1?.]DqoAVP;6jYhFZ=tb^*'=<v!4L,?]XDYne6ioT/to'(i>.r8zySK:c2mk+)Tp79D`h##EQnVKATq.gq=Rfv%'.XS/Bb'vlgAF[/{sunv1}2]HaZh,mGpTQ/cqIZOII9[18'$po`f>IQEw1Y#uy`
5y<Oc|?a`bCYHuR3(G6|$)xJxP^[2u[J!2*hY>/|bINVkNt|1Dy2C'Bk]S*'Ry4nf)Am0''CR2K1'^2<do{dE`^W&b_CIsS~I1u<{h0w].J>fA4g(W*|%}#}h:0.$d&qeRC<&Nc|lg~>07+0j>i,7n
+CiNDB|.^!1e$y{NFsAKE1)5AOryYgam>!!<t6;.PVu)wX(5#,rt%8E^/aZX!UoCu,YtcZlBv=,U.xp1+Z$F'c{KZXM4yS>rGJW%VQWov1HZ%MPxj;}tu<+EL%h,A.yXn0:zVSVM~)Nz|V[q7M&TVS
uDOO,t{#`!Jg?[BG8yx6,ot:Wl0%|uGy?RIr&B(u}4~.H*Ne^Y%>rY4D4?3R&glt:KOq<CYev+S=]SaQ+dS8wNnkF_Xb>k/J6~~xMdVYP#7{LhcxjkR5na!Au!,O_g2t95Ly)[~E!drkCVc$N{|?9:
B_yyY6nD+qX}AS>k2:~P{^Xs6wi2+//7Eo](h4vf&bJ{mlTLtj5>,na;k7vqk=aTaato9R{8=!C<)*LxKH.LJ',krvHy=5B;o1z$N+q*W(x>B`Alna)bFe$JH!tJ|65OaF~TmeVG..(pDux+uy)JQ=
0WW#KSqL[V(`r)&^;,NT#^^1$d'`l'+&L9;,aVt]UQT;7g~MF`V^;J(Jlgby=V%~Ica4n(_;WAR=J}|2r01DU`.wV6Z)&?u.C>c`,zJO[6XHGS8GSMNK_ofF3.4E[yS(^.ibCnm?DSEUgDbfFZ|4wg
z6le7~x%byLV%p.U#%n0O_WTF;f_cv[wjs~oDfe3mF84C$zcGPyuGfR<z?n5VACs9,rFjDc#6]LJ%s1>>5]cdXNz;0=Z6jDtBs&Azp2XEFW:IOYagt>^$WVspt4/Y+C57G:B;?JGy.`A}FH]tVsZPJ
!q+EU&.jxz1HJj95#!&9'^ft~/?.F?hX:4zI~W2aex3Bi^(ijh+U~=PY|wG'Es&WAp{.U7cRazGJbd8+#j]_cLV8xYV,qvm9jok7DVNFUa]kK|&01HGFDEjAr]Tx=H#1.{Q2*jqD2Vk|dMYv:n}x*J
s5xejq)A<:=`re1Z4wR(6[KL6zwz'&SFLemTCO3`pg<UbI]j<J(pLn)z*oLA?CafHxcC1D^]j,+|i~>PF9W6cV,zW`&1Fjt;'rcIz{QXQ{9jAez>t1]v|2o}6hK![[>dH,^ygk%W<2q=5$<<m*nJrx
SGb~d6_YbIzm*iOc1(^r,=6wo0<d7OEz4;%SQ8gLSu>9f5zgzri(B&bd,9p2!^2C*O+A}Xf5,+,6*Xbw,6grrW3PvM_s*^S3L{W&'G]o8eNwzVB/^:TfSA+{3ow.)%B)T)9idn#r>/G|I<UQY+hc[}
O~fWvZYz8R4(7%PPIyhvM7b/56;YQUaoHQsn^$J/t:nbb7+k.'i}gC#>dm.H~v5I#o;XTi'5v0|[5XGGN#)o.B8XHmB`~sGcv$7c/pe}&;H|JcMNr$G)r:$uauxmkTQOj4AF6FU9$gi^'nw,:hfGly
f!t2b<=y+hEBmH,Q5.bE</{7f>?k45TG+HPWVK]&gzeCRe~Qq|YQjmHA1#ln5?aeU^L&K{5(n=,aDgkr1):Jx,XU8N5c~dgm/Y]n3f,)Eg1SOJUyB8)nm0Q,|ijpH7S(Q0d?A)J#<&o'BCo5$)Xwdr
%YP:1O:;sq5nrac%]_is5tns2Qk1130Cs%;0Rni[7d7z5pM~tLeM8K;:NIB[^lif]vi(HZJAST:OO~5Y!G~~7R^&/5;l'M|V.21xQx,x5i(2sj{*mi?JN>&^`Q0(Mh2M1]}}qp]YFpayb:M2LnPD_R
*MG|Yp(*9n`A89=UJp9xo{+FU(i`.ZlY3Env7zhYtYqTgu_1/0(52FAfgu+4+YRtL$y9^/q}UvOjBwJ!V^w<Tu5S~]RVIUGYBLZV5j$qy$4<&soG4pqUl$[&}bY>`jKM29ad~zp+A_`8u<BUJD*FB3
i|v%a/2Z:_~YiS{.Tep0DDS,i+MMppHt.8]=(kg=o%fQ)[o:Ct4HfFRNk}fK`.xT%1:{<b#pTe6xl~Zj~k'YX/.!x`%!ZZ/!zfw(Ox85|^5?d.mZ^TO8)L#=AVC$tM|L?u?]ftklTEyZj/1N^k&^Rz
:*GYiF(4/N?ub3EG;pCOb~vRUtj~Fn:U`K7&pTR/PfxtyM$c*IN<MOg`9dCc}EL=A]~Wh!Yh}~$_W`{G$=~AIGI}]tO)2NV2JB7pFCuAMzo>(:^=*r!ChS;qBbcJ;ffnls5H$hN1L~08Clo4#9U83a
]TxVX7{&DUR)$p9)S)b5HV_GlA~r:eXj~ZCbQ]Kx5(Y5{/bGq~1q&A}(W[ntRrg_E31%g'aEmvmVg_ZJin:.~H]WR.W(l'xH1i3Sdq>rjNA(0(9jC!)h$'Zw`6]|:=Cq)pqYu9ySb(f[`(,2H7LB{x
YCL4r,,c&R`8m`jyr<KLJU3fz[gHqf5zo3T.$L??!/>%OCW{?$rgYt8?Z7vyLBX~/uG[B`k<xi)+8^rhdz>OVyqWsuF^YtuP37T?WK)z8(^<xP~%&*uD$l/aTgS*[RtyFcbLzO%;E9_Wu9%+pef+BU
,`j]F6%o(,K.9xBA6l%hB?k]!AlvdfE&*>L3>4)DsyU90KtrPQTB<i:YX$e43$<b}gS9yK>N!L/9XJQ[nyIn*qjdD[L%L'YKjlpOusJqowfPcZi{K|(gTsP:82uIn:,v~i{!jnfHQ)(sS=lkkKt&4D
/~p:M3SVi;yOsMfszsuK)Hy[uOZOzdU3OQy'hFueIf]4N;cyU8yd|TJ%[:F|TvA>;ErGBF9ZUIvF.u)6&u~E<fLN%_ww|l=Z3(>C~8e4?q[esjyCZcGQC4Rd_.FfmYoN+:zKgk5I%KDwuX~]mlgdMI
*1t^6MN7QD(A%(rHRFJ%13lUHkr^m7Nu:0AhYkl/>A9/A>N11:I5gMTx<#g`j{xbXbeP6sGtYn%8/U~tvT7#PMw[qV7[ARV%m+ss]iLd<Cus84_)+?2,u.3aQc'47b.>J0h+,{r1G3YS(=nyNMhhk'
2PsD;ta5Q{nR&o9%lRhp%5K,}Ymx79D(Li0MS}`8}6qD5B]OFc]DJMHa#z%QZ<jBic3Su!(dE|IQU[?NV6a:$eZWg#x}4MUQL_I3)4LT^^2|oz7r5rpP=Mf]o2Rk|{X>!MYPznX~17<<eZvf&wLkZx
tG:7,Yv[wd?FZ$i5hY)cXHF!xrrN1K$&6*/nKBS>,)L~Zu,0$^LjTa'DG^i/j}#geqcb88B%<Hf(F8|0]$d_/a|_WKUXZ*64nlYX+1VB)K/E~y9Dylhv28`NKm`{zW3i5[7OY/cTJC5=fU5Of~aWov
o!W<}^z0z<9OFR:'(S/B!)/JcpIIJhcy8vogee27<V!4P}cx+%,?`*$]xsJE`Euj<'jJ2Q6g%<naN'Lop+IV])&WI4DRMFOIIDchKHca(h~M2+zG#6[eI8)a{DLSg1m~7`aZ[dG{[bBazsH#:z`UYh
(m)c[ex_*r1DP^ClzD'>y(En>a+kPj|:|nhGo}yl!!:.XT&mBV.LWqNevPQ)KbMRkfxXN+.~]}H[K=^M;:&h4XIPse_;HBhv`.BNY5>u|h/k/*Q!c|<Q`6T041F(1hv[d=R6H*&Jh>SS:Uy4D>jRcI
'Oz+2}s6Az,,yE~m0Kv|i~~M'!./#0?7&2R`;mqtP;85m#IbOdSvc18^PQ/{34);_lsB|n`4#s9(;}26!!v9Y0Lk(D~Oak.TPpg4Vb;9xOW/dHOOa_s:~?JWMjd'E;YbTz]VsF;,A2w0%G6IyAGQOn
Il0siVoavfzD1MJJfB/NsBMlabghtyf&b3_01>guu+VX!mDWe9AY'A6d1Wg0JZ[QN_rMkYr$nHrgt:{H0T;?9oo;z=JwkBGaPzczC7%/aMY|rq7^U~m+sd$Mp/nd[TDJ(J{&..<}/,$/!mWj:k{8r}
(4>NAAib3HPmV[H{&lozF|CxH}KM6|(agoMi!(}:Jdg8:j.t9AB[Y5Xs~k5?,;*+d^!g*m<ROBHp^F|)?4&?Wrh:og=(V~i[U3l|qFxSXq1xu}c_LE|KT|]J<4K]GV?)h5yY&/Pu:A{ls:Yo!{bKH:
&=`s{oNzAl'S]gcMN(1rm)+DN'?DMQ^2}YzuKI{:F($TfZnz{6domR;e16X?XG*vx|$FJJZ2vM+v7=KTKReLIo!/?H0Z}o1plmyR&^a6%<3_B<M`LB)xd1#7qX3_,(0{91c`EhS!9`?oI'R9y=y&Y(
y7t]XwCW9+,IK>aCHhabQt=mH4Z|izN;Zg8Rsv30R~q<s50csZL$,!GuUz*F%8wK~2i8EJ_Ea%)R5/z`=c_]usa+=~S8e[///;fYdH#^{hY*JSeNitu4SCb'jS#ST(*z{Z|;Qq=nllRM:*R1etMQ:Q
?JVBbtYEw>|qi*C/)rW0*Q+1$&S2F4e6w=_dh:EXbAg[R}*lhudG$X,zS7l'V_l3<9=c3k<XzAd.4G&l`ui,RLoS0~MFl'lBlX:QR2**E8,1?Ay6:L&|ClkIi3Z3w:%5!jvwsBz+!uF47Adi10GQIS
*h6R(S]u|%,/gOB.X]Es)}pM~5#P8^'NgR{2{SHVp3>52z~5y!fgh$1l<JLim^:ciOk3$=Bd5h)uZ3pnSmNbH8rEM[0ku$.+]{5G[&Z[(<c%Xq2Vm]1LV9V0W._x|?SVtnsm#JaF[7+L4p'AIbFz.m
KVV_Lc<<D_x61s4_[$+~?>1bMH!w9g>!au%eZhj7gbO`9XV,ri4k['+$9K_w'M':IM7(;)5duhYJPlquW/MYz=VT.%S|g`Q4!puD>=n')75ef&Q(EHDAtj]i=%(rz+6xCa#qm0)Wr$iK<D#ty!&/Du
6h[A+U9VT]7$*jxbFX1Tx7A.nZeXjWv$=;rH;w/!73<B]`Nz5XpM):4R=!Y$DK)Q~Ysg;GW5MnquM{N1h26;(x/OdllypXe~rGJgDjJxrJf)z+';{a*8iv:sR!2$mM3uB;`<s}e|!;:t!;wLVPbKiJ
.83M)C0(%saq?qwK&z9d=LFz=dpQ3R^F'FABd!<CI??SU]o>W)eBc7`p8vj+]I#3Fq5G)Ua;PAcNx3vH1};3hqP)p(vo(rIW%Fz4#CJU|dG8*9xITV[=z:F86w=_#t3[y{c,.p79'PirR|cRK|}b:;
>dOOL/ie;w&_Mt&Y+*12h]<iFim<Qb*'lH*!FBR&&%MO8WoT?P~Mtr|gm~KUj?;AASPtb=JylObA7k}Y/6Pvw6X4gLeV;Xd8;vKM#Q+b2bb.&l!^UR_fd5E.J77`hK'A*?9q{;Hy]C${8|B*s5:Vt%
XJIet6?e>_`mQRki[zZi!;=NjrOyQrIc9n`_;Q%9>ZMiEIG6<whw[ZEDyR!}R$batU=CPI;XL0^N8jWXVhfAIFYafLs#HW{9w/5K]ONZocvX+H^JJ=#?GNp:#u./_yVp<Og!HKsq<34>;!)v'la.vk
<T8'8'{FAlPuTy/[?Up|hEECUfg4{X{LN{FFTri&%lvx&][?yFe703Y]{h?'^WZ*b6~4pA,aaVky9}Rp>B?e_BT|^:4T+}=_*^aYK3udMAM#Y~+H)E}LZ$/Z:tWEapXz+ZFR:VQLJ9og%cQBs._ME8
P5cCaxB1ZMlFqZ'sW*IG}9kybB:wendqbG.JJSPOlm4xrdY{,ujtihwFiy8^!xLAjvrm;Xp1B3t6B9x,a*7msh437N]7kLXWA.Vno6<XeX?m)K+o{)hv'`n<7&trq9w?#c|]6su3*lT8y(c50sZja.
C$.~q:bYe`1*.cX&59D6x*nS.8jj%W7B^SOr^9^hMrAJUN#WqU[_fA.Z79BC%HvC)KC7n=((.4#5H0rtz{ze3gpQU[q]D7[g?MYp;18VTXpjf&AZ3te`eSQJ.t(klH9+qljBlq<evi`qO&PLbC<HMV
9TzjgQ(I3fb52hPVl=txqKS'T2i,<?|Nb(pRDPBQj.{2'za{%GEy0[qK3Z($99},Tc!{_;Kt<`k/':IZwB&1vX=la|XNUTmf_bxoSq~ri3<T(VR^)jLZ#R.B]AER*i2WIidj1qHmVBf]V:b<G!U)<^
~q(26Vb|g*V;8]X0%3,5|jtj/sqBBN<PTr:?x,+h6]e'<(`P^(_.A4!x!]u2eo2K/w*cYf,a#dl6<E9[<V?'QffP|U_uXcknN.|tMOCY4S4}(yn5^R/YW5{R?s'}b1IWqr_Zz9y^u4h~tta0T}1<}*
Q><==81p&IyBH&=w76'Ph{v!n(CaauPoyz?j>eGM9p4jYLnb?c7h9H+qrXFYZd_sC;R1U$}~{#TAO/(0Y]U[/[M&Vx#VYPh^we%h75cq*ts;:_?=0H18VypL|M87R,4Ze=:e2~jjcPDTA<KN88p1z|
.PG;^M{??cfN}i5+^=hGrA%=jS>UI;]qn<Jjl&XoZx_05[9~R.!HI5<6GIb{ibZh9Q*u/,G%h>R[zGQuG.kR;tq3l%gvbcF7$w'tUX?8qEh_UPW1cE1T:RJoDl*4hg0RZ2ay$(Xc9'0GBnN'#&#'2I
l1aRMF$]1RGb5L,B0Mho<nZD)63tsY'hzy_PORl~B?T,x>/<Gc:rG+h&^*AlLbN2Y{B;TV[.#{RnK!P!d>l*_8+]H*b4bDce0tRau4BE!H0bqf?66;zl*xui#%d?';}YnR^noFot`1xj*+>HnWA]'O
l5ik{~^}k,ZFitE$z4.%+};7bG{T1R#$Ipz2:~scD~?P`LM+|h6VwpNG361X,+|>$>H|..k7]J.dE[+1.:sc2}UL60ihdyM9!]LN<?Mcc8Xz~F2_PGj%GY<fe`:JUXbZ#Sxa=)cKE)(ULWS}MX5?wG
cWcXEe=!cm#D*YhRM02Sa_8g$+s6l];01A<P},mYD~nebbTB)0nr?qgOFM|+76+qhA,SM[o$|S1g=|da!UIEyrrnT4L(SDE.wL;O(Y4SEX>b2*TZS,M,,ji1h?96`arjEmvsOn#mi^#b+K`0JPjEoV
_x34+bLRKB#aj<VZbiAq&1.5>PMl9jPMDiy8`j2h^P?Xf39GkX<:DLIW~;Ea3;1JV^3MnS[~~^UwDcs4qZqL;u*0EQv#,]Df^Qbml(~[Ot85tct!]CeRuX.[9]/}*Kq&epmtr?0k:blXT:zUAFt[7~
g!2&*o?z`JpjNeyayBYrwgP6|,`b]vU~VmxDpR}^SIQAxspWO%%]pO,{}/LC6?_OWUYV/s5<;k]ypxl.cMg__F#1WTZ{('r,bZskc}?T%{Z/v1Y>:UWqbJF#Z{r:1f<PQySWRF6/{99Os1<13iz!G{
_ERTAWG7%Gxe141Hj`g_myJ!uXmWfFsCr:Z%;C`.]v46~a$`7+]0Ahi!Z^4/LAYU%'AHx:s)TS5.qowzDIjd+)d~0z;S,$E*dP5yuM|5M)6(M&VHKZJ15'Ul,kz#~z>F*8N0c=*;QU#1BT#tovzs'$
:v#gbc4a3Okw_|)T]fm&.i1;u}x:}.Pc2hdr9#zF/h8nrhQlq]t&O|.|kT,q?s>mq#p3k$%:o~Mxh_;6t8t.XML7IgfWncIMu3m~U_am$=Ypj8(g}}~sRY&^AL>Q(jqi3+Sm69d_&?M/F.gIqdT63H
S.<NH0L~TG+3}/}D?XgIIost+U+&;$nbMJkkk9ilr9nUYar?dVX;,7I2MGVP#2i'O#yyEc)SmZ,=zgbo7uZhm=Y{X~RH}v0Wutu<)l&|13b$)~UvP}38$y/VlZDypT];$L'2>6P2NMp>yoO:3YClPP
EIf2J=n$Ak}9*7,_UOXx]$~:y#hZ!mvhZ&:DnsBg^7O4~W|f6^wj),xkSaCN!~TF:8Rwl,X))MdiG.ya<J)Z(q!<~}Qn7gvgd^rWf#r1^m&sCvGbDS,Z;s,FD;w,a,0UxfSM08Gu2H6{;o5=PpYHh6
0fFS)gMcu.,C$PxZ&yB?`dDA$;L%78K:1WMdKr!^Jx[ZHfW3BttyQ(f93IsQggqCjJ.c(/?z$co}r=xwow]4]lRYc4%Uo>/zg}F)Y&:uUH[OjYE}iIL>uytN.czXonB/^0la{D*fj1Xr7:*gspOi4%
9d4(L7ZI?Wc&Bh0Rl+Cr]2$e)NpeEOHn}G_h/,gXWCJ+y*.rPL~OBN+WlU&_pf_KSp{:3$Yu{0tPJhulTAW,zk#jzi3^S[ijC*#$1?}coPglF>*.KR6I!s_?V,tyT{6]EHpMh6^b`$}k?y5O_xv?#N
97=Qh3<6;QLA3;'|<B99~43)vf.4[oR^TA=;R3]^vI_?9$+sW9$u_Tv#YDKH{0I]wvr]pTKdORztIr[W.Gr/KW_Bk!IVy&Ey(qFJ^J^z_IraE)aJ/Y`WP[#vu9'm1Rw4E{!Q6+i=45Ql0X~w>ir&{K
ED1U>7!A`sm%*Chx!0/4wU#!bWfj^DHbB*#^k~Uw^ZrcLG'<;Wkq$g,K_yGuXBcSYD#di?3<a:Et8v&%~>C{go[&9dpM.kyt+;90H}VVn$H|`fb60B)r!PoaX=r3Z?QgFDFa59plzHYcTr7DnLET%e
$t'?)aPHMtN;?C=(FI:Jc$xOrw~Q.A!i^A3rt&gxIu5K?J.uspt#&|)v$_RX<Ry=Oa>+Xyc|Rb.yV(`P67U3..MPsN[7ZgwrkWZ5d3(un<r;q(fND_uTrED1&JD!+]`YbN`}aI#2bx$fec<#RuPj.L
OFBnRp,t$U~2C7M1zWh'XC2!k&ma8O}MYt+1aT'0[^esb,'m^G3Q^2%X0Y[b:[r3hC,R3J`q3!ik_o49%)A8VgW2cI^{5A72*4~lg`2uf'<Ro/t=VQbE$OA^HX;b,~3~X}sS:PwK:KNdjDK]qkr`}I
392<L.iG:Vozl+;.VXmXXlJ7BQyzlZ0LVp/~<NDqX!n8%;/msA:q+jFg*YQf}N9LwFbDQfm=+:iq}vgQ3gF_=X;(Q=WrE#^Lz`;j?!gI?U%I6Y*dZirzEt25S^#wx[JbAGh%'<vZv0[E,n~AIc2Ejc
hic|B4Hqg!]^MA|yC5.G]k^L&,v~2=PFRB0vVRg?d%3,9dq2)|r!+HH|9Qh:?qS7i:DY)}`5Fht7GWG+7K8<ZcP<g7'L$v,x{av]!R8`MXwMt_G^^7XMz+,[&d#`~+bFBpj+IjaH?3]*]sOy}XN&o5
Iu|4Mii:1V_1gFAuAmBGTpnwd;&sXwdxBHUP$jkHB~`?/uaTbap^[m2+[tRn.2ld){s)4I0aac`![kQr`B9$*`s0wN:i=L&Ic4iY9Q0c']8/XK|^4tB0ROIYw;*i]K&]tHIN`K|B&PPS(:mQQO|P#8
wE.*HCg2IihtC*9/mr]ogZ/&CKPUEk^Z&dzkt+{i^TnU^}q'$>AsxNPK+XFv))^20s~e{MO)>RA53FW''0`PniXJR8UPw6Y43%FOsyhxkU`t^RXk(u|rvW^^OrdGcc3KRJV};+&ki%e4ou&|?V7XIx
EGLNfqpJ3l=pwHA.Zjtp|kP/>yc='Y}]9;xm/.lknapSMOu9xJtaye']]TK9y9?.bj~!N:ZR9Wnt?Vf7wXfllQpnYg;]Jr5.n'ZocQsXi=e}`3X_W*76Sn=F2p(h^/S!^]&it!oF%X(=8YJE~Jl#$B
VHcjG>XJan?4^Qz}}+=w+98qW8_mFz|B#`Qu}J37'6LPrs,aP_H:zV)#CLQ#J<p,}(A&7m3kJl}'1.T7n#lNeR=VM:=x)vA'F5Dl{^'pk&onSo<p<fSUuu[tW~/x7LE9*x0qJ#_{NM?a%w}.P65)Ia
)L#5xB9r^Nl#RXOugUh?_U^[Z:NcK_p)MtWi!#p0Yzb02F=v>g~gB$Pvr!czDFh_BaMNsx5e.P|B_Z|t7q&bMtmpA&k!Yw#S4(nl&yr^N2}:m16J4{L0N5m0X7)USfvOY>%[u7|5i}!$taX5G2,z3l
39d$Xt$c;x8*5g&'K#+7?;?2s0;Xj^|_BQh5]<>4T}y7eJ]7ya*NWiHs~$coV1x}]'VpuPP_y2UK3icS#+h:${WF0n?GT`#90{xq/$U164;6hy_SxsjMFvwyR7?8q){uDcwU|'R.Ff<|9<SVyc)EPD
h|RB!SuC=9_%vGx'DVD2s|BW/N9Hx4x;0o~:`fPfs1_,*k8~.!GtIa*TdOa|B*atkl#lfnm;Wv;jnf=fS3bMZRuN{b}C;va6<F=r;30hq0}ObJ=lPb9a:c_M'}cZS}G(f^Q+Uj$=EJs*m%Ma2LK]4Y
Yceh6Si%=mI('H|~eLL/s>{'F_gG7Zi2MN9^UkCr(&3GUd)ix*NS0lPOoi#_SiGNI<$BccV)goLik.}dVR_C|;vKyDp(.u,(&NEMy&$f6Zn1's;0<)lS61Y>*D!2Z`/FC6a~jvDka!3=(;hfp,=<oI
6;>oOYi6'7t5=opG#]Vs0YA1.T^t$ND96LX,~FFob6oDG1^vBfYB#=GQ0)7+lK^9odk^;RP(zZqSrT[T?<_(v.?l13OL_2Z=jIxawM!z][:>|L|](^L3d~j(!=EE'}8W6N?GSp(MC8*slnFeDj$&cZ
`<'[VUl{Ofj}K0~F[|Xr_=y>3#7b35b:5c0kw*U:*g,(H48qcysc(AUp89${<k6a9k3]kDs}~p=1j8)LTP=[{zq.MP4NI+zaR'9Xih,bM99(60M'|ya$1D*fO8neXovE+P~DeBK{uJRV,AJEc?B|'b
B9vC.xG!(46:y,B+[+;n,C<JA:9Gdn60#lxP~bvVCBn?bRL/b3?zW'TS754~0#l*`]^(fTFQR<7KV7uIHr.UqChk4`^1:7v`<_v>={.ylsAL0&s1R|9Za9qM9JyRTE]6#w+8u/r[r*9&Zqn!!.{8kE
,%{QUmYvYn}LoG`i$Y1't.v0Awt,_Dk8pG3jDSMs[:ip*aZSvljB?>)H.~d$N;5C?QcanO{oR|!mX)wc`4.o{]cr^{Gl9!8>+[ayD!Hz,)Y^49gq5bW%5/h=&*#fs%qY&;Vz+ZL{>I$Fch>/.7`)Y6
Q}Cs>lXK95WsIZ2?E(J1f%piA<t6;[e%dI5FuiaBwgLsEBET$x089?f^F8LJ,A_v9J<e>NGW_`]z^>+Vj%)'VIj3++B|EqPcJ'YiWj[EMfO*dI#<8l:/XAWFeY+lMySWMJ17y&'16x$W'aa#,QamIu
&3a9o[W_x43`53#m=S/{kHudF`:>L+UPZ0l}1W]G_].~O{;>hnf4QxO6[tqz(B'4'w0$w3]JB`kU9+NM,3`/dHp>x~`XxJBVmz0mQ!?$7~oszN!dafIaO3Fb!mpi[0r;%:F5S},jH2yNvaxUVhYlr~
|TYB!Xk]57vFk}/*_:5k?l|;gxCu$^siwF)[3iaXTSQ]Nmo|9_q<mQeDnQ!O`+N#[M61`lQjJ4Cg#7#MQ]&}0myxY$>;qa.`BnCk*(lY^rT$LV^`*n1j6<ZH1}+VtAiXXj_},3x=Un/70om9H)tqJn
gf$csml}DhC#G$Ol];HHUvEMxP#![%vwK7=gEZekHwakE]_h*L}(NUYa?*D|A^lrB37V*SWxESRvU%>9!})6]{OsfJFLwtC{,3rhj^EQB/VQ%[5fUwvHhhG&uqp.?%yX<X:DJdV{.p%uB<FC&]wiIZ
]~'hQ*Bk;N0WywRV!&YRs9N#Y&3z7PCY&L,YwQ5m:uG`~=+q5+`{;|$#d=~{pM%w_mUDFv8R,.hwL;0Abp**~Ti`M%7Cy>FX|x2iLwCzpO^G1D|^Y>7;(fH`vJj(V<1SV7n&Tpjj9b=lO:x:]%H{Zw
lO|q2w!AnE<;o,`r39PG|(0PtQ+L3Ro+peac3%UMzp3YdXP`(W&80wg4n_*a6CrE}72?$V1$>(4~Vr`4xy/gm?jRX#iO:u#B(nSQ<gZ4EAl.NH?9a$Dye#|zC1~;L*mFATNi9r6=HHk8(UbAym$+,D
`yrjHn8HOqu2zesyDMcbu[oZ,vk'!f<VyVDhg*a}wT&$~sPP]q3Ly1vatO~KQc`VNq98074$p#MG)Vw2xd?ubfP(6x;v}#{PiPHLm8%89iUsCMNTa^DpCOJ[0+q'Vo',oO?$p#6f`+ByMQL=wCt$II
P]2`'FDPRLVlS>tOD9>7!{Lzh_:wnP(l['}1p~8LEl{]pprDk8*AoOxf'7`[04B$NRJ,$U*UG9<[#)g>A]yvFe!vwZ=0$zz62]of=';s$wM=RO_N[lHrmVF4~yCT6s;.IU%^Y}JUGO{F[;coCrhaHu
~hLs<oqAWyNQ.2)3Q%niLWQ5!yj~!OQT$V.<v_DNSgZED'dF[^Ecqj_}Ll`o.X8jEPIUN0k|/d`y#9NGk8[}~n1$M:1}kl;~qwwgT:4=tu*[4lox24MAM$krwg?UvNlz]S)x}?Ltcea#j(M*rpXs.l
##Ayr,*JYC4]QB~8d^CF2DVGA}j!,Fy`o]_;%;+.[2,apGff})f$P:(V|#_aN:Q<Ed5~)E8+SREdOPzbjxS};0]{k4RZ_%;L;kGlA:MF?j+aE_iIK25&L6m:+lA=Gt%=O*;4^f{4#J{Tuq++/5BH':
AK`<'G]#pAd$44f:mF_&Pe1('ZkZRHJ]V(YkL)VYpK,8U1.&e+N$z/U,[ok^pOVt>r:y!7G(.S2UtV^L}eS,TM)7(#<9mBu7l6)/f]gSC/NG)>Ei$7ZJGY!B6;KZqaHvP^vlX2J34Du1l/0F,>r:Ly
#nd6e80rK#l{si7#+[>zv,5+LQ$(#d(t?/Gg9*24/Qul#~Pd|ZQF5f[:s0IQ*G>awkY:SJ6WngO['fymJ[32*v;STptk!7k;|![Sga21IFoG,+r9K3Zr.w>0>:Q5oyg&d^?!+od/IqMbF4%RB!I.G4
Fy{}U'xz]hUoLu3F!4'Xi&7K_zq>6N!51W>oM]jz%.yHc*y#'iZCr'A]P/Im02?fgORB3S,.||uGKXZsiS]h8*VuWCpO}{0P!n1'2,9|m7f'c.pAj`2qTn~_)c1h3X[$:X^rmr;uvTd5x~Qfz}B'<Z
F=yHgL]5IGBGzxpjp/{oiNrVbmL^)G~3(9ZYg?&3?`*[<X;y#(dp{?`Jd#32)!&j#]_r$~y69w:uXeFXvNP,=uZ75p|Pj$tt6~'yV7Cy6<xLDMp_!r<:i'Dbkl2PU4j,PcmB,%VC+NnQ`IU2dlXC%{
Nb7%3>ARXeGyiA7.s(Jx#kl}bW%^mIO{'6l[U_t9[Yt^Bk3CMyMCZAp%)Q+b3MKw63k[{1[33zz%]z1AOkHnv_Vd8,MR)4esg.C.9WdnyzmDngXuy8!TA~t{K0lyQ7}gkrt7I5+tzqLMk{r$Hqa<QK
YrJO>h)pIt,#Fm*eNy.&>*4NL/r?VDgTX!8;h?yYnFZWXt2)m,3v4*ld:G%6Hx$c,D_:gYo2i58ZKMoZ?:d[zG!qF`iSazg#*HM#>qY;:pfAhME}%Np}=i3I;CgA>#oq3v^O4ki(7!YI)f:=pNvNx%
;b~&+dC<Jq{G]_&JPh8xu?0&2d0Huv54W~`z~GE(m_}H{}EcC#vqwUq7[}KB5hE^U`T7)~t0NHb#+_bAgW#dPq?uyRK3[kHaANm8o9](oIC$OMz4H8*'st+{e`X=qXWeo(]HDn9j;IZGb'g[#?,!f;
rZht*ac^%YadrO?':fUnU0+(^(hZyYa6;W&W[5hf/j|MJ&Xx+4Eqw%yuFNhgOX<tWmnLY9hm}xW{{R^WNN<VU'P=D`SsNyNi5R_S1/kv.5&Z^2BN|6!M*Xm|:}w2Io<xUEqLZV?&(3[00?9q/7=K}P
X+pbmBp%W^Jj.OQ$tNEtKh;2|pbQ2Zx8|MP2D46zPZ`.JGA(BYvfSC5+%Jzj06/X$fUL=eNlT8g{&,3xaO{ps2O6z?.Pn'|MF;b1vNW'vj*lU?|ue3mKDB6T#t=+J(D?$%LCLL2o=ZZ[D}(*1AS:$O
LhVOSfP+R9EoAukQ%YyD#H(M8OzL^#uFteX:v.?VUoP6Mq|Ll3W1JCqYy.=X=>2c=MmwuRe)N6aQh}G13ekR9}CU8c+,u>n~1<M#QAHI7Jb^np8$gT#dfr/87S(j2~o+TcG{%*$F|nK?A~?9Xd;Sn?
0XX5sS)1rRzZW::p{ZQNP4)alOi&LAqrs{j.c%:ION!}x}J,0*P(iy|:]hkXV=D:/N_bkwl>>#xFUvXLe7RPr/wG%i7`/{+4m|1s>To|O!H0(LZ7az2I_083oT=9h;RMs`h[X~;iY|c3yb0RMjqYFr
lAg[UH+}xX`_[!!q.[IC!:K4#Qnnus;d)L8~o|y|{<]m6}L!]LC&QUwlNT6oD3s7nvUCvl~u07&V.x!>f&E={WeT/fX(RJ*hs<38:e;QhE[Y<xHdDUc<t55SWx3*xxq<20$km]($J5X~=hHzl/'JpP
.N&JAJuwvVu$J^d]a4pE7vkWVbo`:$wIy{oZbgbbLCLC},Tab=<9r)/'bA'gLJhxe!!cJHm?c>E5Ni9`*>3u)'RUnu2P<Z6z#<7d%{7%$OL'5C?Zoj,)>`k^~]WBjO!L$]ZgLx~,'(WlK^G7Ic|G#3
qvf?bYCT*mm(0DgUs579;#}Yju+QzWLQ7%sxx1Q:t~4;u6CPEMMpVe{6}9![c$31gkdf7GbmpVI2G)R{0.TIi$1gfI8[Bo6YAj.~sX^<IMngfhcXUClDxXZhp:5#w='pbEXz=6t7QrQqFP<[]/Cnls
}Q`719hkQY?~hczM,[}mr6Qn,.w_/!U^nIn3tFtscN}I}T??B'.}E5JP.$7FfX:{0LWAFLECe^_iri%0I&j1B;X^ngBd$jLqwr#cO&55K4||rq4i#~}Ha9fL.Ne(>n|y9]c.Cm}W+NlBUj7jERjX&_
J+;JK~r*0KekqZDS?P{s*2sA}eyf_l!3gzxOUb#eZ51E6ntBF|`O[Y>*C)c,&.dk|'fxSiUp6fl'5(xKid#wN=:m+Jc2nC$#tYNHdW]))~qL4Rg^0iK`~0j^p1#2A2>!=QJ}NESz#[_X1yu)D>)I<#
`OkNv)cyP|:FpiYsJHWf%[RU~Tp4Q5`R$,,3ltZ{G)cSmNd%vS=mfUGpPRS:{!M)EEZ>HqtKTh=/]nlLBX}Wa1}}F>[6])4v!?i3MHa~Z'jli2pKda/f4`F!~ai6w)Xk%j`h4Mm#Q)Hv?Fk)q>k(J2
+&A%(?'nY46JiPgby<INsd<KPqJbkCEyPpQ)gnwM%h=Dv)c%{w^Y9Fj1CWc`.Ip*4!dXdLDnwr*80{,O5A?(/XGeW7(M^Pka2Hx;fT.DQ2s5eIFJ6(j<k]B5kCxw;0*u3YUO>k0K.>KeZM3D'iuKn)
KQ_Wz)M>j%H;zWk5E$/D|[szH+/g%auKcS~2c|Lwsi_o5rY6vhg/MJ*fkNMs<OG<nxo0#Yy.844$!__eIphc3BVZZx6,T'NZ.x}%,}p#5Kg?fC/=*u&Z`}2J&9=9='~^U)x43eFx~Ld5Kx$1Wo1`$?
wt1^+Q$VWDAaH&F4(Y!!b1#h7X0>eW]*qI`f<F,`8g4cktNBr4tBNM{>znS8T<}df0)>F0$]yU%)C;oq(OCyrOAI.XuZA4c;K&eh&hygs3$;MdNpVgPe<<!G'o:qaQ?Lu^j95yXN9k(J70nryrt8Iu
R.;em`ajV)bKH0LY'F2m7r*WWt+Q?4grBVp,U3L<4fCP6)^q1::e2xT*ZSLPYu!rojjnOBALw/|Ufwa`W^&DH92VDBSI8{`Au!Jkzi)b3bUNrTFWeNaI?^0VL(WuC4QQ)2`X)EQmg|[Y#u`#s_H2|n
/KMd~gm,^N'&%1/_?(~8*9MG%)4F~ED<C`7_'Y>+PJ9JesKueT5IN^Xy6g>.tF9J!56ts$J_7hIe|D(/`7XxhUnJdHgx7`j1{XrW&bKV`5VYcW{OTrEJt9M`!/`,'Ks}Gc|8B+[RkE?]'(`Y{L&cFv
%r%#)Oe:jfW.#n%v+FcE5=E2}lUW1m/ZMik]b>NTBOut,%lCRg#U*<yECbu)#et}c27E|}|d.WnFM^0yCah6%0~KaQAT~h~]kfTM/+R}(WO]8Sr%5S#o`(*BxD:eQ<M,ZmwO)('Oym(lO<CyBCmg{f
B33)v{;a3$gy8ORmAUdKZAXj#WDAv0*y2{c5_h+w2]FFc|EfDED[ki&|#7`:iJ9GAr<H5t^uiaV>nW,1$.iWSFf[3i_emsS?0Zi^KU.fR<NS`Dz'u+i'DI}0PD82l=Y$Utnsx}AX;A/b;F+SyC2y?~
%bZ+cdic?k5;NIl9*]o;?0LL4l0eqc0?5(K8}0I6sZ)>:XJSiGg}X`~4y^}?GK<s`%`5p#8D?xQE?3,89Z/].=vSKLpbWTRYGOf}Dp'Nk;gMh?%2x8q6]oWs%w[U0CtTC~j=o>f,Y^yIFH[HI45QsZ
|gI2,oyF_%5BZDYs<E9$=0VzgJ1*KQk2gK9]bANiKow?daE;Fb4&~#$l,:27Rfwj0{Of]bedu);jO$~Sai(*vS;<_I;j{If4P74?BnlbxsO9,$C:<HOt2q&fE&Oc!xWJ&Zu%C^$N$gIk>I8X$Ku8lV
yCbdMn$9rcDHS|cC#L?*1u;Ec]eSe*w&lv>&bS(6$}a+T2'ele1kg>$IU_PYG_RxXa+09FrTHS%mloZit>_=N*aw:Y3AVFF]'LfzZjj^.(71%Bb|}i%xUn:h9gO)it_eW9cE3nJ#)H)EoMzvyz/&FZ
:vYXp?Wy<((l9[w=$Dg<<.]3J^&f`8h&?6Q3OL^5]Ub_teZ+Up.x#1b.sGMlW~Dhuc`vidgX`y:UJBi~GS02zrV?y)ipRHr]P2[sF5;86fN&Nogh4AUmGD(MU{+,PflPr&%8Yl[`[(`EddX9+TA7KK
nGem:<WLNP|ekC%xd#F1dNcjL,y5deXVXd853CP|J+j6$J%$1`}=,e;{k'z^^zxpWIQ|gbfBE/VKY{ID^Cd!u[Xu(y5<5<T70]J=O.).MTJv}f8d|3fCFZKJC|cPp+T$v`0mXL('843>H]nB;W,6cM
0)p/|K:g&cplDi(s~+}kWNm:22|1<cLd7x6<ZY2PqE;.}L}4.G*..l]Y4cYnJ0.$Op.NW^kT'5L4FKsCX'$H2}|X,rsH5BVG!&_&1Fll<tyyTW(K`W^n9W|w,}l6z^,2$Vn.^DIxim^3OwTRlYZ^B(
>{3oko=qoM.Qb_JXF,NS7F_b$+~3;e5_zgc_93We9}~g1p}wXO>&E%xmf3u^2gBHU(i>C.&Yn}//Lp=UKrM_VGrktHC<(s#>&ss$)kcp.!D`I)q2[K(jA)U5GnGkfO?>5u(c%^99Xm.UsIJ#nP|DA$
.`j:.CRfj%0':!|Rz6r_bxuq1m:Za/2sHyYOl/T/0SHKa?)}lCfS?9ztR`WQ]:m<5|4N[`OJ&iR7mZDNN'X5v|=PW|qIcn~D6!1%IQN,B`60IS3h;OGYn14w4}IH!U<;)g,=107[$xwFM_$oq,kQ)Q
oeBVq(</fC1p9&jG.Zep|O??Jhji&)(jx~jLN=uH;8Xtfb]B8x2x6bJ+N,~D,}pz|B'3|([}G[Zb]laO{h7?]TTY''!=rcLKCX9W,73=cWd<tq{/]6bOy^=s8nv',QB#,[WFs!l(O^DvC%<:eg~HPS
zq]TIk~eBhimSM:e&S0xkXr)|pkQJ(NdKiFV&TgmUV4byicMTBsE>S'IpI|TbFjq|i#r.Y#H!fdPj0hE.tFL.U]3{I1SbKb$]T[B1_23O}41d*</z]ub#hZZT.x/1#[SFz*%F7(538Eb(qJ1SsBpO&
SbAJhR3F^M?5fi/+jAWUbXzfC{9V4LCzOt{)tIX`!jrLOpdx!`M##e[oZtq(*,8g>B+qS89z`&.bLZ*r$'o?aD&,Y2CUK5w2!ahREu}VKo^|33qg.L*p)z?NM><m3RM#H*>p/]hhrwa/f0%23xID5a
R(Zu:<|e|r4gqr2c!SryX~5(TI1,y#Dye%<8X]!;JW(KR~46zo?g`)CP#jjIp7G=TV;?=0g$U*`%9'n7/_de1ko2<tMLNwi:?IPXg<:D)?NZ4ccq%8t+QLtTQV9Fn_,>$$&yT!Gv8<fhqC/],=]dv%
XTO)#cibV>NfUp&Xed4=#Q.o=6^$^:,j,[vhD)wW^}!73Fc1J7V?NI!pTJM(uyc{c1i5r4spcXC!(=Mt4nH0Bi#`IW8Ojv!e9:]2Qw9=TY8kcH+Iisc3B2q,1WK?:oC%bT%*2Q=QUHn({:7HF9${|4
n$%:C5Oxay0.+]M?)w6U#L1Zwi|l$KRy1%~;Cv:,URc2:EpkI3`oU&,:)PQuSkc$#JhA.$ASw`f&iIbVj;~x0;I%<o1lTamRO~>{SE[v^JDAEg:e;)DxGqF1f0JMS$jm0{Q]iFl=say<hkE}IS&A+/
jN]m<(4T?a%(XckM8'[7::b]4]ai*C&a0uiB7Ph(bf32(R_8$Rbt17J74w.NBj![7iY(RkgK)6HX=+h=1}?n(F8'O:'L^B}A4[N+'Q[di^1dc`%jc1eie?f(H$wc|F%GD2=gc)ju*JVz?Dz2]s2*~Z
r}h1+9qg<X3WY4:3g{%|XD;E>pP,[jo!TE<rl+zW$=P,z6+q?mc6OI]:(Xwis?Y><ENZW`:jCX;|yZH='cniai$fP#n1x,bUI&Noh{N!4peN$4)Le#;g<<n+!%rX/ll!NZu4oYMWS9&P5F#|iAI{!'
`fuK[~wvT!'l5RV2~6z&$q'_Xp9m|3LYDkdNEqYg:)v:gPODIZmiUA!nsn8;}{^OC`X.|45J~<a0y0X<'snf:qMLyViuUYq!tQ})BwS2>'B;mYnA<UCMzNhRCy)r$F5cgg:$*i6^48BaH46.p)o()C
!M!fC1'c/8ZJ:jQq;I2ZU*u%fNgvZhK=XPL^K~kd{Sdb3!}UNXc#T;7L$[_lND=[_n2vb524t&VQi.Qi?ynvXbG9CuQ`z?OtnzGKk(bRSQy0=kT7={xDZV.0vtI_E2L{Mp|XI>,y~E*V%y.5ErlA#E
P/V3*>,Md<3sowcvD5H5Y_*Re[[vx9!9&i9&F^w({>ff~4}M:w1}*9(,L7NoaG(w.&(t)Ti0F2$~i*D_8tx!%(;gi=DL`O8iSYbo^D2Nn5!R41Gh]C#>zy2Q8C%8)P,pj_}i?MHoRwU)=%u2{N4&|^
k9FtrCN4zlH1]Lqf(F?dQIu6,0vyf)%BJ>vNEzL&Ff[KCPZFyKc7.3n2EKnnrww#%(V2RP1'TinxxPzF|9t,:ztxw,[#r=/H'f+j5p>x72i6SXanBQ<MRK?#ICIG6<BKch.6o5p'T:s/b48vdCvjil
OS=k`#tZ9wd2mI#NglrQ4v:l6Mf,U9J(W3*I[6_J7L1EU{8kPp0H{4~j;(:s#DWs%u`}dviz<a5){F6*cMLYE1?okjil=UdSx;_MB$Hmv<Mw(tW7i)=Hkw^vzhK$lzRIo}]G`7{K8O_NY;:;U4*tLB
_{2bbCQDLVageKF*AO}}.9BH,$D'fg[D9HBp?{ixyYNd}fE&R3$g(n*jAEim6(HHi1R4WabOmg`w/lPLUpa79cr%CTm{Ys&/6e4FALXh8v8&v03MC9=3vJ|9zc5zM(B8dDZXJ*5v1jD*7$u&x2*!x_
U3F7~!(ekh^1E+tq`3y$1Z_G([8]W5UdOt=xAzVOE`a*9&ZKF9&3y]$o*WL6&X8R1ZsjLH?,]bWArbm<bEXv_~,t?_2I($OVvaGga0hxk3<Cat$]2``at8YVqFp4q32hW<V4VEnrAx*Z)'|c?B:D54
mXB)hSWXc'L{b`)taJZ|4a<h%}gtx/4#|$hh#A8'|NpMs.sK;X7/np1{IVv1hvQfggkJG>ztKJyZ&l2KwsZ`chW_kXCF;r':.%G^y9}^vKIiyCLG(HL|KeVR.)Ht%:Wa:hJpjIg(hO>zd_+*:Kx=R3
^ngp0am|fk*>7C;1Er`q&enxBF|fJ*(M*a)Mrocfa1,;8d1pw:I`,qS[W&8/[+lxZ[p'w<s%L+dHp7['#.7|%o>dTIFT<.|hvaPJ>OEchI*8'+uwB}%',(s]ZpmwP}da.+)seshoq2H<J]'V<T'hEf
m:y`P>mKk(#0Q=;1oH}4AXfxG0>:r<{~mS_pIz6!&5x&T#JM<!uI!?W73y6Q0//G!<|9|Q3=qJn&Wp]}1#NqAks0$D/T]AkcARq?MhX=.NA_,<N$h%D(2rb%'Pc$asXRBm$jAiU]5TAylTBXY/Q|om
*fx~P$|)c&w^1oe{g1jCwpAeGwR~^|^Y;6.qq8T1AI)Zm4r&C}`ZhaM<U;50r[ZCs!l&iDw?LbfMaFTDM/TNtE*oMc(rKGw:c>'`&roUMyg8m9AaUroR~3u6f)e(>5B|1]H/M$=#y~%$Vz2flokQMw
/Z,Fu[e$fKa'{3N=NFzYb[KZ1|h[{gCj+U2%<A%VsmM[n^Q*TeOe^RU&4LHL&M<5;kHvbdtWtByR/T:XylWbL#aCNuPA%(,M=nK+M6sM&G^dppSUm$D~$Gt?PSb<&Q5(VL4bS+s2l_U:~m#j?d9JY>
>N%ciKcQ)K_5?HcOf9'Z{wu85et%Sj6yPH+NDOda`ja#JN{xuIV?r2RE$hv't!zA,f;l|1D1K>8%dP]8n*t#x|Wp3=#Qyhq|1($s?WT4d$0pU)XB/vKQ(O=2?aPLc`=]Iu)z6HJ:M.0Xp?10;C<V3K
LA_|`>2ZZRw0;TdrO>zm}W78oj<};d1+sH.isRtK!/^S72Z;>yHrVKU/.OzcI'>N|=i|TB7lh0'+ZzBY5v/BRvg3Lw{9U}eHx.`6<#de$_(19Ed<^LydF{qkZx'd5(pN_vq5[?#bTAQ:o|p4e,QWdD
UHN]jQ_#w7W&(kyo]]D}P5+TV2B!lu`yut#c7/]9ak}l[A_:M*$tqmr%8n=aFr'SdZT]5YIM4~#P!u[b(*JiZ7bIqJQLjO_bfD,+k5!I|F(QrCU=L[/Vp#W21`&q257||3^;5Pn(FJrqixu30(Bs/'
+}**XF$ax`6|/Sq3KMVSnrnMD5Hp<NAdddl*Pp0<_[J!*(OcA%.532esK7Md+y69?I65+QZ6CaPhxZ6yyIerpVW~N|pP.7?Or,Um_KbqxnR0|Rmb$<G%c$jOZ}/L}TPNJWE1QaMnWi[XPx_!/zwHcS
,dsTr%X`GrOs+EJO5#P]ltWl~?Z)Nw$z=[}ujPz[zP49a=7h[PnxamN'z>Z9byb&*hM69uN{9Q1{q(eQ67zP^[!hAFRL7PD*9^HZ{~1.eOgO'0ehgY*cH,EUeu;DLm_8HN;&_f;qF4%>VNa:xIni>O
1ZSB;/E#y%rUOjSl>t4s0PJ.c0Oc76C>$[nZ^(&Rtf5H'e%3oe5c6{1)thqS^&p'AR1)s?0Bi~+a6_?LxU'L`tn?{W[RSFO5r+9k#kX%0yh3[vKe1X0<)m01EQ,$.)8+l/&4XprjfvbX,}Zk!UN:/`
Sv=xW)*5,Jw'7!ZN.&Ziebvg~TtQ}|AQLMq+R}=A`%(YTDL[~O&7Fl{zbT2&[%EeC+e&Qg(ju&<WYW|uAQ%ruGR$(#Y|q2}xDn9IoOl`js&7)Fq_,OE:cuVNK7h*Y!*=&(B<_`Jw;)4:$}bDy[tqC<
}~5d:[o0ZX:}dk9AdR0]KFd+n:Ru,m.R{PtP0A%3MKwBC}N&~8F9TDDtdU|ho8kSG&7.Ko6]*{^Zg]%4NK;Ta'#79:O,]RgV2nNRi$e=^#m[;%!~%opiA/1VIeA]J.!eO){SW9g8CsT`^e_[gWSO68
pWe{]QMm9dih,?:oP;<|*Y33xw`}j5#Nw:T9v##cvNj`~21BLQ%gqurL(x=]*?ED}~F}ziGsvH%gcz$#{OzAomu{m7fTsG:~jl~Js$TH.m+9dAo<qVmZ?+{+xt8'U)g6?r:|3%M~;ikXg6*weov_3j
RkU>`$GZ'(WU.d}h5oiUn%dhN9H^'Ei;wopXRbAFoBKqz1F5IY<!HGRD(sQ=?Ju$S9'^IQYYnPlb,F>%JQY)Fv`|U17{2BFh(XMe*}BytH#6Z;V*bx$QD,P,Sdq2tgV;4iw'?}ECi9dL{0d%j6OBj]
$rgRhBXg|4x$IVD[WXlkc6<bM9.AXXwba:l[jxg$xw8uNL>`vz.,g;]pt2(d`kvhI~^X+zZbB_qiQ7r`H/r)x7*GNK6}>e$Sa{eP,Q!PrR,3)^f8Cj1><D%R(S<>nC&};R9gB7!Y_[)4Qp;*xQ<Cof
0}!TV]!F{^1{ty%W~)(QDOc57m6m1XvQEcJCnU]Fs0;Gi[SJ=bgQcAsa>7T*znDtguCi?6{W(zx'Z6_z3E(Au>j+*Y~S(%^.7FHq+&A9?Fb%%gfL?>4o:%Erz?%M[ylK[]iW>PtE9w*9q!HGlhJILc
{;gmO6pAZ}_)k3PTs7*b]B[Ms)Fa?Zg.Mxp9OdduV4AE0Yb{eiN7<Tg$m)Ps&mAV&P~%L1Si9JQt&AfB5VMh>m$2RwZqmX<J(#^<FUN7Q}nxT[~*h&n*][`Y=<wp&l!XM2WI)vR1o&7B6%n6szL{['
rmPk=Vwu/RuNF}/0Q.vEY]C{xE.zRa5vGY68xQP5bwvoa'0vQkg^:Dz1g5AEfP)?BF0`D33nXy:yBf39e72^:qvA1UHe(Ga$Gz9etaphwHA=[13p)Ui#%xe,:6lP$(vPZaetzb,mK^E]X%()$x;[A<
B|~:^GoA!:cW/~xl&,SyIG2Iqh'3hzL;$:LH0zMNdLf6f>%]fFXI4'[,uT8n,7)+{mNmZkKF]Bm?:#%w'Gll5BmkM%vGY6N8l{kYJ1/crV|=iEvlLi}KR<Nfv9]0LP){{{|yz_8}sgE=:PO%l#kYS{
VT'5?k)XB*vLx1YF(q*28r<n!!}o]Ev&P{UySU8(5}x^<KU:YCt+^qH#3iR/<48UH)ywz?#9Y)2KA&g2lM=aansK*{nP:g;=F6hrNaAzCe%Izy3'*&Nw%I}+rWvFL(aj`jxCu`4Y3b_>8euP|io0~M
(#U+!1LyhZP$#Zv;geOD^7sXF=RGsWYfW^&4|rnkRS%gG}n*vmJw6f!q0Z^:)eb'Y4Od?#dYD>}PifSg=RhXH'[LmkRit?CG(7KJ5E$=|CB3|XlC(I6Ft9?{&Ss~jcBf?WlKuVp%B<I!LaBgR9xp>~
);,X2{5|s&ya}S6Ynrn!(v]HzU3Yc5}%/,}#:ru0x[a![#]6{)'v>m>0D.L~MKt#f{#fknj_Sz[8]+7Z*5q?J?4bSrDVkJys2=]6~nzX`(b'j{z8`'SE&!5l<_lAV^Yp:]g?vvZ2Gpn6LbHXSeV4,v
IpCpT<57KBMii=#usk*GSu3NU*&CI|%PTp4bve<.?>Ok^Ly?.VI]=&_Y/a:>h2X9O7TcPy2QJi*_O<)Z41S.+!qFm;U(N1R+<pMG[{;>jMt5WE<bvvs1?2v563ov&.>)<|AS%q^Ysg`52W1Ve{AAM=
DR|:QvXRKI5{0ts&4c8.nO#g*tQ6<gEv&mrB'F^4nWQ!EquDiF+fxAU5yxsZR_FcgInquh#(kd!',ks1./_HD?Fqe(i0X)dak$0%8>{'tbb+{My[v,3JGx'&}2kSOgC)HEv:wYOxw]`3v^Klr^h3,[
_6??=2Mr~T/F9R5n5kT;c(ZtZOc!=3tMQJ+N=kL:zimTp*AF^.dy#)T}![7TW::!G^:5h6m*MH>W8pQ}R}{&1AJN4f<=6H_8TeIzL.r9n!(9<+7vq!up.7|t+PDDFJJ1B&W!}?]zTcf|2:Y}p_cF*,
37vX.t[woI/C5U4aRprTCoU}=Sg/EoM`.Zi$L0s<nNrU9EI2oMMgx_jt0$9yY}nXbE6n|dPa6^MT;Ec.(fRz.rsBQnk%T5gmJ#I|t~<y^lS8Hiq#*|UM6,Lea,6__[NDwy>Z4J:UN.UgN;+lucbn,4
a**FZ]*3!e7:saD`yUx}q}gZDhL=ggJjN0bfDML&xnQeJ}P*;thV[LE1lzM^25w>2b6iZte%Qn+>Ai~M88Vdr?#^OTKq6AL^|qlG2Awtt`1%ylB4!oO.10Q:&k]}4?cp`!N3H#hQyl[qBD(J~|'jM:
w6dZncA|g^p;#fVI43[Z3>q&rhGO;#5j7yJ4p2tMWybeMc6qb5<:}A,jxBw>sH`^,8k|Pf,])u$;XV$D<VI%P.8fVO4Dp!7^q}^DfQ>?#Sy3ru+pV`?LP+i#u8FFp(pp61Oh5b:>xNEz1]#DigBDO2
w}39|p'DDDhY1S}.hLmJo8x>2E;j#E}!R3!J|)uoRmq4Ge*E`w9cA:l3+hd2g/kQ$9`?Tm1,=(cV{bmd&zgEIBW|F]7$g>j:r2M`qr;u0|.i~09c64/V6Qc2],m?nhfsuJr*l%,)?`#DJZ*oE7A]ra
i0Nf]4LmZR;ieM:g0,E.PMpd(?j4=<;EoCHBn1UI?W#]eA<H`Z{hvbQ,oa&/#gg&?raBc:!]JW8^jVRHzj%dFOcWiOC~>]5`/zE<1)!ZGBVIvTr_!Rg43DpH8Y'02r08OPV'ct7H&qbq+/,b1]$D*_
iE.Txl.rdp0ZQ>%i~,zqt!FSAX,?ovsUqgB5o^`GrnD;rr:Fq^&S0>E!L~X;Xs5#J36>N*RNkx4?WzVc}~|KFf^&Kz>b&oWSh/0/(p=rZ8GK{dal_}sa2&cyR;Q4u:N)R#5yOu2!1HV1h05+)F3,bG
fL[^7$N5VU40Yw2;fEOy^~OB~DdOuW[QtKK.~8Xp5;UL4#B}JNb(LHVJGaXeN?Td|k,5abHmqRy_$&dHI5kBTj>xkO&rY[R3haN7Xa.X>pC}bz9Oh%Sju_f`mDIA_pZW);B_D|C+_MU7Jx7W+A~<UV
=Pf53[0Jx<Bmu;+!+Ez?Fekbt>*g[sC]w%ud&!_DiinmU,OT]&gg|{nKmi?jj<LmTQI$m~|IFFt{L+&zKd3tEnr%xJIa<YCzF,rI4yk^i9,0bH1r^Fr`QdPSy7)kvU!Mcs'ik*yp[A.FdUn55Ye/w8
*Ip:awTf9COT<_i')/>3S%t/XJ>HyM?0=<kf|t$HF$!;5?*ScdeFU_I4;$S6+47p$qJ8N!Y[#%$'JFzZsHNcS8LP+Q!UwQ0w`K4&IYiyv,#!RAy^7XY)_!4L,eNZysx#Kxlm{O&5ioKGq/u3)W:9#%
?]KRim.T3TO1:R'vs_>Gq~7y4#T0F1gz6?_dQ*xoA}3{kwH[m'SrS*3cgD#sD];l{NI:)U9GOIWP}uCgpoN~+aYW>tmQ83rMJB8KN7t6Z+_AhY|_]lq1F/q4X.a>5z|+(|:a8Juqp37.$x^&yU0%#(
aX)+9;Ayb&Hy+D(wIiDn45I]Sy7i|)IeEWTzh?c4}Ff+th?b[~,|D`no(Uh39zClotuzln]F7*hawwVxPO#SoabDrsk1yq|m_14m}p1%qB4v!$f/t/lhP.;,U+:Fk8A{x`|}DG]|myo[%+==TdlqYP
vSK.FBx_^CSeoHXSRg[o[8*Yg[7:z7Fl9$p`z(N%l#Tsw)Vie,6Occ.>g}sash/D9$P1bjhhR|4K>.s#7$>]46dy$!d/jvqZdI8)_OPuvIKUfU]E1Hzn~4=,Q%Bb2|)(Co0aCaDX(K~hrPFszVyq:j
#L,PzrE`E6W>^*4lpY9<R&qj{{NW:S2$P=2zYcf7NQY|~Vd_n]!>%&rK}q&z%l{xm7Q,J'p}ikMenVj+Vvz#2)xU~JZ!^|<2&HSVM9HkGjzfaDk,ym|)e?,e4x^Ci8$)At&&7JO~H*'lC~{5UF>5$M
fiEBPX$p]H|,r_]o(+X.{_)rhDN8$'.lI>Sn6lb,;PP4'1I(njJ9hsmFs!3xl%[{RWPs'HO)/6$VYuo9h{VWBx`1V#2b0.D2c<0;~g]&#yRfS[`&rSipcA8uaG5TO~lwgF6^Z:VI<24l&f24+M]96R
+{'yDn~Ebb8Uy=qKi(n1|Y=[}>_399sGj$Msz^E?bTJhM|b07Cy/#1,v6Pke[m3tWchYso?g9rSrdRg#`|'wj%E^O|Gpd'zmfas=ostZQqo/c.FL(*G{M8<[e}eewn%aZ>r&n%5#Kb{uN!{h_M{]6,
jf[Dc5MVob0+BDya|M8AhE_*d{ZA8ALppMK3ZIrMT8>|}$ajmiv6Zi^<wk8.&C3fXU'^C_fl?s#?BvH`#p>sM/|Y&981Qv,%1c$.M9M0H'Sc9o~Gft6ziE){rn(0OCBF2fMRa>,:f%rr#^_D`:9`g%
lu,`,<sokVM+e.S)X.&L:I4CC#a<,gIpDsb]#K!3+B!:o5;N>i,tq(N<jbbHZ|0R}_m<3<;;)9<3J;{l~6NfMahx~nC&5Osm<H_6]TA:uG*]'Y%Ai0g3bS;'#RQRt40Xt)AxK=2(1!|{:K#J.]D)J}
eVZhq;*Wuc;iw};9ccBKge9c#ZX#qaVR#Kr9N3W]FE#CeHv^lNf%g~_lyr2u${BJyK|e|ZNQzVI)sl3jGwmsrrjG$7<i7'qINq*i'.lqsn%GE&/?8ANU[tM9'kfSeVztF65'w6H{PUDJj0$5W(2y~A
ox5WDJPep&.Uw6{~=Gd4Leo2dzupN5xhhG7Z'LD[=4G`L28!O/Od'>_Ssn/:*GX{aq%F4nh7o|FHDDn8[*Hnq(vbW}IPTR6/GS46/g].M}vcea):0g~&W^n;S~;!Ax(4|:cLHu,R8WRi^b/'JW!Q<3
#(}|R0}|Qu+X3XIf=haSITMhi}Q2jLaHg`lf|32VYdeqme$8}6#QdOXW.7wgrVrXGn.asCn?}%#=`toz6$>9G$9x8Yg9%G!0RTx[o{~ix61md_:$1oU5'}zR9#A.p{[p_'n/w|i(wtF;BpJhsl*#cv
s'N>+t}SaN._}+;M'rQT~G+Vl%W5CqA|:U$Fq*4vifv#,h.V;6i:{eIK=S[=K^0QYe*3)t=/fHj6~Cob);a`8~AUev[ni3n07R$ALbn^bGEIaJy,?UhWk/NCgsL$5D!VN**nT7kG]yx,6#Zr.;R2MW
niEpp!H:wq*^TnwhnK:&}KR}B%HebPM'hD3y~BfsM{*iKbeb$/(B5]{7a+cUcGPg</?2;hvP3`VH:(V]ePD4I}u<|2zD*O'eLwTq5V$1Qkl%iv6#s?jt%]]WJ>Xeg;Ia^qS}P<{=iSu,ry_KVMN7vb
tO1IbZaUW|rcI5~e]'gE/#K&Wv2S+K~;r=NS$e_OR&HC*+6lIS_.^'Ucj(5%8p]wdl&F{!y{(CY&jX,d[dnJS'~s6j<Y#Gczzn+tt^;ujA47GSy`a'WD)#J2RB}7#f|_z#ZChCrRG#ftU&+)wEtrjJ
h|p=mT99mP#KoyS6b;Y'/FvTB{O/0(*TiAnYtDW#D#jF,vKE(vg=W35AsCGCVXJs#P$)o{[5~:m~EUIO/7EG=j,Th>vbu*l]m8~v5,(WcF.#j2K8%Gv83+'3Qs=r*Cjv!niq/q9m7JWFc[cy`W(4|'
LuJ]p)_{,0oR1w,P}4%3t84^FGI.boj0FSS)_DSY?gf)rGA0/NY5N1H/MC4scdHsr}Ol`%C?cBLcE.lJ/{}7Jxx/I:BGrk(VG]a_cbnlLMh[|R3x;B_pnRk>uBWpv*bR0RgcarI'8*|CKd$A:/2E1e
Ws|'{SVH_w~YkRO<P|;T2Bds{5`Fr2aTn(Oh%+x`<W2`gE!ZdXSOj[ybCNg:BWMeC$>utM4xe2$dfhR|hti#7[[x]8?NM(3(?{?IO{p2G%c;'A7ZTE_*2i0Vqh>:Efv[E#>'k1`I:xRpNRv&~KUg]{
(k|L3x'R1Em10&!XfD<:lEXTAc>h`FZSD(A&z(#Ywb.PkR2`u%o<O.?_0D=3,Ae)I%$t_mkJA1sf%,|y5NRb*mXo2*,1O~=hR/]RO'X,o:2Pk]&_7R2x5G32q9ziHa*J$Y:z89`B~i]a](pdo,mx8;
o8Qbc(XuTBp+ob0k/z]1i3Ds66el>?;`1_O*UQ4U#BJ1`KqL>/Ym,JhM`^4Qh&Wq#+I49~s_ny!/Oos)8X>Dt`&X)]YO*(_?<'a:~k!0S,cy=K6|}d6R{+n=,ZWdZ'K;52z^rW3=FMRdik=>f}Z%h`
7/ofzgtb(]x|UTh&M0p<yZ>)8rp&%8qIxtoTR^/,NO[ezA?u),wPpuOkY?otTYI8Pv[(p+YA%!Mqx(A'p+{DQ*Tg.CO_=8FMP)^VNy%s?c#`6HatB0[(*+5U5_Q9?Po~d#WJ)50(M5ZSV$b)(1()dC
l8WULiH7nv+>[{`W_*CLSCW*yc%HnTe.QL5uSMvq4#i/~sE)r2(j3DJIE(g3MmD~~Z0{Ei7.hidr)Xc`BJ?bz*<i~nJWo&UNAI+$iB/<!9}yJE~eMgOSQd6`tj^=U5uNGs?{},igS`+*W(%7ci]11I
P9$_3spL:Je=n;|5bME3n)jD=<c?'R!xebQDWn$(jYX;w8v9[CQ$S,Rm.Z^jFsB;zBz8k?,Xxmg+1Q8i(hwJ%HZGhNp{aGkSX~NKa!;Y`gx*go$1{b:(JIRcM~_x:B3kT}JRw*>[Q,]2nKenRO+8pJ
nSE[qvGC$<3=0JL_W6M|,_y^As]k_Ptg^<gkU^C2D2.}aJnS5J>L][^nBAY3Xj#rWuH7tl=^EwRT%f2`~jXj~Y:&B5h9{bxxcfhpvVB,kE*&&`NJv3]%NswofES6/[&s~cP6/}u:fFK,8AFWI;H.hl
c~e/l9;+am<+FzJUvS2Oa;?Nmk;S>EGWS?S/rM0MA<5l8#$&jPNYy0=U(Vd<?Q_?fn#12Knrk,EPvbW:.pj*JW)xD8CQPWEsR~z:|$n3FaDup#gpCJ~>jc91<?,1>%EzPyF7qo5}?9H{.qF8.CSa;}
WkWc*xJ%QIits}zs6BF^luTdM%8?Ni|R+Xe8V&U<lb4I^*4HoB2iK=L:z7{=WE_0`0FwS11S|C_YG7X,~&kg;Se1''F0|BXL>a?]ki#GSf!Tr'}Nk$5vqh!<!7gV+212!dKqgAUNkY,sQ;Y1:^P9jX
HE3=1RQz+e;Sk`}CnSO|b&t{J%[[$S3uaGj<#9[{2.];I99;0YEJI,aO=_~yv;PVV#Yu0p[G~O)/tfX2cPpr+KLCH$CSRkg,h*!clD,q~bJs:pMeT*P+<TKHz}1j&]KgoP7b|y>n~&X^iL[yFhzPx9
o%fhsap{,I3^,VnHZSU5^tx2sT*b3H<.o1L]=a2^p]:a=NS?`'oK%5vm|)})_IiCUl!PsqmS.)JGn;rWV/g}4nVzUJ#D]gc3=7*vO,cNY3Nf#q;ikHYb.X5to0lg:t#UiV.3pO=aSOREwTiT$WKm0X
dK+67*niA}e7~uEABTo7eyMzk*E/[r_%f:6[a';=G65~v:#i_VKx?Dr{]x{y7!drg>$S*A9}{k(gMCc1'G'd,,eiFp3SZdmf!;2~Nq5D<)8S`mynI7IsnLUi%k<<`|EN2{t>uRVU?a.nq$.Qs;'lTi
59txjL1{)Mc!G}j`4$5|,KzvhAB,&f{7uPG&yg;[pQBItlT]DmnlG3LCXGKk<>`lBDSpW'efWs!`v)zDbg=}|/`5Tf+>wQr{0.(hof%g&yR`B]zRkiW;p]JUQS[!9|h,Z*W{`8!YsgFiJ8%kjZ;V*,
{ZodplSEK}Ue8wpIjl#I2{5dcF2K!uMq(IcD=,.+3XHz)>NLUJC/JECZVh'u*&j%=fI0DF<!x[7iY#nS2*'GiH[,ML.XC9xP<)f5gXTZXgz?G8]Kro18iT#iqc2.KDoN)Z&!w!`[WMhhlgR^B3`ao:
SA^W<P~K+,.'m9(H>S/{*u2.?4H+L!+R?0iz~#,02O}=H.F&`]Gn:s*~YijQ1>t385&M6=1<hnSq}G%;Pz)y24gylnFG*Oq4)tluaLoC6~ZZWID<ilAX'7]H>I0}85ANT}|RY_rps?K6<3Qb.>QySC
tmaMJ0yWU<QUxiNt)0Gch.nCh;B:~`4ZQg~B{[1hT%bvgFi3VReRJV7z0{Wh<h9{%lk`g^'chd.yfvT6dzo_R.'eeIG]q{[RKk5|dkXQvv71MKGwB`w/La+f6hjgJwa>#]{a4`Ylyh6YOS7YWA,!Zv
'zbqV{r2,ccFm~Ini+cVQ&B.!W,?'{'ZS}z$_NH1FUbV;b_e+_)L~eljUs.id*N4f~c|%QM.1F/t|Dk+'ZEpbs=_#BLER_0wu^V5/Kf.7Z<#i~9Hc[ROMS;Xsw!u^&wH/E&lbZL'z)l5..U6sp,?}l
6MGF7t+Wd]tc{xbR9O0$S~%yW!?.e8afEhP%k:c<`^rH4cm7sWvlG_%Ga02~cR^0)^'p|N6hVMiMuw(i`~=2y9vR$Ns[NX|A]nFn<u]e5+P|duharOxWV)nB9T(Tun/ij{li^G!S3s5hB0Tualmp=L
#'>BCsU,vv<?9'?yT#)B^OY6c&e;~kaW[ZKmxy>.f}WE{CGQVC.Vp;I~zN#)>Z}c>6!dm|/b;n|_a*b%>`Cp1EYljA#kCjKfAI<+h4ZeG^tlaAZFK3A'T{wKE52l;J!/V78SZvC,aA,jLY6hcunNVT
aF%yFqEsYY=AolJFB`.S=]]/z_~^C0n(`dw%&#Eqm<S?nX&]EPyU3'<WGy:8iij>2N7y+ZRMMC*XF*]SGM^yfP?6N{':.)](vX'^9{'$La9=?Mp[!<Gb(L5e7oTA(6G]>Iwh2+|7%{B;Lfpa2[kuMs
W1z4!!aF9MV3d9+qBxjU!M9t7~%#qB2`T%G())[[3>)<0m_{'QB5LiQRn'meCyN]wRaR6?!VD4WG'k<xNM5pmu=YWHX|Im]pUjo,p_A(ozsPnz6[/%%dSo#/JP;pc>a6b.:Rrjx~$K/2^jA;]'F3I^
S_p#JG9=:s9bl(^=r#{sE*#T1Hd[K>O,xDN}I{Ahcg[56$uNfJ/SP8}Jegj;aG14guPHct,fw{bNn6SLk3*[g1{^[XZ:cVU?P60mMgsU=$}oN9z^&z).WbbBN`Xe+2^#YW%B|^RlW8,(yz:h#yR}(%
jp<=VgJ=%ULZW8Te$Cxvn`2N.VZ!xc51iC<iQPS,`$xtJB}d.dy|}!,KXfSa*n~mEo,Q:S,AXSsP$Z%OM{FJ>Sz(ZvN'Y2Sd~yazTD}8tmZ,3C)N8G6#rOZ2^+wLe#%>Z4(J}NXs/i5gkugwa[Uh/E
U#Xg'pgMjJ095_)rkM<B_iqby}{XRQ^2P8+:3]~~S[t4#_#T$P}~pm,6+Lo`t)bdsI+6YBIfoCB$!t>a=]W/p^|9Z?gde`=Zl>,H,YZZ<[#HX,8<g/,3gc7OC~:~#>K'B~QPP|hi?6IEiCo8#h1}aw
Hwlm*y$0NT?N/C(X*:LPOUHL=mQQo~(~;nfb'K_R#Fdk+lY&QQti?|hYj#;6SNQSE/=u)%i5k*uj}/?`;e/'Hmfi+SUPg])Y)l.3brSPm/|[5*mrGje*p%Q$Jk4OgD^f>U~}(PSaPK{wFsD=tLP#})
Zc*gY[4ttCiG,'k~'{D`M.5qw{Pk'dB([})~3c&{Z#GXn#O_on]AD4^E~uj}c:mg?[9+4Bu(nI9w~62DE<s>;H09`atj:sDcHgXH!<,]L4fessFs6jTuhh5_]9il7)d$tm?i;x:$ll6WyxFz[QZ4rk
56BU?CK?Ink656DQW`0/=XxDXA.uA<I=cA7?.TwMlaWVokELLa&6#%_|W;&Q7_d`_&[qy,gDo80tF%{H4C=v}FK*g.ZGRjOV(OcBBHCi#.Om`kA3tmft0sK4KMj:b`Mx)7(_ZI.$#;d4iflcx{drMp
1V<'3R!HS{2Yx:38j.!uj.J!laa`'i<Ms~g4mFLKus6.v~/zQ{)/#b|_lBjkQTXHVVULv$=C^}l)+oEWU)X1kJ&KmYox1e<77x4~o>p61oXg%4jC<Le6dha_pZ;:b0|.Kn97q9$H_eD/tJ0`:HctFF
yd<dprZ',f]sg:=y;j1}sgnXHdtviicIUL_5XknD>~]Zk~S~V%%=S%(e0_&/j2B|+]bqu&TUdbd0ir(_#v&0kjKHK:9PspC(>JOb.{N[~wMVQ0n}19(70[5?+#)6vF6hGL.OpL![2Mgs38Oe7j9N:P
I:l.ybT{*)Uu}OnlSyOZFL?E6pCR{{]~P,:^6,?DEltMZ08a0Sa#2m#Vp?f7iB*DI$7~T_xs;+Ws79PC^=#{s9^+9}<.,WEw]TCixP?Fg+u4x*kj^)?.9<,j$&]sGF$a+3s&:UdbwdEq$sr8r5i&te
I>.;bg74~<)%].vaZAq>tHoS&T5GvFL;1f;,bk'^T3~_r2z,3]SS:}H=68!h<q^Role|,D+ZcQ{8d{,QET_s4]n1k|TPkr9zP&#O86di7m$g7O%dA2A$I{I6(W<25HE`i*v`bzeH8Vg&92WFz|bodO
;?1lp1BE8K6N</[l,3tEc=}%=pv/1HE)L{QShn2mbpY:vAqJfO_[]aB>+j#TeJ)v3C>C(;<elK$)E(lPzl|Kq^^>g;&=]{V'G;9sVXg[TQ&/FuYw:!^UVxGF|8z>dAOyisHGeC8e[#=kGMLxS87v='
>ZoM5vUIt$)<6M.i3=:4>^f<KAEm7hYv(3]sZe/kcC[1mcGw(q*sK28%;dxXRP;Z+%39t_S6VW]t[hc~|A2JbCU4G/FlF[HC;Fu?hxng.9&v[8.vSx/PcDtp+m(j+i$81cbot8!og]ZH*:H__m:;c&
~Q]%vF4yNe9JbLuiG^l6$qym,*b.b(QSdg$Np6#NIL+cogM6u~5<b>49HvCvY8eAixe>^2/gGc%l;Q6;BK=3T<oI1pqU8G2xDEv?.[1Nc0M7AKy7dZfyM~VPwn,erH0vs(iu(o>o;&IeY`Xe2^{h/{
~RXz<im2fh$RgtA<D$rz:%yfSMQ?>oM6uDww7<.}oo,I#svh?n[LVp_i'>,bXH<u?wy.F?eA%P/GGV}>fEi+QWxLQ[<.OUwK1V=dWSyxY9Dz!',T3N(bO0MQ'OnvKjX^bln#DjeYeO{X=y(L>Hcm:3
G'y?me1>viz6UE{igd5>IU;9CQK!H/Ht`8U<pfl!?>FrV$H2LGl81K)c|(Ua=25gXDJy^%YoIMdZJa#{mGx|#|V$V&gn4;7G=wYUcUKuRf'z%sPSvjJmF1g.1!/BBrUFs[>Groa#Wz]FRG7J]X6&cV
=Mq)H_t<kuW<~I)OO]t&(z)!?v:k5e!*PmwusTZ#oH3m*ZCe%AraHN,f7v*V%PT~OLr1f``G~W>;9__JkR>9L<C+_Cg9J(I$IBl9eBsh^YBSyUpuUVdO54]i|=*^(U5vAqC6b9*OWfC{a|re0)A7TO
SER(7%pvR[9h{;;.T_<^8TJz&NT^0Iz^FAG7;BcHe<?E]op1e4y;'H#W1?HWbZJJ]mHo,b6?O8K6f8[]<CG+!o;Z5w]b5J;sFtPVqgF1ZW[<qiXtT{C?1$=XQ'QK&G.Gqc9cG;p{>uMW3eWWIjx|p7
LTpd~kK6bij&/L%+XCt6Ki$Mm2UJzB.0_bkOfOrWKtEm)>nnM^*PTFWfHF~{WZK`I>r#1v'mz6;~BR(9u1#m_6d0Tj4EC7+oS|.=ovLw32C;m2l+L%E#C]8zPHfOom5=cFv&8~h4BEKf_P)x4lij<9
aTJJsjP6eqzJ?15d/&tyrtr8UJ]~UWq('K;[0$H7J>!XA2z6j+cnmHM5..vHeg;#.zYE9>CNXd^MRwNndR9L`dc2DdJyqp`1689}L;(ek&/uzdXC]z;wq)k~=H>Mc}jMMo)h/cV*4LuoCU!K'J:^XR
XRV0<2B&7X$h/j.)})bps>Uj<)W9.Fwz5sV(2lf>R?A3n7HU)OnsUZV)tGXV0shj|H>fZWLL6.5/i.X6ZH0?hGMoNk4nTfq_|I?i'99g(q%_;u/,+q>BN69SEgRGk|c|YRS`VVS1X[_XEIOVBe;aeH
mpJutIne5}.+fdj.polD9K#R<tvG{8*|Qp'P##K!5oH<!tqU;g`?Oh]=lpAZ!NDjs'3Q,YE6.<g%8_?:8IL$T,A?',^GLFhfx,VKAEPq>5:?n64Mb,VrD>pJz2E^}e`DzP>/5!g|bt:2E7nVfi`(dh
gbPF2Ny2nUCzof{g=BL]L/t!Dw<X7^l6k`IzRmCLp_`OFR0^Xwc'UG;y5~e7Akxqlbfg&G]%,p/P(g'(`R;.p.UqWz]4G92VDj'b_L!/8bX1{W}<pix|]uQeyKh.!A3)qAW|zBCP`p8A's3}?vf9s*
R3'5#;8&=xMZ9rr!`h`~cQ6<.<KM;tYi_Ok]t%<a/WBQ%{4WikMF^?zAR>*62!nvT0M_7LfNZjxt^)|tT);k.td6`ckGp8&#]NB|GQ':X#e&*eLI.F^LR:l.T.T`{LN6bHadM1K.`64z;yHY<;ow>i
G`8fQeU`RBbf&oa=$00?zPtqJRxX+N1U_ocY?pHJbXm[s_y+)^o(#h({CmkT{;{PU5FcYYo4K6YRUR?!{w!Q5hRF$Nd2}nRt$k{K;KsR>]{iG,&mp0k(:=IPaGTrHaoksysbA(Gd!w4(l=6zY:[6Vl
*MZ%$Oa2!Eemv1y[s;rtC`!|9Ne}{0?{.|D6O0yvavM.P#3.uGhohby)%=#lONGS*M8^y:On<g`_gF$vz}B?SLDa=cTxB}0+/Xxj^VW1KM^)Re==5dT9=+^Y>=y~_]d3xd}:.ch}bFFSVm+RB*m)*D
QQlz)^!0I4OjAO[mggOVyT;mRE5##b)D^Dg3;_p>pHOg'.}D}31]l]:md,k9pWUu=yco&d#MO=d~:p_hiQCb:h:PoAf'+|$L]<;~8PJ]Jfd.P_1=t&;=&<^L(Nag^8v:VnM4[ep{'^nqef1]DT?[!#
GQ1i82+[},Xv5K[K}>B,dxmE!f]kbE0z*iy,T[s!sX>q0'OQbc[~B*+hkh+0/[E%bULTs&ft$KH[*C2_P_SCu%0_C#.A,G^v!nsH6udH{;&m3_qAu[?fz%pU''%U`PMlEg`AVp?s]e:KVN..DGAS|{
}r=d^$H5Yw:J>f]F^Sz0}.Kh]F)HBT;Q?8mTKNOOh9XR,i.CwM76.hn&l4{%;h]],q*yfWdlu!+8>Q`W[W},H+;OgjdN0sS=Y}Uun6qB6.#m#y*{/zd:=uyuV!<ITl<Edr]0aU5tn0E;ep:/Q!rd(+
biz]^^scp(+asR)x3Xr?_FRXE|&v05Vx9}t4$Em#v/Ib`#V^*hDR&P2.&:J}q'G58$HkWRiHsXS&:>Fr|`[H#Aar{e#x3x'tK``(!Mu>%5_6tkXJK6kVh^EEO,zYzis8xGG#;38,bS#(|qkj{`j!Tp
+2P)esJr?&b|M.9CG|ExC.37+[K:~U=MHRTw|/AgXJ&'WG;6yfv3/srEi<0uI^j5NP6dH=%U]q$6X&ei&|jVh3TzN^C!/Qm|p(rWYLUiO6;]~&tPO+LO4:7MA^yJC3thHXmy?+mhX,E|ei]wf{5ow+
'dw~XL0yJd^9~wY{%5X1R,>IW$4T/Z]5}4f)(Wcx,$n1vd[$$xk%K2yf]PL%{X*MFj2p~[3mTCUPM'TTjJcipg|Mn^Xe#RI7SnG|SmP72GW}Qh/r9liYXB<=G'!|,Xdur0/r75f0WjsvZ{*V1vJ6cQ
g[{WS7E0kJ?4=WwLcg>2jGdKQTGK;#o6I}ugWdu/d5.UK,#IogC%VL:`Nnak=yHSa*Q_Am%lpRoo_o~%,%lyW:}KKFI=dM3a[#:qeWySjYNwkyhxcToM9Ce^mT~NuquE7'.=8RUJpO;V7+.e?)pO[S
G;{D[n`ozAHz>/cq?MjYJ,/dWUbiM+lL{#%~Gn''j+ND+,Or9Q_3/ey~+SKXq$`+&4=t!Z]x{6`*Gzv{d,a{_?Iwd%SH{A0Pu$H`W0!~h8B=8w.L3Abx5KSqHXe');gr6M?wXC<A`&k|ai~rm*}Or}
OpqV=9ZA>FU>1xP=e<>Y!{1dT2ir!;1HaGhKOGLCK0h{lWI,e>:/40RRJZ[euf'vXw|}|>'fT8P^Y=9S&km{*ViAVkxuOpL<>;{[RpeQ,kt>.?c3Hm$XYxpgHSyp.CsV!f^,q+~^Oz,Ozm:G=9Tt,6
WkF1s]eQ#&W*8>[oRJXTzT,~6++rqsc'H9s'^__=[{4'sEt,)%G'hUukq/&*I:I6#aKILoCalo~}f)x~Hzn&K}Q29V#by!Y%oV)t!Lye}[VIPP|?Yk46q&aghcHJ&!NbJ*Y|G!1{b0..CIyuQ~*/*`
I^MnEV}U=0ipLQ~P.)u|2Vf2YKa<b{tnN5z`_k.q}Ga'g'D|?95*=NU;*Lk*EG$e)j2#7VIyQ,74=N,G5]0kwPNvmx_4d|E5n!s=t19Fy'vZo78IPs+i{Hu;f]%LM'G6unof6R6KSF+r=XH}?#cC9p
4imMmm=nJrv06|P`r%UoNP&I*6&0kAN#;O;lV}EI}TRw)gq*`&v[w>lj/hf;;o$oTLyxBQgFgB30ybc=TPeUA7!iqpK<*q!1ZLB9ycuO=&5=SXZ%r0pxh?5G#Vh9bbXLV|12K`I'Q/b(1:`W?1v?m6
MrD~n'.V*Z8&qIPm[.6aN.f']gZpE.1C`^UGU_p>t&S*!9I43Ij'x~MFVDP><f&uU!V(Bqj(u;9}UL}l2:QTKzDka]Zb%K:Dm2^9Spo4Dznea6HbG8{&<2VDV&uNw(A?bE8II+!PG~.hE&(6yq|R{W
bMp.*0:cq?>vy.2pJPn:k^6=rUKa]r(V!6x37/8y0.',JU;cYk,AOW#Rqj+7/:ZB0Befb5Ac7Z6wF|u3=p5Vza8rtN:k1=eqW#oS>;)<F_&2aKCnQhhw55m0%.&w9Kx:n>]IH|E`].Oa~;0<40N_R.
P?(T.'Kunac1a(g|ag+Zoag:8>oA>=`A#Qk>BkiHknl,qKr}(DNIlu41s2fM&W,#`2NX<Kb81Kko<~_eEBJP]2XEf}ag/#<.NNfHUFO%YJ`wYkl.Qy+wj),[HJ;F?4~LiRl1S|BAwgL$+4kTQ}}i9O
.!wXr*3l8jy=y^.Ogdo^K4kDaU8{h5F#ignsYU'1i~v0YF9G;90WoVL:SlQQh0HNh8q2xtf%:pBXMg:!qbBUUJDP04Ey?36geg3KqA$lazI_|``n<<5rhV&KP^Shi%*1Rpf%Ya!yLFc^yk?P$:t}/$
N+$wdL{nSgH#zA]tja(=D*=H:Bg_5$KMaZ^UhL!,AG*rfiGVCtH++=zO}u6^?98ea*?1p|'}us3n'K/FO2rno_t7|>g>+SufWZ,xCRv8cofSV,iolpM3az!MC=3.p)7f$/xmk+zs4(29|dlEhkE`Ev
D?PQ<+[8DV!66^u:QC[{i0,.fF2n,kL`(PXfI_|zk`|Est=aqg9*d+%GaG',X+pHuAKUFST*M#C[r_k'R$))SHq%/cFMleF^Y_Q]CZCTfx>R7uLaBh)T<]HQjFLs8_L)VhO4C#Qc5>m=4r4%,0#/'T
iumYc)>`CY|2Q{!lcCt=wBvbG0!Ubgj>9phZWp<E3(Pk%[~AZjE2`WX_K(?,cXL{7Z:Z[;9MfxO9Rav6G(4c?C*f;]lo`O_d~:+8,xg1f{tgY;{^t|9FN>b9S>Sgn>byjv6A7TlF*vJ.sT}29g$Bl.
`G6[O'R^(^/0m~W_x6SWb<hLbe+0`[BArrHIj4vAi0I'G>,>Lq1{s#IvLd0K}H1B|X<$'0r8<#!s<7a0AvHza^>^P!1S(iP9(|h%nB%T?1tOw,'2=mr]3wYF(S;&HGVkhAG^<WBnEvb!n%qB_dV3xC
8R&b3++5t2i^yzwA!#JGfa>vO^M96pA,cv_+WbPzABY+A&N/!HCu<H+mxeUzcj)TI&G,+u~8m]fk9!)dMwbKGTVr!:9Jsp5gNFZgHu,{EsPOQh8J}l&.r1(!j*dRl{j'4M?O'W4doZpfltawBGP,!}
U({`'wt&RLBQaocZwJub8T;RU:hl;EbsFz5>CdlMkgR#kUGPwrMQFp>AA!f:u8Q/rsV=I,i#O,!{&{c;vThm%/SI,I0hO=NpDqomP/Gt|udl|uFxH(|2^O9u1aGGprJQlyzFxSNwQ]DWW1;_c?|e7)
aSYhxbk=1D_Z*yBs;GC|R:nk{?A}XZBIDKxo^*{VCJ~A#$a5L9^Wuv'1sGwFwRG(My6Ee3GK*YWF~8lW+'6+qfY#;yf{6(&Neyu^PfOSN'/kax83,L2VGUPuWrC4CSC7V^#:#Y5pyatbc#[RoodZ+S
SA71$(iwH8_nTO('F8F_9j9^6D)gzM+Qdv:e_D$TfOZ*_).auB9$vnl(e&/(C*}y6E;(gxM'B(v+2.eC(i26JXnAcIBMH5BVR.?5W7P;6F>~7Mhoz<'+)*uBrhXARN*i[*#Og$i|EO'k2CpEI^rVj$
C)]&`L.f|Muhrdi75,LYLxf?%B[IsG+k1*b4Z0+V[*ES(W?f74P*bznOxx~8pGX_FZ6ImS8FfYcN#b{!8+y4awq!=gE,j+;7tf'%vxWA):Gd^Do{m3wltP?{V~lGGyGcg,pk#:j.{I![kHK%crWY!?
y^:F|qI7MJ{IiAdf3CNw9mhkG(_Y26,vk$^GM3,,8$r*V.Zd5]D4.kB~2ciJNvu.xK6YNjD{zK8s+G`>WhYOg?t.?,Owrk!P`nsT5J<v0yTBAG}eqAqrAsj/![ziQm`Q2)CxV:_Kp)Tv(hn$'YdVNT
kF/TIR0NZ%diz>uLmm%pO^R[4r_kD%mc)]{PsQfO(KTj:{?W=Y4c:Abu_6WL.='RT{fZ'Kl*TvnYR.w9z'%oIcpr|6gutMFp3pCTb1.CI(,T0hg}*4/bm^*apAvqHWg]zNIn^Uj/odp>|Qjt82X|?u
O5,QA9[DxtCo*aAl]{5~Rdh+5s&UbP7{2c6dui*Fl/SBDRSY|ItUA_7EL{kubad.#PpI<t32?DcHL>(Kvi#qyqSt~kq9U85`+T)ma,ykD[k]7v_]bpyw(N&fUIc`Mcy?T<}wKwXonDX[5Ix$Y5^iu*
K_vEB2hd,}SBc~TL=7JnDYfPIXcx<s0k{tkPEG*7OzA!'3kIx}4>T{gy+Z$]Z73AIp6#,ahE_ZZ=HRsH$Zi.PT`^O0}juZxQ=cf$Tv&Qwc!UU7NUOwG&2~j::;7Ok|4K]^?Ot#rWaHx;,kkp9.jR<_
=dQ<iFM)/?wYgCe{J8osA]0LH/E~qA[9JDn^=vqOj68M~CFOlZd:jg69|jHXoN]A/'ZHZi6lDesUaI4+/3&XH76;IOA4`xmAmQ?xkToWIqw4u#_KS)Q<dvT/{52,Y,%4=Q`qDM8Qkd2&O?eB?{x9>0
k}<#+wm=:7uWX7Im8O}CI8Y6|>|AIn<qsSsC8#]GFUK^]yt&&|$T8=3X?yysRtL5f~ERGt|t*[yFdt0)_eW./:)`b9vkv*K+4[b7RIODuza{k);?evdK2`bo6&Y{pLu8_8i(|^_Oc[(h`|CXU%Hr2=
RTj}ncjt!M#f4<GkBDo#W0gRC(Qy.[l):b9q3x)R{>E]*_d^15$%Z.VLblY2,mE7|Yh<y+NddYPcALv3.OxB>q6%Nt|${n!wovH(sCi+`A$&8D~BbN2r]0n|C|v^zTl!J6TGv19$2LD}GPXE=/7Aa$
6OJ%{akW)~zX]28G*NjcccA&r*ZTtydi]hl]2Y]XeO{7Q0op'R_53Pz*jGH}xKgF%s2z!TETsohxd{Ny1pi2m8)uU[a|MRDKX2;8$FjTr]_vze_nb%)hSWk{c1Mmk6}6i~?>=oDnWhk.?`~sR)$<nQ
1=DbZ%jhGZ5){1*V~},EC#.sxbjeoC,>E~U|6I)Mar;^ai}vt72vz1y(:o5!!KQm7;n$n+p4F_Zi^><;W.[:8rO)8i{c}Z=WGaNOqk_r]ZY#hy#p6$7ga,BU{H{|SyYn}st!c>pRmf;ph[Aot#n^Ud
RI788INh,4h8&Aq/F!eu{u}9ryx7?R/[<CY]OG!!=F>xKSwZun>0pQFUtHR^9q+[z0R$&p)PE}h;u(jsv(b'Y:,=c{sE}hV{nwsolj'y_tO>)j853Na9tn?qD!8XmSmiuaqkVwL]e?epmvP2NpRxyK
a<(ghHq*de#nQX|cbO?)h{xSj_PF2_0Te:4a_M5l3n9:nms4G>L],?J!a_,Q.'J4R7x[<AQj]ne(_#&4_ayR#+}6dAFJ9n:dOtHJKVI_pw=#>G35_b{s'LLG:E|yk)zAT*LkdQ1UeE^no*1](P,XPO
Y2K$Dm5n7$pcsO:w{H9=bewAtd.(^6zjbcL{3Y`T5QBGy2VfcF2>|G`BN8/bHdVD*<myOm_zRMXC3S;|&aG+,L|GQplAX4*|WB_?lJ<fRZF:f2dhNXIC(AdSt.Iu^}?o+?*EqY4znf:GSdhqn3QwLr
uXv8eJVPdH[*kNRoE:ukXe5>_Pp*xZhp+QS;*NQjH<[jMC_}MKrn*.M9X:GP/B7by:i%{Z)gkfsBObQb;k|qf4+?1O$/wu<3g4H59%Rc^y|(:K.Gjsa3|S,=kGd'~Hr|m~aj.Gkpq[eMuC#f1C.`zh
>OYbDL'Ad%^xiEz,S3VM>H:2Rq!PE<R4%VoB)'1$0ElGzj>.fF(aV`O>l?*Du1,H>a!bgQ(Oj_6h&lunz?6tNfi([ntLgdx}yo(v:qQEh6UFx=;5Py&ktGvJ7~l7fz)L_2?JQbA>gv;60QW}bdTIg#
8cFSp~puV9`|[W/{Y1/cll/9xk^q{7><]^edd56x&ey(V;ufcp,)f;0^|RpGJynQh7YSTJnTRc[R<7~i7o#DC!Dso2HTQH/vSZT*,u,sH/&<vw%+Tma:[kC%SfOV$U+lgU:QMW+u'>|yru^wec8tjj
5ObW<F*}NUKa(z$}.~CyeevI}Oi7v7%R({;R)=h3LV1In5ksV.LKtR,imcd=|yA?xV`6fYvA7X~ewgI'`SZD'2]OQ+Y<u*rWhCY8L>JFBERC2lg<C?w;U3tw6!9yS3bZeBDBE;6/ta%e5>C+?7pHk,
v:wt)qXEdFPIiF2]zwk_:F?2O3T<|Ey/.g5.5CXFB+z*y'O~9D)W+J$}r?Fiz9}Nk4[p2CGE9J)La;FT$?Ao6'VB^4q~7uH~x8q4xD]&l3U2=Pl+1z.U1}_&#]/uF~|_zSU[wOV(JPud~:{jv_qA>D
d+dwz'75_}I/:N?+SA^Wa[}SD+|_E~$g$l7Bd9Z83%2>V#k3m;{qzgX8c/+oR{[+D{kj$nH<&:>]>tBx>D[~!XiQ#wH,ey'l(jk[:'aC(}YRpW4BcJG`o#k2|kbOhT=oUCC9eV,5y{s';mmIwk<GY:
5^Pm*M_O0)t_F~NW=vtvYT#I<sFR?|:C}DFDMZS=lx5vL.FW_WU$eO?RD.Mu|}hFdGY.rL,E7HcstN:#=3C}al,%VV2WS:+doluLsY;L<l=kbc_D}}&phHMj=.zxqx'%ActFGJMLs+4&BUM^3fZ[uz
+U`IoN[8qDV2EqG5y!xP/WftYe+P*]w'J~+4O6a|}Gk1V9~W1$IwlIi*E:;sGXt'?8#ivY5C&S]6M%5fQ$?Y3J)Q<wI)X):y;Ka9Z6YYDT{+ODT{dtLt7x}c0#5N3o(lA~/{/B9VgGwa#&<8BF{e_{
CaXFzZw[fG]:h$93m)g,PVgww+%8c3/_|&d2gWMrC~k3K|GZ`VX|y:,,%T<e:>3?'RrI:he1((ZC/<^1v)bQbS{ujlY{'y5|h`lB[+y|Zl0x8z'`p#8;rn4GEJ)j0g5*9)bRra]hv;)V73Bf:oYLk;
*>r~]7y,GHyjrbA`{oXFj7C.RoaE{LJB2$*0b0^Kjzs69lq%b5H%ZkO(`_RrjGJo5b][X^$3cF2jN{oQ4G%9mhmUB<s:9zW]{MIXxut(]eX.eXNzmd%i/7/hiwTV21KsVXUDd/,Z+2b+Kky'#Vb,[c
}i)fl_bmM}ViS4xMOS,Jy*h'6v%|hEF/(JGXq2,^?3lnA[|l4L#cbE8[CEENl~ZjF1}O#!O*i7j[{JJzgDj!{FCz#H%LaIMegr]!O$SgOlDhJ%psY}=U/`2t,9OECCdtDHUGK:x&LxS{!?93bx<)m5
$#HZquCJ8WkgH;v6Nr_H$rs,i+[8^bhb1%!drC,'D~f^hO&+S1s/!Bu=0n62%{uB.e#BzP/[t=$gL$tj?&_,`h`:h:N;BjGDMpcoFr1yTv!ifTksK:8D!}'drUWP74Fjp~}zqU8Qj5KQo7nh8;RqkU
vDpHucbhCZ{|7ZmC,tP{s~9VjS6|qigjVv$X:.`<|8[%SuY:ybz_FD~J=~xx?o^(Qgc&P!]DHESOBlT#Z47yhk4yb0vH/Ys3j)z=!+#5%rAb`e!!}`:]hvKh6<aMZOG,g2a#sP]6kAOw:'8O^ji'O^
<~dyYXSz0z*a$8]bA9dj#R<)xJL'$j0vcsBj4XcKSOvwKQ,souOk2:T`/fOJk?LThc*Y0h:7,Xj%DVfuUi[Ha'N`%/fIAIFiU3RJswS=0<xEg<m3qo22d<Xx:n7M!yhqSr[RIvTv24s`S$m0tT7P:u
=?~Xl+q]~{?7=89<vWzt9PU*w~l)3;sX)=%_j_|}`vZ>>e}RGTE`,pobUnj>y=tNwS;s/Z&qp~#U#nwHKr#ZZG;SZLGs,2{;0+lzoSp9>0Q#fEy_8DY0n|m4sX5nr{=99!Wsyx(O3O|.m,O.6<q*L`
za?259BalPJsOuSgZfXZ20~oF`8SzrPygXo;].#Jh#BiOAyd!Q^[7G#s%wuG5=86?zP&FZKnMb{}EJ6UA77*5oTEU!|BQ]>&;Y11f(3jY*!VI*be+O|*>=kc'!%#`rXjb([EVP$oF*i'=!!.1M$|H/
v2XShJf='$i.P>ph)DGjzkh0CPxhdHn3hP&#_#u`h8n[A&a{&L1<#5kMahK~x;05md'8:{yZWxc#z^pXk%1n*.3[XznJ~+H*R1yZ4aYhM(RJ3Poj%}p~T3a1cAdz15*gFj#8(|QZw]Eu{DW6FWD8Yk
d{+|e$qIoyCPF4wh/pc_WTRp'L3DA[YUXLj#r?DS=/Tu+%q$&lsnu$oGlnKKwjYGaA[W%#;WN*2ZXApi7E+)Dj2xIo}5sIGb;>:lI8Y<WW#}uopl~EUgsEZQp3=2)Tm0+}r<IO_z/dA~5~c'rL=WRs
WyV6QDZ~1*3{ekDK1'+gQIEkuhw}+}.TIMs_b}Bct^Gr|:NuXi%EQK~,y4LtEe5wV4gF'PLcfn?,Ga9h;;t4QR2ot}]<!dzBRio,ruEMg%=0|R7Dz6yIMlfWYYEwnSxpLZfMZ_il(z`/`iqNd+~K].
iDah)Dq>jVFwEAv{eU5{{=]+cD_68[nha:VUc^|JmjCwO_GLlTLO7YwNs/IRCnjPgh7<Q+CwQyqMBe<IuG^eKRXe}/KELF8,JI5=rj>)NR%+/?<cIu0jB~^&7v;G*Yj]D]g$X2{DCaD!$HJ_N^!Yjz
+YRl'^<>&)stpgIyH<N,(|iqHy2;GqN]NuYJyT|5for5GB[}H,OAHR$!2)APsD}'NrCNwu_0t;!n=0z%g.&7RjX~+K)xaq&/,LRvZso]tDQK>^n6/'v~'hw.(|P6*Un&n5&dvIbVkv<<`>rnkK_V0u
L#R$iM_oSZmc_:1.h5R|Y?9*Lz|Wf4+LD!hpGjm]QZO){eU5W`9;oY'e,h;/}hpHD!2v=ozyL7Z+Uf`S,mD<$pR^9M/5)q1*,MW3[PA5Ls()%V1c.FC;vr):I;<s!y&Af[WHR~h:,)ehAbc'$%6p>N
vZY.{I*G<)po}J;t%iUcELJm[3QroXdV<|~)UfFuvim4%J>JdEFMy6cYtM`+}ol6AjFYd.Fh~6pnu&mI0>5J4w8&z3VES^F9pFa&X'ohfqXEA%RH+7<sK4p%NRCL_{M_`z`TOh*}8I[`ve]1?lnz/,
}S~?`8,ZXP:gu/{lesU3]P<p//.g+u$tAFa`Oq~'JuUc%0VXx&u4`BbI#2bRflL:44/[d#1fI{jg:,qWQ1JV}Y8/pAmEx*0vx&[y[Y$7!dWE!!2n*?Ex8?l,6^WWtm1F>yrBAhO,}u5BxF<igbim7w
H3#a1OnciH6>`=/Dzm2t160B=r~:5{6:zjpu7>v('|fJ;T&p]skn?a#[w.1Lu[r*hskajrTlK~f2+/d3:9;fep&7h3`aRMx8kgrK8]|dsF<s&?PxMqy(o{*+M:L|gxm>_9t?!~}jB|flOe?nl,%X&s
yx$&mo=1CE7hX_;u;oo?ZDomw+qKNCNXH.jZRiBqK^1>dYVpqHu`~)U|WUpn_!TC*vCmaS3Noy'zz_fe,Q^VAc$<3>({{B>FQ`F=up7+hF,nU%nLUHcKW#MT;4#F<oiy8U9!(q3e.jje|kJd4'MKSp
?1Sp=D7Y5hzWBEUt98DHv'ENNK=.,|+'tFr6?nGg3!#FddmQ(5LGA;xc5$kh7$mYeU8.b[nLRB8La.IUv!wrBb{jfY:4T7GxD%{vS)'8v~|FKe]vqK.zgqdv{Q/g>8A=.aIJBwoKVB#`8mLo.d82V2
RJ+38vWr]#xf=ODtX^Engi_C:B>MBrHHSo$Q{ks6j'*q0p~ku7Stk*s^cYRE^stWfPjlXo%%$+Fn%`(3kYZ:4y6M!~rCt}SDSKItQ4DlCZ]YB6WAXnC.(%I:$CRAdRI&O(#G=$jPo[aM[?03e'!3&,
Ns{0uOil5b;R^Q;t_~RY+[slhxKQXT!8Bk`A'eH$co)yKoTv|:iPo%sYc3n&AH>T)Y:oHZ,6Gc!EZqG0N3a8I#gfz2tc2)2[a$}G3`Cu[lK[SYsK}ly0fN7N^6g*jy$5z9$qf[Y<q6F9>*RDobpQ=M
.usd~`mA>lRJYO(`~X6f5r=S~nN5{k`W/A;hw.N|sG8LYS=A<l?2zT(AgNTCvH74=b2Y]cCr!q'%5y9m]O2T>3pfuXh*Buv(A4hd$QMR_PI0W.pq7c6Or2d].A5RE9~pQ!ZuN'cy{`JwpK&l$Yg7=A
!j$D6/$yg^&eybT:9xfF'}J<YSkYCa~S~yIvucP/[wHY.0;Ny!wd_b+1GXFUJ!;qP`NY?0!|&sPmzN]>1iv53PQ8:rHAt5POFv0D>A~,dCLG7HXjywO{Dsi,1*t,</QJ?E$o:l9vLcjh%6A]'aaCjQ
zabpyyq(wn+mLL1uQx=n_Z}fG=qvPic)SRqKA5=DehE)9E7w&i(d!Rgl7xWm((^YA`ELxUm(c/(UczA:?D}s[UM,s4+Pv:+)2C+sUssc%BoV$lYOBLb+kfS{R/Jx#%,~l<+4Y,GCPFO/X0Dfi,|Z~l
OZ[2){a_.]hM^wZJ9Y}`ZFC6V^(D)Eb9aM$1&6S*xqN^_zB$p_EVI9F2/lHQz]|{_^_,N1=9L~;HJt9+L`tmq'l){tc'AwOb'gPRYw!,.({;B4AX#6F!oos#GHG#Z7,s_3WOzNEe;,Gm1^~WwIsXUH
ge//{Nbst`>JqSSnQioG>/3om'(6fXMY;+`cc~`pUyBoIwlJr:tDe5i:Wjo7iFpC%$HkP?M{x7!'hYgC`r7?3MytR[nC!zdhuTdBqHwyQohRY*KciJ]#IXMR8c(Hz=Gcdzc15dk^K=qpfIYyYw!2y}
C/fO;So[NBy.gX>9*$=2Zh)5XL2:kSIY''PuEv<_X(5;S#J1c#v*'u2_391^,,6S94&D.rP>+PQMa,z>UJ>d?3]f3tl=o:yVMcG'War`%mi6S.9A>RAE3n~5}Q?(&yEY4YC(vx4T>:EQ:5<'<^A}A$
}g6u=CtcrVGZH,){,P*q;^TpU)NC+pp^C7=nLkCvUYaZwsz#qE/Z47`<(:1}U&Z<qkZkpF)DtQ%Iog([)Ji+7$<mGrK$NxD:JwNFox3.:42|P/]gm%]LLIM)_uW,SrF[46m1J/;/qn)3pqxf}>NJNd
6NvES0XReGzu=FVTmQLCqB!1'r^eF1)~Zfk2H!?isOQ%Qty']Et$wJi3x(v:`DGFq?glSCLx4VV'8E6NL.;u]?kHZ,+>OXt63'hNK.HJ+q<O{EY_Qc54:Ha(I,=L7wznM/q!F7k3K32T&6NClRR}Z1
kLbBVsx55P!s<.=L<NH&H]^#_$}]+jPd.Y#I]X##BJ+`~!?TuPBm2|hOP#huuih[KK}/(iQ'dz!d[Hi~B!Fu<3pLny*m);F,&b*f8l<J]avYN<OVk'jY5BgsYoiF#QkC#.##ZR354^V7S6_~~N3yk]
V9snSUL0`iSYV0hGX^9z.z6aj2^baQ##[^pq]Jsh%:x#lXsMeIvKu!,gsGJd4ZYW3S[D'U]h$A1Ov*0'qIsq7j0'dE#jl*<xm*:He7=LIyi9W>Ts$h$eHacrDDosH2n=JIY<#1,>(09zP:1^&bcPqY
;'/K_&x^9<`ZM>&hfIIsJ=5,9s>0_sA2)z4*:(#$ww}2+'MWM}cvYp[`V'OcKG/8]L?r'G3z#zd0){wPB`Gmdof~[{OM^iK!^zWc7Z43igA67IM^Bkx]Umq.9e3IM,Z92f^WdpUi)Cx_pPM/8#uF^T
O9>c}F%#TF3,KyC1cP.iVM&a;G{;n,==#/P>1*>8$jMltM)iYI%B<4:oE6wj6}ujCH7^1^+]_5gVp%<,Dd`3:hQgYy]A'Xyt!6N4PM7sefqYR]TA]eD|!h<&j_KA'mMoZ,s:iEM?o=NCc(l!ipY]<X
!?~71Z4NVo1w3Z)SBT*Jt&A0qd*lekUf&[5|Yb0S7d7Z&Je6*LpZ<?Ro~?]+XFe8V+=.<`[L2_1APM;f$6,kl<NOimxM:Is`R{*&IT*O(KH]Tl26^I^14vtBQpew|Tz;EJ~EO+]AdnYOoM|ibq+?+E
3BeXxBI|XA4]w:meVV]=Q6PPCLWx;g83kitH;kK?I$~X98D_b(7A.6_6h8L*X0RYd]2013`R^=OI6DOZnb|'F&12YqVKV#WBxreg1d(D1a3pd,iTaajWL}8Tu6r;A1=<w>0E~FX~PTgnZmmLDJbL{1
os:1$v0,Jom/?#?m<i,O.PX)!DsNr9iiEynwW[]1|5&'lazDsv]~~nr_}UDAG7|s}w~K]i&!/dGtNV8H,D+9Y~L.es?iSf,1~SNbGD0pnK:?1|q2t5(+Ps^wxOOWH,m`2K%}V%A0=p<^gvNlT)b+,9
[1uy)soj2vcN.9E[WveQP0DbH(YHU2G~)+9bqvZ>e&}]GabF^s}rSq]_7+rGbvQl#YKDMw=h_`CFX`5k[_dh*_<CnPO%+EzJ0C?`]r&$w36;>:N?jBBU~oZbl<q%}Lt3Es:^_/^xhd~`l6yqk=8,7Q
W72`0hQ12p]#+aaWW1o_B,~c=t#dAc>pK}BX7qTrucLV*mi_}V/;|iZG:6&TrAe~u+S2Go6Q|?Gm9<Wsb9l9~H.%!t!c^:a:]Qq;AxP+OrYFUm|QiyFtq!9YMM7[mQ<:xCmBB~RW}e89E%s!bXBk5j
R[2FGLsb3_V=8nTh?##K0UQ`CE8[~`~q[zLv?&D8VUDb)~NRZdD:5fOW<6IU^25Xc=v*aoY:%xWgS(<,2KW,Mo&r_|Y$:zl%M9^V0+/Ag$7=^9t|^*6h`M2'nt)fv{kV,9bo.n9Z}Z^vWg}C.tq=S=
lGd(PCZ2CPInqDAsiC%u_%wz`Ty`Zv8WP%jJ/RloP_Cz(kHG1Z![:vTaF{YSt43yWk4LZGmTx;ihIe:+w#E?;Lk;W&vS^<{}zkA&fJCKm?Ok%QDz+kI+Sph},*[0^errfh/I9N,_*v(t5m6~]Iz<5'
hocH*&7/DOnphyMY%&l0vxW%,2uH%A2FN~P7+b6x/7n'!~sN~bBU1418;(Akv[saz$6*I(m{:[B!V95:>*IdG1u%:^]$7,`,#9B0w4~qRcP(MkKi^P&g/S&i+oi4whTpQmG`NI2>fOee&&QESCrWIP
FX[GD7Zjx7s({(V_)*zpL1QrL7wEbE~#WeMb}By(kqIy*=}tEf;/;xhp/)[QZv/fx%5LT4la/`AnAw#Pmd2B0G,jq!~XF}<jfb+HZdzf0rG73!__Q%Lk|7O|OLL3^z;!n!D;Fi?;,,+[Shfq`xhB^E
CT(943j9'Vyqofe2>OI(E}TND5Z?u~N%rw;X)!JBNrCR<GDICh#Y.i;<47{v|;#eni+?N*F3Htm!i9lI6lRN,Qr1|5t/OS)d&U/p<2(Y}pJm(Y<+J_segQgeE/s^2vZX)c7A*=oiVsg/~hzj4;$0s<
6l88`.+`Eued]xr$fK+wK$!a(M~/WUY3aN97?bRk$NJm8g$%Jdj0HW^:D}AcUrT;hSQN#DJpx$S4:mAX]pbvRW%b7*7Ce_hseonshl6]#yidOJAlfgz#FT*;k$OCY}i#|2y,e(}<&DdZx/q{G}XG:$
?''J<!J*Vplw]Wt^^hjYQhyB9/4S5`mml7~%+*e?E(Ie)_BZYZjlW89k`54~IQTF:<U.2**`.*/2x|h,=#)I!u3Q<5C:b_6mh>qUBqU|V|4i+TGasiAt|/IM*7j%EZD1yHJpk:_IviZmacCgYdGQ|*
4RYNeN[)U+(tJlrHL*Q[;|_l)jvgj4kT<Y%UTM![8:df7GXGl5!u;~axx<2U{wXeF{IS~'lW!>y8o8ih?+ZDFPpFdY=Ku]UU0hltOA(JX/AlZ%1H[{M7b&xp+1/>Q3R9S,36df{m{b}qvFWXu|_$fy
8^#pHi'cWLzkZ,=M`Vsr`Q;}D50Q8Uf4{SG{AIa2wzg9PoFBAQd$|oTY<LLIy&)n]sz;Ly)(x|:J&!t#38m;pNC,u_%iZ,59U_~LG5k;,ozP.mltGQ^eEF^H<RH>H:=WE3Pj'hJV(0s`pg(c;?_&%2
+YhuU)9+>U^S*!%f{6Y9]8s0HJ~Vkw6)QaT,fcoCC3rM0}3LsNFs[N*1JMQJg>:lHe#^b&]8$^0i1$2IiKXS8*F/.!NjdDZ'nN6(fMxg{b6Zz^2Arw^2)VQiO/`+N#A^z(>z)t4'|vA4}LW4geOYC~
4aZ;E}j9MZdGa~E)M~uoxeJejk<U`lI3j,w|MI6'w=Dahhw^/2!qe}en6!QbapYg;$X]_%$n<~(7*~:A]o6NpcL43gKLe=q~eVCu{'KD0Z;nLKu~?Ug`a)|DIU<<Q_i')~^&{/+.9'~LIQenM]{hXo
m7`>WsZ]pR)f&%&*qPBtJNf)tH?gu[w3ox(LZHCz+k/a'&D^x`!GlrP&wf`#r(+PqSKyw8GG;>HR?TI!Aq=|8AE+fti2b)_C|N,]kvUgl!T$OIuQq:8`8u}0r.a{4:mp!Vut>I8HESc_>[N&0bQ[g6
rAa`U*{O{yA:HWc2P%<>TWG?C13nE,9I^4bRA[EhqOL`rwTRP+~TbR.*3QB>TF1NGXR?tZzH1^E7&_UR7lZ4/n[;U?W!0Ke)R:[VzG71ERyw2g9To'wTI_#/D$yTvomlqP'Qi0vQJL=cC2S{IYb;<k
M^jij!tj2('<dOQjG3PHQ;9%#C}UulG{DykGBct}}SF%P!x+5[M/:yzjn!2ba~%=:%a?`;weMWul/t80,:.(:q6W:4[A?w`^/VAt}k$afz0LiGDnZWIG[D;Uu%N.{:^*/apxx&=pkEH9tNuzi6~/o,
ycsWe:}jTQ0SOv='4N_^&sRn%I!.a+7Ad(=dRF[snq7Peqw>6WOi!o;mgQ9,{^hv$<k$hf/aM:)2Hkuk5zr'1/mG{TH%5MfrZdzW(jA4iMve2a25KzZBnX%MtLf>oVODQ2dUk/Zk+c9kt$(dfvyH^z
y$N3XC`gUen`=(4RksaX;,0IH0N[{ZIFD6OO+,t<[Q$~RK+fgrrWUm5IHYr+(7gX%o`MS3|;AJVZf&;i1?FvRwBQO9}v9]Z/^3ZiXCcP9.&gNG#>ZrUm/u}B)s#D=;&<et>OSV63a:1?n?L+C]8t;%
dIy2O8^6P?VWIs`09K02ViiFiM06BkkG*[UK*~U>o8SyT(O`JtT[P#8.BL3:lECnh&oC{!pkp7+YbCdUOy8<ML=gt:TW5MhV6ljO48bC`.s#<uL4Em'aX'7?]8KRT!<5juq1w&:lLE4,Scqeq.$XL]
)mGbFl4Hc*?6[WDm,<9f&z3uw1SQIi$wXq$+FO[dvf1|O9Ivq>[J;r!0!oGlVg,+o:L|uLvsq8iU15z{#NNdp[&edqG]oQ}Y'H&~u,4[~>bv'uJA7&NR{U%6(1)dfXaPMETA8Ip|GlA:[NA9YC!D|z
E#.,>3s+J{P']jO<YzzIV4uw{/Q?CUADNuv}#ncfqZE)twrv;HjdIf`*k0d2t|ZA[w0b#6dbqo0x77L?)7&n^C[u4MMj7oKw!DT8'F(YFSiRL^H',a^db|CVm2w'Da6P:KI{QuZzu<'}RL5u(dT4x+
5PnK#X>d</b`T%{m'.QJQRKSc+HW#peS^<FeHc6:/*V2B4d&<K'g<+EOVe9$*]y4}=(>&yE`~192dLP&dKqR^[E1hV=OV<2LBOUVWDRBBL#5wJit#=R).b#CTYkKtO?,j#d.!sl]n0F.(of>j;dG=r
ajH!H_Jq_H.F9kjt]k?{*HeXMqSs([rlrSCjDq]aXLVB]Ft_hrfT:e:M78Q2muQsdBEVXXyJP'XT3+xZ9y_n5G3&VwkrYR2AJch[jOs)(LlD,p$L~]L<K0FH6qr^*;3SN2RpAqBJ7gMT|)GSq7RHMB
}/>r`B)jI1l+=cCX$56mjeT?<et4!iwXe~+/T8~zu[0M';2GtIr=$Oh}[VLavt5wN5%3?h4x9|Q^AS[vHb,1QJkFEh}D*EwtmJLd;Nr|+=54mu'=)$?aX0E'^iLY#9aI5]^xEGm+7k!5X?Y6H5bqG4
+x=(bO^Ege/VgZB[?_Gue<(Jc+CLzdZn?(jch.mV8D&#sN+0mh27JQ!>SP;)S_X!VnO`RceN]:a!`.hL3tNcnBx|TZ'b:cDi~g&&h(XTVLqS)/X!jGo*AA~]dgH9y[Q?NIV6%2R5YB*wD2Oz]pOzhJ
AhH$C(Pu9liVNPYO'Dy+6{~{fba[R$HHr/:biodpm{N&'+D<K7}.K[5e|]YnP]K[ifKA_s3qu]#&zWYDEWti=6%U1VsGc}w6G*Cl6QwlqUYBaylGP5J^L^O>ppaBS[;Dx4u$M:&RcXDnE^jrkoAP?G
)6j{9w#J<6sKe[A~(G]x.')fG>v>VuWT({CP*hVZtrMCoRn9rJM^o4zRWn)a3lIWTD!}}gcRi'372Yf)n'rH_i%CaYDYH&]Jn'xf[znSCdpAFjD^z:4$^0/Dv'yC}+UcC^C&~$z$w7+kgAnJ')m]bI
1ou{Wt1G9G!QOU|&fv?.i_k)Kh.{Kn|uXax~!7g/t&jv}kCv3H^C0*xrv5GT<X5Hoa]{:y|*K7b**YkgJV>AxaRoU<Oz.|I<MF#j~<vG$ys1Wb~&ss]G#3BPOp[W{<d`^:Q=agz/=K.)FBByDjKwU}
;<34Au.ovbUfDpUhMq,fQ7_u{67Kpim'.f!HUg4t,P%*MkW=FVU_#j$$~;yJ>Dl!0Z(7_qwZwHcheQA,F[)v+je9Fn/*XRgQO]R+lDPy5s[*U{Qo?ck7NpBr]p~zN:M)IyGWAHkB/eS:g7.XNQ<y+D
e9,oG#li,VukG<>z)SxY{Mn[}sQPs07Ek7T{~$CaB7!xgA$o_AEm3Q~sB?eW4K^_0[VY;a`lNzCL%Mul,}}t8+6cyzP5pZcvBKn`]>>1zakY(6vZlA0J+snd0dxBY=Cvu6q#o<S}#]2F1Vc}FIegMr
TiQE5#}S3(6E}+r[s|k_`H'=4uV2hH*_tRtP#aq^xyKtIfoR{qjfYj4g8QW=_YNrq}zReANtmjcD%_,vPOye5u4r9o/}2KO#?z=A2?>?;>es&KUsb%mB]Uj%{'e:e`ZS+,UucD;w+h~cfk~c+WAmjv
2DTeD;'_xe5Kgwm:+0+uZ>(<VA2v_*gpe2$QBe&TzJL<`l<?!P9lQ}sm:<Hj0n}L8A:#F|J1f[q'N.}#~8p0q]t9U{l%4{R**}/~dB$ZV'fsJw=4aHzC,KX(nR#*i^#MqrhmKsl_k9F1xNe4AmxU=)
wwux,Oc';a/8ju%>M;,W,|}cKgsI$'+%~m)Nr/)BB,bN9~fK,Hu~*,V[pnNG~`)&pvBG0=<~AsL~4W|w23{C2$6sBBFi5R{!/<l<1tRQ/Bn/2N.;HYHzmz?3Qu!4=_E;I%+la`cq|0f:W2`9,5e+a;
mV6O^+h_M,p4YJ^$5'pn%Fj;S/U!>wG=<urh^(le}E!D=VPTfX{R{)78szEZJ`(M>~t&~zsci$(E,{[MaFUu7gIp'#504/bLV7E/[,dbLJ~#1B2bp$5lJo]XQ*OD'kHvHPL^$MR+Wv+.j;)1ItKhmJ
x^p=?;+&IslH/wM$E&cHz!xkgg~{dRQ<M]~5_V#}xdg:GN78Pb%|:J^zcDE49jL3?;8QP^XPD,||EomXp^Y?v+$*F8Bm>C6I>=F`~Ff]Ul[iXcjD,6!_~fa}g0pPRQ'7`[xtl}I&7Q|&XY!9m!nh>T
%e89>SD/M7dAZLm!AM=r*6su2%]GP]4HOLk/,0%~2YASnzQ9MmY:Tx]GCgF5~6R}W>MQqE;(:!;o7*N`o$6sP6t9,2U)^N%RG_+x,`kz7I}ZFD0u3H;5GHcr?[sA,|]U`}e:qmQg[BC874P5vp=%H.
U2uEC~$'8zMK*`=FWgDK!_i^TB2vWlYd%81*23'{Ye=R7?!9`B39#<#7U$O2:O8_IvQzJ*62ZIp5wCYI9e<lZp%0;y$%;'M<7&Ym'ZE#0bSDJP~!UV=l:Xyi0w8YM,SIq;1*{Ko,JOmt*93`,V2I<Y
&:FF'OO)sb$v[bh=;~r^+.sC0Q=z%vS%y5|wEFVqg.3~$)cFXf.t7v}L.ZkUDl`vGhnCA5a&2{sY>_f^>+{LLdl*J7&oO:T$!lB,jRrO=s/jpQd{F&6bfhx[`vC5WtDL)Q~?Yw,+;)cL(bsDK/CF.Z
B`M^gwUJ2e?s<l*}uJbAtH6QS3P$od}0U%*~^9#i7S_WFo/JM8f}BP&q>%WLK#j3{,p&[ntTn/sm(E%,[7P!j<f2(h,$+pb2iGG=qYM]oyj%b4R|m.48ul{st!slIj[Y5&;c`,Re]=3%j>TUeTk`H*
Ot^C)a^00vn_i5i!66_E[b&$~QL(;_*G!?$xC:,j:3b:OA6oZC)2NGn5Gz,fy7c4)RyUayjY2Qzj,6hfOPZ#T0~H4vjRQCDEpxLh1I_xW{&;LKMl^B?&cdX0^ILfmvZ)8~9lxnPx},>iT`oVmXtojB
xOl0xEB;rMDFQTnq{}Sj/QOVwoXB%MZvz|0!q'%dkKVxh[C|wR)7ow?kaMD0*e`4:c}>YDt}yj&Yb969bG+cGGX{sh%>HQ`klcIV>b_d[dK{7vvanS+1pc=1*K:'r+^qt,MW2_0lVuVp%)<LE4y<%(
''HmPR,}Gz7O5Um2D>qFMe![t5vTB92&Q~Ob1x>b/voL;!V3^o%?WqMfCNMs5:pL;lk67SO0/v_'6olI'V~^pE3WvifBS,s0R%Pw`W1O|rLM[g1C$nQqZFK'YA_wQ^V&/]R=V(ZiX;bbbK:Rk/6w2V
w6YLnU`V+5q$'#/#z+2GGM!PqR}Kc^L8F,[X:8c!~X[Py9dJp^IHj|0C<>m,W?;jG%n4uD.kXL0I;_PEV}8WkF)]LDGB^J6~4~zz:[>e0:jQzb+p&CO]s))D=Z6{uzR#+*6o)VrN*,aNjon21BY'YO
QMbusx)vl:MfuwkIWL8r*fSKIZ'Lgj?~p30}X~TrZ&0OCS=#H><.;d,Y9d<%R/$x^nI,o$|X#:B:4~V|u|2uT]+</9lO1jiUDI2G7mu[Jq>geW7X5bN!osCo,,ZRcOb5sjXGVPhI^Q!`Xd2J{|qS_?
I*(MZGWZQN/eGR;3qdF`3u'YQ{]Zk1DnWg<%yVsK!]Lzln{!<C<oJR9u()08]ajmO5/`o{I[_hpHr8^z%{/DzLw{+}>BtJw?g#U'#!R3z.loz>Tl;HuwVCqV/Ny.(OxxtmWB8sYT0GyJ%=+P_5A}lM
|5!m1OxWG}WvtaHK?=,_[`:EzE?XdQY3Y*BQb^R(WJ.k=r_fm.RW}6Z?PF]!8mQBz^Yw6.&|w8t46^qWschn_Yw:g;^IQ=~?xKjgkYB3b1*/,Y+K&A2k%4h[b{B~MRsvEx;N7$,tvvaE(u}o'w^(]t
,vWyTn:3!},R{`R05_o:tvY!EZR:bT.y~mfQ&y^Vxj:L=zHUljy;nL7Ca].EUT~K0OT|/f4KMQSgWhsC!xWy0h_:<hTA^HBf5,u6C^+CpjliKaIO%`nZLBkjxpxOOdW|_HgmfzLhyH5,;RZ!aJeg4#
FRl7oalXI_(C`k#/{Ikx6Mr)WJ{GURf}BkP+.#i><ux8+=x=<)P7uv)|s.5Wa7ZLYR*fAHjZNbU!H$7>KE&yypK'L?*'dSvG$ZWgf_`C*)Ey2LVaaxGUR)I&H#NK&x&|MrDtYRZrk'Ubu7Z(djyI/_
`MoAHH!V~(<=0C:Q[F'&s+^u`,{X4CzyJ346H]Xot0gnF7G(D6AjX}7257vVa:MM(f]7;6cSExeyX{<tL+Mw)R|GdVScV/ZG7!|fg:ldLsC>[K(NRH+|>?Up>i&lG0d4(ZoeYkY|3/5S`^epg`U}={
nmZ)V:x0`T8h8o_u^:hj%lSlpmy^,^7IC?#!q+#}9]TYh0QYv}(s{v)=AJd[HK6oQG^/<o*[q}?9rE1f(1Sgm<a/:7%G6&(SW^WGA9s{*VwY0llikrXrQvCyp&PVx^lY8rEi3JbLc6jfyI2nna=x?f
HWZ~FwK~:D~_c4w~w_=X`2.c~Q4/;J~>+a)D77SpZ_cVN?P|JWYwXObq9$o';gXCE/w)|XCs][/u25pl8wQ[W+A`~^UncJ%>vu(m[r&}H8WE!;LIp(iKi]{y{ufZg=I+TU#.PQ7{}:u^9&])JrB<u)
9Bk*p$5[5XQ+{~ZYiS5Sl_3,['R+y^*<j0egni{1|iLCdt%%;rwKcsrn&nzY9526$3p~tZd0>s,Me,>`gXlLW7EGa=M&.;seWJo$(:N`KKY[Ew`]zAp9j):Waz]y>^04YKc;s%,Sfw++v]m%VII|/$
R|L&hOTExehT|]h_T*.IF{#{dAW<ry>;?3_npANCNq5Bw0MRp>$u)_d8c$=V,uZp2`X~dGhA3z$m<<>ep]D>eqmveKjik8$ndWG(Xkthz'jN%l%jY85SY!Cn^TwIX`^IOg<Th)awRD<uD/SddGqnI%
Ga^I$UusPy>UStJ[f#p4bn^$>2a8Y.Hx=,meOL$WW3Oe*C)WeZ1'e$i='M.aWB|LFv1y[n4DBv$XWJgE%C9qv`|urmVyPg$Zo0Gaxu*rMo[g,`mA_]rS`Z*3hfY*Xx03Q8*aqZH`=3}ytQl=%^Uj[C
}_ml/ek?=LCOQFZdKm0S,;aX+F*0].80ZepUWy9:gBX8{?xGMFcP5=:fTvnVx/IFORp.tb[.)w2nhbAK*#;$d]oS>M5#[#cwa.L3I%D3Bl8GD8wgC*I5t9JUS~!P9oU76v9FV*.S!&:pz_$Y3IQUR#
^8;5J#p1vG>d:*IEi0fL}xtTt4N>2a'Z(1[M*<B{'(+w89yGJsY>D6),h),9.xq7^>2&vFhc~89q]qRo{W*%0]t%{rClN`VDPKV9EQ)PeYiShg6ab}cZ(87EDaD>zg$j$5=VTBB,qp**JDbqDEylS7
+{%}CDI(e)$HowF!&v3<#/E]e}?0%zT]UDne/';,0VLSF1J'5!ba^C*;pL[v|t[u.}lkx^G_wAWrcj*~~4p[Q%HT!hpr(q!S$Q%|Fy{)qh,',W+E=Hs=R'9E[moXx{yJ(|>`..gbm+p?,n#=Mx`KV=
R2,XHPW.$^7DhBVPZI62A!WOb!c2%WYbaZ2IwH=aIC6f'r?[(;~6:)B}?<gK;:YN&zquY+Y8CEV?ibEE$%/.W=vyOaXC=!);_lA8z'`UZ7<A]>[`0wHmW[74&%Wv5/^bW*Y?+hOc9dGMn*~L>~hq}R
ErH?aH],baZBq`GgOu7t~lG{O2sy}zkjH>q=zv[LZSf_tWR`;q[^>z#VbJ/A&g2y%Kx[Aiv7`wIs6wjG>Cg~uK>!,TP9#zFax1.oiPiW*>K7uiug8LW5!Q4e1u&CA|79Y!|M80pu<2,:X$Ba/I+;[T
;3%Cj]S`I(,6!Gl>z<|gf+M+6jpgIm=^t41V=GN{5oqDdNXt%q5>TAr?X8%3{[QIpntu3eEvAH=^[JpXR*37!R%h~64U=3e].R.z]&E<WaW^q!Xy?tv](2}/1G|'jE1u~!Ehw'H9B;<6d)o?vm]KHJ
frWrZ*3Tk9Vlp37#l}x#8<{nz)X{=,NtR{M0M2d]k13H8CysN)noCWjPo5|c(r]TFeN%[258vEx3k&yyU%4kJ5rS'zp7GC6}KgYxUn]U;D!tbjr}gWLdO9q7f:<l&<R=O{Xz|<_&M<~7Mr$j6US2YZ
2BF^uDPevZI>kz:u8!^HO+ir{A}W}/N*!ch3^N|omf`Xrv.V5f#.cv]uJU>X/1ozL]%GFVKz&3'P=_[<vz}?h^6}<FdSl6/LW[Dvzq%`33><L0)K2#fMeyIRf7U<AJ!dNX(n1d,w3M3Tx:f3}8x/~z
p,bkF,eHUR4yk1[c&Nm{0(J$2#wK+QN}3fLSGygZ3~#~t?Yzv~t`pxBtTVA(fLw60=PsD/1T}Cd)Fsnbh0{<>UcZFtB'{jFzGLk_|Nv%;!dqxtU8q$p~%UJDEb!7<~2:uqObDvb(ge|#FfRjHe36[q
r3hD,F)aL}o]!V}AR'(l9LR>e6yrMtp^D01{3gXYin_Ux8x(:;D`C8b=A=<iP1j8JZRlSKfg%9~(SMBzKBv#|~Q`:?x}'RH=p,Vh1Lj}nn8Os,1N1C%_qoU'C_Cc5VORbQRhDYrZ1F_&*yWb:4m4aa
.`,`<p.,Zj;6=L[Kv}CwCHl%K1oett^gKDfO{RzDn=sEbEIZ!<o]feg(ZL9VxmpGh10N2b)x6{7.[^|'RhwX,/jOlgmOa>fRr,hU%S?F|PW/^;F`,2x_vSBjo4?4A*PV`<$>7V;:d+PMggo3,6?3+4
+xMMXuDB)z1_|:H`#HK>Uc6B]Q~.W*R9?_notPF+g5A=Y>I)=)Y//BwdrC?SG{^T,0Jmo&cfAbj,AlZBqY/)rkF<ht}5ts46A/C21KtBJ6R;|qc2fgRu,:Aq_]yqG8Mv6E^e5p^G.).ys]B!dIR7Pt
D?<yQ6I1ODHbY~YcjSp|pKDc9~BRak)vOD6rgw/H+|nb|!>Q)Tb&mg/Z)>wkKgiGz5Vv.k'&>k=_lN){'ezXGs3_UUoCLo0u>2fBig.MW'1B.&,SOSjwp^z$CVu{0R[v:DY4)|%g`,oO8]mKc_'gGl
ckiq86eeMrE[%pQ9Jdqes.w&~6x^+O%F!Ds#g^9}XY<eZ6$,^z~r(lC,wtXrG%T8&.(eLg:lf0&B*>NYoUzO1g'^Zhj=n=hfwTlMl#Pt5bK~(a'oxrh;3^3FES^!<tA~g/&e]vVUhw.uZ(5_IC|wPX
SlK=z'bXaGOc<c[)N$^~5$weZ[N{|AvSqlPauc3)2H~hb?DNFb#2*63p}O=5!2{7V!?3J,2TR|0k;')R_r,M4aMMn}j3h.[zK:+bpizS%]U9,L0:)txf|#q4eBjUA`VC:l4>GN+P~d!bK}96BiL2To
wKOv)l6$/QqRV91fr8#2cuYgYNO~Rrs$e7}d}5td/o=cAOz`t.4P>s9e3iL~SQSG<KYvru;Jx2V)=Ys4VZz=d]:BpioTe0ImCpo|[Y8ykQ(E2g6SiS=18(BBHV34/Q2F0.MqO?QiNoeC6MBrU&uE(/
kzBDUex'W4*.&/B$#[|n|^E8$;vw'/![I!g.s2cb[c2ee6IJ%Uoj:(]$j6OU3ci?~kC=!LhJBbaC'CQZ1lhz)NtFe>[QXWk=;p>%A/wX])TS!#9%p(vFAk[Q7*xc`sg.|{|m`J/oI~{K}C'X7uuR`Z
WhfVWNl1ew&oRkanVL]r6!a9Z;%WY(oP<'y=:QX3W36hm``be<C[]p`Zo/m7W(qnU]FyHi9+PDNdDeiq!Y^V{*HG;N!c*9QpreO8v[P4yA,q2<]zd?:_B7L?DqG3La0cwKCSXT;Ul4iT8&WDW#V9n&
x3EP4BOycw7GYZ?#)kekgjvm:t=PI|O.5c7dQ$__P;A|GR}40(~XtbBYr_Ebi8T/UDe})QF46wB^wJ]nceX)q=cGDx2yNyP_Q6PYM<!c~6gg]0y(!FN{qy.#mq#ry?OL?{*bKh2+Ka!qAK(s.Nm:Qv
psnRiGC`7>E(,]~Ae;4J)c9X*I|*?y)$!Q`cC0_}Q,3qZ7>|I)iavCIs^GW.0NFUK.P*VCsT${9/#kr|/CpY*9G7B`,OVAq+he0K+S0)CHjjrl%oBVv}NwVyUd#o5wR3+G5&dX(U,R8R,v5:kNdLW$
mdKKRQ}e^2lAM,E6OK_EBhJKEp=ZVqgmK_I&PT%xP#W!t5={p8;!h|rA{wd/ak2lm6Wd[7!:%[5ge&4NFn]a{p1#,9)k>!HQFU'}$)OYA5:Df1K50u]O&j>:eGT5:y(lm/F<A.{V)kGAn+NbVM+kR|
^q8|#>~g$mLjJScu+;knq|D~ZpfZ*4E~lytZ2Fgp%D3Wp/{/IyNA_v;h<~tQA|pzSPqT#%x_&1:vis/3:1jGK5[*>Re4kwb?x;VSFD**Akgc'Q/T|!Md^p5xbdNS'7UNB$|PDDz9>S`o'8t%#2*BRK
/Xa:,~Bo}w'O1HlXR]X%lc'R5U4P7oVM=/O|.H!'B_:F73w>!_:NKquw'Kyx>Z{miOru'Wo:n0Sm(I.XlEq|FwGsC8|de2Y{$^;'6}xY`5{ClIWGMfUXXjD<BemfI#dc#jHU`f/bpcz*ty)VvlG5>m
?vt/$`GFEHXKIRakZ`?x+xaOR>H%&a/__(wSz9gChpVv{]S3_(g`of7aT5vkAwr}2w/NRy1HB~Jh!=sv<,Zb4<nMuz.[X}'6E!Nq([JY<lr%KYu~3DVi9bW=Ho[w:]GbH>G{'Ia7$bye#_OI599R53
_n'$=r*X$VLKh^XsUkZ9:Qidc9*r?:c:_x6P8FtM_R&s9n%uJ?:BGi.?3>)oaxVOX8xK?`wz$XJ(#S*LG0bxuVqMX6~QHz,6<FAOlixK|lLuDnujsE_Rn.8ij)K2o{kIe3:=8s5_b(7K^=1l}y*j:l
m.Bp_=A.!N_;3Ab()h~?bZS,9nN:~/gH*cGJdvEceP/*r5s^zc6l[P.}51g6CNL{;?Rc|IjA`U8/jmVvwn%VIg}$HwOp8<LwQ/YP]k1S;u%`V,Ks/um(D#hb1X*VCPE>cQ}}h:zhgr8tvjje*U}7pM
$0t=a_MAe*tdb$Dt~xwbj59_m'<QtP;D4TaC(4UHCn(&zcTNDIqY3nCS+9nO0AkH~jggm:h(jQ'GD{|FC6ze]W?5+50iYU0[Qh,'ZqT#1e9*S'I)BtlEhUEd$8ilC<KmwO0fNh>D41Wa9v}A|MVUM=
LxWfFmyn<6#2K?A*UPwV=E_N^'bIIc9ok9)L'IqFgT_|>O8_?!5GYc]>M[fkIaFPk$*uQI5$}gmfJ<V=slc$2W_m>6[ck4FHBKXtGx*G.>W()Cg'f1%hkN)v^?(W2'kf;qX<;dy7LLyA_Nf#X~rdy3
H);rm3Hw?:`;}ufx:S1H.R/;L1T;$BX|sRQ{BObutWgs[3i'+>G.qQOsKk#f$%?`1D01,]JLNWz!b;%1(I1jEq]I`,Y$G6T#TqWo67A/8DfT8N0d1tt|^|q0&%mS<v?I1KQ7XV{_Y7zoLqf#n|w?a3
8|+yE.mY`=w!ItL#,,Bu*R`x)go5ZNOT$|%$,HKy!QwIHj5a}T=glsbJWS./AP~m.L|[OU)Bsmc4JenlmFOp.H>2b}BtEAW5mAhD{.x^R(5<:OPIXus&AN;[$FGOMp.iH|_Y7*_z++q(m:`uediUe9
H9o;KZbAl_R'ceT%pZ~e>'AQ]D0dIkcs#9z%a$8KbZh4W^=v&F1+:|_jcb4OxR8lj>'S,M?o:+;L$8[2;LvHE/6='D:M<S^jTw':HRAQO/T6t~4z=3C7T3apA,ZHW]JoC2:b%F$;$_v4`.N/OnHR`B
5eF&RQ:,4b?W}ia*c)1aU6FQ5&X/>5F5#O:gi<2hmzJ|8JTFZsq*kW8ai,?:Bc`T4pn+SgVlp7$yE[GAKw&ukuCK^{{^XpYEz+=:z!H}`S5ZdlYz$:Gg8tl)Clg8d|z<:{FPu_E2S!j_0p=An'u}*4
~1/[DQvJ0B{Cf:)~XK`ye+[,kS*>E8}FL4`f0'?MS#I)o[`Q^A5XP'8L[S2%KDT6IR6'+kb?6|)>{H#;4NC=_7UTW_aI}h~{#jOTcx8Y54c7Y,>K=T6tPYqvXfvkM+h>ssO>_N5AK}~=z,2jtdCD/+
*LrccaJr1>MysKm$#Tm?xnG8$J,Wfhlv&Q,CrxCy;HqR|:f=RI(j9ZmPD%X2f,~z.[lQvP]6z5{*)>d':ff;n98a}m_K!%e=9{?WzHm]>X+eVzJfAz/f~lpA49$yqB>.hao8'tNB?ua~AAYFw:HywF
jTr^~GB'}%?qIm|Mc?NK+ijULvt'=VYh}W_s%YA+>Qyd*6<O=_lmYw(tIp0`GN+eKwbDWNJG}D9X^nwx&AQYts]$bfY*YH/2%8Y)tJ?Heu4b(9VO5VBL%j&$*%LgRIi5DTVenJ/0Mp3?Xj,/Co[*='
EV.!1=]T|k'cL'f#U#NNDS.*0V=vepMiO5MLm/Tm]>$RF`,Svz[/ty/!g1v41D}kDu>ap:te.VGSAvdn3/WwpXV^<8F?R:Bxo:3>BSO>^6y{3Js&N|2^rt~`|=G02jSx#*Us.wT%H3)`&;Wt)TYe^U
yj:yC3e)^$<s'!V=;2K_7[G|}9l#5VZBzrxb$O),W8Ysnd2Rj;,)g=,ci2mH'nF~,5{gv#SQfZhRTbR%Nk]/XoivJNK)aCX;kyhSU7oiAzs%uBsRy/vAfafpCD,WXauMGc}=~V*XCgK|m:[iPhGWXz
1d&V^Fzb!qRe%5lKlXEk9Y.M1DyIqk*:RA/~}8gff(<tBGx<gDfa&(f8ic/<~<30nBDV0Q6nxGl}aAQz}MwwdXl20hhly7E#uRx.7Al~mzNd1;2G*2FW+b(DCweQdL?kv$4q(f~v}e%Glej{'0'?r0
ous>PI7j=0g2Zd5MA]{17&kqG<)s#nftYEs`:Wze{d3}w4Mkn&JQQ8R:|/YZRKaZeqv0L%.bF'F5.;ubG7?MgUf`C}'QwC|VQm0P4A~4<msYDW!6rt`G#d+MtJ:iFq^x=Y02U2UZ~0$*:Rk[~WlH~e
IfW4Ei'cO]Dq$8#9;Ma+1a5BvkteTK6RmsBpna(e=MtL0b;LMA%kVJ,HNV(AK_&J=[XqfR%aafJ0Wmf3Z{K!/L}Gok#$T/C%=YQ#[#KyTe}YT'pS/25o&xV6oqFG,E8/MOmx6PYX;/UZl>8u3l.`E=
yWT6O;%a=v#0_R*b$rZt/wE*sgxLe$zrLCzhws0pN#86~%mlA3wrG=2s5s44R?E[Ua()U`JDw;5E+D5N_N8Uz,9&=sANXc/aR,8ye4l`|3/E>Ck>A`g77&4.K183!I1yy)?420%d_njNro5T>>=lXF
=(L:cF'$3qtQ1H;YEpks*}!S^r_Rt5FpMIT4RNYw+CxG7gK8evD.;xc>Uv>=)`)]]rn~NV+txzoxup#g^eZ*Z!ZCf3O^zFC,(X#ZK/!;#54i=^h(jdU?E&pf:EWTC6TLcCfS*C2{WW~F4lk5$p?0Vs
_!7L{COM&i&J3t*ZK%Ila`5em(/A{XakUC',QMl(p<]m(s=]pCwk7ty!>~cZn]bdQtG?7tlKb$EVlDVL/Z'8b}~.z246)oG{0xTp|9RLYR%3{UaAW`_GG4(;~S!aofJ`'IPXE%)SjlRN,vV3!gL>LK
sQI7?sE<$U~G(9oevPV]jYx2*Wf;X7<.mUm+T*ogYfZ*u'DWS7G4TdIos#!kzj&gWaR0=tq[(%8^wOkdVXC!s;5>TLEaCSv|8Oq^8W%'Hq;I{V?`eZ.z,a2qLZ2V'Z;K]J!olfCv8B/ZDncs_L2Uu6
o3Uf42[.^D]N+N'^{S}00)b/s'RiJ*[SY$qJ*D**bL(D,Hx+:gOamB4ic4ZSAGW4vp:fwe/_=rYG<fKncn`ywDl^k/xBMK*ks%UY!bZ.saTw(9aZM*vx}5S?ntBih+>#RjBHyzgC0ZO/[e?0s6WL[7
owk.K7,O~PGIciz?%q9ym*ny7pu63u]rjRDO]SKcc$Fq+i3pJodH(,:g>tiLb;|/(upca`x2h<8li[jKGk<,GxyV'IRL_H,ihLiFFg$e?30Mo361BFbe5FY&s5YmiOt1;*0N$5W66}!EGi;=[],IWa
0Lelt}7SmBY.BSTd?WbEw[]FT33Mr~T5xs{eSsf%0KV]yu!U^;[~O>7iPhUD&xDNt$|#;us<Ib*'Jo`[fck_Pmnb0zP?I/*Oawy^~)&UlnjZXpfPtdcL6e>>cA8]7#t=^64q2=vW?e>3mUPcRw($cL
=Kyf&z/0`Ll0)PL/WfZy9,'.VoR`xbF])K;lV3Tzalc[]5t6&=NR&K^Pt+/&3v}=e$7dBFS;^]:[QCm}9+[${4&zQhf!N>D=GQvLEe_ODf`{Ket3VJcjTe&U[.W!'J.wA;z0&1VneRV6=v3HeqE'?X
/).AM$bYcXzh/4bFlj[JO]#40.7|vg69Px)`$=v9'>D]HclpGC(pKM35_gdrFjEsyEFf/n`{SKZEtI(HYC6?HUo%w4K7^_[|(7N.>0bzz.Yf=]4_AC5xPOc6hDQ{D0Om;Nv+l8jhPPH4+l0x2zQ&gQ
0SEw17cs5d9:1*}LSFrsdG&k6:l4UX2U~(2`q|JnTn;h`bQnd7('m}5AepNQeS|}>aY=WZ9x*Eg%z|b*=Xj#4BHJF7PG}RwV>V(wmb9DIwHIG=/QJ<pA:TC87H3tEsq[*`4[th<JC2=2bMA%U`MpdI
GrcS#/d~Da4zgMX?gB8aRsl;,jZ*cq7_A#F_GoCAFabYHhx_svq]?=#%_u[G<2l{UxI,U[vY3^A5lQRGxBp~`s!6!|]7+B[/:w(XB}?<b`H1_3K}?Tp|(7JC7&<.Z?Nx5PYiq.r;k.b?MFWi+sID3+
Xf`g_{_9PZI>$p{A]sCO9)IVUrGPkSS#}0EH&W4#qafAwLUc5'#Gl5qj9?%Z^cU[)G~GtrMPe4:EsN+Ykv:aACL1nk)(V.ixg[mXx3]Z9ea:7Y'R2+o!Ldm6G/}X#pYU!}jA|O8^uxm.)UV$=B<EIV
?ZpeR(u~ZXH(s`&Dua+6,BF%evtbP%{H!sVeuz3Y*YESU't$vQSbfJzptbc*i9QH}%+*.yenN.Fl]y#SDs:HyfW!]<D6=I}tC[?B`v|2+M~lX0[B0X:P{t`2Dk%{1ux8z!HiE,9[jX.oQ|HtH1W3CD
WZ2cwD%jY?:Wv74z=nB^*A}<D&f<eP4ZGZo#u8RNS&tl.1sDxnRVQ~oXXGh=a9n#]P<$d1fScwH>dL{e|f<J%}=kt6(k'pDeQ5O`J5GPa]jY/hevP)z';&ekS~VwO#MQF&~GDhd/q>$hK9EJG:,gn3
vKmmY6Jc3_|CPT+l%T/Ls+j{Xn67y!>pL/G3}aL3|{!t#&_h;WBXA4V{bgDd/MJ#.ChwyR2tpLIinS6M:x0k3F{t|I17[dA:%D>ZKs~9`IJ=vQ[=cDhRsQ%94sWr4fOL%fgay]BO%),XMD&,.XQ|9t
Rg#h&:$'3}VitN:|Xc<P5PV,(EUVtXQ1pB?gQXCO3.9.$O7)H;`=4^n,nAyZEg)eA$#iU0{FMd/o0,Cw)r9SXY9Rs;ym|<A*6]Y!*Pm>fiAm))d1G6q|kVS!F^XRIybiBAZy<J*_VLy%N}:$7lD<D|
.+`^?Zu+2H|!<O|9Rz9p!4cc.`RNmw:gd{e6M[jlh3CQ(Oxan3&<H*79>vh]zJtjCfO=Mr_N&YCP<V&WrSkhTK5q#M{$j6o}n6il0gC{|?ZnQ$AqppdBl{i#9f?|K%0PJ+9(wyCi1#||bh>2W#%:gs
Hy}25}k}H;J`O5WpNb16)KMd4Zf4//5]lU(u]0V${Lh~N>dmu_hH+Q5(^R/ekU3eSoOk7HI?|T/YT}v<&E8a{'1KF*b&(BiNM{H.>Pf+prvCzzbna0}'%RDZKak[7EpjFJXiZ`75>PZTDzK!hc2!p9
bGE{|0z0sofgPxH]:85QJSB%bkZ2$+hf8lo`<OC;KL1o>1*wN2'%~s$(~6&uquK{>PR4KMDKb!exNC%TdQu[~L`Xi>eAlB`,mm:RpyFuUo$&oLX8]~pcUp/eOw,j8^J3b{rHB?'XIi'~mC_IgFEl}X
E<0q44{e:4,em%/g}KB[&6PygW8Y_Ja!&>2OkoN~]M{t=4I,J[#98L:c5O!AC|<>/&a+R).6m`27<`gy%U2jyVhzL?g6KseDVT,uNgwbNonWJfAY%kN0:_+uYN:R?GaZ1kGGQ'swc+YGcV0Us7Lrr^
vE:MHR[OF>q%MtWb<)5zk*XRNiZ>gwAOnb?HHEfTJ$%7y?wP3=tHG?Y'WQC}/Y.=Y'tX5K4GID~:hGa/sL%EZk858iH<gtJUIX9(dRaY`/%%i=s<BWLm|S$^R6Pb|{6)j)txfs4^Ft!U[k&4?)3qKO
DA{o}zYp|_<edh=CJuOrBqX?ijDtW,gWmNry6!uJ38rr}FTBH:8YjIac*}n`/tlec&!Etu2}HOeRBl}gUVOW=.r?SZk]JO&5k^].15/t{x|A9%8rE]uD(PSll$66qp'V>?_(kQbZ!7pX|pY+U8[<;C
bFX8(e!|OPy7rmArQtIX%(v}TWQg7dk~.c`y1h1]_~<&!(fbn&tch+yv[E#T`g/C+cYo+CYVe}So>LK%nssfz]DA5gK:fF$6ybmit&BP=n`iA&`c9JmX3y>LzHUJeV%E$)Sha%KRr0&^86kW$tA65V
cu,|I$Dq}px:01+~w(B.`o~QN'vEz,..YNCJ0V$S$K#En]J'z,+)NX;<SZpd/NmGFh./Ult_$qqndc;d#+1:s*X~%kP,2WWe(x!U9?{3qMkB=$M=~g2q=}n,,Ncz|H3q0f/EDJJKOj;&;b]gO^x=Km
Om.^u}Nt+l;R;bx2Zl6,^=:VhMWGWglwuQ$]OgF/V,;B+PzOXpM/9DfQaYOeOs?r1>PMriKY?mk~#?N5g31|,)T1]ShVkgBCEvI0PCt|S7h~n#+C_W330uJw6W4km(=r0usNjM'dw!K=G?j(BMqhdV
.>a0Jwlb5R[=>5sj?O*[E4R0_~s^4=cR#RNnUCQpVc9b4hHbHeKZ%:t8|)s/cnAP~jCaS*Pq}WVUw_3(1CO+HoV#c~8=k/Vg!AKv6)_`10.aL>`2jNw_!/<Xk5M3<{agH9icSBI.V618c^Fd&S_+i/
|yZ~ODSruEa84wx(Gooy+011}eJ~$W!u51B8k`t`0clQJuS~$u.oTCy$EHSjE&efufG>c);G8*:[^oGTq$h?^O?,u?++)4vo{fNoX_WUgA(8?&RmxW,ku}(uJy(*Ji}MNp3(hcp*vyE['_tFysu`44
l(?'rKZd4z~3bsX{UA3ToweR=!HiBv#Y$xG7)xH7o%y)8q_54W$ga^iF1UXaAPvw)qlZ!2^&XXuQ$dnW_uB9LJD4OTaJI)#S=%6A!GkgVr&Ek%K4^[4I>T6,kCPB+^=.<`S&|[d8*cC>a0T?cHqsl}
t3U+;;FcJbASJZ^mtG%pjaHvC)bm9^;kloOkK1?:v~f#,'HujSDZ4>$E9_7|M;NHxeMwtkb(^U)Lvb=I%1Atm?<XeUa5=VGnyQ'+<uV=m!_YzB0vxPPh9,pKZN|Vq{o&}sMCZbZ&n/QdcOg1A3;[.H
vcoO[`4=DrqP%}M^VqE'MNJn!<TR_JrBz1)LNq#.p`YxFi&ec<kJ4Oo4#3jkkzYg3!c=8g$D&+K:o=0cx`/l};47`m9Vv:%f;S[eu%>:PKK|irVq02wSg',LyhSN]u4h|7dAs.!|'n51z[J#${c=EE
N6QXGGgU)lUQEk,uX|fYdC#Bu[n+{K$bkMm&w5S?msd%ZWh<V/mTvYa+.E3%yu.9axBGv4{]|Xt;]OyN%z5F1H>.nRnEH:x}08%jDcA.$}Ey$an%/hgjIE2$56OTGpu{bz7dSl(F:}kbP^9_}4:+)F
)KA2AZ0/yruD$en#qA8[da'&wEEvs)$T?|Jk;fa*,.R!e`0*Y.x?8(NwdXTbvf(Rp,0:';NJ%La~xGe2fzzzYP%erXMU%nO>^<~|F+^PB`9hD7p$o(w%x%p{iBja=DAUl#_Wjn]x:]F9g91av;o>;s
B,,nkPI8!OL$ss_[T!QRB~}]n2VQ)DPpnAax`>ygh0kP?h$]8atBgWNwO8*&~RJA~ifHVbDrUcd3)UJGy3/=wRw/^bOCBs+AFYyeQ||+&i'<(f:X;Yf#m4?|s*2A2>]xpW}Lvd[pH+Ft|Tu1^#z&?!
&O,2Fjf<3X1GBWG.CL'goCTa%aL?CSw0?vF~i`<VXU9KKYh7zx)Cm=]}(DfQi)s&0INjXz=<PuSCmZs#qziH'N?_UrxgoM:;}KH&G6w,~c4VUK{APgNU0h.{YoHbM4^!3Obbxs9s/L.s.H!|W#p5aQ
XFd]0&pOQ4mnqtg?>6ppDc'lo?NaXXG4RC2~Ue`{wFI.7iX#S<AmsB#HO_|?,=YxX*ZFC`xv)E;SP(T{819`4L;QRTrENH==I;<O9Kzi.>ZaP'y`[Um2vQQqEhD`IXhRD4w}+>=G;_|[`b~MhSl'*4
{7G;T951n;Z)PZ[cOZIIN:k9R]0gc|wBC[%:!DxF,YkxuXi,tPx=nY{k>%08N)Z&E.St{I9iC_~lIERf#y]wg:cs~#kN7^,.ZR>UhW=d{>xo8fbZVeUNy.bTG|$_|MQ_k[7tcoo30lOwwAH65&:W{J
Y!*GrW~#*?ijT}5F`hb[CpiHHk]KkdIq=9EqRG0TOK]KyNG$oe|ix%YFaRb5w&trM9+e6YytsK?k|~:q3+GuCdn>W>m<D4p0x0Pp2nKPq4ILg!h9o}3e7meHkIVNj>f!jUT,*}uHc.&K;Ba5se`QKh
^B|#9G5e}[N&[PkVm|plbJGfMyt#EuppZ[K*l5C3YwF?aG{~l~faGJgrhD;MiQ<WOpB[Fk+757o`zzHJHBj7+#<#d4z0_y^?|OKNbObE8zr+g#8K4%oq]]Cukuh&ou&[!MjKbaFe6wAsGy!F8]!/8{
GA_0Lj151^H/}8![':RUK,T84.3N_{ju)eDeB}m4PeSy290L|ovh<xgpWNCh5Tqe6njma2B.]VCW[dT1L1%7,!$ZT/^X5!!d`<oTs)gGA7'*K+i{wai?B(5Lm2'VI<,f0aD*w~zc9z]Cr.io}+F{=*
%w^gHJ<IQzQ~RrJf=U_rio~3VV4y:,;Lyn>~'Q^'gNg~8`*x_(/hdmF14Y8$zF7A.sRyc1|8Vm{iPmeJ^}k0b=J?WE(KCk.QlO^QyP=C12eMU,>al6(SF{sUo`:7;m{=AIRn>Sbd1Ks#hHXL9&^X{_
8Vd]a%eWp:'s{xO''jg/*/*3,:^TK_g2o1Uvzeq1d5}WUvPO7ZO`YpR[!Sk{Z_9ukEQET)[,WM#<H_n2bb[6w`fI/~sI|>!nR}y`X7IZPO6CL3B;8v.+2s;)zZ]OUo^#dFg+Emma^[;6L}e1>djE.'
%!FkzNv*hZ7(pZvrSSI]+TVAo)y*$JxqjIhQTdEVI%1`^jklyxr]D(fu+yt9N|*EJ:)gNt5cqv.HLf$y4f2#qcY=]F1pbuK6qYy`Hz|<HqF9MJ1iM;V:(S%|2++{cE+GT%%_5yej6/P*iW}Zo8hD|>
fLczSjLQpuV8~X2tb'KQ{+Lu=n/OAD(bQI|Td!%6h$'h8swzX,Iy>73|5w~036Z%!g5cMhzt9fm;Z*7hljdm8fVjp!R]qy$Q?#'|ATA+<PERBc76j8QoLyhWQ4d<*;'OzOVG3q`}}Reil8o6/Pn%JZ
TqYp6p<hsLd_ken?Cn#LgvMk#k!O|1A:0[4r0TV`xN}0ii<igzJS8=SfJJgUP`idHb,PDVEFAz{;cd*^54Oiuw+!hsAqz(.uqW,qrXl<KFJ3>TBN92VhoVt1BdT<SGhv{;xelrDYp7zx/H2}{Iecch
+0VHqA&Ko2c5sfiVywOKKyEWhG0w$H,f<$+AEujz(NgmJ)L>$p>8[7RIsN5GobDF+&HasOuO&e16N%$D.2d?hrl}U644JUYP[s%7YF=gQ,hRXG~5Cz}3[Ab]&(3Q>f2$[%{8Nts2(S{v~Fa_QEJF$?
!yp6RI)eoA'YbvH'G=klUuidtY&Nq|+:xIrCgD2<e&??z#V0RL/y_N=d8LUW%E<R{s!4#KU+d|PygDE5>9wn?[WZ&#tCU%0;r*2oF%wwCjK|vc;iB4?J5s~U7rE_OUnUYxp('l.EgeKwEp7.A9a28'
OwX}G)F|wb8{ESFj;I*>X6Gvq9]9^nL|Q%]mJP.wqL[$25<bo;t!c%!B7|XFLeDd]&K0]=nmquiBA~0zXX0NUzmL^~2j+XR(KK#y4&RvkBW8hxFP6d`jc$VUqLAnMZSV&Er*#K|ksZ}>dgA3nQ^`(0
*!:w<$wbU!;3C{oEFv4pS+3JJKIX$l$>zP()Ww}km9a=WMrBa7Zn)6Ee`i&De}0]z}tI!4fd+vrQQEEqCX'J4|G6DG20G4}CYsg(M4aLj&JrLY#PIl;?}jCE[wv/0j=ShNN9?k$IN*+9C~$C1Z'j0X
^SIKQRfE|a41jU}oKSDs^__TIz!kmg:u''*dfG>_';&i[}ezEqGk}MXlXq<jApK#;R6FRO;<xroi;~:7T2_S$oY~9LVW6Cq/;Fwo#XUq/v2id0CEos3#+<A_D0mp]u6Klo~{*JIj+E;9uJn,_xNoD=
'!~SBI6kWPwwZ5[n>TU89Vjys'}p]rY{+6pwRJC2^SOUG|&#7MvE4L/m96%cGpZq&tH1Af6Tz1|LGZ&;?z.Ml]P:wD}~P~kG._]j^$5a:Y'#htKzf'{oc/)F#TJ:`jj:LMr)g2De!X'x+OHXJma#|K
ximE&=2{Q~P*68Q']Qc4Z{rJ?P3MIwbebsu,jM*CP=D.<XW.>9>_I*bIHp+zElo~:orj'2{Wi(azS2fIZ>F'jdU[BmZTNC}*;6>m<X3g;LfPv7sOU(1=J^D1^7DBz+3J0hc|prW{4U~^(.v{O|mFP`
<t.B/`%#}ZF?,S^a2Y|XG>e},Hgs_;7$!^Ohiq<_r~'+;#0o#}!Oe1z6*dx*gE~#]yeiWu6=S~X`3}seijRNk<I.|^[,'#;px:BSw&)xd(U+~IKNeWK?}7iMQm5{iX>[~.dY4hXV8gqF/SnNWnn33C
#dd{U|'ac!Z?03atQRrBMtx/mSY!h<Ym3IM?~itaR*`o/7J51RT>;V<S4Lh?q*o{A~oJVXiH'B?xsI/&uq!$tASy^i:Fp7mF%$Q<cgm=O;Yh2}pKE13ncOPR:8pd~t(I>J/1&.9zaaqyJ_=:OoXJ})
84%DxWk;5wL9}qBWZ'gdx#TT8fK*:q`>!;l~t{uY*f/ITr5AfX}SXAM01z*sFe6>%_V5]aaIK6QBW;Ww^{SBwR<T{tGLjoNnClpZ01eN'1|4Js>Mn=Ksr;32XeqX'=Kb.Qt%u{Z|t[9q#n.xi~Q(D5
SL/[R`lIN6`l2Ho1sH]l'`G(OtMT_<3eCJ^?kkOPfX{6Hf0}>=y<o}xpFyj,6BTKH2^R/{fa9XnO3WC|Dyk4<s&Mx^<<H7|A<R~lm85}(Q;su!JPPU*nOCzASi:UGU]&CYInq8)rrA`z*')r~wA1Kq
o.3r'>Jd{tiU.5C&&1X65>ZJiV%40]i'k!vCr:yOm1yG9x/Z2ho|_6qo|phZfGD$0_GfON4$Gn!F>m#{/gW#Twf?,'ugg{N9W53esYkG6A%NG_8Ashuw[FSds|H<k`X8G1es=N|.T+Hkj^7t?IBap`
)Hn1g?Y`0{ve5wtA_jp<&!L!?Srk`25[nA<z?TXIn)H0SQP(0/&6c5V#QeeP/v7!s+02NJFa4DZ[O>X!bL3r4R2.`qf$J*KS|Os,;w.bKmeJ'c)X#WoKiXSDZfoXp9QfnDJ~(pR{+7_q/&wHQ,ti'x
E;5t(:O7R0B'{MrwO&:Xh1u7t9PUrMo0?.;C|K(0q}bXMV=Y*{Z~7U8S#PCmDppq7HFq~aO[bWkE<E_2vkn(GN5Fcl`Fzr<V8kF7JG/vbU)yRc3z*}3s7&O$Z!yUzmbp8Gu&}#4$PS+cAy{Q{oZe7:
'8FN&X[%b^&:%J`^^g8QiV_',<sQPf1N!{ahRs1oM2&oP?[q|k?_hKCw*Y'DoH^cwb[lkU3eYx78~&OnDcP#:#pI,^bv7$1b0,la=~hVnpc4t{v2j[yz{p**p/q);&y8#hb^+jZBvj_^s<;Vr1prCv
,a86!&%b0/Vk:vcmCy}!0jD'h0t8#b4OgrP7XyVg+.JE39zqD~6]>9A*u'}DXIsBcJ3[0|J8UOoIW5owgk+JU,:Ml&c{00]ySj}|:b~KNYphAIQrs$}T5s#z2).mHgp$.rdAU._,IBNoNL:XY+LuKq
&N*G;Xajy3&|XBJ1N^:(UxV+lz2Ij)C:JhzR$cz18I}EqS)3ZU#+;}UCcBVQ9~FI3G3?(+iX#%?8&OFf=vo]7PQ?XvkL6Jz%5P71lCB)i'S&L)og4[:N_:VAM]<7*f4>EE7iAyon9Fw<GIWpO9OuBl
c:p*Ow^UCQQ9W'{+,]k<dcY>qz_U(7d*WUP;h,^mul?o5Bc}UoA*r4tyw^Zd}]k)tbc+<+[[bN4m7'j/0g/hBP1gD=g{hNQUr5xJlWK5!2x3T<WZrY`_8Y7LzJvj|l??B?oMP!;8w6Uy:OtU_*Fsbb
tjlS'+pEm.v=t0,+B}6Dk8pOX?4yK::#XbDv`Aq_q|T>^WQ|98/^7_Jl|QtF/4k.X6M5Ap;TueiAF_lIh1S{$kN!u:Nx+%4yRtse'j`UMQMCJ_Eh,?DKn73Ve9KzrdaQ6!BB|A>!T;w#0Kr[{y_n).
0>p$O[dE/mG5ev,IQ&1%&E6Q2Rc'?XO<&S`rbY_)9r;QU07)SrOY*epgF#f,a/FJG|CLg?xG5K:*Dg.W)/L!oD#zN>Uy*l11VE$oz=6vR:u5>FrX*rv|X)(g5L)zWE/;&ifSm3)F.8N=;|CXkOov/{
nb(}savnv$_62GvUn)9n7Zb1xyd[?Dr0N_BAm[d{]2q)Bb#H'lU<28nH)i,f^k0<aLv|Hdxgpg+dNA54E6pN$u]he;Aiu{n_CpMzH;D3E!&<xyJ|?00+%|5r&&?pH)F!ZzU=DaYVMZ7J;Vo8b#O&kS
7>qZ$yd[H;Bq^9),>q7I?=Y<FOBe0MEA|LdRpRjQjn(22D08=WsYo74]`O)0&HDtVzO_7F23*}fOrkFWD?IyP3+&3MlM*+3g,#lyRq{H<vg!WNLz^o:[AcdDhJqG?KuzyxAm{H^z&?_#?87Ep_c:M~
C49{YD%~Y}xaxWN3V/~oI:&lf?/W.eH9bi9MK#B!a7$j?mx)_?ROZZ.>A~S,[F53{w=G_H.Oc9G4]xodzS&6c(mJ^nPqPx_J`bX'I4_~%%=k6qt]8W)$x)sq#fS|~UgJqSI/i.2mMK2[6zEr23>NW^
RBz[3P1ln#I7[U^|){sDr+o_`'3Tqyr6Of2]l`zsAwGWFb|Yf[ZH60nz(&Ns.|umiut0H&w:VMpk1d&[y.Nu0+_6!e)J}5A]``*tgE1dv[zB(Jn/R3LTj03>[BfN0ft#~j*dMiS2b}nJU5DRe<ATj|
F~zQb~l<j=*GSSi#tSi(cc>`!H,X4B(84BXESs|1w9#ay8X,{QuGONVs)icI>*8Np:YlS38pxDj?!A}P[a#+3}YT;+IVNM>z<Sz)}$6*R5o<ws8c1n`mF{m+^lmp1N#a9ia<?S#]^)_0grx/$01*Oy
_2D3&~=65A,d(4a3~AZ9C)P`2I*2_6g)#t=!ovb;OD7DFDKf_G}rs<TYPLl[2.L)RQA2KXOJJ2pl{<gBf?rDi3$YFyi0~Cc^)Le)B#'gPJ*27'VXAIV$Bj!gFMKW:|9wO?,)_n)0=z[<UEy?]TiHL;
l+]7V>2g#[T}8>ZwAhWeOq,_)B:{*xF6};A5wn<spW'rX5wZ7a*d#%IxnDUQ9t,&>mj1gVT_{([*bb;l]u8)p?ve33{;utg,'%frn6=>RDJPpCb'3W+y[i?t_1#{Xitzs#`%volueu%CcE/QjOvG'_
}vCS]l}+1BK%1]]7&0IqRs14up_SGjEf0,%k}XmLh$:IG+x{]w=Or|oZvCiM;5fdzX}menk|?'q,;{^3BqC58'+/7Uv#F3{ZJC#gr^!n~OXJ_yqPLnA<^(?w*sG#+*=RokC80gm&BO4[^gs6VK6R1&
GN8&X?a]>2P+;he8p:KQvN/nG/_,`iB;=2f_daTD#K:NZq*j7upRap;LsWqQ$#>,V8EmZ'p|P0L!RmEY)8FrEAhB0E$3//xr7QrfcBo5yD?Ry7amoe'+?e4ML%Q7qX,O#yge11pYCM)Ofo!gU}~aiu
XQ_~h{>{7~Q_9zA<oP)K!/hTUx5HOM=7;z!=+2'Vn,tvK2a:zWmQQ>9WE(fExU]+GX:iw(JR=kyhvTjl:!j5fw%;hdO5Oe*85*?^^lw84^#Xet)`JpsmI[6rX~t*uQhn`P%n[^g*tpfPVb9nAHV7<Q
vNTomdLy5:M{dtM{r!g=s*yZ=2I+F=T(M(Ng,X(n=b$^qs5L)RadJ2NUg4dOn5B*bPZRH5``q77jN+zvz]r9Ofxu14&`~T0TZ3/cJs`s!!|#U.+IK'91SLm#h+FLCh4nK:!o'J_f/M~B<2Ww1BK0j0
)CW%|`*v=m9Y(ofSs1[lJ&?STcD`=qm|NZWwIAp40Lq=>l|Wqzf8wLz,XS%wEBSy$LS05DJ?RE1%%jJ=fkmQeJEepi}>G,G38g97WsW}1SCiwM6sZ&~#}m?*rtEm?..]mgXQ/U*b~vGnYV&g*.~2>f
9#/esHk=Se*`IJsG]OXwmjiBs;MJX*E2;%N2h[bRDzdn#q:Obqu!p1AAI+.aXM0:!tZ(I!91[tnLo/]bfU`[ZC}$x:bB}S9FEXf)NRc4RnK]Ve}2g3H0Zd~5_)DK7w{Y?,LoxMSlRNF_HGf>?5}')9
.kp^1t;<Y}Rk/c/N'K=Hzhp'!d`w>PTgS^:<71$e/*y~fY2+<fZ[`LT0o0`lulc_z'<>`RH!::jhDd1iH1SB+uT2]WM~n&!#Yn$`Y^Xs?(f8stza,)z}d;5),Ndatg()+abc$yOpV{dhPS^?u{W,ny
z5`$d.m+mySbf5&_4L|og/'5=Wrb{qlansTQ39h`'}e)!R*d$trvyLIbo,rg:B6LJ0W'^c$5YH#+FB=>3c:)WEKCW#u/>wFIH+/|[]8)~K09bzVo1x`^q~*gSfo8eHO%R*O9ny6VuUc4Ad#u|J{N/}
F.q'Fxn%K7Sa(n,sjH^kyhw~wiTqRC9v/5,:<j=gC&DtwJO,V+!chse~1d9Qjy/|LlxG]..C|(<g,|.M/M0q1Nz.q.9;K&/Tye_eZ/%|/Ic)S]k+~;iGO_^N1Ms'~*{>,_U3%mkJ(J{>MnnYpr.<{[
3x5||)QmZ?>yj(FBgz|aSBI4'i~em}5#Oy+^,Wwljv&.GL%^/Y[B`h$G_K)dDQ~+jH$P8eRb%mi'ewWSA{Yi%G`mH:'iSk.wTEGrbov&#>V%]`A6E)v[nO6Dwxp7G>9tB.B4>eXl28I_IE&e:Xjyt~
%Jxf$m2J>m{p^aUIpeIajnQY.6fd{~m=Kzq`Av?h((Dg9z>l!03hiX#pV#OgyUw]#S7*33sht:mqOGI5tt/<<%M[`y=u7:$26yX3Om62?P.8dp2cuZuMoN}xejwVOjPSPZ[h`6=lUd%mh+>mF^[Fk5
0jySA!f+96dA6sCWRdhGR(SCeKL]M}p$5XJz66nd?2ALO(b_XN,}Y3Sk+t[!Sh!cd`q=j~lMEb>7[x#}^=8Wk?lHw,/SXB:pz*)x+.N(QT[0^L9eqjYf!(P=LivybDZt>[yxk)>p~?Kn&^,)/RK?jh
3L9vik.q:%Dh5<55j:ml|wF>z'GxI!]Lm4Fo54lu)BE=mjO#^*Lpr}V=/6Yt+w;W0z.8[!H%|U3o3Sw5aC?A%+`AE8YEL~)Nd_2y6UYB+,6$U9Oljit{>]TcyYq{i_9O`^dJ=D9]uMniD_~lm`qJ/S
1AenWnt'(&L?856P)Vt4W*hu52Et'{Ww;#MB[f:ZL&v9W57?%Om<`wYNiX'QB^*J6WfwN=K|fx_z$n9e;YUd/JpteJ[x}a!2HI}kdL|6.FY00)aYM>K359'Xi~'){D.J/nW.=cfj[K)t*H!'*sbEgN
I8>r1HE%(!kRz45{!Bc6s%!RoTg]%Qe>1$yA4Jn`2VP<SO+=dx4dx/5i}UgzHyZRm4gIzf!6]7jM}JUd3MHon7rX<At&U2R$Q)oc('YcEcj!|#O7<Mpw4PUsOpFAQjf)b!#9R3}|TLYX0ML=}!yzJW
/Q(qpF;ASfr0)?6NB?<<9p|ZI)EC}Ou4OVfiChg5?dk7gjOf*uE|DrC;1NRWC/7[VZ71?`Uj|7X5L3H)1H&r#$AX{;d:45fgn!uQ.mLR%2eVSe|Ofat>00ocwn46fM&lRRE&$Ue}{S[QMUy:f^?5&T
9+oIFk%n61pCnR]u?w2,iHtsRe,aD!I_PGfMqg0/DH{)(Bc&0#UG!!NIQkz.<QvsJG)CHot%/8LDhuHA}varJWGgEffYy10:%(>q1{n:2iC|BPoUd;da$BI+ilKa#3b;JUOMB]nHjTwTH3~y5~F,9T
0I1Af3e`w#FOg.K^hkW_'&%zYJ4U0dk^QjCMmW_CB/Z'I[j(T%?AGSmUB)da'Uh65yqw'Bx00JG3oH}lSW7Sn:O?>!YdC;[&RK/Bv9FRd>[eTkQH,`DJ[Wo*='$o0SCX?ep|3|PLJsHu+LFVS<uNJi
8<|L<L33:NCmG8Ou+#<'CE^,>~kY2f]7(EIxiv%segIlZjoeae|y/0'VIEWv4b{/cJ~Z2[8ZlyF2=1&*^9G2MtGvisTYTrPbtL|2c<DO%`Jki5H2x=o3f{3LlY9,{KrO0&O~:TUR+|.yR=!f|1'UBy
YH%=7Tal;5U<?/,oR~`9#s=L,[hq!}fB+W6lO{m59RYo_u~?^+2AR_MNrV+u?vE%*aLWJM8=3zcqdK>v*HuGg+,w*)5KYe'{&1]iK$H<1b[NF^_yyc2{y}>KcCe!;1P;nk#DG~P5A<8WW=vul<6;.i
,hX^2kma2*;ekLneD9L;v9=G.*mTzRK_g_DBhGz9,0]9jU})DC`$Gl,Ss<SaSy_LjNx_GMp_S_R%vl|fkf.s<*8>|MrxtVxLz+VFv%bJ.E#ZFeBCgMh$xuK/zz$N(vo8yth5e?oRt39o}<G[9s+y`F
vzEh>&eN}AGnq_^fesv+kM!wul<8oJMhU;!~9JX|`4&vt*[,y2&}wHCx]o]yLY]!YzUXU{&/[L~T7cR=5KWRf)W/r^[x%j!Wr0Nwn[<^%Nr&p1=XC;sVn(6+~T#EIT+yk^]/^v&V70d`ivhT1L63MU
k+p8^jv$G/K^7NvwnWDmST:Ac3nL0<TgYDVVQ26WZPG6!>,kAqY'N=$kdzJU:t>e!3?K%ln(C%Cv)E'UY<Fq7)b;V2U+3<NZjIXd;&LvRoMOop!aUmm^+9zADB4qIci8!:4M&p_Hw_?Cb<U$:e8OI4
+1*N,l~Z3g$5b5t:IaJqsA!;/K6meUkJ:&kr1TouktBp'enQvm:lb}lj0MPQu&kD87Z^(V56VYtd,c3)s<*xm4z=a^#4Sk9hFe#^zn+^=Jv(hxR#2T$X]?b?gwYPE0bA7!JL}8xTT`3&Dr=sO_=>J/
<OwNTTPe.T'^]qNa`~X'XV&P4()_&O3()?zS*nC$~,9[QSKRD;9371G>jB?RyKiK;c=k;%e<o9Qj/K<<P6/F[1Se*xrG8xz~t9kV~!47Wgwq=nbz3vx;<=h,?zrnT#D3%fg=J1=^!dEdgDV)*0||z8
?p&z:Sb2AK6$UVs+)q'/9mwLoow%xPm#eyNs/]/,Fuc?zB76C8rI5l!]%^Fma(n2;3=lI]hk5e;,T&f1u#c~dvx|c6v/J#i(&zh4T+YzE2jw!!!Sku:T]`GE;UUM;syMlsc/q1Z6lfwbi;#`BmQ3M.
ya?w=Io2UZ/2Mvy}v5)Pbd:`XgzmXLjG0c:<K_lE4ECIERx6?Gx?fqMtY{Px/mX5k?cb38g3L69M,XR3x9`!VaS*WJ$Q=H[sagrgU1v45CgJ9uZ_N1vz%%ZGq__w$R!UgX+6+?c}+R`0}s{[e$OL^U
g4_2JC%bFUT:lpI8?h;rh4T#J&65G8O,2<(`u2O;tQ[cZLX2NTg]r=3CD/`n[l_T18F['L:bCH%lKeZ{7pQ_jv~J+>OS),?Vj%Ai:W.VF4BAHx=,atCE90Hw[i$c&LF'!owbKaERO_54$cYG5FO2!^
9g#a{$Ws_76[9#MR/^f79WK,T7{IFQ=q~BT{36j0w777'd7WIN~3ZPALh.G>!9]aU.%Yc~`B&.8O|^/CMsn!l_>9t(gJp#&$JOl:ExW2a%veIe6}[6TpEc$LcMsl2AO,.%b?(3as:(l%MT*Tq)b'}c
~.(r^|{mQeBr>7PDJKzhNd4S`h4SV%Ek$|zzz+j)Y>?:)Z=GtPFTqhT0B<wp1;|~8ND[!2;uHu?!<`l)TddiPXSzmcc{LGPXvZ1+r1HF8Q=}atFa$}[06flld<!wxfJ5?f:{4(?#!NNWE=>+b{*vtR
`kW1QdQ|'Nth+HV,OK`2_N18o0i_44+?,VzR.W7J*|]QfNb#!5P&>Mo7xJ|a|V(]_vUwZAU[?{~*7(F=/s0|[S*I4=AZuUD_e*aMzJ5Z|^J'xrU[>.yw4*?EOvr;pP}.{[1NHh'+kO~L_IK5!>BDZ5
|Ml?]nR&iB|8SW'xY#H??l61t]&]q&(W::y>nqQV18=2R,XWN=LqGa0GoJ[_0LKh3kRag.|Tbj44W1[P<wXwmL$ZR#9Byv*FHz/xcla9A!~FwlqT$acY<K70{#gfgZB?E!lQMrOs$y4[IL)tgB2+uu
;L*rz:9v%&?u5`DIZW}f(c[`V_TvM'7&hBx_$_T.&fFQht{L>(mi;_VWs,Zc~_8{o?WUMv{E#:nY3A|>H$20}y={ES96w2gE6tT/fUElqhnq=4*m[pkI~2ttdfw:|rkVtpge#*F/$JD7WZAqtM359#
m5M1$n#9E03V.y58vG.[*n?x<:.)uE||$|Jtph`S;ZPd5,}<M^MG,#DXX#EDiARo<E2x?g#>NZKuiRZwu(){9IJ:bWLx(S5!1%':]ql!sBsJDOAYr>EJXC3[=7GX?NRVPA0?c{_y7$vr4Do[bR_'F.
YoY#U!_N8jO^_Kls{j%y3#10Qn|H8PaqpSsqV:McK_TfiQ}p{_/|udjXZsRY{Wk1c^?qk(]_TJ;$|QIPnn%iP^w5oo`:D(W$`qBVDEY+TYFKj31QA#Al>CA{>ioxJ28N&bZvIYKH.e9g8ho[agy_9p
K`MEXC%0pRo^F~4]=5bAi{jjx=FI&bt1G}b`*$VJsR*%sX2`5{>B7;>=}ly!V|xA9S4`&K]JX4Iz9R;CqwmOO`B8ilSnkF5C0QOP_(9p#}H|Jcd+XPO8}J}&2z,.lpmQZVaCIZ0^iI%Nvf!KshDvK&
28<CmHkYE,86Z5f(pgl8}TLu<wXa*tbdwwF|msV4I&7G6I$B={`=~tlElFUY:kq[wRGrb,c9laA3&PE)H2pA$joW4gmJ7gC:I>[jkY0LT+h2AmLm'M%|ihbfif18Z}WSnEy;`f1d[7nnm{}uQRXb]O
LR^e}~kmM?,+9;$r4rQ<2[c<10|dB'{y'c`N2a~kS&Jc#e^8if;SO[FgPQjP>YOz`r$<zM;iyY7}7I_^xWd9GLgVDdsK*`+7.mmLL&{L$%;/Z!1geDfAp1h7v&3+g^qarGT!}>4vZR~b0<2xH0cH.0
y,ehx/36>t%}leK:={E2BZ0{<kM3`wiL~qUw|kD0<Q6zd28=V_;_m%N%?HuuUY+j^?FyJP96m`nNU~F;~2)cL%Ak&VE<Em0[j2'HG`WZ{f{(C.G(Dvg5s<}nrb=N:bq#&'Hl}K0uFxC`Jg,J>h*Ljg
6Z9Yb!DO47wlbxl}ar.~mWpi.La0ws9/zjKMq3RD/:9j*,7!Nnjq6A^_S8~rjo$bcTBnEf4$^C2^jA,ZF}ww2;bP~!'($<roqecr1:`<Y39UwQ{<{;fKL'kPhWeF~<K`_;Ug>o==bUo_R{Q7QOF($<
&OQ/Egq.TUS7`o6'u4c/ObB}DvK},Rn:)3K?Nc{TxUqR]iYs+WxO7?>_)c_C3)Jmp$5H{t|F!:pKo;i5WO]KbErEMH0{e/_L9[vBj$fQXy/E)Cv*MN`A`#`(s[zss4?85Z}[$H*1?Vf9'X>mH9orb9
Uj,wjufDfS9M;4_8vIvLoWkz}mD=ZyQ7f,XE>iNv!iQpyRda$t_^>~K%{!$U:'ADVs#&c8C|coq#v/02MjZ6sMWk|13<9]cY=z_]mxk:Dq72M6vLr3u$pA:8DCDvGpkd'n~pjj[t=X<^SEI=)I;C${
[`E1RxHCIE_?0b*`|A0(J`{{{%pWc*iOh]{n{VMM8O+8Ej#H}qs;y+wG%/}/KQjNe_wHda]3E&XQT:.Q/EBLhkr&wo[~opLPWk!:[BqLlJ?:~><<Ztt>pVSwo]!f^+3KjLZ{2jYy`IfLWl.%GnR^Y%
,Xmm7[R7]LO,3t[A&{W,mS1le9=cxu|=Q3(bEvR~ZQ'wf;&/'$)B{We+SH_2*RhZq(%iJq=5mrW*];>H}_$QolRf&oJPXFy~h;5rXgXywIn!7#Qm_&Wh|lhBA*vw*[^>ZqLs/D5ra^UH~~u5UoQq'_
_x+ZvxY[dn#y(GQ;aFL/lUnVd8XciNI~;6n5Y!cH^%k:OhBs6Iz4IS0a.:vC8%>>joy85?$0*0XEMjFdbT>i!)e0y5}Kq<;h9c=FqRVzR%,UNlW:H*tNzqV==r_bz0f?L`<F%2Ip#/j18%i4HVvrV+
OP:FE9;eyQq[[1PTSn)U6Yij!h%9;~SO'P$hPn'+[Ad5y6r8*`&p(sPfFS{/=gFB6B_`N|oy6sgU!>)Xj*b?y4JY}:K#Zg:H/hhHE$NRwr/<>!~QsFV#AX^Q%O9y>#Ni:cIOM2Rj?1o$'1D$c/3Vg1
>+3&Il]m.:_*pGF+qdGEA1q8&dtmq$7X^$)F'hT;1?x*_KpCRZnL&DiU59aO;'gwAgG.9u(!~XffEA)!VIWn>WI!)gn'v}zOm`[YS+U`d2^%'.X^BSle~qo6Vt_k79%y]3aOwSuIy8Iz+3&*P3zDK.
;QYlUbeGp^}UW{h!Px<BuCjp#R(JV7HJMrsZ|wY2~DkUL4&l71Z7>kY[0T<8[ebYOy^*T=n.7D]{%}BR15ir;%bX3~7r.:0iL678CR%`mP%==_MqyMp&J1K)T*r;4qyU.^U%?)d,c`gA><0yK;;<y~
X85,QI`IjOe1ZbEIQ&xBqPE_hz5KD]P!x#$8KhSc[G}!Phc#2e:qH;O&WprKjf)mn8^aa7368)Hcvi;]ik~x[E,0t:>5KccCztQd<TP$?C8+^pANVz{sLny4hYd|`d<m/(|f*QbhBCH$xZjZy/=yMI
U+n:*V2FJvg17#E<fPfPRES4mA.[UA&dMA([lq$:*v5vIP8m:8Z<v=Q~*.R`vcmVv4mo$xZ}i#q&g=H+W<0X0Ziz4qi}WoXxn$`;A0o7>x<k'yQ7PLee.c.0E8pTT3TnAZY8|72hPo?$:Wg_|B8,+x
s_NYZ<lys,o%hzBcmffgjv1N>YG{I<L}%pnaMqmHX{=zlz>u2k/D#+priT<(EMtRTtkwl$zk90>AJFr9(t&uIrm~Bi=Et,;Xtz.}(sIzA(Q)]6n<m4wy0EI</;RG4^o{z)z6s/H$o_C8,^#tRgSI7=
COdxGW]x6#(|IaJ`6j<oS4s?Pe7vDlNuS&m|.<$zo`9i9,,*YQVWZLBC<2mZYID[&+$n</3j2[YU]EFADy|2%6v~5&1/.|#EWSF_?OLMK}DhG9pTvNA,+*nl[QJCJ:)U'|MyL/%eoi_y](+6$)?yQ_
9+mhb}4p}p.jQ?>_U>[#vp#|?kK=cZ*bB&r(aZkwa$Pr:1d=PI2h:2F)OHQUj1Vr3#2QcP>2X/k#cj_(x?'/jQCP~[.7dR*[Gi#a!)g:CLw*SJ8f+NG[|%1,5K0&opsh~Ivs]z`<n1d{*$Tkl&&Goj
dj.>/^OT}N5>uCcMb1fp/=Yw?8>HpcfWG2n}x|2i,.!Ed_YVQl1,$Dm25:1{%>dCuhJ?I<g7/KMOChC{JTt'?<qW5)K_Ajl4T|9[.H(wbwwx;z#z_0K*4,m^$f&]#%0bOBiaVv|mNtOTPTnQ?Vwv2*
^m2ZlQjX]i[`rz`AYTu(9^pma/k#t_p[],ryE'gI9W=,E{3>WLgYiZ2Z%(:IV.DBG8o!V<>!tF[3F9j1+4n]EU]T*fb/':Cz_>J)RN9!s*vRuP&Oh=yYy|v8,Yantd?GD76F+qd3?.?t&_V./S'!e=
?/tl2o/eQ3$39[dGvR%2Vj:1d$7c_/}`nHH%:IA^d$%0$PSr.2CN0;^Vl&UC)5`1#H?r|7+J^yy35;wQ(zSfWw<3J^F2t8'GpzH{hhGNb]I7MbL5B}h,X:~=&FX<:*2}=/W,Bd^i+^1SXSh{:yr}Ae
EAx}[Bnk_v;E.e,oXBJmtLBZt8T^i9H4W9jzL+V*9(:B#ND(>8E3FifD<TElJ2'N*j>Pi^5fC=j7'Jas*t[E42EGCG2q}>!;w&nx+e1,w=z=S_rs4yYKYT{Nay}4n1XLj0_(xMK2dy,Hg17dp,%'8E
YiW<#a}aS`DYekuCV.+Z&)aWL)k~OO(i8kWNP,8UP^Mttmx(Uz;FQNr8LSXDB)W%XJ[ZZ$nDc'1T>%jJjJs]60c/!IeGlDvuZ$_(T2|h4%>K[($!k8M9?!%Q>x6bni;KRh}Hg>Fl[Qw=s^LE7WvMrz
2W9xx/.)*BW;KHM;)&O6:S18d/Hrw;Vko:tb:vrsmDq,|0,p|!c#cW'upY8]F#>k6X%3bnk[q4ehRO9B~I#ia{WU#bD5s&fH509}yZD/.e>T:TU}=Y*L1'm|hXczg<Y,:%z~i=e4j]Cocj:9W/4e0`
d'$owv%G4e&C$Sz6=:V0&oZlOoVzKDA+{sc)~(jc*YBv<]04r[N3U.pME|+UFQ5<PF%K`h<dA00*f>d7}z>eKS{=eoRwF&11GZCdv5^a#q<$%C,{g?O?U/n](^$b$t`m08JsKDx^;cO_vJ``.23H#e
.S8}a2<r1</S``Q)m1R!r)~/^[X*52D=UNIzx$iBU1ff&V^0wRg{^7P4gMM9|Qo{K_Wq;zNI^xX]<,]T83I27QN1L0F>E(0'K.I^!v)9q%qsgDrFoj7G7+?tOsY*:G,%7?a<Kx]O'LQOinZ/jQ=Za#
##]NQ`g~x1?wE3Ym9)JFlNK5L]uq7DpV19|a~=}2=`coPJHwucq[2O&Dt~o8}|;>/hM;w`&|1($F$<6i<`,(a|ly/coJnP]2wW|7K#ou7X[nXn=%=xuekfTXHw'z.t?%|.#,TzdYL=MnnpdzZQJ{?3
%Bpwv>R[10#j%oGaR*||.Yi,|m4&noxe6k+^)},`E_zL9dzMAsY9/_bFU7&SPBdl|9a<43qH4^l|YQolj'wZxmn)7j?/|fit9p23E;];HYSW:^;XT^,az<=K}'.i9H2gHXj2L3wD}gMgq8tBg&6Ebg
qy_tr&G3G&:b$5&y_EWMs24mxwpk&`*v67_Aw`i1pO+dA[1qdy_bi=8:vJ&s{8'[7?J?Z=.:`2Yf<n;?'=).7(PL<h0b|r9gqQhvM94/c,lATI}Mo/,VW`!0A[H(r{V5XRA_6vw'M;tIFb$bi1.Og#
:J%>4NCf)t]`tY6W9T%D_|kSIyQ02%*.p=~<ljNaw[4xyU,`7BN#z$$'%Zi^/69N_r%:'<;(f;Mc4M,nQ9rUExvG(l2Dq|;Cdr!#XmP;S*'gzQ/uTsX(+,r{~[vX$69HK:;'#Cpys6FS|u5fRPBliz
76>rift:Hg}hd~(/;YtCfLzdnJMC1!g|RLBRxk|6sg&7rP;Ak_X}K.Xfx9+}Dw%wg![C)hH.6<v!O5IzB|#aBH9B8RtH8~=[}Dg8i0#x=FWp$7$Wmow~UsyV;D'cfh<j|IQs}H8.[or<Q*p.}|Sj5M
pS,cC!E2eM^5&yOnZAtoNestF~I=I:I3MCUto34,h|dE~|+a/[*ig0q4$V(HR%yPM*JiQH.9wx8k]LI2<J#e(HuDo)TaudessATgI)45$p:p}moOWM!vumC$X9oL;#Xq9#5$`!DJ(t[QEqD#N0;%cy
v$6S};To]af:`Wy,41#,dmRH[$?qui~W?4r[<Yg{lgtFUeG'Q)QIz<<iZltD;}`5^Tl[g>W1ylTX/ky'K_$k7VHo+8guJ2kzGU54OK!$DEmpjt}:ls32J~F>Q:O)cG~l^TtcrIQFX>g?_A&XFAqXAR
{(t%7f$LoJZj/<[*D1kjG|[~~.ShcoRrg~pYXo)1CJ|5{Gz}k<zXKNbf1eu,oiRs+V}`k,kb&ew?e^r#Ii>}PXyCAZ3*p_{75oCgEhj$hW]DjV=bh?,3qN?mGsUd+b6jech:,chyk&:FyB^}s,W<Hr
c>JBGI0<s)`M_8kQ5rRaSOv&L=7K,a(:<SjUPrfl?G~n[EOwG;Q:>ExE3o1^uq!gN>!JknvP6Q_*aWQ2|/xql<Ah(/K!#9DiqVm=T;_.T?x<GlCO9(j_[,F,lV!1T7E_2lu4Q1[~,(gG)!R_c[)__R
8=6<M=}PYE&J$;|<Yw,SqPz.Un!gfLaAj2,!19gH}'.;Le]%wclPVs.%dGDh,!waBvCLYmzL!1ZmKFFJKP8kP%7^LPb(~92=*UFm4N{&xL&5NL`AW#t5uZN{/j)q]3BCP8uU5x161WaMWTV3D*q?6B
vTHdsvw~N0*.lGQ{t;Sngjk/BxOL|}/A+L:>=r.T9H}l_t`,|T9??ygc]aST3#J*0LjYJ7'H!B.=DsF|2^]Wck}/g%]N~`'yb_4L&Mky'_&F[:HrkR93Lb~G{U,;^]Q_a:Hn9H_/=tKG~bicT<pw1i
zK~+O%T[Wg|})Vl8{S,{WV$YF%_A`h~>1po5swm!2xtdgZ4{hkEu4t#w;$6urKPRAStcb%;9G>K'mG&:+|gxa{o40b^5H3SOK?hmHCg+opV(a#Jj})=ZNdNE4GTN{vs,4],0zBtmcPA*k~cM=56^6b
Uw8=La%)CvzjR+:vP:gb/amoG+z~V*:RL,RGNh#Hazd~yW6~xDtB)xhYpbe.57}7]P[$]=3Vk}nH4dM[HgAGy%6,FPwp2z6F]t#fy/ix'mkM{k9|N~gyZ5;<Do4%3)GUalu$Qu((/GEMFH%QGa_b'Z
H}b3cZaSh5Nblq($^]U+<>TunJ`e?!(fVVPulsl|~18nHl2n%N]_~G^]ktsDf!ys~SKDuDwX+uBw13afv3I6]UNm*(/,/DNX%2'j]2F<l;5N]I#%W2)tP/$(NeJd$L%h!Agd4g!=y;mv_Y*Qg0llin
Wzq_(<H%uFjY9c.xH5y0)R7ex|ZFha^LR)GFmc|IX%e&&1_mgr&_7<dmGL(437ETfKh8GZ>Qh$ZOl`2na{cjwXohLi}FP*wY;)=KeBL(OpZ'+'MJD}m4qFS5}Ky_nl$=2&'Po9:3<WtW3v)*CfRh9Q
#`tMMX|]wZ8~99,cq_3ncqJU#!9N``Zg%mmu!BM%wWT*sL_%h8,4ROb>f'WV$soR]Q%E!=vr4S=]2bLk&RZ6aB;?_w*p.RfB,%Ag83p0Beat!R|taU2#JmgfnlB$#j^%4pIMNDlpQd~Y,ee.)r_n^]
UF~7'Q&DV7:%{g?IR{un6YvS$Jz}Vysme]?&HxqK$CFZHK+W3m&K}),OG|xF+lteTnTfWp(ZV*b>.hwj/+Lc(r*UcSmkymqk4rYv[2277UFq}g_w|~PNpKYK/{mccFj'JROu_OoQD7>:<KyOc'&X%n
o<>d{|YS;TUJ3I}kBWc(Y0opT3$Cn^$:u,L=4_<3OZ,`!cD$}vDIS35D{>=16pu1rG%]E1hKLz14$2+]a^_r,a>p[~,)[vS?q!fmHnxJ#hU^|7*J0vBo_[9?A}=;tBG6'C_?h*sBJx{G*&H!d(mn:Y
!eUR)AXj~W8|:rSro?8l>W1<9wBxL;?goNWDEfb.H[}XCQZ<'X!y!A_C*jgFJUOFx#z(7!v/Oc/}]&s|:8u<AD)zSn]t_U5(K4tK^/'1SOE#/XihkCb6_ZSe?+)=>*R{Cp#;X9}*L'm,8^KX:u;!E]
m=S[hAMeo,)u1aR|!(Hs>#(:xM&F~X(;8cHCr_rOhMz*lIQ(s3HbUjg>6Ze>M&efW^,2flXIo<p.g3|=6e?eF*x1:_[DZ;~xQw*)O37AQ0G]w1_95x)9KO{(Nc#dUH<+YjYB.jjJ/XTa)ZVfydF..B
8;IRpNkzJ1K'riYj/N7sS}Rszn|C,wWC`zNOMHG?eR:d?g9PAo<'.Yql;B2*0+`R1^9xMIxN~DTd6$kXr~j_[HkAuo<c)+T~DIG[{S6s(3v.`)M3E;99pq[REh0.?RB6j5#6c13{?+(7y*6Gg7%866
{JvHAiMN++Np3A3Fn99`.jFR2qnDC]m9Mn##TbxI</Z4par#uFcrm$5CITsdNUjy]*2FJ`Q=DN.Qn1z;D_F~GjF&5Jl!;|*m$a}:9'^b.J(T9{l3({Hs!)m&xR<#p5~UMTh,7JPVRz?e?~LH+el}>?
Xmupdkh=BMue[Id4R>M.g}>5kUBOyTESx5qo1)$S<EQ<N8&<h9H6QjtvtTO.!44CUiZaHUDG1clVv:~nvVvM86E+f]~7~GYujdqC),hCo^lXi]Z72oiNg[dBNrTUav^,Ukp4Xf|F7S!4]zi%#sk8{d
H*_8l}n>)S!.Lew|5Qo&)%36w&;c5YIz`AdQ0czVRp05g;Ud{zk7YLD;Z3b!rWYsX7{f%QmnX.Y~6IK'QxU|9b%yW)hyG^AvShe9$QB)DaF~jF^6={rWD96;0?OLS}s;]:{B92^gyiLoaEJBisK;(&
?P7UK/QY}yB8rM>8/%es'Ch~gDCs23m1b)`vp.Z'/[G_+!kMkP?l$s3w}DX%F(>p+O2j<ELK}V5D*`~S0U7WdttVeL;I&{=a$O<jjE?`XvaC_Wj*p/I]IbJR};`rie?TKxX>Q?vCALZ70H%lzeGRGs
i}h4PabK]B*YCd%>^0[1[nuemXW9k5^{5p;~+xy)/yJ+Q7S7*ak{}c;VZo5TE4Qk71m`x#~JU6oS[c`48z^rc9*!Ldk0tGs,{AqW!5%b]<m`t6B)kJh6F|I((qq<c|o(1OP.kC(&5MRlf:>BKZ$CMy
x~m*>h#sCcgn[WF0J/6QMwJfm})f~?WNqIiglW6q_q$Ku%tK$x2[u[rYW%!0XO,yDlA]_A:3wTm|6*CXk(Sgpz>A|05Zstw[7(H9}|=u?MQe?A)768wxxham{V_p;bD^u|fDZSq^^RgqFp|tQhA<rs
+)>FLzh>%b,vj0Hj*YpePA+4FM7TNk*rb;xMFDEEQmjJ(X~mo>553K<?p8:'4;qq))2^sI0jMo0Rx>SQYT(|1A3c)5>f()r'E{<[{=_.]8<SrqkaBl|h#8:w_qXpdutJ'O(<M*EtD=ahcYCI;_&ML'
D+t.3ip1p/&^WbU+&pF*u$A_b,OMvV#Xw[e1Dq~HNl`::]:`kB`fm^chnT8WEaZjyiQ?iX)`X85TTR_#VTMsnF*smyXCWYttH.jC*od`!~.F2gF<H*T9aSkPle$<$5^63+}LD9fm+u76+mrZNgMeyI
e8<OdV.Kbq5/ku<E`(V^WhZ_3Ni|nYut6^S`J)Z!,ckArL>>:.uZkm2#{8SSt8}(t69lDM(*|+n+|x=q0j+u2&'5hA~.X+,XT))YK|pQp)ac]IyGj$x|r[c?KBJ&=%uE9s^,KU3L'ux3c<[;^B64Lu
aZrpk+z*R4uVFdZ{Urfjb/?H=HJ<ZlaOd[LR3?Yv<lPIe^0/d10qr!7)DZ9BFC_TVrRCY5bBoz6AAc$M0X:8.`cTU8G[iXvd=uI2pI*[SZI,G?mbpD?f1j#gnVLAZ+7KNR&Uxr:BC'<}Oa3EZ3]M/r
%reCfpbGgt.q:,ppTTJ}<XW+X.<K`{pP<Vrk>xSTyjzp+]v&s4TfGPx#$vDyTON9^/P<o45pJm)eA5{dhL=V9ARQ]3p&E*3dg*6VdEktW;zC~*yLvxeMfhMuyB8Y4m/|:lBVlCT=#*6Nip4Fs*{{XO
zVckEj]qB_<%6p5vK%M#W7)D?F48FXZ(NhlNfG3TxMMvJ!I)>*G]v3hZ'(h2?vh`To4pX_1+<YOlk~:ufZ)bW%R8N=.a{MZcX]e5#N`[B_K7{5#m,^_Tz%7#.#T#b^^R88W|+qrC$U1D0aft&j?f~p
vdMS6`&(9U[/CoiThh},29:}8YjZd_W/j9j2y+)L%tA9yq2H$>oujd,2j%`lE'Z<yiF9C(%p0S;gL[VL+OPHT[:F*_u*TJlg&vZVlaW)]f#Z'qGtQ^ZsXRy'#O;1&It+^SGdxyP}P5v;Wb;osSFy*P
+4c4{/ysG,i+r:Z/90v,>LV{/+O/7WdTy0Cq,5=yDXfRIuwlJ/m5JjJ8!_YatE2(Nye,~sPAWz*{nVMEdyn5tqtD>Qtiao0^s|A0=VE}5q}Dn,}7z*)gBjP1(b?<31{imE8.#0QE'hA=P>n|4Fx.Um
m'YKFxV3WX.J%;r*H#_GE}xUg'[9<AdwPI7w^gF8q;b^`uR%l}5DL$W;zA!bGG{#mRNkY71'[c`fo`ARzF]Hv{xr?qKFX}0fS1E|WCGN.u~;~7e5avjByaQs,mbo]gC%h*2)7r$^m}ZQ[9P!_2.4l2
V>.]6E9.!FV^4{^b*nf560d[1V}A363Qq>,pU&Hu:HxtwTD!Xmla2eDXqR0QADk&>,j|15]z]{*RE<q&h1jV][qc0~MP2jP<Nu'5t?CNMV`0I'Z5Wv.rULZf65;},$/B|+C3AJbk6b?Zie6Ean{HJ{
K}8mlF#[w3rs2M9egIU/K$&[QZ%dsqU[n)]M^#cqHscM2(zF)P#31G>0q/?+pA8,/YUO^Wvk8`d/l1+(`'&7F``k=8`2Yp!eL9|zz5S!Tcnwo^iTrTRjOjA?hijkt8~;|3['.([dXp::=kxAVqu3n9
z*W$&9l;4%w[_*oLS'Ve9?T^c'`*}AE(/k'O^y`+aB.V&9SX><uDB_pB2;w?x?p(_`Yfi<#*Aem>e~akqk55AEj=>C[k]ovY_y?<X2j==fQ6T,`ZWvy'a,D`a~5|2nGuxD$l[JY1?#/=F*d8LN=q/2
rhUyz.#~u4+!DlreUb!1K}w=w$m0|k|4#fk,Nx<lADF8G14&nZ8E?.#xE4OKJ8hS6`uUV_t5]FB1e.as8;GA/ujI.?K:I|su7!z,J);)4Z#IJ!jf!jdbu#`bqQK^*4u0my%(Rk#nzZA}C(;EWa{}NJ
co.:PCCp&kl/naSm15(haDDQ_;fLln6bc^sLztyZWjf^bv3(?H?]v(1iu'5Ec6^T<g;S0HU.E8iITk%[,JdojGTb)HigWP,;ec?XT=d,j2~C8|:.C/Atw!I0+Q^2v56bO7pw1FN&Ya?ZHI2TtL3oM!
pRV15bBeC;~6_G*HL?y{A=bmK3Nb))1eI4?IR#CYXWS=0REcXl1G0$f<!!w4m=anZ6|YS?Jye45g7#l*xMM92)%!;m%ndAgZC4(>x3aiGWwKtqKxYe2<8A#e._6|k``aVnD2Lqj0NNy8GeX#/L]yT'
Z0WNPB]_Q%;i*|h1r$Kp`~7(XYfsF{sS&dxt[2[&*|Z#k$u+`|0TG[%cw7}CVRT%OrwQ92E(cg7OqFuzp`n^OCM.<GTm{bYqu>DMP=.PT2up1E(/o|+`ViH#oc/jlt?V3*v4}dr0/}SY2H&^xh01DJ
AW7tS&q2QQ{ZK+`>SQApVbTos_wr)1N)~#S'TY{LBt.Z!Wbp<(na3Tk!r1ko.6t|*%4nGztC7dUINkvnPO?)?5?v]fw+NGJnT8*QMbjsk>}>zk%64FJ;g7fTw{*LsgYL*0HCQcyM$(^Ka_,fmDxC2e
v3izq<7_5#6l:r>T|3~AWs$}1Fz0Z<kq;,pEN3^83rM[ByYP3*$yIGw;Zti*zx;FhAo+vuW>{L{YKe!gl8e?cg|h~Cx},xr8P+7Ut0bm&2.D3[7SmP%4K^cgNpj4Ja`<Bo3,hYV`z&3|i{'!OI6!P,
u(%ZsU5DEINM)Yo((=2D.2ji/?Oi2eH$(p5:4[doZWeL<|++1`Bsz{3/(O8Ue.Ilad`]E'HA&<Et$nl>QX};gLQ$pRD`N9l'Vjdt'B:F)Z<N>v{~uzNAb_L<]s&_P$.m<C3h]I0P9sH%CNI0/bSm0U
+Qo1Zy,{+l}M#+l77'/6}+A&6<_Ybv;%;a<9=s:P:oJTRzMP`9Q:T/&f,AQ?ARqnQ'h[*c]X*~6</Z.U*H+HCb1[v62|^(p5p!|kmDpkZO*CL(CJx*sT9fv*_~,KW|t>l,NHy2!vQ_2N0`~~}m*CtT
<rrjx^u/>y+IN&*`Q4U24=g%h+UsIX_?/t3EkdCUv^9($[fQ'zf&~,W1$0S9b!$JXG^ld6PLxY*XKJ_E/_91!NFRAn1Fp_G0luvSJJ.~KhvUpMOolFOUXr2,l*Bzd51=VXN|nTn(PwS'0*gDZR35[3
z/PO&?SqKK%tuT2|$zNwI##<umU8%:x(5jL0kQX/cgt*r):mMH/[wsz{XOQv*dI(qg?`EfnyK97EL<}%nFYw_/oi>uE*.FmV[?+|dI{+[Qidl5,Cn`v~mGZ9CIa!46]DCccq7,'3qtF=lYu=n#'$cB
oj(r?zc!``l+Tg<+hKRo'oO21z,E&|ytqHmUyNUdqi&>&f%'G93wmSRHFo6b12O`EU3ocs`;ob1QghkJ?X3HHYf`A'g:OZRYrX'xo**^auZ>djtt83Zp4`Kt;|J^K<kw,UGqzcbYyOfrdcN.S_w<j<
QK)tjzlHm!F%9rI:Hl/+li9bMl:!_S*CrC!KqME8]rsANKGs)zjR9wT9h$va+QlEl1A*[.1fb%VQBD&IqhPh5;ntc0{fth:Nzk#;6r<hvM%01H$E`4_JG{c9kVV%YKWxf<[cU8}{%v[{QLNz84_~*.
v??9UT8TtW72>7gd_Mb.R$2#Xkeu$p#0t'336QhD;L/dR1jMD;j^ee(~VJ{]N~%#3kRV>rQTG]|tI2.{N#3MJIdk`3mUS9uQ4CMqi,xejtKQ}KUmb^cLr6^5ONjFUC2iDs9rE?z[+b!,cb#t^|?n'E
`Cao~4?3')5g?m[.18?$U5$%3;'Fll+7!6BX'eY3<N%IUT`ykUAc|>OHth|4DQ^fmGczwc{|R4])73bhgeanGYS&frn%0sSA_T>#LL^Q_#B1Rm]pOjClDh#q4qh?n[uU~6YigPcjNiy_Q>9!;Xr/dj
iQ;}l^r$MxGlbvl>Tlf+*lqoF:Jlb&C3J{4a1c>7#UQ>Hgy[MFa#DN(X|Tqm,,4m1n=:0`m;e`a:Rm?:>SipdPEG]~GWa#S$!G+_D<q2Sd|Gg%oKD7&?Fc!<sR!b6Ik<<G;2slE(sQ6>UPJ$2:vEvr
}_+os#}NgZhRPra<F(DB!sE~tzXYY?HryC9ZK=eyJ.MU>Lz,R#zmD`V_{E<YY&o[;qyx|U~wF+F7zh,(O/Ul*_].bp_Fajzjw_e,ttkpI^*;Yf,W$,RBecy68qkjm^R+pl$r?}G]7~+eZ61erd,;1x
vr^.T(k/J{b^C6XGk=##/H,(p|s4u(.JKYRh7B.~6)Ito2KYbR!=T4Hnk..pp[8{{)FrO;/JOJ:!%s{jc72Ew,.Q+Tf~D~yK<:k'BPTRuqZyn]a[=Xe>+(T%N_HDy_5PkB?;gPC`+nm'jZ`RG?W73R
DAECtz<cKCP>IoHO+frhc<sF(k5o]<KtiVX=`,&U>8e#}$;cfLi1du6Ep~T_eiDRZ0KXkXy=!bG)i_KzLD^$$]OE*5WleQT}pRZ+uS_SdMe9;fHCu/:^Z9lp(8I&q|IIu`c79WTx+3iQK11'4,nRY1
D71fy_dB>45;]4(gGvKT1y>^~Ku0,:4(Sz[1XX;n81$B`m|[V0!tMK6spn.eu;',1uXw/'cF40Yyk;lz~KI^vHJ~B.8p}~tfk.'x$cR$MnRK|GsnIAql*{k)S'VQuk4OOt['7pT'rRwiou?|X>X+Ud
pg<f$iyGm0o8cep(=|j&GoDm)&ZP_kDS_Y_:R6(!t9q5x]rl.<[L%7zYBH%Bs$n*2c+jOnz<E*o}xC~Ij>^yIeU(4qu)_F<Ia~w%E?S)x8z$/fsW^e;9db,nym~<{IDw+(RZt9W82Am7~f|AgcDP*u
pyW_#:A(FV()`57'odi^.jR6ssZDU1^_^l|ckd[$zUj2~]'yze:lzp^5$NkYp6L_]3c9|WD::YFL,)T=7*UkHbo?p}]>c|$/n}tYOvm4kUr!$p8Mho+.MBh%:iy^~>HJPW00}qz=7%j|RWNWN6W`7|
=:4[DG#3CXEx_I]4v)S/5xp'lk}}{'iTV|v5t3_L!Xnpt4o:Eg`3Uk7^qP~)`;F=/hxKGa$F_ZYShHyBq~Uf2&97;bK~Q,5!8p/uWebd<fh~[;WP&$o7Y%7~*0G:YWXlt:sk=*OhDa5)s$BN3tXMA~
36*7<Y<_gTp(SQ.Y~|5yr*Nig0hI]a`x~kw|'ZnC!Qz5=Y*8^_sk7}M1AcX]b=)V]E`]R=~2CU/:I/8b.pg>i.G8ZaJdG.by1PHf8ojtJ_3:XYTCb3|g=Hv:0*A[R;'I%HZDv'C2WqxF'vlCo{m?_*
Y?G4:Rp,xl$`9~2aP,n<j:L0.}6&oVT2M'<B[MtcXwJ;+QuFG#}F39Ft=R)8kNd1{1RKl<~on6.vEX1<n)p+}/KOWAor+=+Xzsr#S*Ey*/d5[;X~('F_2U[BJ`t+#H!8'9xfTZ8DX{`WU,0;%nW%jN
+uR]n&>7MrEbb4.'X,)Y$v,W}$.(hd})5#lhHvoB6)VDL5{?LRg^.|O}T5DwL6lOxGg'R2vy=tykm_q`S)e&Np9|Y>NFRv1]:<+.He8[]c'aXm(G!s0wkU:QA$Beg8J`z%(kb,`w%*mM/:4]${'Ik3
cksbg2GGL[T2tF!xF>9'`~A,N<8ho%;;,^<}0m<Ie#nyv&32G9r*B_<<1:O^PA,owsqxgSs$A?I.p:}zruN2Fs{Ep31AKrpfxR*O8n>wEV*EGb#tL^#)4qrwz:K5oK]:rHsb?k%_^]Om8v[BP8va:+
[M^e`dJMN^[Dx'ARlvG*<]l{um2hkZe|o/#xZ+Cc.Ze9#9WcNwy=H*`2_1bR%5#msEn4N{74tGUk$LaK[=pm74UZ~g`GB<#D2wBgyL*fKA,v5rxfDR$s1)yA!C>b8vsQ:u*fqS2lV>{ppxE1kbOfhH
uVE^</RhGQhgvxqtRu&D4Y;1__RJ^yiB]2.6%f#k<IVgPfkgpqHNZ>q?ku,_=.>mj~^:<1,=zpKZ!OU`FJB~cU*'4~3|X,XKNk}D2C5p17xh%aqX!<kO>^C}hLzq^#7]{v7teLmOy5M>>^9*7e&cyp
LUQ8flZ]*bszFj*7[f,%G|s%1lJpO*ud6ZDv37BcUEV]:ssw/_`?=%>Kg{2zOk1kc$H=6y<zEd|ej3qor~r1l5l;/~S[WKo3]`m34T7Huc/VOGm:Th=c/*KlG>+OLs3+VQ8>3Z+{Kyt4UhWd%YGgwp
ZR<o<G4LoSCL<x]dY$Ir,B!fI75_iN'OS`SbPeXfSzDl261GUa,U_pyO$i]~?N>B0F+.q!Jg2,VJ6pEz;ln7>hhW}(Q!GK^!dX<tQ4+xkRcd^MMF^:nXLFb0!?=m79MG't/Fx^]cc!!hP]s6C<J4&,
DyE}2y*r[TN^D^_s(~5~ra<`az4&,%2!p61]DPm%/^n'Bc$dw>M*Xr3,V*QvPZaP?:%M8`VS)X#]3v+6%~Mq;e~pVL0ZjBHkXqwbO]+I:q`Z$Ej;|$c>pHQ=g`4&iL]_FeCVQyqKq6V:/=,3)S<EcS
K3cb%)%huLh4:]kFoUWeG+v*3+s::dakbdOkkI)I7kG5U|,8+3>{eY(:Ic#bBIMRA946&*/{ZF,Mr/kgVPC6_/lZ]~4O7FI4u1/Ct;LG5)|oj!(F$nFaV6JxQ%aP=#:6+4<5Pb+/n;Jv;QT97UINQt
Ylz~Z}wydZd4q?Dpfj?}1PO7&]p[Dz(:X]6JZ#Tt)ioM5vB;Cd$yb]iS5R*KP+Y,ajdS(6mqYbbRO<lcvNQqMng^Y!P4k.oW/Z;'mVh7]'#n|~mA4T?$W`QR),Y~~dpJsakSV{[/S]<~tE1:xQ>&;]
{Z9A<IR!<rTsgo2Q*q2FK8>b~pA:[rAe^qIeG2fZ[b((j/m(RYofu!S9kblv%^iaw'tfoc?y,%}ZxNNuTKQjW]OU+E}N|2Bb]i[g|!$bKGEx=(B_|cw5&VLxG8M2~%rIP*QMRyq^fWYp8V:_Gp=SV#
5R'#};|xqN*.f.xW)7k3?5TbignjRRy|I5LPs:iG[^,Vewr2[X1L$PLS4qCuI*_^EIn.#Pzgu4]N|<|'+yJol6.D!?X:.11nMm=,w0N$bI)OJ<(z|bV,cCquI+c56ERaNi61JW`,XR?$$*_QB9`[=T
IIUDO9Gok)_ta,f]rmBF?aplBug%DwWQnVxG{`%'BJw^l~lQ8/0;zm>}XCj^9dCjW8zgy*J14P1L}ueHH<GP^2*=HfA#cESd($m]~rEo]Uz79RKqWOxt=5UGn_60LkuNQ?K2*di0J/${qg?{'FM%gV
deYUUIfvt|pd+YHS~}EpM}tDU]*EBZ?}TnDv#axq/w_#mN?ad9)aw8=,,S+[nb[:$V3TpAEcQ<K#=cLV$8j?]d|!%A^gY(QHr.k0;:`Wo=e}c]>xfSx[^*&lc+q%.Z17xrOU!*i27dW:yCip^us*95
~X[Fti{MU%M/ln=DuVX9voxkMI8q*tI29j78U8V03f.We&k(B~)u7C}E$W~B;s=0VWdnQU*R/])T$31dJxXe}:04Tw;>LwM7l+ovvTzEooQXE#jtr_o?t/Ld!c}GXI|S=dCQ7q5F=ashRX?1.Y;3*t
|pkywpDS[#a0eHz'oKu7uha'7Rj~s##=q;t/m^Nnfm3/L^gx8Q1.:JtdArNQmz0ml+L_4[f6an><cU$G/)JS<e;$`ts)l4wva7BVQyR'^)CiVO*vh/yF6>PxF|sf:0Y;MsyBGQx?sBN{2MRTT5auZ[
Xd2slU:l?}Hp>W:{s1=t6PC%uCJ`7oiaU+GSJ2MHH|^o)m+HVk!US&{YfY2!$J1BC=KRVS_glb=zb=cEu/]PzLxScCDw8EW.&Hoy:]tc%1BfQE+a&*LNSrY1~LORP.vOFi_rg7Kg(Dzq*VvKdyd.c#
%!53#N7vBP[UZ9hiuvw?gT>%Z,$t`eXd#Yi3dev]2RfyaOOzanT]fO/Me;WWU>F`cz0uplXyaN)[r)_)YS~4OvL[>4moX9?1[;;Mj<',gFhW5?DA7<!me::Ca=Te&K)_AcU.92HSstWQEZ&`30%KG<
ndt6>o2c[G:qHN:U+m*9GmfRH3<J?G[)?eR/aLS:T=0Jlm.)3B^$?i4l0!'AQrnG%:X$Gf.YWy5p,KK]$wa)Gz1pBbdT8%p|2sM|ic#4QvO.K9<xl6c+G%)q=^3qmPWfdxN^mKh59!.oC`&<ngI]K?
PsT*$i^)%A)VTo8FH[vUpl'34Ezf.Ox3_oHkK:293{4?93Stbr(2/'q?Qjpb9'A|$uMsqs9wz3R37h%lV`<*x{:z`Xi+d1elj5f3p0jzmOC}aD:fMD77G+~?#`^}J!Np9A`{%y<+oOz+d`}Sd.o]xL
v&=gp#:<'Z7$QjWunP^4ZQ{?e.XU4*9*}AYG'2q./GnYN[jaJ2)e!`El$A{0f2VHa6fV?9%MX_sj!q64T9&hQi.JtcFOH{IM}aETwMhQ}?2D<uGT~xUipu`ulx|N#ETIz#1g?d.6^TLTtx(h$y3Ke<
VC,I227a%:/wt+b](t(YU0F:fE/:ILBD<[rZa7~`NL2?UQ;YfvwA+pjOI5oMg|p$`?3i&(H(/;OSSM((lPYI_rkB]XVI8od*m}iF`lh%:?KT3zZ6wNi,HruJp_v<uoj1*Ku:46D%}<R'XiSOvVI.Wi
uztE~tLyidL``FAk?^r~Y,a*gfuo}02{l/ay9B#~52?b~pMXPs%#zRs<V7V/Xp<%JZte2`;7:A~^%_VGwo&))Kw%g~)_yb&PMYDR{k7rv1L3'sCC2,n`C1G:ydfJ3BxOnbyUS9?E9x!MLw3)91gwTI
hQ<9NvazIWMRvsq*(%Ur3zMY5M_/Hf6DVfM(&A+.K3qznI(W;u9%,9A^s2^#|=3{I)SL8~h>5;]l#J'j{5/<7[4?q>65Z)|NwivABZW$=:St&+!l#xoKsV?pOc8Oq>=LP~%/RF+>r/]_0vr=Y0|L2$
C~aw0]l:z*RltlW;4?sOP(&kV``(1e8_XG#yPWa0lHGslw'xG*0Y}/r]vebf>X~_t2A^0AsXj}JIi^SX;Go1u$SQp7w)r}nJ.v%9(6Cw,f2B/==;;2/$o|'>B+dUo`&csO[a()/Nd=uPW)leXR2Nu*
'#k9ICRsP4[J(#e=4|fUf*Csif'0j's=`tk}hr6P9Adw*}D#[8wV+;[)rNE)UUCaY_6v!VM;^l<YRP3HNp*/H2<U$+a,Nx^J2o1Lyiv=K1M^Xzmo{Tn_5m#AqrfEU|}f9#Rui.M~KiC(qhK?ue]j~S
+ViS&cw9%T7#jSl?O}!{R`HKk_*[bKKCuX0x63>N$&T=iO`Hk:;J>mPMkX!>=RX9[8_aZzjo1Fk#sAlUQh^Tz]u5wK(~Tsv4~]6!=jxQIL~SqIzB;wGs_`t4|PB25F6vS*dc9<Xbj6xh9xnr}.f71G
5b6bqwsF_C]r.EsBfpDA<[e(K`%{c'{C[ytGLLvZ&s/Gz1isxNroIlfX1Wt%;bbL3#Fo1OZ,/'D_!=17?^~t5;T133?]KH{0MK7_uIl~s%NOKI$w`P45oTuzH`R'ZV(4|0iobj(NMKjiQ1y|GQ=aJ)
B]*Sx,tiB2|$A{jNDNQh/)*349+=2u^M[`Nq~~F$}woY?A=*P4f{?[z4$I^1L!?IWeI*.WA)bt/]AQ#GqihbPAN,3BjW_qxpy)'uw,pN_Oy9er[>TRvS0v<nhN^(Ih+B$9:|3+]sz9w0Qx1IM,O}T!
[em+>Mf_>1o.X`1;>Wa2:BZ~&1$Ar..nlJ~4yIOKVn!%k<nE`J^m(FOqz<Ww{hZKM'm*OBZhtFJ]rJsa]mp~PMlg0>FerWYRDLW4Y:|.$IA~2{'O0qd)TGqMBGrw1:ySqTRzNp!r4mW/vC^ZGqt/1'
S$Q!falVKpGS:6PDYQ1)+>eJuG2,K1JoX/U;<1me*V[HRKIo91:T0~j|DIx<+]C?tB%*'J9qPu4KqLYPG7C%BNNg0=pWcTeBW8[pot6sw#dEQlC,S2osW4#L1E$VT21z!lD!|OS5^ilOb)unlqubKi
Z/*IvK|SO+xhf[ml#uhr|)A#e)`'cHDqfPu3OAwl*V=?x8E&3WP;`l(4m$<aEBKp>a=sb$OEaH`6(b9Dc$;A:_+evxA`9O)KTH4:vy6DHi'<q}tj&M|PxG/hgK;/`.G$Y^(%q9i]siY7=eYoQY6$WL
p#Es~|eSLv^7}up%ck#]'=uN%Hyc`VG:?.Ss:;IdRn]Mre1!eEa,MQGw^]NfpZ[s:]N;KI*{2faB2kbbE=AXY]/:;`PscB^s=I?ysDz~W?M7pfmOVGSH7pxFR))g/JwkPJ^$p|E;>WK<6WC.r|[B`Y
xY:7an`n:T*Y&JLj;I'H?;wroHCQ!MD_9#!0_hXp%UreKev~JO/;Ri}q+6W.rWG?j!uqAotF&dCE{H)I057?f/o,Tu(`Z4~3vQm*^&?1A/K,pX36H'/s;zjTpQ#xwP^lF4X9U)z3wcYO:HTLLFq`f8
2b;K%zj28mW]/=P%)PYFShu1C1T}60HSv2mngbS&&4}};>zsiI$c68{JqPf.SjAnW<,Sg7w<:{P'Ten<v8',ufnx9L0c|q]19atCtNuD}$JWNCz|>O{Cxb#y]'rZ%AI'Fxg]Ba<d<e[w6BMG`|nm,^
+qY)`Ds0R~)+[G8wEpEB[OLlNe=:U{.[$~?XNI$1ky:Gq:s2tq=vEqN/>EkaZ1>)T[=X~yiK=D!`9+RZ3E+GU/GFXgf#%)cIR<:i^=`21M6[z}AHaYX(dJRyoTDv#!TCzQ}0HG.XfO^MwG10{3~q9/
$,Y10M&'I/gp{/E+D0P)]26dAp(/D7'$C!L5eX65ymz.t&2ioGg8b[AJG1!K)+:{_Zg~G`bk}]I8bZb$=qd?DdFeojh8,D>]v$YBM{5{IeQGf9if)]5H_u4TEzT8+PvglIZJ%AOPuALs333mzhMVOP
P_1M;hZKQ1qgvVb<yE&iv#Nq^qWvHD||5j)A3&9N=}&1?p__szEEr)#KB3T$Z|FRGNV.54,|_~GPoFK7/RS{82,X?sh5k,G5ir<j:tAT5EqY*2=7K<82JLb{.`i#/jE8XjxCWGU'.iw1w?~Qg<iBqx
x[#tk0nmJ&>%d[QU]:~SdkkD&cHvp}&~:nGxnTltAoq0v|)/HbavjLZMx$SJk#RxOZ'Gha{U#0)[^.'a*V0;nrJZ8G:%*H']Bm;c}RvjiTW[(LkwE2ArI(%!Nst+G80Kh{3oD!/QlfEre=#brvIaEZ
C^rN:~+21)8eR^oV:5eC,Q<]L)G;{0Q,iWo`{g,D9%G3NLd[6&#DKk4MXpcT*S/b#AG?J3EQc.{+Q[ZQ,Yud(HKiro{`?^$`>Br)%|Nyd#!/8G4q9<:Hq'Pe)56qyXZp:m#>lvjr_$4lebwy{Z$yyj
6r'EqQ2uakg:k%1UU#rw'.tZRLq[<(wU#*,>']>P4y(Up?I:?9FDne$Z<q{ZBfh/D|/nd:?]hS).z_EMSRiF}pr2os(uX?+lMXf~&$$HM]vG%#q__Jqr4Op~e`.t<!nqh0OcjhztD_SBM7VnH=hq?X
(V)1q`yB{&iis=AH]Z>j|8/ZZlom`w`8##F6YMU+0c*m5u.)kcwpJe9WOphO^exWO[o/dv2I1|f+}3!kDyAW9X*Rkh0c:umaZBFRTCh^IohF<pFz_O#Cz*Cc}E)qbfBKMAp}dt69=spk!BTLs?_PO5
P[.6*^R<PS6m0>*JvJ+Y]qX8OI8z2N8>Q|xuA&SE$E/mf<|^^aqWpCXH|b,8F7S^dQeer`~:)Kigdz<U<Y8Yam,j&VBx_8jMUoE&D$!mXPel2y+o&W$.*],1zcR`P5Yxd4PshyJ_.Ls$<&,s9tYO(!
.M.^o&vXtSe:#X/2IH1,kHNAdsLp;y)zXCpoI)p{'o~Ge.P!21M5iZD5ht1^G.gUqfx|ftr4HmOTx%>9X2/z`T|p}3=xDl_B4Jzqbu8I+L'thQ*B?~rr)4UMLxU6$D$ZTAc1P+Qz;$+zonV{mc$z.*
NqY:AXJZSX9tbTjc:9?I'lF718~>g#u;?T*:GmS%.h1Z*5s;9=m!`AIp'xWR;L)aR`0'4VML<.$*1g>(>d`3UU:Zv:H.1,C7`;O)O=FAy<ZOtrT*g^/7h69xFHnRuOY,t(+nsY`+0$Gp[jN2[7QHT^
fj$HL>4U(dn2/{P=VoC/>'qCF6X,^?i%Q(^](uY?:*`]#]h;J=56R4yx%B!FqE[(sDR<YnO~%LTh[^ym{x.3>Ad0>^J<Do~4'H>$5PPii8{4~dW6R+EsLWJg(44JL#iI[euesBQYLcT;F:S5Dgw8or
~G6,,db4~b<{j<}Zn*KYHjtGvF5`:Fbtz{bc6s/Cp1O^'F.K601E?`([=HQ(`jtgaWvo[^u+gE]5z3QXFV.]G^GN+Tc>Z&>ohfX~CRqzetiQ:yUa#f7^.4%pUY(oC8iqGF./Nt#=)dL<P;=,aC:{kE
]otw84atkxkib5GdG7nN~S&sUm`bgszvBSPw[n#).gcHu#_}BRH%?4lCn+jt9Be|lqcS#u3jc+7U_K6QkTCx6uSelNLhq#aYI,J(Cnj3*1u|*:&>.YgYfER8$YggOR>`aUJS78vP<UpKndvCt13kt4
y.6WRZ*K_)?Rt.N?B$U03VxW_f1NbPc*[d;:W<VC6h}EeKB]ZZM761LR|ln+7mh9Nki_jelq[v$D88GyLBD>EH:KyVvg.3.rId43V<q}_e`AJigFp6bTC3I:8rbPOY3Fj0S4l_K%W9]+Zmu3]9(}E^
V)c'p3O5{PkSu[Z|)!A4g`.h%vgob59,*w:A{<<BIbw.mwGuwO?Fmu/U1%PNxaa;l:y^LfLMHKg#/;:*t.=C!am|ju6QWBEDb:rN^~$bTCU_g0+|$2M}Wob,odQt{q&'oq7P,B1hR%qC,huF$l,uL1
o}{UD:Q>$1Run5Z6/yLASZGvazv=e|aa?|vZ;73e(ZI?I!5V8b(%0Gk^5_w!X]H$e7<0CVy?|#.Lm|6&iPQJ>{_n'1P$278s!N6u!*L^>2R9lS2K%8wH>|JaR2D~2$zAYU}5tRH{Y+u*yEk%dWF_b|
HTy_G/:E]D>HsebgD&0A~Ln7#,TVyxD6I^}mC!Gklhk5vcy*%O*L(y}=Ieck5;$VG.XfaP&8J=%V<^7Y>x}9^c.tL,AE:m'4<S<gv5u`O.~$mo}?^x106{X::8G7kz_qG~}(ykZfvR>|QI!t6F~)TK
+Zm5UP!K#]%VbsY,dVvR?(Q]8sc5H<b,FE3x!uu!=+T1K2{zv*Jw/XhVOh$Z`9_:X4BA&G[25q;/pmbT/kFpzyn1|cvzU)6r8E&/]tQ.>4E/=R=+'=*m'U!Xb*%Y7mKZ+JR_`KK&4=edk,Sb]'<MH?
G)0.!1y`*lsF'uf)6|*8}_]Jl.4v|=a#$<!nok}9)#ml:vO=#,?TE1rIFkt%y7q}o1~?:/1n}og|1C.bl3`a$EsACt^ewrQXKR]2=oX;DFo`x1f4pbl>G;nkb`eP~q})3JNifS|L}tgF;ze9Ael?Ng
eYT]9jzqiWoBg+hGm4K$a&GaN0BDQ#z>CZ!&F5mleI#bT+OTM4_5~JU>NW_uBX#++eG4;)WtZ*aou0a6M!<WGmkCO2O/T7JnG9?B62iJy/`o%=SDAS&ujbpL(A<Opt;!uh_lZPc)n>wZqpknjY*gb]
pV?}Q(V(Kf`:F9qZ#35WUoMTBg;}|ZB^';(O3ct[)IR}x~T=_ygi);tcd4*oDlW1BG5dfE!VF.:uFREFd_R^~:y/2<nAJtj8IhnP`pxClr8wL04_+=hg?vEnv6wbx!{zL|}m#S,92:^e0Ks0M*}.9#
LnF]A/I1CLcPA0]:[99od(KF8CCs:5)k}TmRV%g4b}&ro.oVPlGou}33W0tcx)~,*iGyHr`H)AP;_O/i|V6Gzfs1A1}{i4E_9'`|P}ec<&2y:jnsuQ*6=<'I1!$`=AKa=J3W<4_aMj!ikf(:?!1Jv6
vt{QOCE]eVU3DO>_]L*UXulUvcZv8efaabHdrTD+FR8nwx,PAu4:f*L%}R:0t.EeJC&DKoIp,&fz*u`ao|71z:|O'Le`_04#y7)j`7:'=r/!'z:f3;!i8}Avl~$/MlbdD3:TZo?7{3l28OBKe4<QJO
jM?Xnb>^G(flYCu`WnHeR+n,_q'*J1x!zxI%hmbsVH`7GyP%f32AjEB;sV%dU|jNBSce381uFFtl4hr~1OvnGkrn5/3xu0>4di|%U4{alQNqDMC,&8t{|9#Mos<pE,Gs=]]sISZL#P}ySXi`v0.n#,
R9<[};JMt'GSKH4{M;rIdCB,oKkM{}n(XyejekgH5S3K2Phq*.FcW*y:fL1+f5'_=|R|N!B:dD$c,*BA&O<b=otcJ5A|]'KoOoU'IX2(_%~+?)w8Y4.lAcKKn(Wr)kF?_XDzZ(2Ojdr+;hiy~N'Ula
8k#_<_yvMmS*s.d%oTMNQKRwRG#+r.:i}$];aZYy(Z8~1GO~5K,txeIHh}'Wb5`9(~gGpFkcFYZQS5G1QOyO$lX$_qiwZ<[^uc3$FStpn<{nA*dP5kLMOu21W_2i%O$ET6`h$]e;n8=ZTwNk`p6SBT
Mk'JS2oyTiDaB+yU+0M|bNSW=E6EhPU3sZ<(lE[VOFrr0XGmJXQ~J.C#>q4b'{TvBLzT(iYC(hvM*n['8Jx(&}]%cihevU5HAfMcV]NQb]:s*{ZZ7r^r<Ry5$a%=U7ocZLV=MiEB.?Ic,y?D.9BCL{
o)B=`1ty/GP(3uBwA?;|(uqJb%0CQ<:.Z7*16>.[W3>kn;7~w0j5~8Bx1$>o9[l<<CG;WnL+K8Ys,dDp6.)IKhuwgu&y=M?t5SEeB!m0bv;rRpF7ld9_qTKs0H4l{=T((wB+E`=WLaQeYjsJ)m+x6~
q:.D1PVF+VUBg.{Ic'xRUrcR)>f/F3,3H8jq[lIyd,p._W/J)eb+RZGkCR3{JQ=]9g[)]I4yR!zTSCR9;YJYogalv?AK?),Y'J^065m6Q7F?T&xWXf|Ko?B3Yz,QYAMT/I6;Vj<[;XNX3u{?y>LdsX
gnLLpG<WRPyL!D)Z,2>uP7vkN_z'cDOOIy[:Bu'j'E8,B!0F(WLFOXcSW'NU;|<&12?w<3A~:~+a;V0>%xQCZ!Eh?xd!c%I)G|B#R'1KO5HcTB{8&}PgXF0T{lo~%IONEV[u!b(6z=dz,O`f$tO0pb
PT,x}+xC#W`MPxrn.fF~#wuHc<OkhIq$iE5PlA4v##[W]qeY:ZNdj!]^kHOpQDF214V32>Hii.Liq>Oh:IsBlPC/ta$=^Fp9uLv;?UtJXU2:cH8;'{#y]+{G&aL(k]pV:%g=*8KQRK~Q;JXfu_DGdF
v(c1*#%W^}Lo{ewGlm=qioz&!eg7To!hy10u*/^n*CN`pMPPx?,+]l4xFF</ug~>ohgjrYxYNa^*`xT{gfH!(AdJa|w*ev^9c,$!t%5l1,vJ]`!E]~Sr!_UUI_Iq!_mSfP=2gH}?IIg%Z[[;wP4A_#
r)p8(f;A;~PZPH:f7pd4$z_;/f]~BNZof%cJ2Yxm:935781W%/2f`c^8En:CAZEhXase+mSjQ1$nkK8+}MYB)A)RT2|Mth1n|6UIjP2~>NI:D]%Ox&4*|5A#o(Lj:RiMi~]aHUsITga(*&M]PQ|T19
IXQx_[hcyFqZgY6[wa_5W3xT?a^R/Rs>!EwUnO_,^X3u?KCLd|22k#Yo,~Qwv#6]|0XLo:d9{?PLTah_.Fqpjj%]]mQXFi_rPuR39aur;%,R#Dmyr2%^S85dLpZelUH&5}r1L*R%>=vSXdg=(J!x3#
SG<26{T2D/F5STI2l&^n6bS`4IvB[^v!hZQ<Ry/ean)3VZ^*uF[,Rb^e}:!x(w~w*4J5D{Ws)<{=pNJd|.wiehMdm~W84jTNkHu?UY}O6DfuC;~9voE{G~,}h59aOEcdW;X8'!FX=?8P3LpB7R^[;o
fPX_Dm!0=2G`!K`ICoe#kanz0Gt5!]s:3L^c~piKdF%~<Uq}ZsH*Ik?]#ET56kg0Nf4::~ZfH+{x6dvnY>edGi,Z^Qe9C,29)/qx$UP,oVtB2>5^D*2J*~qXkVznZ#E]DQD,TltvfJqwQZs9<!r{!Z
'EZpwF*)S.Rgqm~6$Zf#*=uertsB}K`z[SAC4u/;](Nc_B&/4~}lRG*tpA&2LOs|B[)):QZY>gyvl9Tu8MoLaWT!4MlYWd|l(,]Ch`7icWM6]>M5jTk]l!;PyB^1q22Li&=Dn*rEUtL=$};3:!|nX)
x``D}<r5A8);R}4+13%c#WnEXeb~Q/8'0i~UQwB]u)0BFa4v2EK^+uDxVP&[VwEa6c{F3xP+6Wj]dOai(,if&nL>UGwH<sUJ~pGwocs3[h^FV.p1,,ULSp>t]WA&I966f7~K|&,fR!;oa^{<XvNZD(
r(#kjV?i)V$).V{g(C<$hl/``IZXr=lyX_kZ>R[n$6,t+pK51C||+TfNMtPKL!niTQ?3dVnQ,y*Ah#M?Bg?byXYdhsJ(a+AeK';+V>8jFgXr`=x_&I1<;+qGCMuq|0]z/sg+4#u,|dD8^Y/'8eu^0q
ijF:73)7UGW6~9_.UCHUo|;c1X7<L)7^,,,^3*[#|+c:bmcdNLr_#BXu`V5}~Bf$)_L&%y;O*l`o8X1Z|3B3`E6;Y}a!+cq#so6{<Wt^3,Q20HXky~ot~+)QVSUsqqKgiif+1id$sZxue=,E6q507#
ja+mWv/0$=vafn^A7+HZG0c0(])G|igSTy}L2IVAsOg8Q<|05+ML}LS/<4u%,>BNkGx55c|b+a(aomQCe3&;Y,*:8cLH*{u`WhXq|T!5$X2'{1Jw]M)lI{~7Q2cg2vxHXt1d*i}0t0Q>'>{})mI,Jq
woWBE::~AR2PHy(B/PYR)%Wd+sw[3S5{IeKa$|(IBiI~<RtUa]wgfBk[,Ie)U$IdsWj*U(ly>w.xLX,PCN!g4E25B+=D~qPQdy~iWd5%b3N'X+o9!KT8oOca5YuD[OKV,]:^GcZY&xhiTYaeyhzXQ^
h0R|S7&UylMitI^~+KubtO83ByPajbA`K%AFUv_C(XFP%!DgV?JHqDkwSsg|aki2_~[Tv9a`&&S8rY+Cijqm'sQ_VzJ52WcB51+|0$X|*|W;PXUa56?iRkp{88d^BZ&|4V9SplM>i^x](XhgLb{acm
{FzUN?5xsro3UU=c{FkNQ:6~YK4LHogoAeIZ}zZWJxhSx!:w,zCs~XXimg<Ac=Z9]27ZV}R<e1d3!nemNkULJUjB{Qg_8la*xjhn}prlbPWz$Q8V,yR%yf!JL.zbijFK;lUH%a>ZlmI|mB=^gD*`/[
21Sq>QZqcOs.SfgcobyU:YQsI4E_;sTUfL.jFN2ZGr~Qu2k[l<jgwmo,R}yr$n4i8H|Mmm+gS4ifnnLhZe18rn+?aHxmf&DK~8Su.Ocbl.;SE2yOB_?upe.{K>W^|g*0d4{JV8+n?DOp(1NkYTYKYf
6E`}7hn44EE~GBTN]HMHK=4biu+w>;{Ex{1Hzm3Xgo7A3^TF_FHqPgDb:IIHH.U7_KR%JIqWF0Six33y}CTZ19x,9,`y`wu$K!_GOXy#({aW85.yXmgqs+|N~z%o]+,0sm2Y`,Q=>p*fhx!z&iY`Co
bNu.3HrA>&rl$+Wt[68IsenPP'Rhvy8*}~zf)H<O1_wiEl=mXGDR?U5`Wyu0uDRB8?UV50{iWB>&<L]'|G+mbZniu[,WsD3haUK7dM5VH/V:r1]_i=b'4$;'jK9*Muc#(Xo>$*$r,b!Vkt5gbutSM,
JN.I+=vht6!]+xncdxK2;VcbCA3&5;aa*,>Zd'.09&am=zO]cat$ezrQU'QT]j&4nJTKE*Fs`omunk?o%5*|3,IC,|l64k5_SJpXHp1_y.fJqF';cp4y;A$Ro_!D*'fS7G:uKP!ua!;i+_`![b5ru,
X|/C#fN,`HCZR{$792=w=<};cXa!/aAY|ld3Z1._.E%?kT=~yA7si<aE6$c|]ZR1vy}6Eh40^KY6~l2Ir9g8OX{U0).Xc!tNu,/(|^Mn.|I/3U0=X.h(KAj&v')g]!.Fv:y!Qi_JArwdp9~`1m{/.a
2HS3e#a%E5*ku9R&FPk`{%WPI%eOG*Z&)tr$HO'}eY;]x]'PbHEqc#bw{u%1PWb3(/4+{m=ao6I7NKpC>iJ?04xcBO`+_zT:S1Di5w`tYm`c._jJO=Ah^%R[q'pdOOn[|fa_'HqG=G={lb[vl_^:Y}
8T4H`1i9?lnGRwu4oW+?6B(PbD,S4ZA0Kp~(QNgqw:vsUcS[PwwHt+Ps;3ZXMv7b/jcWpeIkDx4n>Rpo+G6iriq3[Q2>yQjkx]4~<AOQ$*3XTP?Pvex9{(Z)mp6Te$WnWTc6Z(.dp,M&sk>Z~Bj`E_
'nonZy`1Ygm(5e==]~:J+n1/ecI:GpyAFC4v/kj7W$![Q6:^{S6L<^;[?0.{g#8WM,e|L1S~|n[j>0Qy3|SnCqlP%g8P{C^NV{'ZpsF(|~Nxq{lB#G8gwy?U}0QvVu]hGODLVT4>xANAy6h'D;;<Ze
Z!iRuPeZHgL028Bi+F^mh*U_6*~^,G]!m<((zfr6S'dO:K<ysgiKrTd)*Pita#b{'>2#o#*h$)asfpBnrS3SsOu(xBY8x&ndewNw|'r}*zTVQ$k38]UE!6d>2<_(6p|SUgFf[sO4s{^DVf<L0Q^YHP
&2y)QFo8QNpQvg:nx+!VS;!M$%<5vbM=?B|{lG?1vI9R>)E2IQU:saYNfDAe;FhB85/S?j'ZcgC5{^8PEVrGj^sHXDg{FjoWdbYZUkb3~1J6Y61d/v#dI~w0ipemC`6$P[~HEf&9OmbPrxf%h+M..X
3e.Joj&YaS&XoMyK|0'HB$(5^T{'pTMa:PHe[,2B^0>h.A4A{HL},3M:!g1|Av~.~1gOWBxWq_)Bp3>J=nl{Ti#+`|h.=wml4o.W};o:{V7$V$]0DhKB)[;EN+{Y?}KFX#']m9rg*#UrS0!lf53G$E
F;FN.JZyei;M{g>MoykcWnx'F|p%IU9YJFYX,AQZqfyX[_[^hssi(oZ.U~hA{5pCDQ&<F#S$rCY({b3q=2e5q5'0*[PE*3L,:hUJZj,}KmQq5g:F'I,0Yn3tcjhMzHbzY4&.~33]Q^:xO2Fbk<#;sD
kuceCMHsk<O_=g:,FA2(gGJR<UDVn,mSW(Q5<D&{e>$=Y]HE./fznAea>#`IXn!Q,|x,z,xAlt3/498)2Ct0:saUM3Fh^_wT#;`{GG+C,61,8;LnZx>SV*d#MVQ$M~)=fh%U<hcr'3:VvC$[`NDuI%
[5'0OawxofB4;9{uCaL*J#?<_g:0Ei'e&Ah]/9/?K|3T_'(Pp1069Vk1*U{I.X%J~z>4|Ev^<u73%F6dL=rvhie=ei)V2x+<Y}m$EtiX:cei#XPfMjP=d_'2!r%h_w*3a}(}w)gyOvWp}7,/JxOy8]
)g[ThheP{(/witglzFrcX~N}RXr9}WIE&41)I_F]zw+b{v_[UbM#C8n~uN*(_.{'JP!VxLDLn;ReuljJG2pSO.?seG/s4](S$AAsc~LA4TcL&Q3}{)G]w7QK2e*}*Gt0{aVp2r;qjb}KBu:|V{_kYc
z^MOi>Up'2[AwZt1wc)EZRiBbdZ`!f'Ak#O.R!GAQB,%:zy6*mbz%xTboGtkIV59H(kH9ld$'UuzlB1Jcm>:34HE.:F(ZBa`#[:QIC#}>#.wz~z]b4N{BK#dgV7]#8&702*bbl`4.861m=y*C]Py?~
,2^%!tq&`.>E4=+E%#iYYJF;lIn#Rwmi<I6W=EM$f*oIGeS,?.,3|cR46F8ZHVFrh/VrrvgfG]XK`HXaD<(er'XSTH<SQv8aqBGjvWl<kSXn|wv`]T#sW<e||tT4XwL0woK.n5UE0`[pBgepMrXR*X
/VJaj(h>D0UQNr5G4F?6CBgmdO:PF/qj'6.VaNGY8c^~#ba:6`G>k>|;cHC(,vJ7vlk)(x?,dV(5Qis9K8eI*;C0lX8]g%5WYRr`i1JAHQzON%tZ[MgyV(I*YcFndfZ,W^Tv;K+L4l5Z/B>fL_1f/H
QT6&3&s'Q,LF>|+yi{4Xs[CJ&'?]#c.?r=MId`IyrIL(Ok!W.aXPmQ6T~$>L*#TIkEi=E/]ow+F8RjSh!x(!o`aBs#MP4tWz9z]Av6$/<7ZHCcp6|POd&vb%6/RERp7ke^Al/pLj2zLu[`[9^Pu(lZ
ZNE}3g]k2ox95mvU4yqW&2bA&<tuvoniT;67w8<U|#H/YcN><N&y{*=>H;Z}GZxp,d!Zzn!Et0oCnG.W6`Ps|~8.3Y,Ub:Wfgx9rXq:3WFJKfd}bEh1AnMAXXm7T<agr|7H)_w2rBDYfc/Ln&rAE<5
{oI1[jCvu0tCtt{xf<UfU5hxw`awlKz0YFtY;6LZF[2%:kR|Fez8#a=(/tbI%*287AU6AR2kB]F~V3xQCeU9QsJ?:KI_B7;Vz7/&m:2qQz2iN`2jumMJH[KPQKAJbAhdq/]n<vKy=Kg:y*h0zN9hi2
EFH]5LTwHMN]4MggFd2]IC*>Z800jkGR!~+3lg9w6O&I/wGgDl!l(6I24&zeALHz0V,=17GJ>.LRJnzVR_.^57rVl,{5&LhCj!0dnY!VhIfk)_l%y[Rf_1JpO_:DvoSnz;_#L&`oi]jTO/5kA3/.u'
B/UgP[9;DUl?sQW[LnGS':zPmB2RfIvv*PCH3c^:WOWFcEUR+iKa^jWhQZ.=e;N:sXpR%KU=DiT;>l>1Y6T<M$XwTY$nSe=b3UpnirLPTAq=Dtiwh!l&GMo;R!HL=YA)!FrCY9ZNoO!AB2D#$hS`W]
u$>R$fh:!,#>VoSnim|`O8Q9./DHu)atw${EMn]zebrz04yfZLg}[i:ky1l<(ZGray][q.NG:!lJ^o'F~!wWful&;XfUc4Xob!u^OvlW:LSO!Kh=f(Pvo3,(~/++hob^l1][%F_,adXzqa2g%R5b:c
W[gt[LnrWCYoxG`P'}}I6:g33xGME$G`<RqrvTpOMM3{uyTYNK1RwD~!S,_D)rGQqF+s0l8W!RzLk6}3>T9L')LjY>{h'YHD$MH?OOQ3=Hi}OiT:R('Fm+_;pOse`}iLNizH(iy_SGGsn1:e5<Yk)R
h6Xm5AHE{4/1d37mxd1RX4J>F3!lCkhDH|p'F#eIlk<&B;W10_~Ym;{DO]>}i{^>Wcfi&GF9P5G{WjUb7#>=,1{XFZ%G6ycVIG8l{Nn/TpgjkOUdY3q+517?1>eo.+:Lv?7d6*teP.%lZQMNMzLE<!
4mZfm`;,?hMUjh,q,.L'>6'K$x,Uqx+p)%'T5pS2Re77)A%a0~wa9%m3*`=1i73fqG[X/]z`:Ko0haz?{X!3`nb*X`pFojBI$y)AX;3yI[UJwA<NL}aZ)!b~&#&)QQ*8S`wQb54=R9Z)2nKL`3},8a
ZF3#sA=7.+)TM1g<Hgdyu668#|hITq=C+4=L%PDIa;b2'>+^x]^rW$Rd'tHTG?L30])U%6Q^Hh,>B[?yK=g)bOmN%Vf7VK?Iz[ghL>1wp_bCVbr;:G1/*{np)7412?C/8*C)PmPMQr[xx]XKM2TeFH
f:[T8iQS7Lv{$%'29bi}mgc7yr>j08<9fP%j&gX/QMcz|xvKxB$}{G7;|+_>~I2u.MVY%#vdZ6.X_cEH5f~('I!YvO_ZXK5,k6Q=^uyGfdiE93nA2?#sls)9)e>vZJ#<:[XA+g4Cx=[9PuKVcrunpq
{!?_{C$<CXf;v2e=bg^:e1Wn.uAwC,zE^6.shtXw]]R5)W*IsiWsZ!{yByi[kIh~C%gp1Y)yO~rG({i:%?u?w_BjqgUWb)+~?lV[5nKXXwz$`0U,4t.y08Gd|*kcirCZjv:1rN+|~Gdc>_m{lw'$6V
/+kCYwa,f1f]xOQ*SL:zn+=Hysg3SGeBq9H8j|PV(CL99UD<{0[$x_Y%g+32Zh]nTt!g8=>*Y'/%;bR]Rq2e.HfAEC.W(g<}brBAhwAo9$IUl<G84ys_Mjhx0lbOTC:Yrxgy|j3,;`Th^=93T%7Ea.
eM,hQU)!PlTAZ!|;n>6LU)1{4]}wW'7[xns!g&wmC2K~b{!2;eS(V<;(fEyj*T8]zeGFD+XO0_{`wc`V'q}O|aechNQ*`wmSdACIU^?bmUDy*ckT,Tt2:_be/e:(Y+?<N(Q~XOhe|bkq==hGmVvmFq
'=xZg?yX~(UTff,|1A+wUTdo1!_)`zp^.w9}#CKl>e+TpiJ7RY?dW:l7C1R+C#t9*%xpl_(ZkdTgXPa#N_)Dz7,A(7]noxWeX9.s5%=W6Imd{YeYdVb^wHj?`bYqKGQ[+bvUue7o*0zSpmHlmm<V,!
FGGu;Sxf*u|?kX]qq{$?;<9,+xbzZv8.}v~av&.'J+o_/l#Onl:>%hPB{d9^0Vs(&/=[lrJ~|eQ%?k^PS^kEng/[hQ`5E]sHgxBfppMJmgCl=Ihq%gpfuL0VkXHwYWrHa>^.nw}?Fw^]9XYbRe+qw]
|.2]pEcYaG0AczFPwZk.tbt/]sn.h+o**r`mI#YL_/VQqx3SF&3'H2Vst9<r0Iw>Z4yp!=do&{iE/y{)}FA`;C<^OUk*[A=81J0l5L)Vpsy/0;,+**`i^f9)x&`O_Om4<TYr+d.*VD0Gs2xW|R]L2F
c<ow>6,6J^lsK+3.:~PksZ{!j0s6Nd)$e77R0yTAoLoH?$MXw`G/~BtPMWHB*RcDDYaZJs+3$P<)z=27]Fr,r[![$sXW.]_{R=CCd!vlraXGLS,rqRQq]|;Cqbl)*NESh+$4`%'#_&I/$oED'ie,AX
LdMHqaW_tRocwJ>J:hgRAb*y/|BB&_&CQ]IKWFw?n%^](gtFu{^O/5%:|7IxR,Du8sFxP!xU>qFTEG*d$k.!#!}pJ2!#Mf^ux&ire*wVyIdv(lq2i6%>9C2`z,Io<8SI8P<>._f^`ql~)I>4Uv5=X$
g/bhbX+t%!9dnrtQ^|iKr3f!~Q#hwNc8;FQ&>*ki.Ce~6=r~K`_Kpn~;bB#buy#8B]e~oizY?qI$(x60$Go!SPR`~}iHJlyC1U_)eV~zNT3DCiRoGT63i3xr:G;1m&4y8I{3ar~H58ezsIg&Z!C`_5
)!X#]K5JBd3upz]&qh80}GuMHi<'k}1<x]&CW|_5ZtQ{VUY>Dtrjj5|i_|I&)#D#U9Zez'XrcA{hlmBlaQgl`^gLtvTmT&aDf'28RZCKm%>d+'V^q^WQb+sNe][>_skA^yudwjrk.H|7(5=#juUtdL
N`5l<Zt&=,V=b3sb>^:_/Xo1b45Z~5i}4/KZgp>{W*Pb7sHl*[`r45yeZGu?v6))ZtTk4F+vEsBRIMXFh;VQEJG1jjt[_d,PNrIV^!Xu$#G<TkR7sFKr1]rN<vaqA$<bkdEvMOnvL}>Xoc|VB<6WMR
3p*uOwn`{rL&_H;>wK!fMG63{0}g'p7Kl'Hu2W*lc^h~sd!.V;}Ha0S{#Oe1#p;rzOLrHIY5h,wM${,YNq8J^pEF|G=1Y|J38h8in$}gN.)#%6dy5]io)NU`GgX1Ki0ys=i[|o$fjLDcW8+b6E[zhJ
B*C=q;E*p*cGV8]x0=1t34lSy%{g<MhfVSCD)Oy3(0ToDHpH>5m'pGUAi$7Ay_xRN=;V6x3sz<)^H7]uj+Ojm?RI%9#NSU&;1V<V+^P%`FHrv$>fpjGlgovZY{8D!{PJ`s%OpPFMD(v0n_4qzd00Z*
]'NI,;y+aU.*lIqZ,uVY~pCNK&yC)b|nS,gZo=$u/$Bk0WR=OO7xrA;:&h`[bRSPIO>=u2R4liWqSMLPlyO<6nja>vd>_E}{Nz<>xV!M3?*ckgsux0[6c^`Ct5}=0MSzTvJ^1kkRI0rmsF7)&x~,g3
4JncX9Va#0Q`To,ww[}ENPJK{q}Lw5<^/Pe}=vCv]6<9lu~m_Y7XoA^`jMOsAH]/Z~W(B)sKea|IUxM}jLhEu`Q?,NU9Aye9:;H48&w?U[ZI{N{:Ap1hR^?ne7=kj`*BXn]`N40BAoq2:%OCvov+d6
O|P7+^||w!g<TQuXnVJEV&h(THJpvx/x:s,mO+J0[:'=IrM&7g83aK!F8d8h?B6aIs$6DW3}i:vfFXAe$~{DI38wwE|Lr>g!eno,<+bS?0eZe&_P3f.EwTfbHG$3SJ>=hYESW/&&G(Z,c`iqYg&RJ+
4|7QdUP#~6vC.C&lJ|jr'lGQY2SF!1GL&C~4JgT3nGfDRXKAQ)cx$$3!|D_pFFs<,R8U%n8ca8OTDC85D|O;vINB$hY]KDH2)ahD~N9r%:O3&<SN(9:u%mOe4C9[7N59lO$<xHd)%z54,::BTrs6*=
zOd'#nfH4Wb9U_;bVTJ9z.!F77j>sY3_5AfH71>h{3VSP#?/_RfmySGl$fnhPjhu[ZSvDY4T1*IH*vEekNV]fwzG7_XK[!GGX^'WQf6h{+$7LRNJo{A#mh#8.$.Ip`0o*kH24B9&ai~8qj_(coyOue
ui<3a}_;~fW/O51%Zby0r$&YKQJh<9iL{h_c;1W5fSzsC`LthGichR}V/]4mc]c`BIU%knx'UiTEOgn/m[)blLPWZ5cXlMtU[%Y7mhWG8zIXw0h&FZcb7C2g+o'q,~I/L]G(kV}z~X76u!4a9Je+X<
t$j227hOYF~H4CHk[jp~$1Hn]F'PC{FTrZY;bPBJOG>lPKSfd>w6J/LE6w`EVN.C(xOFmN6_vGn$qB=`:j/ItP`<yFDtFbUeK`oQ#D<<oYu&ku'PG*`?eM>cK$PWwO)5|g+aDcaA_pcxH##9*OcC7%
3xa:.FT+{)6ezB9)<X=QL.sxT1d|w[b2uG`yI!V=xP%Wi%gx]ld37#t0OCMmS**.=.mxvTU4Eu}5umhs/&p(Z*tr:H8O7qm/hIcErOd%F5myW6HdDm+kh)OFZfKGF=2j{tPFQ#_G%Xnp3|&5_|!;nE
A^B/ahCF6g%taYT[XViZ$|'c7{jcBqkgD7k?P%O7?]vy])f3v~S6xnySLm:miD;TjCed?f6wSuUT|g*mA~+H63%hKFXh258W2_3It<crd*IobQgAu0/zyYm0D&qF}I}R9L{hQ,m'&jg{!%+9c~Q[^W
:eXx<*V0^23dUwaE,z3yfzOV%{mHWK;%`)Ww}mdXpjMPHQ[^ZH>Ul9xD[uy3jQ!dO_yzq3&kzY5:TNxq>|ejZg`vv~9p9]F=mZ3Zq2ku'?tzq.D~</F+10vYc!|`{nS#;6:sH$G=vwB1f(V<uaP#5j
i'?b8+1vAwd,#=uiI'4&AOpsUK%Re}|.]rpkc1L.ih0GA7a[X)!%B9Xqj{UC<Ptlt3OU*;{HTKb?e^'g4'K?q_0';/2S_/wE;q!W`pc]##S9)Vj[&8Ib2H/U#yQd{n*o`TtMG&?LuC4,h:!&{|E$%)
.vCJ3v.c3&vL2u~U>x(#v*k`61Gt|&`kmk2c:>jwaRXs6x*og'c~0h%XLAHy2w675`X>Fs)Jq6=}iaJC^tTPXmIoHm{zBHfs]fEi=VBD8>%gXPxtAlmA`EZ%H0ze7oYb[$]Gn>pm07]P+L`}7=~~4A
tm(35e_uSj7DO%ZOI;l2)<90eNZB9*HJAtnt83w=6+15A_k[89&C3ixFdGN<KLHP_)MprHx}.G<*r{*pOTP]Q.*ruk~!AS{$fv9z=$!JN(#])7xLAslP9IKi>cTpFb/tIv)BEaUPA9Fq4&ZLS>7Y&0
*XgcPRP8=W?+*By]>Z=`A::#$N|H+yQ{gIdgmh;Ai5;4D$k(KK$T'B1epe+rL!{jH[52,y/vj(wchm011U1<8ti)^ZZe3bI}5QDzelBTFR.yY4iIFX|;>ir.+~HP745YPS7G0:(id;4c)+jh'`/w2D
>y}V#fpgoE[S!>^XV_|j5(,3BCw<P1x!2UhCY~i}f3bkBy7Rce.G_Q39!DFaC9v>Jzn&,zE34WWn%]wZ|eXc.{xq3X]OXT|1dlj~*Ap;>nB>_(f3tL7_:S|i*LCHd6=#jw6'9M:V0BvSA=Y}OWh%8F
1I+/Npc.nzrZ6p9*<a.u=.QsW(hNv$28+~*XVq3P>rsaE|[6oRws7u<|1ZTuWKaen^=h);$z;R^_[.2`Ju'E!wc<SjG}%s/aTq6/24=_9x1?ONo,R:tkb5M*Y9E~pFTL;E9STQ!P'lNi?pb{VnNIG>
2h,y%.=]v]]>v5~*F]G3K~h+F=3!S8cR==xNM(,F:1)',S*SoYH(IahWW[gN.l_qUAwWfmw'ffLY4uydU:VE(4=M:/|3qD,,v#HJDk[696R62_8X+uJrG5Sfu[`>hN5I$kzmu}`tfd6c{ODP=X:%Ya
]J<Kvn5rb9V+CmdEvl${,rfyDPY0._h?Onb}epij*o#AEfm4~1lGh^A]W~d1Ee:dAXtG0a&wLV77FwVuzW=&HR,+mv,XpXj`u}rU0^4Ks(z]fgD,x!fNfP#qd83<|DQ$MvuGT7VO<)H?/a(KMX}kfu
JD)8CXKk*5Gtn|0JzOB~k~<R7G#moBZ+gubF~A&.,`[9at16K]H9SJwMhrf>m$fEaeA$cYp:?JgDffgHA<vB,0Z<Ij'Ja'<b%xpC~ulwK5.:G8]dg+qbPDW4N9m^<C8Qw)?m}FNw~Pr9e{RE/[8L's
Gm/&!ZrHS_*8IJY1i[5a!a,v%=[3g0#rhQ6DClAMFq.OSRd$)y!CCib>U46>n)PMapNfE$qgSgWR$,l/aB~7JF$7I1x{id#e`4X[=I]]V*,)4?tLoXchH6FNs,?uYq7C<3r+C*FY^>P+,Yn4a_5Ed!
c}8:<2pNYD|H%PthXA2ferT}'q4)Ha/>/h.t)|~/8=D0|l,&ttCQwU_bd2kv)8]&8$5KUr|$vZZJR;7X7hsGL?L0|wRM<~_3!S+urbNzLHa)M1(sT4C!xYirfcYO_[<.'d?vB#o18bicfbC1G,ZKDW
eU?g(y{oX5+5muzuml:(#9nl+;Q+uN2YxKy,PPGl{5a%QCPoq6Iw9w1c,YIQt/OVh9onx/1=yx:fx/&#O:aWJ_t%#8Kc9o,8>3owp`:'O9bsY0Ld#CO]0NYGihg6I[YS.P=am*:iRl3#}~tQ>fx8#P
aXXGn++6{MDjYjH8*7HOhZRvoQUE>:FD6p$jcVTqcv;Yvf2O`lG2)cPy#pgrB45PNf/l=ePo:%,+0_|)1a~egxrIk>NC`~D;V&|ZPe$M0M2s&D&yI&DNal{p)b&gVdxiIq;`i}=>)3TP>Zps^zdzZz
GXtp:;!?XRnXPOR3p'nJl~jd&qPwCY|M6Va|w|,Q$Dib<5qR+?v4s$8!ID1t>{A0jzcNd6RtF8tzS=52[V0kO1,e5B]RmsH/k>FkB}PD*Q?A`kkPx=t{W,OJvLHqLByw~B1E:&h$8d)fZQbc}BZSJ6
y/D>}1qu=d<O]2iy<N}$Nc=7s1GxU2#d:DU|VQ4(|uEcn![pb}Hj9JgIWC0qhE[$AhAf0K3=qc!%S,_8ULy17UxB$p{dKsKB;bQV9hf[DU<|6[IfTUKQ!7IGMFr1|3r%l}CnIRyppw+!W}QY*Wmf_7
UO/G?QNMN24on{TX^U`.q{L;u}jj].OG*^;X&`e+^hQ*UCy2e!m$Y$OWL,jeA_H/6,s>M6F|sPtY}*;MPyrznkl.nJzE(sk3/?DDLclB%sstp7_XOz1~iMLF?#44f'Y,8y4DVQ9ST^Pz6*%|80Piy^
}([eW~<3F0X>5e7wE!!#fjmJPuv[Up.u#RG$/cayC4V?_dvK?,OIvFSxEpkW'Y]LNrZ&HY?2XYi7C,Y+Yx9qmu8=w*uR8j8$jY**Fgdjgty']!s,h#GMlEUBpY{8hiad*rX%.!_0COPT&kODZJ^^_l
/Q87tHSHCxnt#3TQM[&)!8VRIAT3==&Ej'2}|n=MOj?3LgP:`NvEGi`:g^nsbBK_z#>hgG=0QI95xn,|kvyJT5x.r1K56jgrLhxeQp;dQtpa8R:HP}TF=5jz;,sHfr/KI;}'EzaaR:^az~T82/=9$|
K=G4_}uhxkq3,?sn:jl>x~(*C;|e]R;J/>Xw8a{!$+?r!^e62nlVS:%DDr|_fBHQu]JJ*lsQLO7OV*:PC_HV|rs~nbR3Dp|ZMtW}(EqZ+Nv,EFr:6&2l`l8^OAG:!)Z^&2)ErmXDj1DSu#tWUctK=a
A~Z3+GtS5nW&wIg?DFPm8j>(5Wo_Hcqrxhey}=M7s_Oy.NMa3EEkO<lx]+F2<(I7;,>,/MPciMRO]v#K6H~>|a4)U<Mem[^9(xsn__`H6$uvXLd}.]CtPO0U~[~)+ehy#$LD~Z5aK|FZj:j)1S{W:X
/.}KU;kmIHMOG'`wADk&i?JSucEz67xqo:nggZ*Mu=;sHe{N8wHZuI<=fGXeza{aJ0/+InYq2|VKyX|&%sJo6LV,g~NG<AbRsE8dj>N3Ek~~zOI8y#`q}Lvn0NTwVnUq%d'5dDvf1)yBqxz+8_8zg>
!}<])ShANsCnD2J`zGtu{M7Mrs+5~E/q`gkf#0[,X_*isl#hm)g|d[a0sG6Q:u/mGN5j=HI]i/O`#vvt#sQm$K(y.=MDd}zhar)V$i$LLlx%E!eniX'J/xkvQq6Gqsg?Rs)}fMhO+AoC^DO^bM0KWl
%tr21pxv*mV`arfpowYViT?JALWHKL=S~Tm%FmIs3iUV[jEpT&d?E_Rq_sQQidX.n]ro5}%rQ$wXQ5)my>[^e`~?D]5vrm[aq*80tp}WPHLT*1<SkZ#RTs<px9wz]Mpw<Y,b{[a=s%Jy?A(zq%1b^D
MbG|D.r+3:GC847NPoVV!!!!2]Dfy$u&7F$$Oo6HTK}tHtmw,~Vv}?W8+<fNSI,;lqaoOV[[!!MGLjcD*x?kBzm*uC~Uw1T+K;DzhJ3kyaUHd[6}]q,nR_HhoRm_aRU;q>=9+%^cT.dP_%%o(u/An^
t7/$2MFQ0VCC+aI._u/VrwmHrjiOM0muVxCsa]4]VE9OzP&yU=TGtCg,wBhgxT$(%_W4gY:130/_YJ#qmih[nA:t#pce<2Ydb/b_~7=zE6Rij^nvrihF1$88w9iaJ?k(5OM&9%rMDDi$/oRTkv9oRo
7cr:=aW&9s$Q^ta`%.ej4h9Thd]^:l)6psD7[q,n(O'hrt#OE0~(Ye^>ttUD10[;zHFN_*0OS)MHDDo<pwQ0Zn$[9j3n_rGO?J|LwTME2{AN^]`olCBEeAs~Q3PCv^u%)n,eo;+Y%F[94(6I4Iwz&r
W#kg]'*>haPYwfD#thOF>',=6y<JTw%`o55URU#I4y,!1_,t'D{c#%Z^`paD}WTko^LW+;slj~uSQ/{pzKL;#DNm;1IoSA{XIG2b~iLzA<(lfqeppK1h#*0*cEZ0d{<_nGa4R(<^!hry+rg+_g|]a)
o+1ZQ]mv)7pMOJu,dVvn;$A_LY}rx=`bYH<m.&A}301wb,e1*%~lz:$rPjCk'oifVN{^l0nQFAX3j#7}<=u{;>:(.{G[=b%I?;7BBMWQXZ'L+F|$RAZ1*m`qOnR~3FuPUQYloYe+^yTGANORTE$mwC
{4W}52`:V4G'B{TG:Q~}I's`,W?qON?0qMKnr*?f)I}*y`U?B2N[C*`Rq5V/2i.,kIer|s$!C_yLaiAaIK?,t?K0E+ja7$z4K;F~i|tm)L=z92aBFPASMG7j5E}xpeQbG*%`:lN3j{?C1O'GN1>D^q
Zln<7HLyT97R8*vwW,F`Rt_i$9c86fKv;~lQ9b|9ve#:<.!Q9>&7])Td*ioCu+>Sx.ahHKJ+UuYlLQk`/KL#EzJS3X[(#SP9a<e}:q4&:N5h>s%oEQmSUss_$mM!:bJVN`Kw:KRoWM%W>&hsDYrU.9
&.UXv9U%u<WcO;XRd~HNe%?NBZCYQ~z>HFQ;4x1m#0dft6(}L!n`F!4Gr`]*SP4I0B[9b54*k;n0bk{7p#;/w0L=WhgkVQYuz>zzmv'!mN7]#.jQa*)P)F7D8^3VBQAXbpo{9?x#50O:pWaIKC>rY.
(Dr/14z6KmU<v6I%h1}u1QZkM{%wuPq~ZE)gXXU#M5C*n>)KcY7U&xXxNL4_A,;U**hU?eS:%sD=&8P{{%r}kv|I}ka{$n+]!s'*9m8b`nxBCT[1Skr!z*b!6AN}zau=JI[(6=oEk.OeJ&F%(gG|~,
nt'_Bid'YL3,}^W9X'}oPG<bpIXqZW|QvW[C4Eo7Vlz*',BP:W|YNav48jd}>(5m_Ln:3Oq?m()}2h85X}5Cv[%eaU2_svH+U{~cG!xKa?`=v`}];E6s_[B[*K^Y0Q)6v4cp$`f`mr;T^,Mm46IhkU
KM>RMBne_tgDn!eTKTFe#]ZD>G.A~q`MWctMa71~~jz;U9oeg+)[Ji'et,LR'qyjEz.*`A~U=7b~r()X+?|od;szr]a1{N4$Vr,L0FZ4Q(yY!b&fIB}(Q>;K`11Aks;m]6[DJ76Z8T;||xm]3*>`m)
PJw7tO_U/+i?YBo0*:B_1jBrWG{%O35icc7LMw=f9hAe~K]4Y[{%[3sM]zeB=v,U1w(c1K'rJ!.K[Z)H^9|<4l|{60*FDsGlo{^Vz&M2ceLovWHGZ]/y|4V0B`5T}vyUyetw/{|.yg1.9o<x{XyLk|
soN;?yr~!w/;s^[li;/z0:RJni+,botuUv*RxKaq_TGMXGo1ijG?s=(1R[bc]q(ARloO:}c+>O~[Dg7+n1[qR}aF$r/n^P{R4EW;sS?xvn~u&HvZu4|/A{=6wJEE)|8^Suyc|zECMV}t!Df_!Q2jN+
,4C{()Bh)+62Jn^~$hh4|~SQ{W[[l+}39U?;'d_t`S^Fu~]o+[nQ4P.#:wjB0`[Mk;O/V9e.Kz2/G+Z9,~^'B0I]b`NF7EtRsj8/,~DmAc83w8>uq.|K!nGr90/e`Mwr;<`WJIBsp6bt>UuH(t/X4,
1LDy9_..Q>yT2`ofAlTS&G+[{h4^_pH+`SKot4lXRODzq{MsU]9ifBJh,$&o:;N&ALJ'lb.!2&AhQzf;E'qBw3Y2iH!Q^(S:X1&U;wcfZ'>_67LXE:'=eZQqz}Y:*VU{<Gl+|0!H}[2&J2o}y]=Z];
VC=$t)ZfrE<+d/vvs8.PF/>s8}Cs<^br}b4cO7:;6?vchZ~>eTw24^Ss{hr5~D[T^n~AX={j.vxh*H6vlr$4Qfi00c~/pY0[;t*g|#ou%0Kl2xgKJa3q4n14bK<AkCM>[!<],6zy^wx!ov>YKRR)&?
::;e/'!Jz'`IXF[o8/b;Aa]1V[XU`5Q'O<4[5g}2.D:jnK<z./R*sCIWs,bk!KW,Uy7=gI'<&S9iAMdF:~0Dq,f8v(q6$S=:=?duQ`X8qZ'p}=N>4v`/W38aISoMHDj$|JKHmzpV3Bd!Z:>Q4?b*SG
|g~Pa8!W7F6olAMv1N#0Q;wyQ0v>V2.h6%&u{:`LE8EJK8`qy*FA5s9n[<#[BV~;?#U&$Bt:my7Iqn=:K(9|a4S3he?vxf|ueyH<kWM42Z,>cm??~zw9(7Pw?Hx/_7>hN~O#N6T5NYT4N4ddYhfi5!
{~|ceH~,cwEzXTdSdr&sVYsn/!uKsDE*B?!<e``:Y;8xj9YN8`v(FK!>lpvqk#]?,RI}otx^wUYUJ)_/<'nPp{UH4'54b[~*4MS2b99d6~9<3|rI(w$rt&8t#^X?ciP$n7PZx!^6H2O?(79|y'KD,t
ya8<E9SYA7'i/EF`Na>YlJWF5USojOu;mqLz['h5/ECTn7i&#)uH]Mi[7Vow+4jiWq3nUE/k{cT{kkB=kR#<Lr?Nwh0LPoK9_5*ynKdJ68|zJLDvJ|!hN~#E4{[|l}$3m7!^y<wOCb.'%3BqtW<W_9
OBvSf!rb}0~R_+63)HcAMic8VBfMpMs6VmK.xJAU~MrmZnQFwme6%6=ZeL$ttJm)ExGExYJzV)_IF]X%+WR%mF+_{}0Nac91|5n2R,C,Uf'NYMb5dd2Tj)!c$>$sgzUSkI%/8!?uJ9s=]a&`bLUi]x
1`P5e;j.RdF4G{n|6XwglhFzz.ay3xf8)#yTFc*hXUl(~yXf~_]P^+w8aK7ziB>'J*<k=P+et`+=:589^8.lJ0U:){BO*BJi{h#j5!~%|l#{3l5YA!ldJIx9[[:[z/r6aTC2l=g2%t93h34[R*xfk0
)f~pf.jZYP0EuPL{N_/J`OkX[ts!q~>y9Z~;p.g;M#QL:A6v_P$o6o<ICiGb&RGdf0kftO>YLm^5?K[7;Q*FIk0S)JbM?Wf'9%%+&gA.q=KfO!091E`jQ$UQ^9</SSRR]Dn}=TE$xD4ll99]tFWk07
Rb?`li<&^ebly(Lqbr1BdAY)_M?;]N6I2uvZW..k!I.3#P^IV3#,lUv58n7/3|5VRpnf32$C>TYr]MJ9FZ'7Js0F$.Wj`3ULhZ}X3GFEC0xM3y6:{:5Y^47|Ngb4+Zf2ND!mayoa^:JGN^bY8}G]2!
=PX}c)Qq)|H{TNXn.2W`N%X)qT4)JCnQ,5$Fq*4kZF=C^z[[QWXO')9p7}(.!Z[G^{J#{oq/q;[(#1*Oq<.mv:6b:w+}I]Ayq'5j#kNWE~l|Y~dk5$l8+CS<5}+pzD?R>pQXH$,}JKP3~Oh^$:VQc[
{(ikDJ_[=T%$=~s=(c3awEFrd05^Wb3p?(M%b8z43yQBfZ}75wWv524[`*n5tKM95$C4`00L`mAkuvjH^[+hDP2VzG>f/w,8[?g{:]>>4`Boeqw)3~L.NL(#!!yB64yvv#IZ&Ko|;/u'7D32Jj750#
'2xfMW7C?l8(gGr15LBwpi8o.CR,1Qh;FN3V;*.grXQ=#L]M^FT9sWDnXu;6N5MDV~v+?'[Re_DJ~?^;omeSBzqW:OSD8&?lR8MC_g/*IrF^0x>(=R{I7rh$x:`YR|$&ZokQU[&BXgO9i#+eUL1IF0
.tdOTRhesc4c/EC86l`SJ3Yg$m5bziCKKoLlRKavBDTS5+NI%(^m|cJ71J6tAF#piNaM~OSD4Q0(cF5pZ+^hDIe991q8G0,oyw/~h(V(tqD*)TYR4|Nd6C5(y7;u=kqrzoyqv[L;f#]zjhD:ZugvIt
qDgTSN9#pf7KMg7=TWkX}Sf%Pcc|Fzs/SruFcr&G,qo%$prAT.+oSctpB_L~~`IMiLn)j2S4t2l[Q(j6;L:`WD_>(O'j5|e%%5~xHtCOAHG8aR*k$FIl,rSERf]#Z=1x{yolL*[_]]ptx]X6cf,[;q
({U'DwlVdZ5#7tE/VDg9K%)x+hlU;BmZM#%hb9usKQjLXz$Vkl0^O,gLdjLa$gxvs[Se$xUQa5S&o$Nv5_T(/DnQzTgLSElv5^xk|ch^lJJ#Cck:z}3!`?BH'$Yoev4l,lLrO0^0L~!'U(wdf>HPv=
}d.&md,by}gMLR&<*h+Nh]x2nl'qdtYE<2pDPz,xAt*Ebg{m,I^10,<R_r!6?0U#A5Hs(wkKvoYlhB:y8MxBuWJW'A(Y{&h}beOY41oKQU]Dx6ZVOH7C}F(?~BWA{{|eWxDpL7qG,cE6SgfzH5XKvn
5`?Xdmx51t!nA2;%sGX10o:s/Sm9./XfIQYc$_tRygwY4Qev?K#4SvwATqT>`paJa%R>abT[IS;_=H%~4c%DY9N.nhny#%[vXcpGOe>fA;7TXY?47YT9S&N*FfHdMq#iQ=0dC7!mP`?ae#fp`Z=6$q
LIIt_odF}6CX?eD^:tqrca.|fA(XVzp{KdCl^Kg,W*_msKHEp=vkG26plEz(Vji1o|R7Q(#g.rbrA%B[)J:h%&5#AX7~!0R6iN^>~4:v[Cc#5rjxjKc#!L^U,>qMj5}+1XXg*Aga1khPu/GT73&q>0
[!iEjY+2u9/8.P#M:Y%XG<EM>=$WK)FM1VZM~uJ['hNuOu)=A>c#eug.hOv=**%#_>`W'4/kd6F't9`Zkc#sLF2iS&f:27Q(~E.R`$i{eoizS)l1icH_Ue$WERw;y5nk'54hYZ_FM9HQFqx2%PX+w)
M;$r9QYP{kMd5Xj(e~.m5uZ/N(u=Y66{AOL>Ne(CFi!wcf*`$z$j?B{3Y46}$G0qY:tX{!#J7tatOiX:6U=bEpc68{MJxw|`$I##qAkx=uiYpqE:N!KRc#h.ZgN}?t0GW^i~w/+U2]Gg=_<mu.22lY
o:**cKC3VCyzDPnX`#.9Dj2~qF?9Ubgo>ht&i}DgnFP~s}'4(:q//HcC{=$Slqp[69W&ya'=6>P67n$~AbXcogF)/C*/:ER;c+X(`twpLT.[UB~'G.ip?}'&8?[Vy:gg:fG,{wWw6N;x{Bq,;0cJqS
7d,Lgf9StBH:}ObL}zz>'fq5&VdqHu!*JLq7,j{wjyyhJR>x[rc|yq84O0>cjaJh68ntL:x.{C[O6dt>;>t+|C%F.F*V%Kzmafa%E)enU]Y.K](WLB3B7rPKG(dnE268_W/$K/fLPVMN/Kv&%IwWWm
xW/_J>g5<|v*H/PjXSDX]K^=6s0dMPOSgC,/+[H>?g5$:SQo)vr'U`52MJ$wh:i=Ik/3'}68+<s%3iseBY^G3^qSUSre5p>ggN}TP!0DXFZ9]fwdb>8{+En%Xyxg'fO_Af_4LVN^:N4{urPOAKG|:e
BOZ4%e^84k1_|._]w1$E9a)JcwwQO1r6%sKSs,h<;xYJc#d1=`09gXr%K=_kS_37dN^R_%5K8Fn9``FyD&[wAi4UPaG|%C!r{T=H;<TbE(E!d;,=QBm/.n$FKVNsC43gvGg'cs#)+E;<bf#28o+2MO
rSq.#HKrqbR91$.9L:WjB_!b*g(/r:|`Z+{E7<o`Qs}hv5L`$#_Bk05`5[nnOnvZo!I$O!}/}L`%L{$bovzk_jX(_s5TlIk0?g4xRXf_9*Z$+t]GP}lTq5[qA:aP}&|P4Vw6VVAHJK;5smC5%p;0$|
/sR*/JcqCZkS#0W![qIpNJ%z}y54uM+N0l0TXhK#rMX37YX(g5X.BCRv{B<'+VV`A?0S9&v6$i<_lDq46RMhZ|[(H,E%<SSp.l'(9;p%:s)7XOB5?UQsPmfLZ#W4r'6/~A{W!{dT__1)5UZ!?odX?M
Q$LC=b}NXUis[TA/D}/WVP5[7'r?_^m^e!Seq?hmS5lNV2}PF&KtO0eWSAxxH_1R*Y=L(86KcC8~vr<C6.U2y2P*ar?n0UsEf9N>HY?=l!6k9nW*.>fqb6H4|ARN~{B?Jf~9$,3!`rDX2]/m{DMo*d
^J=x$2y8):j1`He4~]qH,'qAwH_wj&A8h7T4)w]BT$=4(3LSb,=j(p0q~WImWI^Heu8#!g{c}Trq:Lrv3nO+72%$,V`Qo8dPuOtkT}?r(lxAaE]S!^ARJb>G.TT[#&F,dOK;cwn+o$`tfjZ$Sia!u}
?i{7|dn&fCkUFU9sk6yjZ3JX?oo&xl9gVjfAmit&55xXVh.Q)#&T7].RzF,{ATpvALHO29XF$T'X1~'iu3o*32Qixrvts+APw],OO+Dy}L}ouzM~kqW/Xe55agq&F##phJC40rz.|hiOt95aV{v7!x
RLs6YSmb5Pl)2I3n~C7bM^8?WhdcMK'`=a8,//2rdzf4TL.8g09reL~FHT8%8R>]JppihQti/n!H|J19~e|s'&[zFokga7~_|;*p8nbX)~7KYGa;6Z&7FS&]7y(B=,G=atsr&q)5L&RDh<jrQ{0G,Q
!Z9KN*']JEOydmT[TbcfEtY1m/REB,zs}B|hdd5a:=9_Hq(>]HjaJ!s6/${`7mXXIh*ugqQ!NBYO?+IInNG,'VF1ME+'U^FTQjZ<gb6_`'.%EMLxkDfiG*N+1ejD<xMzSHo'5Z/1W#fZydN]7/aAnO
V0X/7YOLQCr9.J:eHT/3%g=<VyL6Jq3:zQu)F>z/]J0/gHzcd*eo8is%V/y;[x/v>:y|^tM6kz>)VZGVJ+A0/Q`>;]Bh6qhPU?0#P:P_e'sgO3X:A3~^YmHER0~A)V~fyFeF}:3P[~Ai8ep.`T,tY~
&aZZC%+fx.XZ`Sh4{]+M7#L0hx(q=~u,SCyAN0.ZoJG]ParB#xp=vvV9s~n%pz&scu=X]hgJ6TDP_nMD?[mW$W=:lh{gSvIj4~DU'TfL:!U;Ae>Cxa9;MG*f8T%B8Gtdv)KC[gWeS{5Z2&!Urh/xp}
!3+P/YfOif&UJ*8l_?MrSzw1eH+KfmPX5e62Jxv2z,HWT`#'Mf)OgwsG;{bp5:My~X7H(4CU+cbGG4:gc`Y~OdDE8RpppA/`/}Azg`q/#Ol'5&gamzW<W#~8b?0K=:G8s1u_qP>!JuK,Y;91qz9THC
G<$?Q)iWxqoL3gY=nv22z3TG#l#Vzp5EdMm`{cdEnI3D>6#(ej2rK3QwE^3O7d'<T;iLU1d%f:nVq:Yii<Pfg?7?k|gp0m>=~U$?;(hRV.0d3;9:gOrIAE(#h=3lVgT~Fn*kuORs]q8{}DMLF/>in~
TE<2XO.V:B4Xt}y4Llb7]a1'[,R06G&bl2n?cq~F8_om]2UEI[5e?:3)'Ru693.:RP/MyHIIXMqT99Ze;6Gcg<$t~x7OG'u}os8Sxvj~X]J=<<hh4+l;6vf<y?$Gw1&Xt54pRa:=nc5C;(9%zMITeE
w|~NGFu{X'QD_3Fx9ZMK;ayZ|ca%mBj|Xjr$WBuhq^pxxzx>v#?o[fn/4..xlI]NEt!~6Etv2;49$y9pe4t'<~z/i=S41&9}#c)'_~[pV#FB3T8$;dWxhjI'<b|=[mwX+C#L%2AnK.Myy<hjA#ftkk
}TV&y2sAp5*y*!n5Q5t,evU9$G{Lf#;Sq,QDr!X!*LV77:z2>L%`.r;m+_c=>zW&i$IM$QNmF%^;o5_2VTTjs8/Li;&Tvsk0HR;w'I0Zdg'O'sgOg)p5Se_H6d9?+lb<|K:fc`NILXy%7>#Yh<F2KT
&jJlG2[r^y_tX{M$G+ZX1=ciJLE;Ao<Fj+(0S?g[y7Kzmw?C(9'TnXT(t<b4Id/_.wL~nnw=Yjzwq)%)J1>P`2]dPIs)4iEa{!v!Zd+_!.>Pu?%Wn4Tw0Rdq*]&Of95}Lz6QtkUEn:4>Qj|5a[!f>q
zcJ1Ll3cGCj*,tb?C?dz$9h&y9Kg|KZU^[99)dgy!A1mbX9bb50]!YBY|)/aFkm=_A,.>v=R[^`^o^r*.[HhE/cI9jO1jc'vtIWkP6]m9u/ao'#2UH2AI0|BI|<U4+Z?K]IBi9a=yntAC_Mg=r_K83
AME+Yy<r1F%3B{Io9a'BgCwZ)8%y?S38VE5xYV6K`)|lS:#l+!0R052w`Ux3;^w$aK'JZQ!iXiQSWn&s3$S[T?hDw49x;dx,(9Iz28f(yHU.#SDK4Zt}4_3!s{pxn92LNaM/6=U0eT|!IE%x,wk8NS
x1A]?(9Uh%1sqCsDN}Af.b=G:C,_A<~ZfvqcJ!L0*3F,|N$EP['FO)IrY]]/&u4GrYmHzu}Cc<rzRX63vfp.2%%tQPxqUPSwXsfrQ?)Ri6EMS22.;{a5r;hdEH]b#zJ>jVaw+kNZd:Jw3tT4l4o:,3
Z]xk#i4s8e!VW#.hy|?~[1~o~aF3b*cSXJ^j{A,9EXX!D.`2ao&0dO/ET<3~JawZ{vVr!)q9ttl!!T#lwGc<+/uBJ!6ugF'^NY]]hTYFjO$2;Gc6$'G(hu,34A[qSU^g2JvI^gK%cjdNo'oaQLPt[s
{PA3*/9}NBBIbJr`LDcm)}qc^Ox^K!#bnt=<PUw=ohhGv&lc5FMCmlPD4uTG_`ey!~LBDX:z/MpI2)wk5+Uqp5?pD(8,#xg.QvZ3(Fko!*q#]L`K:P+w;Iv=}k^m7gJ8lAB0x7TI5.Bal}3M8StH?%
B_m{<vpxB!u3|jogIPZ.<>=3KRY`*R%5=XP_O}A,0J!eZ|YLry7r?H.>IS`zCMIFeF{,%lB*U;d#`Cg^'(vS.RdJAVEnr{v00sJ?2!3tLWgp2>T!^)K1QB>>FS`z#xRONnV%ICYp]>;QG5$RB)tJ~0
96<X;[RkqWlAG<*&JPHJl3ODe9_`W(.)!';jfdMNlyT`|H_Sk'WEnXmzS^Gt2~Q^O9.F:OdAUz$8vibcK{]AHYYiGjTrd5n]:Be[YD[X(wyQ2ZOB>?~'q29H'BkU)PgDhDRQ[B.~2?+HZE4HIr/_'T
H.OEYzC^|x)8suy:z6WRD+l5s8BS(Ew3M$E8oym~Fi>J9J4Ip7,ia]ol9|=||B{JPsd~9lwc{R5tx5]Pe6cH3.So./0d^r[yDSTS$GeDj1[R#<_3X3UyVa`y*?rp>dZi:x{eCQ^s|$DE>mZb%y:D?%
^g{%q4<|E|3[bl]l:Q88}&*^ACKBo)1N:sE>qXoo.9Bbf96p2zNMA`XlOZH|xSRjQH|+n3mzzjl.3fPO{Fw3.ontuC4tnNc8EwKb|lJ(V!&`uQ(LlGqYIILf1?*B)U/]/b%J{zdQRzs7bYXF!8SI[c
cwfWulg.EVZhYKAvpCf!sQF,e2PG*9q3XCd]~YdNS,S:?xzGeUvEJ;,^uIzsEJ6+hCCyN7^}B(E]PY?X[j)W$An2SRq3[((WYj450w|23wu,/>P#.w);UDz/Y4fh'Gpa{vD.#IeA=lqv^I]8Oef6Is
b[8aTBjK5hB#4oK)&DDrXbbqTC_B?vG7!N=oX*zS=`ueT:V_mPH#?9kLwpy,BIK#D~dFq$OqT.q4cQN)8_o?fwKfW5[t['OU]yfd%,Vel134~3V4zAdRL6fWxB;8NA>ZQBaFbxZd?^OE'd&I9JM.+A
Flhkdt~u|,1$p+4,DbA~[nHfCwe.m*k4'E1$Qz&k_0$Ck8(Q.#,$Q~Slv2W5sl]FFF<1_Px0XR&EwB}ujLlzm*Q^Z1Hsw[Sz0%sQd[7Y^D6bizzz7QI%h6sGXoIFJ8E]A]_AHx[?)YWjXQe7D/q.8g
lef'oxN.r>JG.l6!P)x80nrg)7d;bi>V=Q5btLyw6[E(}eUBkUfZoz)+oNgPC)~+kAi%,4r^$N{Ki3q7/NP0MS$=<C.P[*B78|Xa>=lS68D!u`re~7[`Tk=5+lM9&%ObzHFwwHkGT6soYG;pJZ=C0[
/XdG'ftzcCGP!8y)XCbW$pU/4OAS//}acqwym#o*^,5,jYs%dJhhN%:ndN4VUT3sLNU%M`urSx+kAevemZ23nn&>a&]MYy[CsV'leUKl8%AC(HD?1|xMPN.igwENK#)&h:TdOrp}{5Lx<I:K57CA4Z
Mg5!USgqnLN!P5$fC;W6E9vx2piIbHA5n4SAL~'rOG}pA{Y$jxsmyA?x12wi:d+%B1NUiJD]y*X$`7BSIIu6:L,%vkMw2G?mm}V9qc!/n`9UW[QlaQnatv?~BMvQ{y';+;LB[1.$we2{uH0f)TLXo:
eQU<+T1ykXTZHm%,Md,UAtk6Zfv`Bde,[l6;u%3kmlWHk8DwrbVg57<Z)H35Ippdn?XJ=|5cs%>)N'|'iAA|z73wKNf?`MC8%XNdNN=+Yf7Ka/hRB]zKY+R*If`%zAvYy+?l%95b]g=M&.2jv/_w|a
c'#N>,`0f^[4'#>0ct~1p<Wo}<C4Q*Q4HD<^q}/k9K]3Y,O>MpU&yO7,bCZyfeKg&+V7]iH1wE4$:8OMYx}H/wbJ$*WYFQyOc'5)[uArJx6jMR{|!).]zjxk`g]$FhaLU^230v+IK?R9OcyJX3r:|H
$CvH=33PDysf^Xd|R]Zu.)F/%%'sCh8NNax9z_)v;o^&/]o_CDU|:ffY3.9LK'0$^ub`g`]DSezibZps]%Y&&wNDC}u8hEKQiV6gMx1N^GnAKmTxl1DhwbZ#7{T7O'e0;RItvSRvVC02&u>QACE(>;
jJ[Nzx9CR,()(p'$Mcl%.ZiCJJ7^*0a~~7U#gc?*.3)t?RGGdo.AqdpHpr=0vkPm~,L/h3C'}`Xm`dr54DPlP}L{7tEkCQHgp8lsNs;HzJi_K1t|nj^9w2bFB[),jAk4ludID&ZT>SL$uysd$vB{3Q
(Ls]=cEsG,9B{`U%c66L%:8D|uK/<0l(b)fI1Pb7U(kokcaegsQgwW5V%ovvEqF86'?X>'|U84(T/y..Dd|YjbmLcR8y()T}JlDv?LUI+Qn,uT9lkS3u(2_MATDvU1$n*w!tQ+yA|QBo3~EzjKn1G+
)Pi$XMH?8Lz7q,M)Tw&b=5]{Ds>6o.vrU##H}Htsowhlm^_7X+0u>H_2w;$Q&<b4s8=|sGajc=.XO|JDrsYr}?r)auO&]~`vTXm1cCifdTlSk.9E?S2`4#|,4tizWRItMRX~>tI<.o:Psd%:0}=.D}
z./df5dTrUDhX{GE<CImypyON{G=^>V9+>}js4Zje4)IoeTNy:>RVW46j:fHK>U=TQUrY_ZQW'nUXjp44qrDR=i=y;(p#C,aYU%XJ~+IYp4=aE)}%5zO$~a9RPOw9|/drblhQ`~0>P$_&uMtIyXyCe
tjS%yH:aM3{DLb6tch<*h~=}F<`/sd_|)vp+O,&%<_YK<2uX9!iu:FSHH*mUQ=UROD[Jl=A!r}d7KP7=IEl3a'!'d1G;mzr|5>O0cW}v76#'kl8svi#ls/Oi]&,3LB+VT?0L5>5wFiiE7MJ~G[~xS|
Z,5/*{at#iOuGau%c#hKL!bgoW[oNTu7~1q88ioZ2;*c)T'LNdHaZgV7|Zu!k(G_zLt4xoGBOj_:sI2MdkbL`=QIcJ*'60~U,|toWDS[mdI.pDuO5k[TR40yD/AH$pPDVLxIS)X5OZTuDf6F`hUOS`
,zF,PuAc{IaDG%;43l>q!o<BR0%=%Uw=NiJFlQBB!?WVRd?l)L?T4)6Cu1Z#]XLE[#?J6G2f/)XpPZ3zolaltFlnw%K'#2dC^fRUJ{RI)'o%/I2}2z8}Au^)#>&oD(:mu'4hCwZswp,ZI9ke2N6^~R
}gQC6)gTSV|z8%yy!2F2<#On'LXw({wYTQh|,]>3g8G!&<]Mv|sa5DMEy#`TSUw|X.MYg&Tl%{7B)Z=}nV12#rY_J5A/;2V}>'?|]GY5;t[Q/EC]h8bJ_*_ShacJU;;SUU7o<B1nckFlwSMt:3Zv`~
6KNJ>mi,sZ.Sgb|RMnsgx8P0u_+suG_`u{<.5JgB:;?B5%l'0m<,';W4Z+S=01n{!F$}]x$aqhKS|RDm~UKIy=hl?{Krlz_k2Fl${oJ,$`Ypz<MHf&+xnKc`IlYkva0^J1*a($3$t(,T[]QaACM/?)
ZHqI}VGnsV6A48*yaiOutQZW?EoKp:={Iw2OPblWvdgf5tVmP!q3Zy)n=!_L9l7Mu`D;gho)^^6H1;y9'Whw6QrGW?MU!v%witI_r56azFkaMYfKo]iq(x3*0o9n='NsyE3RxsfiGhxIDal:]$>E7m
O4x2p8_Ev0do]5MZ%~(0igoe+(j{a4iw+v,sgpx+.3td[kN'Ae*Jsn)Fj5OIvSr6&)q.k!EAuX;N|}^k*X'eQRktaKX9$~n1'FJ=#$'kU]RkG|i=i2GCy%na6*Zb2wx;fQ=ZWY8`O)oGT<M_km!IW.
{=lhr^Z,*1:,.{eXmwj/Rb)bWLed%you6mWjzy[9,tpz?%a.bTTm3VR772llLH__eZ:UJZC,USSOtS5D(PVur8+/>:o3XBkI=L9%+g(tPFvN>7OjTrp?]xC.)<<&us8/!M`P[>8juw=$M';5N6El&+
XKFR4%9Ep#K8DTw(Z[>*84/4qGXT/U16o8YmA]*iO2;`C9$I>9bIlPR,+ZByThev`fNGD+}GR`yO)YO>^u}!sL>hYO/;UuH<Y5`l.ucf<Q*ROJR&ibZ$&b!.Tlx`y(s%55|Gm`.1r_S>~_eZ{q+Lnu
=?BKjFK]<B7)JU(GZTFpEm#h/t~X%OC%TE|A(/N?L9~NU7Tu?3pLoSuI$`kSmKico`>;/wZu]4KW;TPn#?[Z*!=pk'4>+DpVDrGqH7J=L(Z`B#P]&8_jf~fXf}FlR0/[qls`GBMz*e`R[1pLNOqlim
=*+DsKz8T;x>f5I)B&{Umx/$bBgZ]`Me*H#Akg_,:pEIm^O8!Q6R4(Q/j%(x6SvAzX#M5[[!;5c^I4zEHx]54RQ6<&va$sFxd5Dk)LBOESG+w^mR!bEwG^#Pu^&Yirf~aZP`*rs?`Mh&wJu[^iG6.0
N5G<+DiYn?EXMwQ,$%IR3DCdv[{QXO32vrk?}tOIP%`rU0J}]^f$~9cay>F_3Sq9%KLW7Gn'~{s];~DkOV#xMUFCs&+1:qtc((XKZ[qY&q0.Qj|sU**KkgYI<VAmA4RakzK*RC3Lky+%FJS2QX_5xi
qfOB4<9_&MvDl/;):d'l9}Mvyi.iHlAx[cC&/QD;|22w+&Cjs<*jwFB_0.03RxRRz'A;t<;ylJGeBX0Z<yExmX#wX;]pn2oPHoM<x8hI}+o&BJ,>HrtmYXid(*zZcI!/0Y'eIdAUoEAE/qW+Asb*_)
CQ=U/1QcwE~NBW}{jPc/4/SeIk3*#&vnaB+?(v>&F!_$eA(`GGwuxFS7}T<6/>q%{j>uVtq<l1GK#8{#&%<r#|~cHD;~!wu+CcZ5299cBvthi6cpKwWpMfwU'FV[JA~[}#2DBS_%J`UVXv%b_7/cS!
$?!=D%zaY0djp?FKmEw!PDzm`sa9xl*!^JhRJNu85OA9Z%m!w*PAcvzg_eH^h^vMdDKe0=kEGLU$w=FtDYN;VBfya#C4LTEgqyPUXRjXcYYhG{HF<0SXo.pJ?H=jx+rHAmZBY_~(CNa$6rEJiIE&=[
,:Na{1,S46oN;Q^6THBN6Zt6d=V7o8^BmfWkx4+9KG<:j>anDN$^7UmvdNNyw/[|WO8>Wj~fSQ]TjZ+Qv!hEo?g;,(y'Y+S'Qu.!gKNH*[2*kT<:&U>gqjff6tX:RA2K,jNia]ZsMov$:dcf({=nRC
ar'}vZ,[rLN1Ou7$7go8#$1OHHBWCP|Q%X9iJfnXg{t(wu^i!8RkV!A'yG<=uTc|r**n!K]VZyb:4_Td'YZ*IkVY9&+DMfE&7](KW&!r}ouo2=[>f|,*b$$=4/pP)32AF<tfW.WJ^DXnNMlPHTKv(_
/>.[q_H#t=fpKb9GgLO1/gL&G:uBlAVShI:SmR3R{8o>x4s~nh1:HpA~ovPvlCF[]DJ^;*u3v.cF1P(,6RC+a1G!,])gBZ1Wm^bxXedqI{>KhJ5*Q6T9P},j;y.r)vDSGMXgYy?2Am(_1ADA0/0P.Y
!BPDc)s,qG{[Y<${e|2OG|GMIZz_/'.|RC%zF8EK(Tg1XY*T~wy01wzjc+!HA2D+BcmS^d)&fWTG$.hG4jKgA.VLqC<wf_Yg'f9{qz/ep<hr_Q<azw^P|[pw4p.`n;jSofS9Uwyi(/WGORmP#jqv9o
6~bEG:;Sn~;v2.^B17yt4I,9TMXkqD!v_ty};V}%p*qvK}4vVhV+VN<eq!ciQx*bOWbu3KUDPj[UcS{[rqE[{]aaLGE{6WR{l.Me#ZPc867hL6?'?ls?Yot1svg9D[!Xh3B*YZNT1q8</!8eio{hIG
4>Idv!Cx)g,S.JXsi,*;+;IFOx[}DK[{0/f>jN'}`r2*A#&1s{uzw]|2o3Y0hD$D1Mri{h)%TVn$bRsW%K1Q)$JY=_`/'Xq2jyVG71lVoWs$aR:o^YLI!$Av'Dg>05B]Euj7$z>[6d(e(f>qRx#m*c
e*pjLCDEJ%/E{$TeOprVch./5H1wmB):nOH.;K9u*{ZW{1kIAWVZA!7RxIdHWryOWxd<|}+'93I%6'#N%R%PmgkRkJD2(1C6{i(=(y^,?t<AdBWQ2('kck~EFEO)VKQZq'S]YY[qHth?p4tf#aa{%g
HR5aHug}0L{TV5,$29N+&d<G2`Cmbo~2|O3na!O7NvqM9>]HI'D&_gIx_f;cjzC{TQHQ2d!tHS|{8xq4z^Uh4:a's:W!Y'>lv{{w#;RM,j&cMHg<L.evwL1B.O`CG*wWByYD<jRt_N!X(CkZx{!.r[
8|ms3Bp8?23M]Axa'lT~w):BheVN%KFm&h(M6a72_'uCPRMt|!ETft_M,e{56C30Ek4}dqTpbc[`PV?BSVr>7d?zjMo||B+pgv&RQ#%Uf2&apv%/RCDu}_B$<a3`MR_xio5g`Tb$VJbg#}`O&)?WnY
]O,x.l8^QKXi=f(qxDuF)1HNPgo}yf_|/(*M`z;B(2xZIoF:F9[asSN2gJ2k{mMKctk05bo`fY?|p2.y$2]$gB9HF1kjY}zFeudAQu7%WcKX2]4!yU6I0LbNI';KTphlsf_.M*e4M/eyD[D_^rRsAH
}7Ys!xN=:8u`vV|qiCN^EPIPNsBauR%LdI)6XEM((aI_n6L_vu;sDo#Tu<q,#0c';Ev}zsn.LOI|q,MUE.q9Oe6WUEY>|TP:}5caM>vLB)NnGbE32t'0'+G>3A'#vZKf1hTl(nbCwHV8n#_X28SJkf
K3Q9ca:hK(0tT(M:}#%>p*H5I&O*%2<1`ucf=Dk~j>Hwz`X7.,W{lDJQ6PcF5aB>L/|;]MQZKple~R#Jup]cbC92)L7vE3Ll^{b(.Y/'s6zzDS8+dZ{y$<V:;o`$'P(V~^[)`r,,]u=Y0?rA^YRle=
e'1Gw;(PGn<RX&Sx>mTw?LZN}Bbi{&?+CIfTwAOr;eGk`dT_.>:+JTSiFQhYfZ']p]PSpl!ECV*k+u>p`cH#ZD>gBHWx:01jHk*[yR'Y:,Dp6|KMD*NG=VPSUTWCVN+/32|1=qaJ[7EtFV3+FFI{!W
N5`W[%8V}]e;E':$kGI]:'fTjE%8[A|{Do#q8KTH~5tZiUn]~I9vVox<R{WKoKmEAUdC.}qqR9IHGEo!_0ZU^?4$=kaHRApA1ZvG`e##NIBerrs9rOD!dun=9O^|3't]9(Kq&N)%Uc8!EP'>0U?&6Z
^!BzMBjcMy){n'9Q.,KXC$t39oI/ozzEQu&y>ifbuF(#ZudYXSH:_^ml1UBQ,%`r1|F]+fQnPp8$S?u{IB?rCDFd(DzW^Z2Fe(5>?r+$9>%hzBRsQsK?)0f.)mZ5&]F_C,sv<LuzqfzLXVfp$HpN/f
02UKsNh9,Mmv(^pC:H:5GEm_p<nlrlni*iUOxw*B5Z2}]2N#1Wgo]6FwlScNc&E`W5%{KM;lD=xEt:hY5FvXOse66!=;$&XHBzqAHRbu:fNbxS(=2yG^sDy4(LyD{HyM0mR&&V%/LZTZu^,r]q<P'M
>^75g:m{1eSX;6'3/$}LK5kh5TiM$*#]3h~'(fbX|g8rU8mi(ks~=5pW#Ho8WmSYjMm%ST/+;1]`0Fxk5<FV3[P=;>H3R'>!v^~fv3ZS|SN7^L9lOjq'z37/6.F`8vG!O?&K$K2%8;5MJ!CKdS={b9
{q6F|7:Gl!=E56ohByPRWcds[TX{j{vYQRD+~o!>)JBx|Bx;f:E)/}g#IJN{>$K{NwAKlr,JA2$*<BW?btd|h,$3R1=O%]*`*=8ynL}5AnBq2d9KPtdH{Z*tY{#x.;BhyL&pnaN]`4]WLGcvptvQ`3
d>=qQCeMUV?<(Qn,M`qNMP`^CUn5mk}HHUW(.}%ex|yt&6Qa>b26&~PVK6GRdpPr]KS7b,{~..eRpw#{},;#US5rHik6^C7mf5!&OEQ1i|4r.7WzgKA/u5lpyX5hb*M'2y!xR[oUV6!N.y,|SQx=C#
U(by0X}DgfE2{8`x!~;q#r?V[)Uy,Sf!zdGBTNvc=MvN$2]KIrK;S3U]_+qQ%ETwAkc[5(onN`i.>b+HWOmxf#64&x>/3c?CT,r/w^iEU]OXT?L/C=S<bJhRGUV|%ptWEWVTgGZ+0<kClF/_WqbwEe
j%FJAD*V>JlufiU.rib!}8IpWZvJe|{#vKgYQtsGwP:8kBG/c`su~kYj4'X7`*VxE%h&,09Zj.9u`7c~yWw{tQu<&wL3Jpe=}j&<tNSE+Xlb{AkZKo1GMsOCo4BZ%N[Wwc`^Tmbk(q0uZ{./]X6u4U
#=s_OE~q|blxHki`C!|0H{2c14N;P,Em.Pv=~TQ52{0zxQ=>0*(;T'A;ti;EBT;|rt_:xzcg{5lmqPJ}F?j}ql()Rh[!C)W4GTz/A.p$ds8cpjW|.yJ_bFd*%I,RKo#/3_?5D0ILBE1__<L!9SBi&G
ESy.4kP:0.He'%E?M6mRZ82a>89TQSe1?veKK(H5i[1ytR6fo[`nBIhPgSoj&:O.}(^bc*A(7Zev^]o3WQe9Sq~<|%J7686Z$ekh_GCdA><z*89TNmzJAXbHk!FA#ae?l8`*J>X?$0|oDq/w7LCBYR
Y+3xbA59u(%f)6$h[qSIo+71zM7[cANQ%W/ul48(,+$R})ttviq]FpX4_N;:8a2i~0N1NWld4Q0S78c'Br]irTZ{;sTwdBaf/=>L(b},xqUlO(P)xz5PqaJ^Eet`r^+=_k:ku%h4#iQa1TMw,C|]I+
K$*AsuQbZaNbqV0;$#1#Zmmb33m2+P>P0A6m&4yGuSUnk1!jZt.,;/]C<!UMoP|+</fGc,#{_#Gk`*JcG1)_:'5`#O;PsVk>Wf;]a|`z}xrxdOe.:nCWkOH:K}repb!%C.!L6G!W>v0=oh=Q6cA]/[
}}Cd6[d1w~No11|Bcq65'gprU|lam%6uXYs_i#']im,:LU<z|{Pxhn4DF}wul8%wV&Q|)//Q'BSKvQSqvB$2)d%.(O!i/?+q<I7L}gZ:OUk2i,IM6:bf7Bj{tVqwT(^KuZ#0Cc]|dyba:o&_^KHf%V
A}K#^i:%,mE|jT,XpA+F`7h>A:CPnA_h?MDeFgS>ekQ)07Z$]i}Ra(T[u'U29aEd{v%B#TUPMM5{W,u3rL?G6BMCw3V#zP=dCQC4z~0yF<CDp~6O:99^9(o}5z+T%O=;S&sDjL|;n^6K9moOI_<{;1
zAydu&mbGXO1*ivf3y[huqg.W?+=%%0]*|]*du3r=wRQ&,c9}u/]`H#z7)CV.$]R!I!j~67wXVxjhH*!KFN,QgA*i>jJ/C[8)^B`][N+2j_v*$3E3;Pf]MC=Z=Qx^xMQsLzonQXq{::)lN+H2S;I.,
M7'L2f}K3br<cEW(#~n^fnvp8*kI>{:BTy,$o4*$%5Y|RCWP%$6ZXR2B4eJ#g2xnfbqa%J)e'aVz9`iUda#}~}Df,wx[pEOkV8'tlg2qhH!/bcnu;pj;PdE^coqFf0KbpddK{M^yq?$T%j?e^If2_`
XMqUf>sw)i$;80_9_+*NAaf&BA~NO>.p8~|hj;{V?$2XTjJ[Y3;RdC!Pd5NxK6DE=6b<%H6']L]6l,_MXS<Rc+8f^%mV^`47Q[u.J8>x$7Aq?JnX)q((h3+DaB&{a+||)g~>llhp2=eb{OQ'Pqy).|
awVi4:?k67?<V6K<H^q,ss#<*&2H<i`+zG5m'3k{!gOc!]0,>LZAxO3)*'VzF{?4%C0Cw`Db}C3i&TNFraNcx7a(O+H[w&^8]sdy3B:=FyHXbhG`tV7ICW|8S)bZY{fgUDld,;1W~,Y5[#N,Zc$q$P
h!o<?d.zG8pv%EQHt}1>r+zJ|0j)$w`14=oY8FHx6Cwa1G#d{=+(f=o>${AEHxEVwTHdR`GU*{}WT_T[VG7Ei&QC/*K[SQ'3AS=k)Bpuom'&9PK+A4UunX*il$pJhPqX_PV%+ZU`ON^3Uq&BKy+7(g
LQn6r[uxR_P9*=HHPAjr|rx!i%Xx7L^}6z:5Hm5dW83|)zq[YgVi3^LbPf#]dR?]Ye3^9tWj;)g#LN^h,6w=7$r0GwF<iW{cru}jPc$^7ftvhmw'Htn3}]_yo2*975~t/$Sp~/8a/ENL4taF'aFLLb
IOA|_<'4}%czj[M<cB[G^YWpg{Hxtp&NQlR^12'a79f>O=9PcTZB^xE#|ycfcS)PIf0|63`3SZA~;t+N<9Q+oz$XA%2{TD^(rg8]e{(`me;XQSl<BcpXXm/ZX]<q.l3539R}YN:#=6J#s3[.XBEU`I
B~I*1^_qR:0$,^oxU2$leuk`kkgew:w=2!+(/^g|P^zVfO)Y)*r^ChF2z(>:6DPM;,>/CJ,K=>'?.kF=TJRjp]3ntqsUjE!+TK}cLCkga5K[>WycN?A#BvtIoJAN_7'c;z4h~LGQdq}L:Ly;l=s3y7
%^L>c$9>vdqq5WTGY[zdO}M:B7h`r_VUydxOjGPKyFPD49k[~gsREn5bysEo`?CZ:%dVF;JY!x6R=KgG.Ix{RQs$1Fo~0DFEvJa'xk}&*j7'uYvUfyb)UsfiXFi?wE8N6xrp$`hcEm9pD%f't{wm!;
!X:PozL>'9xo,oQrvN{$Y=!T.sOEw_AYo,1>q~H8f}'>yg]LSfHfuxDa2k8QF<vhO7}k1J5:~6UIW2yURTx`mQ_(LQbwrtj0Wvs:zej'vxv4MQ_BjJtfBpgYbaJ8+caAHaV]},O{sBhd~gSeVC;lA7
Nji]#)^tw[iFp*!qYS:|kp%,|+PhMxM*3I%<q)zV7W}wDUG]^9wq&..!1M|+4<vyuqK1v4WNdouBWWdicI9(9x8YK$kP975's!2~a7<RGSz>F{b[ss>R#.E/31zEb<N|tUxp3YWhr{y{XVd}=E<EZ{
AJtK!OVq{;RMT?JSK8rj]6hY:6^K;/ybd)(porj1rO,FUV`T3sK2?s:`0:<_WIiky)#hPBMgAe5}?,;qkAO%UfsGCsi:FQ*}87otz9T/)YQV!z#>P0vo(Q*5!H3e;9d'`^ySq+s[m/4`Y'#5|[=?#^
VFrglrb&/YL>M/HS2)ddGQ3aeP)O8^9ja0Cq=e}B4A2aSW&<i>BQ$A.F}[(]u:Hu%Ac'Z<1KKjz}]85.a#WBKo.(Yr;fDOC;S#%H=.#0o^5>2Du$`73fep+w)ejDpqM:TO`P+:F5yo2i{Cy4mGes^8
cbrkNMFOoF2'CDYMM(wrfWe.8s}18z40!8Gu_Eg9v9)n*O&dE<18M`X#4jjI|vpY_}sc~`k/'$W#,ZFPDc_UN^GuN%XeC!`E`MnEqI^kH8Nuj=32c|R[CN*H5jMAgRe&]BV4,#lEc.E}r~}OG6hgW*
U~l>TS0aq(,3]%Q~WbwDKJ#+.+3b<CE]~jHwP/XChhvrWjoe9kJMOqK(jFCPMBLYG(yFeelsiq(xUUp6/m?Pm]&ZaPvP5GmWAAIP+%OX;7{~z^*KCrTP,m|>d[ewg3`r(TTNS+k]:ribr1ue0>#rt9
XMIj|V<XD+>tqc_<D_&(fkE<i+{~p5?tneqc[:Wdt]aTiV>?XRb`?~6:.w7U,aX+9X9cd:$[?]f20m(1}F%=W5oz>h03,KcPx+#|p2<lt6{7G[&2OYjI#[s9+Z:QW1IbP/O3E2`L*gSQ$F>BDQUo&]
'`}WHoybTCpNPr#]L[ae`mk0jbb*'/_`;5q1FVm_gxT&=9bigr~&m!z)7sAJBp.#S7)'K}qDlK?T8e{AJ_|`_SkJ2^ECRzI:*2ZXeVmFcg']n|Nia$'h5B^b0~1dw<3]R_Y*,]{r5+#qn{l2.HiECQ
R7)?dmmdc(v~vO_BK*2eZfJ!_A2<3YWfY)hoB{pe,5HsT^2!x56MH|Hak',df<QuUx,WeJ{]FsAFYrB3>)Qd%VrwX&,IPS=kt.Gs3SOL3#FR4LOSNCYZ~nsS<Yc,BE[Rn^|fxqAAuEvwNUFM97oZm#
P5Z6z}RgnF9>VTI2C$!H;rUMq<)!D~h^/Zz~Tf0>fnHx85W[}j}XW{)yhB!ZV,7>RMsYk5L9PtWRIYuCf%8P|;}'KK9f4S*:L&K_t<vh?_1prV[V+]ikf2omM|,=sd&aMfr[u.K9zV4m+o{[]rbDh)
~{p9=HuV[lG`p&*Fa}{p]AS+8#v,<OE5lJnhJS8uv[_.}E73QJ(.T$si'cK%&w4UqvlB!(T{]`gx]w4#K]yIR%5nMVkHP:YsK,m.O:CT!E4W)Y<!tC=c$;oSAY!.m8bpEv.PGW_1^683e~0SRjl)I=
XjPRKpCP]n4qROF7#E7_9`~mdU'uzs~rWkl/vTyqn77C<U3*WH!h2![mnQa*?T(~/y:nBFBDZ2UZTXw#hnPV`*3|hepz*j8w0:|]cJwrm+OV8Qbf:JvAh'lGrc&mXE{i9P*hHy6ux%;L%E}k&qhK<i
d`}S6)}cV#3JrV!43Xbz80i]O^4fiq07Qoz$){[tUn.zYR`w^3{4a9Jqf}h{;{#_Y%f>ZyKm#u%JGE(r8d+!1f<gUt/%xInZ4T]LLjSR)V%Z`RvYLLh<<(W~NESLwXN1Y5OLmdf?<R^>fkE#k(TaF8
mRfC[6Mxxi9^A6MQ>{#6Z,G2_{C^dW%f2'Nlg*?4&|oD6xzSU{kVpgSjb=^QnL6LO1,d;]=r[z?>&XM9U7?2Zi.J&)~+6&4SH>9VyGr4fi40}'*F`=*lIr+hqI/)~6NcBHEe#7/D3n&AEWSLrgCN)D
NV)^#9E9kdeJg/FPQ{1U,fIg{pXa~I^LyobA4,H'ncP7bPsH!cGGN=_f|(MI{5D0OZrRW|KJ$JUeBDchd^HIe:`>=b7_LIUk5nPZ)pwpLT>MKgbacDvuv`Kzipw+zMK5MysZWC+9!+zb+Wq})ygu_*
:)q3*>5?(tj<;73ff).Dyt;nw5FfERD,}<4',=C!{V`#(bhzzuXV$V^JU[Md^?e!2w(;>k7S)uK'*}b*R+bNt~;Tas<OXCsx$T%8<4DG1$(%qP0S$,ap<9=T<.498tVcCi?[cLJDv,0+;VT;?iI8t&
~KAtE3^M~}2/~]s<Nu(o`f4_|j&NSh)=6WBmmpP'W=u!DU06dMy%{/o&u(vQRZ[J[>WTdyjf*PEiw5DMO]wA:CNf1Pc`jd|y]p)XZw^yG^W3;qknO?bwXf2+xKn#M'KJ:xyCf<Ap66KpJ4~07{BUPh
5/[xH9WU)i^A5Q:tL[jC#Rq2|m]m&R>NH8eI~N+m3N?TraJ<j+**2VFHs{3jl33[G;ZOu8Ohr6kbLi&>YdX[iJ{n:XW|<seo['OE38jHi>NQJf'En7owR.GO5Nyoq/T6^F1.vm|,x11E%Zpmn587D^
3igL>Vunay3`T(+=OG~m^_mBEI$!F{Be0K4:r'AqWNi6|Hu{(.=E#ms0+`~7MH=v)9r&9R=1B(i9WAhy3pNo{QI63>8*VvsFL?pAU/SHphA`=Z`q(r1zEw6O{o3~`4C'!hGm0H~pW:rKAfCljS#zu;
E<*IjK7jpR|j>pg[l&3Q<K&W9X2]]Q6WOl:O&*l:9eV]*y}NKOj?lybaJ9~2y;A+ifJ{lA`_h'VgP/eh8;0E*vG)7NJ/'AG_N[fZEbQkl%!um$aYM(e1DI+/$M!z%}|~mz,v|WqLs][j8s/xI6g^^p
=?:._/7H0QcNn]Yc'xDn3E'2YC7>`TC3YL9m!IOgSwEFA#`/=>[0TA=w/{El.hw_zqUBr5l}s7*:lc=isjEyt_esC%411+{jLD|Ws(A8|[5Y0WXC=#vBEB%uG#q_&.Bx<m)ap6qe2iR>6w'#~)(0?[
r{:n8a1:t9I&!0XKETD[fZ:`4>0Uk6G^E`mIR)M<iLv~3s?`un+GO_]MsV$1?=DUZ3|c.{ChY82#>vuTB%'&/`!>r4GQ4*[<,p,p[6d%`6Y((]hRVoTDN*fV!KZtkVFqVyg?:/RQIp=:63#8~*2B=g
jW'{FG1BtC&^{9'+<2)icwXx#*>4m_[D&+?Q+&SKV0('RC9DX5=Hc3aNE$8fEv;=.]^S>cR'2qKS|xAOwU_biT(1oH+w3$w.|H}~PANlF``I8rui?6Vt2WUd|&$.W24bM2=6}CJ$X(deVF*Tl|MWC;
xS6&pfsmOJJmd]V{R_|+x<;6>Q!=t]QZ)l{dGAr`.0W}TOa6CDrmH,eM;iW1v~tVqT_[lS.6Kxi^mgrFM[P(P|BQ'G&Jcnbwz42xQ4vqi]z5`xI]+t;O`tgiK;c}U,_N/R|F0Z]I.(LDpN2[bwA;C`
5a%ICMQM[9_XK7gBy:Sf<|+<J^tiCMLDz_~<o0IJO}Tvg_ZfDqmuudDNHjM=XaTl,:2kKNocAN.$tyuC(^k%3Fz[C$6ZW^F#;<r.K$sZxbN9VjN'>S>6h=S3g7[w}l'vh=bN'2m3:lS=1,I.#C5Q^G
e=Vhq#[}m<jC^Xs3Hgx4|bD=SjVqz%'._n0`w1Q.%wXNHb2N)bE&}.oCq}}`}|_?S|+Y`[J;u'uS:uA#n,GnMK#?G+s)oZuER$WFs{6!1FU}?WH?*?a6;7f<$ir)S:>gu4y?y>ZeEdEe|f4bCx,B,h
j8njqz]x:R,%&Px*^eSq2]N9`(d^UDY&F94tC}UH(QvY5XVo!A*_R8Vh/vhvrP:}Ha~Ga0E,3dDL}kG$bIXtt^HHYRTRj#.joq%y^6GL'*!C)cS!uQs({aLB03}iOt]X`0tBp1Hx4I)G9!~;:>Q?$k
d_ARPT$?0LJ^V,a*]tP]mDos0q1:*~Ev|}Jf|t90%EAX7syn,%`^Ro{wJ?FFGcj&AH;Bxhxm={rYOv50WqQ}_=BP|'Y{a#HAUgY[O?5v|E42e(y`]p2,&q/S.<I6x_dg$/1]~]mR*6)^PFJIQp)<(?
#+]9dCe/.4i1<srY)wZU`_KsE.>&rc?Re*s%SzLuV5|2wp}e7,PD/j'c2JskX{eh3TX3PhN6U[PAz9ur9</b%!p./I:YFRcKMjjJB8sDxHunV#?^|S=`P&lE'!:enwJ.7IE6$uXCuHeGrKJ{tDVeDR
%PZRNoixb=E4l$>aDk>9{!aP)Uzci/Eo'r14vKZo$*1hc`4mjY(`%rQ]8qn%9:y&$$MIoLyk]+3m_70b&?'AV;Xi6t.:SJ0e%*AR;yr}*vRW5t;ow{{d|s3&rwpSq|od~.P)|A7]zWpp#qP=*7z[77
hKtl1R+%JT|hh~/VO6*bIl$Rp|i_8RK:X#[ONUq.O_y1UW*(bauU!Vq]ut|mTJO/_Fz=?]gXEzc9ijP8ZP~N{O`s8$JbH&/+M2(})qG7`Ik}~EGH?7el^1)(Op'vEt!Ew:&_5}/AT}VXzhLo{v=%0F
L+'<J`S6U'vJIu*H5V$]oBV)t|Hicv%r)Bk[)b&Y0h#Nhf/qDaUl/e91KW1m~?+~It2H=UFR9Y$L#.G{78)}#lh+8z'i_sFVnG<<kLI?I~,vsU2lKjX)6Kk,d~&SasLX[jQP.PdK_L;bI?['%+[h!D
uS4UQ._V<qYaKMN%Fss^,Rr)w31yWp(4D#sTT%k;:F+r!]6%dq)Vgv5A.!tzKZI1F*vIurS/GLomc4Ugi3(B`n?SQv]XTc,/>I[Hf}::7v`zJSy.6xYYBX~yEoRC:f&U2d{,#441(H_>212EMo>1'2
=+p>}1YE'rXcDp=r2?`O,ipPo50i)fr/zNTz7ek!&{GB<zSPUA*HM~u;o5J)+hmVx94QABS!P5wrwiEIV4A8:t<l.s9pfCeUFyG/yqWgsRUYw?:XWm*8.y3TWz,zt&cHf}}i({I]u%Sb5>_*y/;>Bx
Lh8E)P0}|xx05VU;!f;9_'LY9c;#/Y?s50P9,uNV'ng^Ml92Pk4Hnl,G9ATwwz)}%fW{c*1|;#}^Jas(L08`.,gdbqN.D^|E5P1%(?xare]uGBrV{N28WcYirq0{yP]^2yF?9.6M,Ilzc>v}twP*T(
WvvTXThKwM?7>N*OgmgBJW#iQ)&~bFLj=u=K5llf7C*rE!eSeRbLiRphQSP|}mOlMAS.7A?w.OfylevelW7#.8d$Hk<c[kBx;s.J_KJrhZ`_Yp[dD+y*(o=VM*LcnTm>cS`&9.)!aROwIp>sA&yW73
efhI/g_J!F0TQ}*Blb/`.brnh,=(7v6>?&0B$2wY7QS^Ub_<qzJW]$gR0/xlwa8obBdC`7nbYVCD)Y^T4Uo$^}hCS2dSH?IX^KMc_a5K}tvpC>SnxK7U.XXOF,:{Yktq(4,Lp5S=iWtawBL6%ZxxMq
n1h,nW]qXfS/}7OPsmei70uq&OWtoyB%>gAbal#bOhiI?Sl&Jz[p}Z6DF`(0=x`tZ^uLuAq$[hYb_IaoH&UKbl,.kFB1$fvq8DO1J}=DV=|bm$zB&1{l_U0A~+_0Sjk)N[1itv|P(B2J<{T<L+?5)x
OonEefqcFAqG']g3'xVl^F$z!eo_wz&dN!u+gPpCn=FjUaiin;_8x8o*t,Tqaln!F<;|:}xjjQx$CpbkY;z!HoSyul<+~/h=Z'^7VeK.*RXLy3yv<&Y/b3&0%05H'e.szFfk.sQlSP_b;8m$V{!!}2
g^pC|=ziMjqMz&qEUIV`XNwF+J<0b!f3JFpVPW9&E6oC7a*X0~4#?87iq[+]#}Sfg+f8sB*h9mn16}|~YR46z9<eTtYv[CIf(b'zliGqI0'X~FC,UmG2Q=RD(N#34C0+k;v$jXJQlLL(fUU'%Mu/O:
!)0N)'atz[DW},3X$<Y^x{k|RKk+NI%6!U:Z}#<{#pClZ]`Xm$U'iED)%ZZ#?|l*R210$likB+R!YI_JU7PWXiz:9{>/v7~(WqQiEezJh2$E&(xsHbbV[o!=Vh:L>er2=n$K2WnuZIMulLJ84taIzo
4!A_K24OC8Rn8DquZUy_Uo#M)rn5E8kyN}=e|`_,i3BX^ya{y:h<rW>o_9}.UnOv;NBpYDw`huB;4ffcB6s8RBctQ_,%D2t].k:y3y5thZtujCVL>hm]>A)I,8H14?d%T=BFv6_aS=g4Pu]{4&Y,c,
+d8DU{*^WvXW3CZnI`3m;erg:6+ob4ZY~9%WLDbmN$wvV#{TVwScdye5,T+#gvo?e]otxu1ob!}h4%ypeInULquRBNyArX:$M$u;k.Dpx8pSVw+C)Rvz476~9I8RgMAs*::IxX(+NV54+|r'J~xG&e
J4vm,U#dOP%//6WOZ$8e>Jh/1}RT+f<EG|WJ!j}M&So?Ss/lHL'cdAt4k~z[`|?VKS~3t>e]9PInt_:d6~(njxqQA_X50OSj17;8dY)gZg/dkR]'inN8J*~1a91e6]Jif8Qu$*N6YSn}rO(VXbG5E1
/&AdCKx2/M/9&)!+SlG}42X|rgemIm0`S+vg8C`LngO?AdVFgyag8(N''Vl.?Gl}T_]gX)bua|p>DD9,9;^1zf5emBdnWD#FrLs?[Z4L34:kG=Eg<7zPwO&8:_p{8~dUDE+_CCO^%fSJ6P5WL`gUM8
^wp<a.$sMSfEb6IWM;.Lirp;eyLd8/2og7IuY<z:oH`!<3%23NVx&p$]P9[<77oJdKGY]XxIaY=l0<?UgdY<<xt:LLE#BM}rR2gb%m}o0q$,I`^%(#<3d>9Hj+z6M`$JW!!7?:Ny'<z5rT`Lv'B5H[
uAh`PF8d2}QNoT>Gcr1dZjK&7B^t}SQTZj}`3B+lnjikPX9K7,{:W=y5u7>6|EP#40#Nx9_&ypeTbyCqZ=EH:<^7f+P+$yh89_,iv^O;[|a4=!FFxDLxas[WLD(tm;#O}7P9O=vaB$faRnZ=d+,rz!
D&L'MM3}uI$*O!9O<o5b4P$qw2T8|!8Gz?qnFX($o3;eV|W7v<1)i~7S^`I_XyVe,`]UvX<kU1s{};E#!+UQmAV&hj;ed4Xm>Tq7Ixkk/u;;M/N1S{#W.%a6_jzP)s{xEBgQ^WC^d30rnoX<}W:`:V
r<I.1f^(]Op|7PVv0v|)w<yc[%eg:xmV,HpmDg5aD3]Tcg1t'#5%3kTL0$&me|T~L^_>1ahS+E,$B|R$la7sY(0n&`OXFpR7Uy)KI6YIq57AEMQgT1$39XhbBJ%gJqAF+Oo:^4|uHl~cnOC(^_.M#_
ulb8{K#s{'g?AR~;_<z}:S+q1>q=OfZG8*CG1bGU$j]`!tEf{qm{gZg5ZR/C=]Q|mL8_~A6oMU7.C|'DY7_r'cFNRxbx!8|Qng9.ta/*L'h144|y_KkWx.]G+AmX7:'s}.IrkC(w`CB1H2,?BB`t3_
<7uZQc4Bk+uGcUQ(aH,[+?yqSF*oEXXUw%sw|uVzw6ZPSg!LcM=3I>O^q9Nc[{{8%Aas8VY$`Mmr5J)[}J_M=jEq0fG(7Tu5'~9a[HOkC|BR?Y0L;ojN&4dq8+B`J5rSZZ%qw.h[k6upK4}&tW,n|'
=#AaJ#49=i).t0Gc0WdGDP(~:Gnwf^gIbbr)kz8VKzeQ|daIpRZr}S%&|_J~so>&OajB|o7_;,Con%.+R;N4oZvcQy4]=}f9&11mzs3TM1K&hIJ9cacB|9_Oq.Wke*T><dCjz_hQr>U4rqFM&wQb!v
t%9kQ<Ji'^0q'2xM6s:x0Do8Pv?({}dLwA+W5rp|(RQQWDYJT~Zr>f.csWpfZa3GggZ*`Vq63w7clbNNnV%'L}>lb0C>$1{m^b8>Uh=f+KHh>RNor6I,2IT<5'R]|>Ce*hO#BT&fEP<o%6_BR7bSr<
xlu[8f7<GB+?Nn6lwIx01?oH_rrpdlTZQ2}:cbJjVj)w,]z/n6LQTueWN^G;3#2X+.p3=?LkqaO2HCv]?R8T+!7$;R<cu>'Bl(?6l!3wtHci*}*O^BI)I~{YBS<+rI7,pVD)Hv+%`10p&I4T:2'mbx
D4I&_d2&(B]fUp;q'`7,9a:JNZcv2tg:$q:/THL[mONi|fv>8~Ea)^kpaDm!Nb=B:+DIRrxnfKiQ.(d)RaUVC,XDYPz8?SguSGA[Ql(y9<}Zcle;4~&)034bP`y5#[V_?EJcawgn}Y'OMro~'A%_W)
LBz`UcexOy:E/]q!|jBB5!En]HK>p`oChH=~Iyx[$74d8GU3_cO6AUvSm{dgIkr)tY5^|.c?MShVLr|ma)Z*SjCe;FzaF8mc=7)hgyx*yOe+^&rXEu~|zD&PQW$>Nr^Qk)C<^BkuyD0]kGE'=P#q_T
rMR|F^Gq0%T7L)UjeSa2sR7F5I{[TVn4Bo;aKP7A6Nzgx?dbO*SgPT|gSD2|gPHbOS(AW8$eKhr:&x$m(l{t#PDPv45_l/q|&'Nk`q2_C*(,r2.<MtDHaMgW7i1[[oxz|fVAU9XXMJX4pZLp!|v1N&
>fw6fN)znW(I^RxC<}FxrD9&z9Lgl,Sr5Q>s&%EU3Aoo'u%/TkzB*WM7EdJRSIS!sS^$A6EXm*UXl2~'*9nsmE5.Sks$sgO(CR5D`~Y4C1_0weQshYm98FKbKtIu,xTo$>0qApaH<|2?)q;)Ei]L^=
!cFqc=bHtt|8;e/g2uh2cr(x=j,3ftYmKxCye>ZmoREYTRc*2ExZsjRa?KCCz#Zb}i=JQ*U|S{t}pw1|73<*>iZzYa`RuVeVhts&:^$U26S9GNS)tGP_3B|U(dcq!D+z!gw>kOcB'dB5`<^5?45y(^
4$G$$Ynit0T)N|&3[L4T;suE)nI7]Q^Eu8QCC&wh~BumG>hZcMR.C<5=6Btq[f)=9sPmhC,Z0O!J/ZRx8=EZgDcoZB!d6g5=gcg>$f]WOyE2#OQ8K<STw9WX|h,icO)$#z1uh2Vc_ZQw+i_.sj',ne
6wUruaY0.u#8<oja?rnAW}[P'D=e7sZP~>3%+'e'4sHJ2epw{1A1nmFy{;O5r|Xw&y62t)9Xq.E<n#}kdy#1f'+:fSh?*Bw5?Cqj;Df8bT#yV1,Le^;4l4&si:Ws>k:>,{<'#~a]#^H03XBH<q&2}^
m!2S<Cett3x,qL*0VZvZ[iiSoECdf32SiVq(IIHwn{YxL5&?rT3?dl[=C}:V:ezdkT!*z=Rqwm9PS~VTpsu0h/(L2m&3mhNBYr$|>0Um)!q1S<dK+&&rX+DWs02DjiwPT&JKQC=?:gRBay7=C!]/B<
EzFjOn*$YuVH*9v5)[|jDL:euwFQu]P3,++2o6Zm^M!.:uA+LA:;5?>}BI<XuLE<`)GI2.MuDm3f)]>Yv'WSI>Bg(2zyX[C!<YkYAG1G)G8~Oj6r|_?4oLWn<}Hqg3pG|lezfvhL&%?Lpejg%k>&aO
Os:5YV3B,S#q}r&N,9T_>QU~v)>j3y[M%?UMKdt$POFGz|ytRgtZ%&u5?Fn9UBdF.&dZf/1Un65U/dt7lzz`E+(.PQPy^Q6Dwl>U7/t74qr~ZHqlceeVY{jP`QfmhM=dI^tmC}M8rg66QlQ8TV[idG
!yc{8gN6p?~vUWz70Ub`xy#W;Yf2l0VjFR00qtPQb+3Z/=M^]#mwte;9FK)qMx9g'tn[)6u?omJr1xA6#c_|CZX(V.(8DGIgfFH6n1mTyEs0IpG7;gtYn(`dQHuub/Xtl3!'yDW}_(~%uU;cJ^g8DG
T)P,~F*V.U1X.kV.ez$Ji?`Ok_j_q~qkYj#aGddq^{~_'`;y.S{O;&EN.1,8YV^B+B|3;t&>!108rQ{V8A(&;&dfEo'd00;<Xi)D,WRW*#)0RB;;z#/IObYCSGF],JJ=*ePPV)8~0[qDo|V6)Ingj|
|TfIo.138tv6ie5(vpfls{C,3p~2m;)eg`ao4z(60`*{~ioZ!6*edX)PXstnkAcdXwjvGX?R$./4#SoFVW(&t?;2n{Y~_=6[2?.PunWO{8<T',W|_}OB/gS>=3%7!8?a~k&M((oMhPqDZv:'G,0b^F
DB%)YO%!v!ebz'XOk8]xW5}.t(`Y.&~:%N#jO=}j:4[CFe/)BWc|RDRb0>[]/X1Gs%i9!v9S,P=(J7k>L?[F!&X9MYqgE/h~ur#KU=Lxb^kzcIR]itN_faDv5mV+BIb]EcJUBt|%G:A3T6=v.l>(w{
wp)<XY%LPeByY.|=v.eK<MomHkT|8<s[3LW9Q]7pDhz05hguZO5^U)w|I2W`]?8PGoaKH|f!}dVp+U5FHhL.6*E0JGKV[tp{mA:rbLMK_s9Bsc^q%m+e%1?z$W}b*4vYf2;F5Li,*BXv1p;%}E3AAh
wN6xdQsbqW{%B%0sd^~a)Xq~Qf)Q=okfiG[)%fKdwgPTZ02W>p_SEa7mJ;(bkq}duwQnChwbRe8(T?[y?so..58RnpqGI70h<*/KT(m_de;U~[oUdQlv=%l?gM)K<5h9u{rpYaBR:MRbeM:dVF:B;=
pF$K;,>,Z(XS&Tpm9Tz6DI&TK9[<~/Q1^+spE}$G*X~q6T!+/TmZ*h%qYFRi{]b45[05DQQ<bWZD)*3v7,2;?R/Uk;]?4=|=+$rRHO;^GSid6xRmsr}yY{#6Lp+kV1tnMHo^2nn$[A?+dbsqA;zDRx
U88^ZW.QEb*kxlkakEp=UaGw/K;>2:Br<BF$`d}9x7Yt?rswYS#D+'p#`&0xu'oL=.8E+t(?)^42O]>=$lOb/<I_aE&NEwzS{G266LDK.Q)9K2*'TrP^UW0U8T5O9{5(Ti=<|E/TzW__}h5y~ZJYLV
TgV=#FjvXT:~ri8+k_XWXyQ|HuvMS~K?UuO[.)6+0`dnVV>vX>=~`W!v2]}=3ziu48fVo|W}$Wa)QVRbo(`VyNp:ADRArRg{nu2]r>~&JKKoF:mjGM[b1&),xD(L8X8`.viW$N2R{J]wE(ZF#+^Tsy
w&I2elo{ZjgJ_UfS!cU(;Yaxn8<=.[eGRE]&:M?0j.7kIUMC}L8BxnPz8_J!eW/IO{h}k]>{#m3RtaiU<+6tTR'GTe]qvFSdrZgUAuK68Jk&+f<BG;M!D;6I`.ij4q]p}y;TOT}i^b:yFL}h&V!$z1
#b1/aS6TJ*oyi'1;YHKG&_U5YIPs(y0f|D%&2Y%&Fmr1C29Uy9'gpIOke$ToxFtW_Ol>ii]X'$rGG6dVz+oND)dA!9q245h{JQ$wGU1j.?TV&LmNi_T?~v.L+n>[0hin!)jLYV}&h^f{Qmbq>[V)HF
CiA5dfP>:|<NhgB?,dQgu:An#CS.t_%n8T{I[Sjc.|:5BKV+#H(L5a#rfyX#0)dLs2r12P,934.taSh[v8dRT^*DXZ^G|4vQBIwWMTRF~9%H|Y(O}LJ[x4ChLm=kr+`otM#I+g=(wZ[TYk?<G4oQnu
6cFKU*W+,G0BOI*o3lf9Cb!KE`xntw2#[o#KiuU:a&ekp[_S`S~?})<{&BQ~O#EVhY'!2cpz{jPvnW;I})kkwvcns_qq~,K$58hR/4jGKCz8!{3p,aB#M)y)p8~#Jh>X|V'LZT6BFl6S|_5;TuJ[M]
3rc=!)6a3}1xee/inM(%S|RrXAC~{lwJ*zPe`+87Z{4G$=`~,'~Nmkutv)d:<hSR*>*2c>V6R:rgTwv/Y>TT%uOT)KUV>,<f7xfg$+c?ca!$6i`*.{I[7?Q)l9Z,Um8!;$s!;Mbl.)S_U98iQ7Zb<X
7;G,Qo2nZAGvhg9RIHqlP$CAW=*S7^k{dD?%S=;(MN9tzsQx!8(lIzeuSg>u`'H6o.HZp1'BDXLO9URW:|,x=(V#Q&mdpb37wt~CR^}Dqm,AH9c)c#_xkB5q|Se'|3:(?^G]!lOKPjaZbv,n#NL'Cq
u^y>1Tz;(vil&k.^~+0O6qL{W#Ydob0SlWy_U^'UW%:7Bc,w3e3S}E!Ku4WAE{yheA{R]Td,l(/f6p,%fFg]Rf/4Yy*rVOW:W6K5h%z)vJzW#KgjCMTkxqOD%AG#y{6~`Qe}==tZ]pfSLy8l+fm}a=
9O|<Bb/Ojenr~4R?P4JI02`/Nk8z}KW:&$v$U~m5a^2ha(d1|A6nKkhuaO=}JIOH0(zXuWo#m#P93*4B1{WYR~*WS,E%EW$oVIzV>];s}9>AOtZrPfasvrW8ILce4xcPE~y[Oa!VZcf%meW<G}S73u
g$NqueE`FL=sg7{U/*Qyl(:eSExfKz1jj/ixW8RG$kp#6Uu9]rS54pf?hkKR==6j},0!KpvIGd<J[6!;))FQAYyCz(EzbQnSUjaF?=s:McA}H}/#_%{eLlW_4&6T1_6=RA'mX?P{~h?#^)!+P48_g%
O|9)0|5avt,{3H.l|8!TrNv6IO^d2QHlY,pat<xIr??aI6wGrk+|Mt]>(($<Pa|{l[s)dwLKhWc)#a|b9+IPYFij%?0(+O*=&twI8kPz:'EA{T|*S?e%Y>if8D&Yl;Lt=##E&P2$*(%v`j].SiZB1n
m;aoq42_f]noT%8.Uhg:6p?eBfrfwVQr;3r?#BNirtXwa*W{)6gtat3}z)L/xU}Gaq>ghEq_v/y[BfjbS#,TCe3^7.3hZe,VBW>?ANFuXy'pibbru(kl>$(bmbAG=TwAPR[mW^&+[]2l&o,%PsZ#CL
p'W+oK:jGFe$wYbU&m]Tv(0i,_%W0=.P4<~j_0u%wK.3Q(+|f6M_f,BbeY*+TD=Se6naez(k3irN&I=7$!tz~6jp)EI>9+0DCCxP~pGk9qJpvA[Q^ub;E(NFDyt}]O*SQxvuFQ&8^ez[BTjkbqFEag
oE?ba>_38}Z,5+[proLkT,&j2Vdd_?Tt0aanxpEzi)CCLca05M;LN|'X#^!*tO|!1(y*VhfZ*ICpm>p8&dDjEj>GT<M[&dtM8U0|:voTw#qb79qUt6'[WKpzA2gYi~r)6<fz{{=zmAxGh:e;$KuSN>
bNW[nCs=otE).rIUhg|Im>)t(;:<UG3k(PrRkuyiTd/{c2Vq?ShxSTchBrN%A9%8,yeO*SW88#Lwap&WU^=Dp4cZvq,m8{%T4iH5G$^OfPb*5wrgo;hb7P#v}B8+U+,8UR=nnR1C<.$]Q]Nwe9c{'<
#$H$i3vFJ}~>/6jo]%J8e]PC:}:}FIsu9{;]PL_'I'~`u[NLT'[gE<x&mVD'`:q[IJ8pT7o,2TutK7_dt{=b>1K7#KsE5.q(^4>c5FBYPiKBx.e=!lQLYOMaQ/8OYidP,^0i<)4T?[RPYF_AH|RoT$
IPy^l[oXtWeR7:{us<$,]z>v`h/8!?QdXy.Q]i(z:$OmJq0yN!|=o&KoGLH*!nR)mKrX~'b1U%lHvjd%O<a$BpKaF[beJR:nQTl*0d|PYS|*Q?'SROQ`~xl8m88odSZQ$7hBY%,a:Nu9I]/]jpWNW;
AJ9jA{D;u9+tD9pX&$vz>aE(jZfG#q;sN8XG#(EF%O]stZr4<(k*1er<U5K6_o8<nd/?wES*2Go80!u^FJNAHS`U^nj/}lhIcKw(Zmi4xC.+bIiG{.[6Z[w'[Nd*rR!6_Jn5WMHGQpo^6B**5P3P<z
QV/ivP>P7yfg/$Hz,f)/<AOKK1uCg6*:jZU_QMKq!ELi61]Z{j:(Y>MHfk!zcK8/%$UAp49d;Sqv{]I~)<RRi,l%oqL~F3D?~AV3.xno]!85*)6^%F?Md<9i^6'm4%0wm:t*TdlA!erJZ*W$N*i./Y
f[VUE[=rY$6vPlXry=KG*'j^)pGyC'`De]rUC;(waV^*E[tjOSaL0,Y~kZq:&XwNR|9sI!?!nwT=PG4fsdU5Q<b<;}_CH1~7MqfsWX~uPT_m4m|(l*}C>/<!H<JWNWmO[KpYdiFGB2EH[bO/WTz)m9
>U4_z9S~gl.8f/4F!r.{rd=!xUt&n=I8/oDfYX,fV'S3TG/LM).fx#75.CNabfO#5ww:5PVMONO?1b2Fm;+;27S(un]hWTowTY~o+W1Vwv.mW*lDJu%:f>[[5#*pd.EhnHsmt(CCzSNn,Vkt1qfTU_
mar>$G+/ChwShe5MH<o>RS$B?gw$I5qk1fcPJV;)(%rw>(l_YBDP$o*#[1Tdg+.p]Qw93oI[NisTm;L4waQ+uG(#cE*I<$0IsbEy4EluS[}sDR}S&f}Jqc#+;l.WB.xw:h!#(myZl2x2VxgwSxo7%p
nTM;F4[sK'K8.%lm[?E.0&uPk15LUvaAe3h%~Z]`F+1n=DBNI(WFC6BLi*3Ypv'AC+Fb4!LesOvbANSShjK&NJMt%W)V&yp#gE_|0(qoQ8k58G#0Xo]g:EP<:X5?%'5{ACv[J(GwKY[y^92Zww>2.v
c.F5>j$ke'}nC5k'Pm7n)v[/X0BP~OF3r<Vep!<39EVhz7pK=[>Kk^PG]2tFcdQKy[`Cp,d]3,44tR_E.UrVkXy/fJTPR)qT6!}K+Ah]h+JGFsb<T/?Uw#tnV:')qmI`J6p[l%,58S*e%2:8:.+QeK
Ba?**tR7$No8;7%QSq,?b(09<r/or_ZJ;Eq9KwS8n7)Rtb'^!BJycOaN_wCEri<3Mm~asmKo)9D*D5HF)*U,eaPXr558'3/}RM%0A5aPq}`{WowQkv~~ICHKEW_F)/=tG!+u{a;8[zFkxuF=vv]:3|
O4<^]Px#6ejY83+Bg2_w1/tK_~nK,q+aY#a5R,/2$2+K<bX]!Vki?0ma;D(q]6B$|Kqk[2xIg*uJAE:h2e8as;s,?SL+(5PCJ6zAct}vyQ_;r0(`!us+nzk2jZ?GrTJ)(145p]Qko8LEUVexg1m492
X4;BI{1fi+dI6=!A{(h5#'[xVZ0JGTGi^W$O(#k(0+d8uMoi4&y5v!h=mo%`x;aB`JCDHTwuM/[2~t1Hj?'A74]9yJ)m]`P(/yI=ed|Xgah0cq8|8|Ov|0+WSNMhGKJcO0FV:#48pb|7];W`'P'pq}
vD*h*,hETIe1[T;^?fexi?d40np!>mE}8R{Wfq=K.{(ZQ|CEGc7UO$v?[{QdxQxn5;f[(%9AEr,y`)lY:pZGWHYYfqaQ~!4;f8~iQK[vMYC,6MlX:5lhd~B9T6(j~.pKu$:>[j6`sK4{Q)Y~l5e4`}
h4[Km%&s8)=e[6GmB8;d:as'p2mO}1McHB}zR)7|Z!.kk3m^r=NmYY.d%J%8&sykb[DMX7yTYRlque]FJ+$V;LSg1tweit:.2Q<!uDeW8tP=LirU*[eR(bzMB?0G.??%DqGDM~)/cgO>/jLk^,*5wk
qbEL71POAF2&it|bEDfimm8BBN'vdfJE/z]y`~0Jav*Gm||U0.YYsJm$=)}_kN9[6)]2Vyzup6b=UNe~[3:A,fYIEo*v]SI]D#jA/~oM+?_%_(I_qvwsD0j<9))&QUJCB,p&2Z?ZSGnlsVKYC;+?,6
W,z3tDu}l:!Y1E}`AGuOOsL$4FHIuY9bV<:Wy9%s4zzD5YVxGN~J~AhiO~M;dKx/KTFegP}vZeksT6_$[AivP1?>X+RbNt=xY!?:^z'xNB;rrP#KibM.];7T(nj3x)eyWoO^2&9d*o,.I7h7vPh(I!
^]Gmf$ML;{5>h!>RuU(U3gkzKOPo3i#mXa&72uNkQ1Hs1B`L3N?EzL+`}q+G19m%yi*tF91>HbE0rp+CR6T8NMF:$%I/WO;gK5mRYlz2V|5,V8lj|hF>mxv=D|k.$35}%!v8fetTF$G:]/OIeqR9s8
,%&P%a7,)7933J;nS=U<1+`ZaU=tQV,rh+^LKL);1Rho|eW^vnhAj60a_7Bj38yzhOfRyZ+%x^P`7t3hFZW>cNH132I}:!1GR}1kL(2/Vk2L'h&>N)3(A/f,]v>ec/qAm^CdfL#+(Kjo5O:=R:AS'x
thXRgg':mg10GZqUv2%ij(fB=+h:M';=Q*GFK|)'NPDb{?Zf?TDru9wdRAnDi;LXkk2:4Sk|Mv5&Q_=T7A>qFlmcmO*>|]eTxyYu.?Ip<(ho_,2[u}Wq%h/Nq+lvrlr8m1yZH1vkw{fYCw#lC,RH'}
y1Ff!ByIGX{Duvj#8Z/;ivEd?LE({v7vwca'.L}1MTA'O;ks.A$('Rf*!ELX&YfW~u1]W/B9BNGCER1=MN=zGZL`A+nN1b2G~JH]hja~193~2cw0fbMqbXc_)jLq)!0hh;7Ig'l&I2|&`CSV[iK/0A
E.hMWiSpRgpY2VKXP]LlEt:!RN'xH}/GU^nS<6Jh=]2zT&S:%QQM?<%|Y^s%'tuU{uu+3cuJXAhO2yVb<7PV4*KOQ)E_DXtkO_d6t6Ho*!kKQ>~OlQ/=lW+Fy!EmpJ[D5?l[x?[^/<d](+?i07+IIx
{r6K.na/z4'A8I:XpHX11Ty:w*eror|pS#QIFS6]JZ<C>ZD;lPTXzOKJzJCz!bt_<h$);Kh`2(%VVFm67ur]<#h<.tfVmxP'.]ns_,>v($v4(R1wRZsywywrRg$Dp2<Ub&=48khD~&b;2O*o8L+;GQ
L89Z#H<}hYp3,Qky+,y7I18m[}ZypQC(buf+zCmrdu1XIYy1fs6r|;z:~pY+a^eq`|]7;9ItCa#$M56:k#SNqyE#?9Jdb!b<,+}AVv8g*p]'YZ./j>B!h%|>fr}pwq+SrgS}Ts'Qg.mS2C9(HCCt|[
+=V0oZn]6Z),qUZ'y=BV|&.u*r2U]uoXN7uJq4u8d42OciI6H+KL+U,4lsV|D5!J<b7m&cP.N?5HkNN!R*W?,]KF1LLn}8tLd%1U(=$V0S]aI`S!7VKFilE,30nUWWK~F/Thc{hjEeaEd3Z{J7iNRQ
S~{4J*9omvfb_&59M%bQpW<xqe9z~e9}'t#zl56ZXKB4'(_A!~$2q.le^e${_=.YwF;|3Z$;Zx7El&Dm~8/}LD79NyEVqJF/rkdis~pqm3Ik|oLOOTYn>]E2o_BbI7y+fK%P0i>/GiWv`UVt=+GRO(
Vk)tgCb+Jo_So0Y#6}E=('<rmLTclRl]wXh)cS>mD#E8MJ^I``<S`qxNO!*fi1STdo|m445G3yw0Xvh#e)xjuedA>$m$xOr4|Y|*+>jbuR`YpK+dzJ9GDq<VVCBg+z&c%:#+F]$%8G;6gYJP1,*;dS
;c;YUPrW2_bqTHbwOSANGv$cE^}$OZM7O'rbsp|75L}xl<3{1u1Vt;K/iZIu=Pr7kMXs1QyTJ>J)Voh{^~%)xzB44a]RG'`)$8XWO/}1dF1E2d)$i+'B.BY(!eT;,O1sD}tFW3/{[2&vAqX!<wSu1H
GR0>kGM!03&.0){m.%BD3x=.*>0JzQ:p0'x'~E+^)>+wR7snjyQ:$~GFh}f^]7fkUo}9/!2|?9hQaJLl*bMGpa{7j+6>MKQW3Vv(67X,RE`U)Y?5iI<I0#n}|3NH*5SW/A*y2(E#NHKb!6v$;wL&WE
!x(*e1>U3kzP.<Hc>4(O%=[YV7BA<g3/*f/m]}sP/?.JS,_abXuozL2485Y1xPa!![<VcGXC9NhY0X|^s31sip[a'd*B4aeX{b#|_3>~8P]biBV8O79T$s*Enx(Pm/5oT3{M5jDLkc>~b%&Fl9b^gS
usU)(edNMguT0.X^c16B?['nzpd]$:I/zr7aFo#sD*#fT>3]Yov]c3G1T=F+6^'^lNAl4V(I_U5K;c^DvZ<42^Nq8(b8CslnzxQYD.}RF:U&t1Li=kmp]##qqV%]]O4H*B!qJ>ks?v(|3sv8/0z(t#
L)9P{)THv6]J!U+gvUYj1,Twd!L%b2qIB]rm/`zs*1'MsT!npoZCtK8,&7V}O'{ccACM%t|<A`SwjxG!?]>jPy9htFK!jEO&~$K[jLS3DSAoHlT=g[P^&chaHRQ7mD;Fh]08Qinen,t{cG`TyH|=[M
+`7z?}L,3]Uln#=J7gVr[32ry5EiJ2{<y2xR5&`g6Md|r*+3L0UQ|Fe7unJHO%u!T6Kx3JPSHP8a5E2h6[cSRjTp=|000?yj3m0um)a,_XQXRvEum!%+J6Q*p;zKYoKdm<tC%Spw{p7fd&^8>Y30Sm
h8?{#]l5+!sspN]B5#Jj.c31U`5NJS<Sj'j(+{)9'!4rzao2xFa2&U|::y3xeY.Y_Sh~Hh*Tyw}7OgT;$t^Ql]7P33<crs:tYAE_8m`_0N;7qK!^pXID&99_rMLn((,=7YDQ,)ktc5w+$yFL6b'wu$
`U&pX6X:k3!SbnMhM%sHS!O3X5*EoKJ&b>Y?r)8ooOMvNP=2';sj44U0d3<Mi/UrKG$a_{=:Ku}(`UFt&v:`rajAaMal^cne=jq!qeks(eAP776p*R|9>pG'gChoBi{|LPq*h^vv>cy^O;y$:sE5kL
)5J%V(e/('+wXSby>&f687[a[E'qk5=%TBWfgQ_HI,YHU|~(q]9riYp9QT`V&t1i^zQFd8JIFd{)dq_zZERFZP!8d2}r4Vw;md'!,iuw!/6esW>,jfb9i2,:bSh*HDSXyMcjJMrEj]FuFO5IZ;M)MG
Y2r+mu#ofj]Y{tMUL[hl;5+zoSJL!tZMgL+VJJbq#>rN?xu?o4t5jy?K#MT8R1WdC:Nngw*nD1`+rBK>M>)z+S3'`Oi3G;f4#FxWqS%q=H,29Y5~e!`7y94wKCK'VT/|>WM[drHXl&JX8b#~7e:)Bl
Gv]yEU^J{*O?R+lBE0eEKCoM;;PnD.Cr[32z0(i9Fk/mQbwApppi|O+NNRyy?>)Fr)?+Ya)(n.B;q^gaCMQp)[RGE5z}_%Y4x?ZoV'{vn{VNsDXX1;=^5:TVZ;=s8=wC,+qcLoGb9|;7UWnIScr4*e
.5pG~yM}p0B,.mfxVd:=!Q9)kcxMP^y/QS!,uXGdh#R<:LfMQ31.wbi6tkl]Nw`><u}<LvaME;l:w=i;R9~%%,GZ}AVE0)&6ES0_cWh!t)OB[Aj)$Faf;OsGc7Sqi)mX,)/}!X`rfi{w;{7.5[axNi
GOZ'etcb'l%0;QQ,Y>%OG7,*&:`M.e2[U:B6nPXO8.^(*y_XD?fulMFt9~eL;b62_kv,u5CwUFXi{a)fznt*O<_:f[]L.y8l*3}:A5tlwi+rNY?TF{CR))9_f;N'EeX=.6A+73ugYy'm|MgX_3?{~R
}eNAVsW|,'SJZ7vq||`MYVt^crqUK1pCS|z^t*~S4=A(OmR;}J_Lp6yq2ak32e2r)/$arJvUyko*fNTOLlv^:tvwv!KviQIQv6=qxL{'uSB>)C6&NNY2F}=l7jKbahzz03S^;Cpl*c%=o]L=dmvW^I
YFN!eso?hXm;5GL$%z2?CW_zaenGUA$=:*h7?`5%][SQeoutO'XFv~V!zRKke:S=C;SN%8LzP?ow<+eebZQobDjtAM`yulrt|<TUWYDn&jgRgl4y*$d0`Ccu[jc11z5rJC=vYAhc_HWP[,aF`W]m5^
mASE1;:SmGLq<3XFg3Z8jSEp;0~*:=pB5$=Vum,C_BDQoyg3_/FV48,3>RamrA|A5$Id`BB!:f9,862E%ae8V`#*0D<$6D8>J*V3ius2oS(zt4Wz?35S_3)Ml*x0,~AmK;g4OY*uW=V(J:U*>_zp*t
g`^u2zBKg^ubZywcJ3kwJ&[TNZT^&iGA<#z[<hk$c#%#1wrXFq=xPehd2xLU}3T*PnjU&S#~JJ;LmC<VrwoZmwj[0aG*z5iRFjS>!daowSBO#?CGSbmUx}ld&afI54c_Qt'c9VK3A[9}Vx8V]w52JZ
V2'e#%hlSazEu!P4Us#]D%9E:G+<Wu}:5$g(cN7IZ+GJaC96xGEok0}wv7A%AYvXRW9vyyN9jRd8{O`!{%+C_'0wG,m:?^!2JE==!BumkYl7fx7SrQUZN3(m.vR)'tbhLSPgj`Or3$O]O~t3QT5B*1
}&H9NvtM+ot}P_Eaxg'L.3bCnP0MHqE&*o8GpmRZazu~f?ccm$v]'wwfS|$UdCE+?l)|4_r??jFE~D9o'NWH:1L?dD,lOu23DUBe&dSs$zk!+h$`mH;TMY=a^|9P+G|G'Ez=d^JH~CsUUfk<oK][T(
UJQ.z38Dm8jwg4hv)Uj$`Dt~L9Z=|]9wu]afp+:nt,*}[prRoD[=<ChCdhbG:t;[PCA]n>Y'ugPpCTMczg8f=r%':v4WPnVr*77Cb$0lc:wfa>!LO1XY<MG2'?rKVo)0P(nUA+6C'HRf*DYb*C*u|W
oiPm?xJD48(&}u't5Rn,gj1_#=36I5:%AMCq)q3wvui$S?A?Id.{ANP'3`gy+KHze&UwnK^Bgp)tG*E|uLzK|G$/^=9s30)N(2/,G0'nJ+ItZJGs(lZ6k,#C0M:?|Il2n<dBVGh}}n=oWp?`1))2Va
qBa{,{R`pg773g3yHaiQ0fSYqkU<98_.0<oE%*QRhd.U5y*faV:?WD>u7oQxN/)fQ%av[/IO<|:G0U?VG^z>bFP{DqcV<`cpHYX~`LDLYM4B'?F),?]l]9whRS8g],SyuVCcG2ljHr>z#9YU>bJ}8E
kE}ji!={]R)7I8p(+6al~+6xagIa1s<qj6}Yg$Ce=)1!Q/36`,+KTlcF0UTbqM,SK4[FUjBA(|7FV%>O~026;Id<CQ`xD.z%ZH$IrVZq9NmyT,(?Yl0rp?3X=2|SyIECvb2/J+Ri,uCvfK6065rXWT
1z(2r]_(=kIf7Q_k!U!^!:&z^i.^W76E#^avsjZEjJEZ1Q)|.RrUvSi+H6yK5ul|:]S7urq64i~&FU>:TpgUOP0s~V5tTUxXf9?H1Z<nS_}%!*^Aq%vAW+5s2POL`NgV<9Lj+~$i;mK{%ZyUsFV+{~
{PVgRPS3dy3,;_w7TfSYxG8WB{4#:KQ)RVm!!&]$&'mLb`.<Hm3QPsN0ad7+GXZKzWX:4Ja/LHSogW6wZ9fp'fg8N#JhhF^z?rb9L:D'x(g1M;{X35~8hg/`F,>I[D%aLEx+nd8:d_cDH{(g#>cja7
Y]o_on&IEMRwfW~?rtb+M6VRW3a$&)45P4jmg=K9]5&<z{c%3!G)bNyrtzLM>4I]*p1cnWQmQcpl`f3>.VKFB9ve|$$eY%:;A]ZM7WQAMt[YdL!5k_Mj`cn&Xs<lYu*5zB.+tt]}~lrKI2+QFRqH**
gS^tY4Y^vtf#Rd`h]9^u|yT01a3V0o&hgDGof$MAYwQ:k3|gLT`&Ab3h:<Zh8&s5l]dOD,5)bwy[?!ABWdmivvxM)c#o?8TG<C&ZJY=yoSv'J)+X!#xOryl#0;>}W?0_B_4s|I6q5W%8J:X?4cb$q#
caa:$()(zd=^TX,T<jn|&y$x[Y|6k2oh&6C=VFyA2%;tl<UhDBC'*kFH`X$YV!)gEI7kG~z%VPr9B+b.4YxL5:lU'ZX{{2E!qgfRTcdErtE!,XRaR5mT4?#yR2}yu)3B:O$*&csN81tCq)ctp)u|d]
h6wg8)?.~zhc+${;8OQ:GjQt>U?J{N#)*aPR:Gl>?>n0DlL'N9(v!Y`v7q{;H'cPO<,;/dJ7,TEUE|]Zf4~U[5zP>?5Aw!=[b8t]z,)3K$OrdH<6A)a*RcuR[Y7q~.cXZY&``c`5?SqA,7`WU&fd',
4o>zJU~w#G{s|}VVs[d/L$Ne{P~N>1MP7}41$w&$5tSayG;u5$!{Z4/_iT8>{Pn+>mQE7?h#`%/e4?Z:R6NbmuixW^#SqE<Nts~&7!'YScy1#|'B0IY#8&=UEcfK(RvL:i>lXYmor)wLl7|jxSSYM%
>mNiiqWNdkg]2cfV:}jg0S]J]N!/&41N#Sa7%8Ifx(}5&]R!p3Hd>J!)GQzbi[nnH+u.})`>>O%R}>P+RiX:Uh7xSjN5y+0Cqsh}Pu:(h|j^d){IK>632IDcg[;b)fFpCm_CUt3WXI6I,hp.Lb=yw8
>Yn8l_'W,_p?hho[je:R'`:*|)#CCdLzD`jRv(oY`mhN9660NpP#iAc^?2s)=KvNkeF4=S=7viX=Il+Slh4$s)N9a#*yM8b:SARqWe,Hf!h7Qx2ek$:wn2V3y;N]4f38gC.}/'[kNnvtj(8&_eHX'!
)MG4.Kg%eC:}Ua;wPPT&$2il+p0E$C6slhMMpcn]1E.ui]9(**u]0*bXXA`vaIVt.<s2w]s0$tVp>){=_3AmX`U8k>HJ*)hY(dJ|WrcXZF;O>E{Bt3`^lQy4![UKr?}Th|3khms5KV5e}ibnjTpNu7
0jg6PGepz,9*Z;zwQ.|ym]EtR_rLNKvYAYJCj$*]iN!B>bS^syC50U_]_FEr`7?bz]%HjliwMA9=V+8qMM?,u,D4&J.8kxdLkct^W5A2v!susaoUX>18YEVL7_p}[({RqRxP,4LWM1H{E>NblZpc^b
)pln~md,vC84&r_+'!#/y)ooth,xh#{H,``JBHIG1IHDLA}i4.F'|r7sRm5g5iR,*FCAfX?Xh:j`0/Je|lhAp3|jJ<.DeYE*>NG5L:pB+tbA4jychW/7Q6Dr#TU4Xc{p6+!x/=?YyNnF1Cl6vCy+8I
.s7,N97DC4[l|CMah;/U&WP6#_%4Jpa~v1p1w?jSj/zauiVf<WR.yap3kmoYb5+B:9OHi60td~}VXm7{H8`_w7bkAL;+YGnJKs2~.3}o+4jX6udy7^'rg<Cuqj8t={H!!cwPNYS~V^cngLKbx*VvP8
r^eHlHaAR4.iXAN85,7)n=hHa7lGGu$Ff02Y_SNJ6h&UIk=%D=f#T`s#szsxDPmuoJi3:sNKD}G+vlzsR/QO!$+4p_bii1|2?B2xFA;'j]KdAUsGO*O0/==rQnblBd0FO~RBdLm6&msr0UH/*=sV*m
>#ce}x_ArJL$}C>~3/d&uw:jptp2P&cMiQ6Rl+GMv{xyui$HEZMHBA3SR/gm`9*4K}/4ui]C~(.HtJ0{+*2;}ZD~y9Cn^afzp*>+[Y+xV*E?mZQjq!kmUp8*FxsW.>xKIX8xXM:a/cfLqTbkpj,?5:
*&7IjKUyYZ_T?wGVAV?bhAE=W8IfvGqAiZF1!;=w%.lBdw,l}/_#2jzY9Xb1FANw%]?j8Z)f_{h8nnC?xG#X:u9M:kDrVf.WF&X)qGnk=TQf[9Im{'^~;<9c.Y+.a#x&z.PCgAzjvWT=tBO;Qh_J_K
bb1,kkz$d!sjY]2Sv)};.hB&'cTO:O%P[mXjI<tsrOm)s4zEv15XnhRU4SE7tiNQ(?29x)Qm^#&dsOvnC?:X(1S&Nm8goYLqK7w}T31<LWC7IrhtT~(F!#/ioHwt3=a4v7l&1nz~8c#`J?#iz{~IKw
Jz_lheZ&Hfj+=(jJ|)zBy/'KHtc1VvkJb~>im=8Q)iA5tZpd?xyyF~n#t#p`QeFU.s)wHEETZHF'xg`AE&o}'KeF>Zk5Ka_:NIcKYi21$r0)AW'c!*3WiFJm:yb0zS&'Lp=#mt?Vv2$1HULlt]t,%f
(C7,$Z!:<Oen_[1q=bVD_$YfHjA;l`9_lVDE}5rh$zfaB*rRFugVz}.w*zhdvEmZI4b2FS,'%(MmS>g0M58`d/SfW<ThiqA>UkV#u[LOVbRIXyYTINwAyFQPZhAES2fux~:71mrZn|'$CXrW_|Zu^7
Vv$uk=5xH/[I&f|<iq5(IBI?c,M+2p2GA6~O^7Q[9S}*9il5Y$p3oA0Ey[*:>JQ5[$JF[_~pjSl#?D+02Ttk:~;lkE}I^5P?big=!^P.S|]fJkhHD&~ul]g,i(1VJ~v'wMtt[%_n{}M&`]F=+R<Av=
!+`!{5kD=2v|Etg>kj}Ap;^TYBQ>J!{!Lo%c=/DBpSbSDW>'IFH?e;Iv%tmq)#Bhu74d6N8J;3<=b3I&P0Td9OY&U|g'_!Z'{&1{6%9[1UQ590.Z^EL?QSx#]1o$}B/015Lp&dFv(~;i;N]p,sUcCr
.A.XR+1`4TE[f7$^K#x$gu(J(R7D9QSr^PN_5*e!(?f~ELN:.dFl3>;Y{DwK0V>LSz.K:GcNL2lm%*V~h2$Iur38PN[=S}EMA~xFIPx#Ll]kSU?fZE[GdHv;ua<d&+6%dE2M:n}xw:7{3'CJn,90rG
wNGWu*;dsDk8>1,$Z#ot,##>X`LL#K3U|sdVJ#{'9QP.$<5NLdfz>})OsMSizE27x<k6Wu>].65'MH'U{['J9x;i8L~>tL:[#YJplA[Bv^`BqO*wXb>5H=KqrxB|rsBPTl>*,YIk7r#EX5):$!eFlj
T+>dVBEc(D5I3XEKZc9vM:_3;il5<FVR[*5ySK{VuEw){DBX=YifU/6qvf_olv&'_p~1O|{|Ls,D/XA&)=tvUOW1v{Dg*m=_=L|)w)NCfUJsS}26m96f?t73[j#.:(nPl,h;x]y3L(DS[8s|U(_p#5
5MoY9z`!:.NDlFDT+goUY=M[E20)*'&VoO?hkKl6Sr=+'3rn_NCWG'MD[QQ$]JL<ei9?`^u~{_$RXF+j%a{7YO*&p6m5W='S78pTNRacd7?$W?cFj}Y_o=6Ii1D*{raf/e4*sGcYW0~>5jsyP2_;?<
S1hQZ%lpkWr:GYO``{l$*+7tmDkSiwjA3$Xv?S'JdyQ|81}Ik>)41Ilz^Fh5&hdA9fLp>Da]Gwb&Hj5Ka:Nn}t#pnKbMdbKr01i;95n8a%E]$huNwl%y:}U%TzuQIUaz!p(xkcH#'DIW$xQ;=JH=G.
cAeDlnE0)}jtBjbF?(NT)CGY?LE7nH[~o:(Ey3]&+ecC:~KrF4s+[Up[mJ`((:iKJPjKISEp{XEJfhx5n,5HUBN4iJ9EI]n'3|9|BAn+/ZuER+Sg$G5#~6_{?}SE(oK]`(kzgj5yRv*:;2|4=`xLLo
]Nx~4*sE7w~cg^b5UtXvtd7l0II,;!rPZcJCMGFALx0F*+dJ]=#=5psl0SWlu|UKvN%j#CT0{YILt1=+d+Q~Y585w)&diD].xJOMT0'oB3oX+wlGVOs/#KfQctW18z+U}IbG_F~WQ!jdE`h.uBIoD2
J8<0MUXF#G:c8iuW=0JvV]JmhQ]z3%KX!Yg[g;LN<D}>]~?rVIow%:!_O?p{B{(GSq>~/KROy'o!Q8[co6Bz5.42y^lx8*(&msNiz.)S=P1+Dh5u!:XBUcW,N>:y;OV`nB7xKe#(ZmkR{oq)H|}+D|
d|]Q5nID;ZeKyAyp&Z2}'~zK<3nG$ToJ+Viu4m2ZeQHIfBs<F53rUKRv<s2Gc]R1S5+:y(EJKUa0Xcx(0E/v2Wsa{0N^)EC0Qjw6~f$NnFgzBZj(Bo9B%+FqMZ.`?sU`x~qLD_LzhPu4=.gu*N_jtf
Hav*yVbt+G5ouQ3&[#MC5r#S=}dl<Rt>a4Oh!sBu6QHxLmq=e`HupG'9WaWC:YTR56lS/[DCa>LuU`{diq!P8KnlhRT{PU)}Sf|lR6Y3H3`B~8l%_TVxk{2e,^T>#1o0EnEeR%)Co:,;{>W#m_QWH/
<7$kHYMa<EXo8s'}hT'jZXIU!5]9Q8!DTY9N}L&[5l]E|zN>fWd]x#W=yv|`3>Ic*H4PqF8.Sq4Ze|(l)Ah`V1?1/da!o#HaZ7*~F14(~I?sEAtDIG;1lyI:S5#e]mWic2K2z0_#pofnWhCahYl]nQ
+dqS?K8JMB$M#$#GCTwMm}SYu$c/aMkl6ddSO(^b+cV;]}V'E1K2HE0!|XIgyh~l0u:'B02)od;CO=82rnh,ca#4${DJjso;4%)`sy:s:6Mu(aF8XnLI(3pkD*3V^<raLBClwid6nRo`~RoGD,h>CV
QMpl.OM^d,Z]'xp8)ZtaZc&1}V=1jYmXQS2tjHkOoH0Q,rEHnHKN$SmhP4I>n+Q$OlzR,q0)qO$<?2)^f5O9;N5bzfXvl}#,j%,|X*qSOW6dFc2lr&6!CwuqZWCRih5e)|_894+Rd&L68dnx<6W18W
SNlq&4%jOC1EM;(BORJ(v2Q;f*kxBBFPas?am]}m*b*91eO:en_nh,cg,Uf1eVgyErp]Df]P0EMuTaar8SE|~IagH.?IW776<&KqotD;ol%2H%rDv9V^PR,>dQt3>|y8ZRT<Nl!b]X_#Uq6:?^.i`n
EH)q3u(#Is]xYTk>[otlfNqRm~=U5%M|GDMZR0Nlb*t7#u$:61o0Jg3WFsG8ctN~XsqNf3Rqg{u?$B%/WZu>a.ma]no+l[`qQ0oRAGr1+JX,mMK_DU&W2brrV%7tROu5CD>Bn8wG?H]'6P2{D?gyf8
SNy!vd7'^0wuD1xeL+C`|4Z90AyTntb'E)SC55C)wGEBK$|8#eVCD~0MD<n/w`ui)y{MZ!i|8qDk>=M#bvxg&9Q/0n{<s_V_HV39/O>A|CZkD{5Buj9o8'_lSk?hGCIn}Iuen:?`i}KHO)MFgX9wE|
/](|~dM$:;k4qU<(2[Py1ueo*yN]r2r0<I&?ok6CPb}ZaN~!sZ_?[*gSXw0DNG7>&]SM5Wkk|1Hsc$+tq=gNX#Q=|.nZA7/6JKRi`YPiCF;s_l:gM?T<R<,C]`|=xBp77u!dzs4HPomH>P)!ND<(qq
n'P>Q)/2HA+v<9_/v5iLq~xv:.BhD0j)k0z*TP$iu;A_+uV]6xMK{QDKz0Z(T*:/x5KVUF9ubu/PBkSyMG_E/n:O3m2/:$_1=z[h0;OOL8`r<ye_d{'${wK/wA>O,[oV/H}p6;H}lTEkSGOL}<[Q(E
:_!v2`%q?h]OKsyCnve1m:vT6>AMaDx.zhA,3EVOw4=W/ObBLQWS)XS?FTFRNCII8#}:Qk5WD)U:!G90I_dyMO?Q<jEeg^,%xXZ[HWeXE<3U6KQ/X{n/%Ac(#rf_3(NQaT$KX,S's(QO9p7L2Ce174
YVz[[`t#VpIve_M=m=j4P|*W,o..rkw`YOcZ'K$BSJDgW]];ahE.vP,b1nYSGa=pz_umuIAf![c<#KC$H{UtZOcLN9sNQhnk5vR(6o(aS~$7x/CaCg_Cd:Bn5]{.q]M*)</('!.Tz<Q>x}sX[!ccNY
>|o[;<[y<89D}S}]^tZgb|I528y#SsW6)bR,_gN<fDXOf:K6Xwnam^OflD[Fy8lb!8cV*kGxO>us%s,tIp>Y&d,BG:1(F#Y&[9=d#|OdEo!B(~a6v?K+F.B[K0n];B^uknQF<UX<0Cy1[U**;Hxixq
/JOH^RB0ikY=tHFEopX9zFhCE!:#b;;Em:M|?3I4^jg*zL_U)3#bU/ou'v4}R/s(nc0Iw[S^z)+!C3x$J_=|X)>WB7hXrI>0ErRQ0]402~=#RLg]bG/XA|7w%=f4sxMGwVW9XL/tfz?!D?*u1z($Yd
2z`k$Q9YIWDA&ixR+t[_o8)FMzC0Pfz7o0!P(_;=EwdkreDKHqAh^U?(ieJpjgB5zxWwg3ACP?sZ#.%62Z3Zdo?c3BJLC_B&Tb~QU;tHD82VhD1bY=dTVr=J.rMPmmlH|?a|>EE[f$RO?B}nHa4z9.
TIm2S=&0BDR/Ur.U_zVKpQUb)q)98qk#?/MeIt'D1&*<x&!Md$~=4(_+GOKn8Q#WZH>G!,k6g!L=!S&Ks#0&[;[ph+k.3x,0y4%AM,fkw5hH|.'%5Huy]PAC`TYi!]ZSn,!weiXXVWKc?202<h&Bk>
qed<N^3*V)Fbw2P=YppT{P.TnA<+BE4c%KT#Xfp6V]2>QFX:S[v*o/bS?z;a[U3xX45ml7X;q%1e8NC>3nFtO8'Sp5^:HI+Eqv}'![E&z<IzvMcHO/k[^mZ30h?%&(]7&'usmsi.z/q+O62r!aX6L=
%4(=a[:gT,|WcQ?f#b{PG/A}!q>]z9qrgklI8C>PF1#+,iv)K1o7fys1H90c?3?tQx/Pi8/Kxe4O8~}0x(D2AJrGH{],>DU^$%l4FSb]F6Rp^MbJ3lLGhM<Wi:mSigSq~!:ri2VzO^q`2!8`P5}W>y
W.R<Tn1EXNS$RVePW>akd>s5K^T7HNjVv}pYjZhalnd+omW2}YayO=0KCE/{']Xe9cwS$xss?1q&r^/Pb3>pSMD>UJg6OFVedC8Rfgx3S<C6iQhB~Pl9y+~X2CWm>ltDiJ=|3C3gz&>$]3FHp!L#NW
n=m::rC36q1if>z*CA~IkdG_`FSV&p/(~[Gr6oY<!kdxt(nAU(`'eh*rRcO;sia%ue`'^]maBJk$|2o<wmq}X5;w4jY#$64vo=},5M]d[EA}o/%ic&?Mhj#>&vB=L%)/9.qZbSmHn*xyM$uOYXU>`)
|v>Uq[<Bi(~/IPD)nWeS<aJ|s|KUivbrzznBS?jA2'~zilUM1%C`[J'e$eMbB,iVT^7ZBe&L+4}+d'X5<`6{UxT=H[6+bh`NmnJ!^*=h3=0dEZx2)ti#WK7nzn.Na)CQs9fbK(#a:Gc^77K9Pongg^
w594/+MqxcWh_:C#|{,=W2?khMYV0x`_TAoH<~.8CLE;!YKx`JjGL7~v?DApAGvmX9eoSt7|R^f!CG<xelT2R4+%%p4CwS|j.~{/|~p2^kME0Y`WXj$G;XUosh,Ec^SAvbysKHmyDs!HG|c,tLd&o6
q*V0J:CYV6aQ4<1'i1a+!eSM!%FYoe7Qqyh{3BSoR'rGWCD/~Zm&ot^9R'NH{#k{+QfZfoDYKL4wT7l:H]Kr(w|Q(C=&VDxG]Uy:&qmQD_wqYO_PkFnO[)p!]bZxuP8F]Dw!kDvQ35|WP8p(qyl1eG
'U]|fb!<aD%z<(acGTY97$7[Rct[*&^/SHaoB;C;T<=Yy.wT!35DH_&F~6:AUbE$i&vwL^bdb>.oF#]&:4:yo&c0f]:FxZ<oKjJ$z+]}AsMa'Gruc~A4iuqPFrAGgbmz8&W%}ODE~?8x3>2OPY[lbS
(Sno5#gAYuanaAK+;))_6CaB/efG,A#Otw[X*8A3w$8NT*J#7JZhZN$4?#)i%^%j71kZZ9hcbA?yKUqIkAefkZ6b#GgHBacdOm/_hq;m~BYMc#5&/p~r&|Plim^]D$h?&rWl'Ejpgnv$x3>+dQt6/n
S.S:8+5Xhh9j_S$hg?50dP55qzb;6y{[C>AuMsvh47QVCDF5Px|zU={.t%p645R~j}fxBMr9e|=ipDBSS$[!Ty5J?$>9n$;XeF)n{yeg&;PLq(]0mpWEG~j]vC~*zXMUH>at)DdSiZZQ(s3uV]nZY2
l`_CY!~*6hf7px%T!lV$xNFe<3F!01LbJf1H'Q+(rOWK{IlB]_[U6PvKIdq{wt{n<9~mu^oI^1W6ukYJ(]oQuf~I`Q(y6cmZ{Wl,mISW09DU6|_K#%?d&S;M%8HUuM|r:~<s*aRdB|%3HX&88w6&J9
K`;{&$JKS1DZb8s3VlVWY},m3YVR7,vAVNk0&F0N:_3;ErD=3/KqwAcaL)34JqL$K3sm:Vo7$sVA'5+Nv!:(G]39jSNgD~wdwtcg:hhge)(:_qV'BT20##BethL1&kaG]nc}96Kkjd'(w]CFS9]xGB
GBw5kI_yn)<vh{!|(MDDY&lp2uPW~!]Re67=<>p^1tEie^2D=LDf*h^RpVHa=k~?24SR*4?;ufv9tp_>n$8CnIvl*vv>E^7V=HC,BAC{64g$b$J+wsIh`6c}x&J:S9#[x_3QFC%QO~3Uopq9Zu}7r7
7E:RWeU%1Uxm*m(>}Rmo5<+f`fn;:Pv<ftU(n?&k.dUFuQ;)'p)%yAc6&sRjL/X_tBq2(IQ]%8vx<r5}`%7t29Htb/Ra]xVz;#]>3rjLk_{d:Y+vJdKH,K<C/Tl7=T)q2[?^Kb0C48llH?]:C)^byP
2p<L$k]}P()vSsKx0kq9BGmL8,'<Ycyicai(gT!I)_t[7+L_`xNw/}?%l^7`ABBQO'X^6RZ<B2u'jo;!4VNPxZ?B9A%LT^{y{3Is:LOAspvW](!u.=%Z!dimnHVLQUE4M/J]1]*:*>PaAfp=#AHx=w
).!m?q+*VcD0c;?<FOk~oh,OIs)i4SubJ0~!L:)/_|ezHmb1/B*S%An0ZYrBAoa[lHu3)tS_rXU%`tC;]gSJAM%AD,<<5$Wf{rU*R#=|FZ4##n7eoWm3{TXa=;i_5|5]::]OS/J!=1<rwWGz;SK18V
$+BAGTHP=vR/,36Wq.8HP$4Wn,PM!=U`vZ^TqqYiFM!Tw:C5W/^0h~G6z)zhq6p`Hq`}1yX:x~}>(Nb~*{K<G}evl5[8d)y=,fwDM*b`yhIWWT<xxxTDP:eVucg3JG<zQer,Gd%~)0/5ruNFZb*`A*
8ZV3f2S0i<[&5C.N*P>^#LjJ<_ExH~e6Al.k&wgD7>.HTbeFmdZOUB<kpblHP'o24'tFrk<_v&SY!PaShJ(jX?o98iAI4C|T,V]=7b/*:lOTx_MK,fF{^}iR,d)UD/1iN:F24urFd'9pD&mt,8^D$R
ZyKoAn*+{P3AbQ1o)5K1Y/V){B(+RnGL$C+u}PK/e|.E<)+P,lSK7Z&5$<H?a(:orgeIldW;PLK4GB>GLgsz=z'^I9enR8dzj'^C3|HZcMX}RGy/w^z)?G$F{Kd.V;uzVo4&a_N5fDnWk!w*NJ|tjT
K.$`axPs]?_>{;OZ4cqwY:n_PG;sPuWBH:uMgYsevW^uS(0~{P(f&Seg6sSm;TZzVA>IP>i7>o!zcU%guXhNYnNo=E.yIi?*i[/PHQqgkQwwN32*58$%m0&nZLZ_kFE<*m#CUdXB.8S(q7W7{4a5.Z
h/_7/MF83j5r{~(T$?(YC4p>vvmP7mOo_OT;7cfatT3+Q0FJVD>OUq't^Y4IWvih5<&$>lUKoL~)'Z&r!<]h:q%uE1KoAaMQMzz:Pu>i2n=6uCW$$![U,yv&4k2Yf'k!hs1%QJ#73KA~b&Ht^!k?'M
_^,v4|(|W}Wg&=2>{b*6X&w['}c<>lU9W8Hh`,[6<9`(PPs>I]kR0r}4yBJ:Q2P`w*ajQNa):>()I.Tn2#eDZ{<G,8t(O6*]7p_$g%01dQBOM2d'w0GhciVzrFSQs>1O/:3;snx$:Q)[}!i`kl[yd+
B%C6Z#dkS28%s!_HOU~IZzI3sNK+1SXUHM`vhK}>'M!_'h$pmO(L{<dpA>xsnK7:d$:FEt$,wLG>HBJwA3%7ec'k`<AM6Nz_1=sTUZqG8P&OI't5]n{G'R&iTYOYF$Z[}+0k$fSNZ*]d&JuA{><,/x
KBA~ns[y3kL7/=!NYn4Zc!T.v/WMK]j6QU!1vLC!l+Kg]nR4PV6z6XbFWq9=^4:_qj#T|]n`pKU]'F8L<h)=iEnz_:/ye)M90[PI8kFCp;EUTWp6f0!BT8i`fRS<TgyzA/B8Lr]^{{NnHnC38=75JQ
OmM%kljj1CgB]+3~9NG*HRCQJuuEoa'IcB']~C3*qYV8.Z9ng#wWn:tp}2UPO6dxf4GO=/pBI!CXOL~QE(Kj+^2:PS*s1bhwqzX>uA((GGNEa0S].*V1XV]?5]59;]oYao}][*N]My[s2$+;T&,4LR
>[I,YkH'a[5bp)={[C$#~YQ}VkcLr_F$u$:(6Z[0mL;TKp!Z$A*0v~p0&19+(!ScnvO3!mn(G0Nd8Cg7e?lU++Jx1TDPj|(Lt=!T*=G_#nKtw?Nu$rQ)zjVr9)VAi<}Hz5{|=j&.,(BGB'q^7`s8!j
rFh}}:*+q=<BhOX/}%baj[|IKMeM3F+^QyXs{0s2+jON9?IZ{F,O]vMYxq)=Iv{'.,Cg<|j4=:Yr22F,l=pLQ'369gZT)UH.)Jc=Y%zA$]h#D?b3TumPd]'X0${mM&{?5$?c&:>n2)Z.vJ%fJFGkP&
;g2~jpk<Zu<JyU:P8BFLn[?bpPEMJ4Sm#?'ViW;!vCP=XJO8_p)&i#E,wlIfCIi`bmnFF.`JLQUXRt}L.=46(iWl'O![=sh^N{bIenv?~sfYCul$308gXx`wQ{PZIE/MeTv$X(EMe%yK/T7s{N_,d>
M&v^xiY`B~lar~sFTGb9___gdx8Vww)^X5Oo~qdcKZU#SPJKO{Br+y9f+u}no,[Do`w_wp:oKQP~yPqtc.l3T/97?mR;~ec49&HKF3od2DJj<WE+=nZ;lI*Nx{E2Wub:02XD6~`&GL<!*?O*[Uwo0g
PAi<yVwa%Qf,n}V)!<j'_>9F[ytd|E/EqIT#Hj_Rm*r1fu}/csY}jpnMuw?4~IP{SPVPCC2|9gxEY^q%6G#=GB>;M}mBi:jE{6?c51A1Z1M8#>egIn_^<f4(j|*8+:dN+62[zKj{O(Ry2Wq63=,dk)
FC?So^?_)4}%4+lc6+PfI{9JUm<^,]BE94D0K^ls2hBd|#^{1wEO'[#^ICfh>=J7Q[:o*G4U6o8ph7f'qv&z`i*c[u1~b;P1gi_N}j<ZW/!sqzk^t'SBQe*AW:uyP;BeKVYL5RQ05p;:Yc<EMK:LgH
(},oUZU!2x)[nTg{xCo`lM1A#{7jL!Dyj7&:ndfX(vWSKSsCl$,&cSJ`z/rhkcYZ0<&c=;d'fVK94uVkXAwaA*;;NH8o<ht?sHiMKL0XIS`mqMPCaHWhQg^A5rX^dh1P/|&(`fW5P>Ia<YaE/!NHq'
B|CM~?Q0t'oF|lXa[aqgYmIn08`tL$;8,3VgZ9p?SiM9D<KsO~W/d4(}#s$GXtY^UG7s>tmLHu7xd+DC9MgP'rgsM+s./|S)GO*J>TlD.ii9yvHxsz.GkR9kkJ(Wp|_/<74M126JDJ_'#2GHr'|4m&
1pdodJ(&NnIOcD{l&l$siFC=O>`UjNzLw6nq]:ig^NP{&Y>EP.m]xRK<JMkyer.U+Fd]Tsp:Fb='Ih$/6zy%nj]!Kl2WZ'9!2j*L<eKA5+K:*Qccdd1EzZN8>c/|'<8?>2(pq=~$5k_?r}DYp=EgTf
<I*^0?c&RSYru{>kQO'$$#Zv~X{qx#v+M7Xa!1b<3^ThXbMf08vO[$m?s#v]WQ+F[mEgRY!h}K$UB)(&A%F70~XV?]sh:VqG?Y0#pGH1FciX0RPdTxpU*Y]~%'/6(VuU>zNZv(s/SjR{6X0;i_6.kZ
Ofj*U)Z4*$>,1Fu/ujVCmA(/^oq~zSs9gC53Ay$8kA5AFH>W%c?eKHj:;)G}IVekjW|`n}9PbW?stTG.|ROFp'b~(!2mJdqC~8++<32>$l${`Sb|dDuH6tqW#._1H:Mtr|+!y#GJPb_t+&#GJZ1;Qn
Ot5(UvnTr(q+9J3Dzuw~&B{CLGh*O}:gZ#,LIN*K(oKVJLPIpUoz0Q?mL_~6s5)x~^U*8z4uh_%)cfQnvGOum8~:G1)OqKq#;XH<^N]=4xIEtdq#a|0;$w!3%++Zg3&BDN_ZTMl{M&N,ye5n{^Nuc.
+]|*0M7YZ#/2VG`f!Owq*9#{m4D#rX(YGOzov:Q:B4|u{Niz3q8o(wWnECvBmu=D'LKWx(TL_~qzAlS}:yR/8qtxVs0fPtK:,K_cD[U'Nyo2fq&rQZx4f#Pe+0h6&Qc8m9rNFdv|pVDJ&lCu*[*j2X
Y':H?d.z=/VSw]g.psSNYr=%]<zEu,=UMt,U1IJNvnFt&;4J;ZK4VRWY[%tvI{ZPmn[[#*QSwUiJz2Iy.}:#t#4|qUM2+?0b*9b&Xoph<v5h&6g^B)DMK]J~ZJ_t~fA|]n#r<mjs3#t{)fD]0&<o6U
{ZxD``8Zh4Gq{(?QIf,?M%q_`{B|.2`.hEL%O1sU]`z`}>rHO36[t[.?CjbDYoNI^htF7mHP3);~'>OL&NL,A4>1w;Fy$Jm`akD]5[Op+&9}Tll`j+2CrIlV2zy[%2]^wM<s075k7db1MOlM.X&=jn
j=XjrG%+9zrp,1ROyBLr.Lt28nE#K$VgYs?#!9t1e.XoXML`T0yyHPnK)Cg,>x/iND<|6t2BIlNRMMN'I:{];Jt=TQ+^v:9EO&FrJ>)IXxrQ)n#0GSJixm%Gwp<*Bh7zNXy]n#/'lLU8V#K?q;*^8p
<pf;ac48a~PmYp&v2zZNy+X1PyC=PBxxU.[v3XO(!mL#t^o)SKWJKR!wCVgzam2vNz/,$7aa84'YuRV^*E[e)I$,=#4~c^>bVZSGQ2k0^x2^<s#qQF[nmvb[vkKOD.sNkFg!_e{q1VAL<A%0X+=_(E
t?,>l_Hz7i^8E#w}hv34P+wMgvyRAhcN#9c5|N+DF.q/e8[]u|*DWEj5D>](/4Q~Q:d{x{fsnI(d<o[RbbIr+GID#jr~[>pT;HHa1<p$P>56&c7iFw?6{3K#0]E3fvs5IUV,bQ?k`N>?4J:VY,fJAv
0dXY!*W6q#3o`Odyuw~IbY<7r*ea[!7XO|?(ILW!{20T1*n$jT<n`n;mmG!~jj$lTI4xuLDgOZDBHqV(VQg7M87XOi>ZgR{LoUK29g1)0v*T=co,e1lU$)^xoL(Dle97kkKbtT1^FL$K,Io{7v;xMp
p~.2xKrp^1t?aAJV:(|;{89r;K|Hs>T/5hSYS`5BGuXyH%ar&$s2)Gh:,.P{&wD]epK47KUba]#nhIXy(>aswK,J/23F]NMN07kIm3DQ6cS88iL[s+4,<*i[>A%]0)*]|VZV<,cAC{|F?nm=c}bMff
<g^kgTEe)N{k,l[F3WDR|e5$?Q`S^/T!l>Z}S8F;K#xbl68Rk?uMMj'f.U*xI_LhsW'0s9Y{GCaEn(E`h/0A/V(%'E#kp=!]G|?B0.R:8Bz/O7`_8)jPV(H5W8v]c;lamhh)xr=S}$q7x}lta6jZM$
;/5'4|cnrtDZcS6/klxu+RZjWalC,5|LNj<4'u*p`0wN8Lv0#cJ!$3HJAUL{Bf^cfDm87=FhlbpUDJ.Gy[0(~gC+?+p!AC>!JtERO<Cj6h9>0'_;KV)V&}<)TYs2V4B8jc}BQ;^mi&P:(K2>A79;]o
eWu^ua88H?HaWv2EC`a5tQfo2TolEwfnpI6h&za#o#jDutZ;^v[%S,:>?gR4x$kjdTU4wHd98RCvwDKX~1v!_I+76R$zw{k)%jALbD(uvyOs,<Jfrc)G&8_?Z<O(+W)6{~/u64n[j8#Qa?^s:mVq&b
A6mq,H)UXUb6#oU<=:L/!Vu[)|+IHI)a5cj|5d*klT{uLLh/p|5,Ny986vh'F(`q;O!VR=SBIGpWUX^j}M>okeacD.SPGy$sMHx0LOt|>pnD:}nin/WnS30XQ&`]Ndn^>':L,Wa4bw738)jFhQ,mDb
3_jEAH'c*XhzivA?Y[pFn9>#6*ka8<iA{CV$:n)&#,cNzhgym5'~BI}j`Y53&Ih(:#FY#z+0q.eZH:$U&'fGwgbO<0:%bJE!>K:9|p_syuK<a.5g'](V!gz;JWus'F.Mq4(lUKQ!JSiIvB*]J2$qqH
rcqQH5.WRcwj<??%~Rj>#]$&`pNBr.qEb6LEZ]Wvn3lwid0[,%%>>o[rWTTZlPLyd+MZ'kAO^$.6q#%b.|:_3LI:Nnd6eqaP%fY~*r;MnP};d2cZ$j**s%u]s]7EGZgefoW`PzhJ3KfK#Y:*qISaM^
%32EE^3(VkCCZ.(k`Z1Jqp!^]j>`4'),QD=#bi0P<R7QzACT<>^)rl^iLs{EFrgEenh#X'g8:iIP#XvbhgRc*0T$o]3J``Oiy0vCNE~aj,KLxtWAB8NQ4EhD#MLSZj<3nvn/]se</`hS1A?u{GOy8(
$v&dX(2Zln*4WC:v>CXo.]##X(&B7=&r}fnfa0z&]c<zrJ/^``Iq5m3j'VC9|ay[{)4W;KDB)K}+RxTrCl_B/bEq`He]bLIxv3H==YD9tdpOVyOgktZ$i(WeIy^=uM^><;m[e(NKwo3[bArM|0>;?~
|1gNs038%{AofDe]Q|Lvxp!fcXlQY*3.J,_QBuK*_9r^iVMF>%P*qty=c%0xp=y*LhIm!,.ER]gR55TQ[n6IkRL/>HD8+xE<BA/.5S.3NA|?`1`[BG#|_X*aI%D}<ieXht(2>ci2KC;/d*vz4.{Zht
c0_%N`SInU(ZO/VQGiJ?pkD1&if(DDd#[ArKV]B%Pcar&qcEGH|rO2zm$p4iy1b_K*0SL70p**8T,Foi%['1eE:&f7?w1&yx)7yfbft#{UXE4DYB?=Ot*aK:x820tW_%Ur:Vf(nW4*mUmY)hG~fl?4
<xHyY|*Ttc$WO7c!/G+Ek'ED*A0E5N%F:'1#'I(,TGqy>'d9BR`HCJxxOw2,>_C3=Q+~{Fbf.#m8y07xUR:_qGR73Hrxk0C#u&'w}g|MuSCz_kJmGF)~xov[AlQ:|`fhjWz[GG`a1FS_>_BpYCc^<1
vVWS8aFbP3JP|m/zQ#[_'o.8MhtRF++mUF6xea9CMtj9<SSYy;c6f]>kb'VWE]ete=z0JLx)f2_E7iU?*M*$KHhVr4zCNSRu&Bx`l?4MmSeHghaF/Nktelhk&1!%z'PHv_B:1[vQ&s$(:V2<rtZJCq
=sK$;Y$)yZH{7IbvX=EeUfwMOA:lM'jn03c?udFe^rFBnVj[/*<2q]+Hu(~S6%,^Hs0:BA&T)&+^Tg5QQD?0kx^#,Ub(pl$Qc(Bg]0(|!VI.q;QEYP%#G6?7=zbI0Brg1qW^fx4ns$35><Cy*Ia_&c
vo2cE^';.B0sDZ95rN/n)xkdO]v;j1|*Yt/r9}En0>O::A5U{e}bSMwRwH4f'n]}Fr2]n'4Pt~i>Jo9oxssoO'Mk:KU:dPm=^M:CnQ#BH(v2|^>R8>#G})pc#43ph51qbf)}e$^C0t_{ry8Lfe=D~J
2zL;h`W!Axp60d,vOOgSX83E4KDYM%Us.q4)S;!O?c8pt6Zy=1T+&~mzNNd6,ZTN%('UbnMq6^ZuBTDZRfGvO2L_{G.~:vZU|3xW};]O,Qsja&PfSow<{|^E~2$hLE3UQ^~|!a=u]VT*ePG5A%Tcq?
/HfDm(8z}`g%}15J]!P%%YOmFs#_JUfFK93'`m5>?T4'HdM%6X)O<fTw}39%cvTADIAdL^ELw/6mNzHo*zh=jU'B%SAor/xFasZX'.nsnKYtIk})u&~L'S?aAG}[5^Hkw/k$(NlPJ&3nK]/F'RFF7e
FK#+e&iCQwnq73nZ:}OFycdN|9.PghlcdY4]D|'4(7sUh?v,RS,wze1vdi&z6UNwM8BX?9r3?VJY?'uf^N/svOS(XKvxA<'Hnb.+BqiGNCoGurB(ttuL:uAX?+p^OUdZ/])4NHCbb8{&(ShZtH<:=<
)03o_81T.|#4x7BcmYs8+r1CE_R](|Bk3Z*c%*>xr[(`gU}EJ[BJrm%~&O?<!AEhXrR4l3TpSSXtvVY$8AG?jvAp(Vo_VrB?t47]^BGwR.~l3+*Z;j`zZ.&A`n;%EZ6;/:^rpo6?0#a}PJB{Z[2B/?
_&pi[.??c!bq,<4)DhE?!zhi+#Gm{9f^S(eFYzE4`rx6'FP`k/8Lg8L&9&_f0OBScZ[>ir*QI9tL>akk,y0l1_U;)5eVEAO4|'1oS]si~=wS(r]{4kXijz2F]]'sM&YSY>Y]SWQPFBm{l^;xa]MVM.
R//KSY:>Y6S]zyQ5B><cp$syFN:P<~l3h)3(Z<jC2B<t$V>gf6?RPB;|8$tjphbH;~5m3QAxItWiyjpL=N,?gyp(9}z|rxsLoGgQNqN{jj~>k,!}m3v;^_y^%E$9`{[XDiW,Kw)01`4k&bJK#%q'Fe
*}LV+?:U?.kegr1QQR;uD1}<;2Ix})IKObhtoEX[CT]Nr>|8Bx.P!YhHwpz2~:GsrZgfBKusKmv7]R%W>pDF:$;t9s/{(|C,9]fZT_X=2%o*}C!e0%&$<>)AUPy}Qm}$<Mm<lvox)5O(9Kn/e;n{?t
Ebqeg'Emxpe%8xYlCT^!_*${`wxw?n!wDG|eIEbSY4SH7mX`LX4nQNH7r'vc27Wm6Zk2i:D=,qqAwIS27Jj*7j|/xE[X|Z>qEHJ=StgT/^g0[t{3~m'IEYr=vZW7Ac]TAtOK+Ebf=$mo}Xq6g(e1FD
5aXV&m?tbzHlHW!^sF>o?b,C{>wifdPF`;*,!G7KOw<4[4.b.`8c)(w#9M(ZeX`]gGNO$E];XUaYG}>ve{gO)v(RbeAfr*rioi2M_DwC=JuwCpHh8{CUz9oQ&J:|zz(eaP^C|bF[j[)w>Lz{RD+B0/
|79Ng0n7i3W~HQdSz|[SeU!rRx,V=(`|3z]FZRUfDgy5^8Lpr:`MJd85rci3iAU3{o%hy!qqx$;XlMdIG_o;S]4b9%MStbCHIzG[o[3;?WrNUhx$d5uO!<Eg!Glp9c!Lh~O3ii8p[fdmq;kBas_E]]
$pl/si$SMXbmB/ls(WCCpYt{`&)l6rRQ?a+;qClJ(w[#(EbEChA=P88,.RXA!nf/Zt?#eT&:lmW&VmiFF.q<#XUqiM~I:H(qLDs(Xk$Zg/<n_$NpM*BzZ1.IPx$D~<3)N8jUz/3xb]6s?*{:O2+MU*
*UwZ)1z't<U=+&P'djm5WZnC.my/c`Sa!ANn_TPHEg=PW?+?<TzaA,bGf7EFPCFv*}u|a~s~ZH1WSk`Fq/_Ownl:Wr&jbx&xOLqq%c=]*)grl3{~lRqla4~h/`SIlzN.vWk<8Fr>):KlOU2x91M(~B
5<Q_+%q$x_AYWVfv##7f;*_>(3HsxwD$P]#NK'b!Jc^q#`g1epvWat(W[w88Azx7)TN5dPX;j6#'G/v+wqfGGLpqFE71h2?X4<LZMX_4a5FTes'{6=TSO/E%*dGZ5zMc&Z!ODmW1!ZvRrjkeKWQT%/
ock#DWY,_eG$9y.h$C#w<8$(_X[yZO.)j(kO2a5[y2}1|D`hE0n$hV&Y#_|MbF*V20a)~;BGn*92y02]Z`akr80Tqvw(.e;7S?*=V|40b}#&F,``BZ<c.$BJTz_Lf&?LzLVZ.|H?jhj=qWn[tGoRCZ
bA`q|BdH`HI,wL:Tsp),24oGk=a)=9VegV.e~&1xBueX(_CgxR4$Au(XLywA|:Y<?CRpcF2C0Av_Jko,%y:nmHHk*WI&TYgNvbsqxn=(p8>>ou~y[t.P1~3U}y$g|wzcDJ/.wH<K_GC_;^R|5SM`q8
Y4;FV8WoTQ>Ld]TrHcvWJSQ)SXO>pl42jaPln4gc_P5Yu?sA|PVJV{k'6m[l<I#<Y%.)}0{7ob*0N./`]V:yUC?LMa?rUIM+Z8M#3PR,_F#|7T#;Wir%]Bo?NSY;#)S_S$q$FEWKGMmHUg)U'*dkOt
FoC}wQl9v6`|~L0~MJk<q&x/Y`;s_>(WGS3=X:K#Td2ns]wltnC?tytA#`8xgRDKdux=;^=H#qq'5us:'vfR:{c7#73jwwqEToCN9'E#mUwVfHnK%:T^Sne|+pEiQR<}$_~qL`*kYw$Ly8C`Y_rNx'
>4}Pq>Ib>2J*SfKs;[U9<D:w8B*>DN*Jk`0ixQpDm=sa]]!eY$L|0hT^$EEG>i#7k)QRqQ6/=uyTN0mt{399F&V[toODYvu`!`1,D12{I'C/9;#}m/Bd0RS_iDN38uuXHC,%XGz$L{M'BofGwu>*0~
fIL'?C!<C7OmbYzY3sHlgpbcLnxy/Vy<E?HOb0>;mWKrciB1hp$=63Jv=Fs3I|up:eExc02Ma1;lmX?0.rDY+AXF#l`fCY)pM84&>&q:2/DP;k3=5jATEgef_05s4`TZ;7|4=63ms]bvE^|0GJ=sDL
Y}:*PimIk:q|^M[:brI_z^s*O#/MZ)9][;N.3ws$5OL,]&RXdgqS7?P9v,ul]fSDX<=kKI)Yx2%X=!z<|'b(G89,0+*w*f{s;*)31:S%L75sHUW!!<0XxjRqP~E0<4(Hx;zXO=r5(6yNuHFeGC/t4}
eJg/AkSrN+/tw:`U^QuKr&4,p`Iig)+MAAONp<$//qN`8eF9=[r?f=8}Y*Jm[Tkr+L0cArtEP_`PXsG3Z<,rO)K^7Kb~d|.Cn[IH'<I=V}kouC`}+Qyzpz?WW7WQA;$x{6#*[i{g~10iho8E)5$B/6
'L2Ij4n_Ov2Y{O!0Penj}Gn1Ql|,j|N&`jkrG*B|x<qwsUNX4ExlPi|cnS+PmU3:9D.kO%`Qzl,byO`UC`86eVf$W3!)e&Qu&+fH8T0SR?Wz=mpRmHkhgIKPh_yogQq{ss=t;GrS_'[3W)[rY0Fdn_
*g#rZj6j!e12d~H[6s)q:aB)z#7Ym~20]nZTvg=uA9R:AU%i$XZI8]vi6k1&ZDxd~m,e+*i8gnKcr0C+H$ipr[R)'hqc#b9%7},xzm~gm<I{_ba]bx=Bu&pD8d#DO7}D+J?9h|++Q^~Dk{cU.t6`9z
V2!N_NSpAdZ/w/#&|3+Pcg|gN&tRk}5x$Rh:H)!+L#,*UQU;j(,]O?m7las*Wy=?r*ck}/u0[_!a[b19w'Sg9b'Rul}([/hp{I(,1~.$%3#7ch^?:kX>SF[RFZD_AyMV~JW]oNssXc0aTfZl[$jm9'
2Kxz^6}h.<*3%5O'1c'X(~S{ca%|+B>`}KAl:e'biIZ+{D:~U<`!.Wv+I%<{%{jNF}.vN>Pc&lP:CRxK_om)cRq4:{zpY%<l1<*Db!4v(w3#`PvEQ%TM[~c%S{a(=pABG(v[+fKD~FW>$LV:23(0g4
YYzYW:7Yo#Q'=TEai'*b~(mG45]5{K(!>ffKc[l^j3LXJ0>#EKy3m4Mv[e*]n&MjVu*._0T?CT5LltkUGvf8f:q=r2Dz';3cIAyTl~mp8^$4T4IP|;FV>`x[l[9q|2m7<e+/UKEUjhrICZy^OWc!E<
<8eqfj][:}F8U(n(&4S:_1+'%PxBU}`DBs^lOg<_iu_/&_wwn10Frs8rxTSfw]><ac];$(rN!FbCL8E!yaj[cH<C~/n><_;/SN#FvlC=9A{ulTodv~9TTOuo!$3k=N+e(t;XEf[pjaX[RGh:3w&PmU
OUtjWuj1$RIQzgi.{xm1sl;Vba1u*Ki,JDh?<A&TZgJ]PSdoQ`!%[wT>#|>B78Phj+/5PQKFgF>'alNWQo+aVZ9MiD#yNwo[L~6wD9H$0U;~&d;u34F6%>xC9DY+{j|AY^>{`(052ru3^z'kt:H7'S
Bwajh=*+_O,Z|^}6WI/_^9:)uk?v+Qj&U1+y=PkG`xCDaL>:m3p7U|^T|~MPs5&1y:n</|0y9,:sRTA:/cqT:k_Q6W.P#SBNyN.gWL>V>5_uorB'/W%CO|kqH`RH1`Cs&H.N[ro5eemiHQElhANmbE
eCpQD,6MQ&'N}}CI_w6*sr<e.;d;`f{y]&^rI'Gr}S#`C8'lAe#Q<hh|1&eNKXA*,01a,IBM_W>fOvb<t6QG3AzWC>9sI}rZ,wFZ9u3lIwMkd:Lzu$n1y&Pd}'f{fB'TCN3zc,LjO5IP4e71G+Z(XF
'dT/C598.fX76#1AA/U9oMl0:Ktlk'E*q]CP(RYI3O^xj0R#5ajy*_p7NrJ8X/r,En>kg3+.oolY'9?nJOB:t.N4qxcmP3hs!HTZ|yF{~{ONng|nS^o8BjPQjoTraDY)hDwoDVD7KW[:^:1_Xu]#Ec
Tifxxz`Q>iWHiN4^mW$SRCOsLrr=4p)HM<IiKr}Eq]VjRE6j2OQ_p+S!$:m+5Qv&'o'X537!Zqt~N9x_a}xTyrBwy[lXJ(7g|)Wd(2uO%p{2Iq'u$SgMF}k%X9B;WY.+:x)58UW>haFDq:odX,19<*
f32T1%L?cusE7$'0|{ez2+_O!F[#o3g*c+l47cuLn40Ac??d6(PnA=9iFLQ7W_bsob6[Mk#,c[?mn/Hof8>!)Rkg1$JNa.1{]?yDcQt*3_P6J??)2MNaCo{C%9P};v7QB(qvA]*tY;gaQ>#2Zm2Tn?
{g?:CDywQg/.DV#*5ri}vW'GjKI{Uj^Y16<F<dpqWF2UuC5r?>GW80,Cg.,rbm9()%Us/r{7k|$fV9AEI[:r/memz?drE<+t[fBjOE,sRI_|7k}hPwwHVpGyd2*xf5`[*2^nF2QDC6`bknr:#/.`dO
`}q!rPNN8l1iu:qf<MC4]G<%J<7kLl?3!DC^[/?QNW5w|JF|`S`|qhdQewJC#KUPbwPHE1))2;3OFbz`4Vk$/}c]p08ZoF>xc/$`4v~Ky.l.5sD9gm[[N%W<s.4[a~AMtOZ{>TvMkV09fMZSi:2o5j
(:/T<3'<5MA3M^'<NbJAgJByB8^5z:L7u7!;Oh{YHU1^K9x&Ys>%?R5pk~v=^.W2h5xc[H#zxPaz26T{m%,5vv`=wE#/:.KI|&.[!BjB/}l[Vjsn=CX<4ET%CT?k.%w]ovJ|lp!C0U?{Mz1f/&NQNB
/dFxi+od=_?P(7|OFBO>Mrct?'h^ux+5`XqUnaMm]LHX71s'0omw0q`nE%fWOCHXU;;<kZi)J00_J{ayu'Zv2y/Le;8YTp#Mx3?:=Fe}'bS<a2p.Qfduv:l;nx~=VdvsNCMu#Iu.7_^4L~Zo^~7mF[
uXA/,LpVB0:QYJu/*KL!9)M2l'K]=2B8=~retp)3>nz^V$1J]]Ik;JQ]Q><|amfUGQ7)[#T>J=^I*h6#ARuoC(8z_rs)pTwewg0Uzj:#H8p[AN604*{j'y,ykadBIRR?Ta9kbIn?R7M_^_iyjVqplg
y~Vr2rW)DFh%ac~EgSoXO]T%#J,$;yR%e*DovDj:P$IJa4!4go3(t}R~23^CEEY6px6i!RBY*u&tnnD[^faw!Aq/0d;cwSd#|W`h%y%^&^(c.4JnQGbtGhwH,(tR'6Phr*WwVC&h&LYmtS)&{e]H`z
R|ft29Bfi}ej!VgKgL=i+k{YJxrLjF<Y6~{W!v(O$T|Q{lV~Owpv*Al[ILl^#cx,J%t9GkV,FhL(Li}?+J+4ZM48H3f=AHKKO~H(+D$.|E_I)%Y>q/qb?[df;LNppcz`GwNxf<K!|EnB44BmXu}xZ>
rFK#$Zf+W+5iNKKaPT3l]v:}_x;bH~$DY>&&.%^V.NM>r$qS>a'b7zK&>1LP~[/;P:a#8dr6d91!7l1n1K2=u$1~I1wqxLj2v)plOh0P2(}`o|?*&P`>CHl&o{T!e42=}7vIe`GdldThFnz5!2b77&
Elld%mKwKIYB_?WFReFewidUD6x;[s7f!RA''|5^/2#:1C[p(w05?bG7:WU,.H9=,8)/UrK}vQ.wz$Sx`wQ7lx#>DRP#*42Qh[cM*>$Dc2*T]*?n6o,?:[}C(LwvIxS(qdCnk|Bxw.1[7d$WNtyb6^
u<GTShK<R+cKV#n2+>GO~2Uv_xgMbplk9E,pCqUzHkO}z(SgO}`6Q!KVF}<4pHrvpQHzPti~NBuX3's!P1X^Eh!;vN}KE}}WbxJ4E=V_3~BCdNAo[?lq~}P|%n7IeMoCS1gdvK,&>dB(%ql~30l)1q
[zg2L4wdB]:Sa1TI,mQ9ci5Rp7NTk%,]2Yac)SVH}ZuW$u)iNHX3xT7ZQ91.em~>5KGY0|`PySP|0(t6HgI)jj0OT1>tv>|W^|Rw,B!C6Ww6|F}GjLDr.zE;PyH'As#3gD%t:,!POX.>$ol5[[3<*_
|7]ARw>han!0;tL<~S`tX/1XUjafq4+Yb1*X=Ad_>3^5KdA&cMe?O*GTjNnC%emd/J'P)|zGtf{cN718IeBiL]s?<2>yV!V4^+OIFP|ctXb|:9ZM;53QBIRl`P[%|8p^)+gm`/0q'}!Z_s%'pz&2<X
H)U4>th=NRlQ}l*<TL)A/$g:&'nSj[y[;%;7+yJaZjScu`L&tzQ#X=_W],(tDsOII.:MD4}x2u$Ot{GvSb)g:q8go;^hC(Ujq}9|*puc0qJ[U:14jn7c,4g=c~?IEw)zbNo0nR8LY|47lL~!$yE0*b
kqu^|Iafd$2(yi8;I<1&V77}=n4gWsn{8NV9a~+b4|53fOtV,%215M|]WJ%#0Li`H!IR%7K|)?|.aWU>+nvm]$j%q5m<MSfMEwqET+8Kj{R{&`M7^l{=t(jy+_TkRA9JAzFAV|wLfA|dOSUM|O*[Wl
yWL>][::f,h!){GCgG#bjzDN}HGnVP&<4h;ToqE>^zplRd:R7r|6OsLMI2C6B=}Cf`(F)10Fa<fn[;xb9<<~2qVMi)^<t6b.4qi`H,$YJ9{[APQ6y4d%.fQH6:KYd^RozM|=^yHm3dL,]DXaKKB,&0
Xr%B0q;Y#YUmVN+8?u2]u%Izu~;WgdO2!&Q4mu]<kBN(.jgDp`[g_7nYw)WwsT<cPe{a=kY07CTh,=d=3rsbR^kg].MnIeJWp_^Vrz>~k%+B=}Ix24gY=giG%='o^7+2B^pWz)aev&/H_x_JSO~53h
EXdS<YJFHzu1atiGKz'sC=ZZhsLADccXic+=MuEhuwBs)ZP6&H>lAy72ALE#mvEVwk^y.eD}cl'jdSg'o/.~B){g+j1`Od.t}T>/w$%VNyY/P6Qh~oRum>J'=!j4rTR$i=bLf=`*jls|A76%^nRI%D
d~K{rV+Nf~`!cUo%gWYV/K0:FQYRqr6$gE6yOa%j|PoPBUASL:BIC;+#%g^VCUQ(TJP:<YJTtZq$o{y);/Ikn4GVgPi>qARM~0~l`E.Z>R>'b1*s,pE&(juuTRTD>])}qSvg^,f63W[.ihfd!<<b|{
d?lTko`L_sw6;t^|j>7?hT&{'(HNhfX.Z)Brgdm:RocTw!U2Dl'Fi6(^t1Vagn8oH5ew<W[P%}*whb#F2W~(PHYwkQ!uT_s6}1wZ0s]oo!E7mspMj(~q;gUhH}pk*GW?Z3R3eQzjkL%vM`_v<*rFtH
bD/J.`ie>{tV0GF!R7fd.>+0)+mF'UPHY5iHLGcA?dmi`T[|xc{Bt(xIQQRbYO30U,[KN&}iPYVBUa:=WkH3XAiZR'S=&7!4Oe&#SJ]=qAe0|W.t9H*kg5cVN,FQ#ujLV[;MdnvrG0oDVWE6yL/Q#'
%PIUXt4;Z3M!1HQ#W&uZKsb>[,.r/0%&Js7+%S7`.JlpUXEq>Vx]lg?=cZsYfVxx)A]S(T>%E.#38~u%{N6`tyo6gAjd(s7gL=6EZpR55K~8*hF[$b^,pI&zoK`Ra|h~[(l}^Af/3(mS|,c{_$aB|;
Nyos1(.c<jiPc(#SghZeGZ`#|wq^v(YGo<~'OC!CQ{q8SO!=4pFP3kX!J[a<B?[46`jk%?J!D{2xHxZKdpN,O+2?]CL?zi7Gw(4L|+P*?PxOud!tHb'E3^K^k|3}//wiPFA*U,s2;&$9a;V[mmX!_t
BM*w2`&fyakR~W>+(s.BxDpRAbAb~T1pJi+V<WX[_{c%,/U]63!W?/,[OO+``7t2q:1`0x<v>/irVwMszIKCUF+NZ.,sR~e(l<4e;]$rqT*N*|Kgv{VTiFjo&g{pwZ|kvgbI*b&=w=9i^letwfR5cE
HI3ibv4,j6[1D~la<56ua_CNQV'O(bV#BGORBS~l]v%TrjEjrt(~8EYkn>?57E:.InS~i!G{zx6/^,&z5L|h9i!F.`BgFD}EhG}k]RNL3BUGC$m$cZe`~&fj0_lbd6/mkM!X7|,5faL|{KAUtL}X5X
g8&E+KF{*LV)9KS4|E;?0QY!gPrlIuNXEbk/Kp:^H8VHub4x.FX6*j%GK%*w{7=O</?*6los/6e[0FnD#x*#8lNFTY/VRF7(sJY5{<y70SFDg|`X>O!`t.4rU__IAgSdzf2L_1k*|%%+{dQcrv+PPQ
v$x]NJ~ZD]$'uu!`QC%6B)uW8e%1Jce=J^vP%Or+g2Xeyr#m&tE}[Q|&k24EFP:Sk{^rv=YcKAjAxE.w|A6__:s1=/NjKiG#(~YJeB)k'tf50<YXieLktq:qg45J>mR0?3,~=:Md$pGnw(5p!h{<`Y
:V_8}>[|5['T1U#9vOd*nX(6U:n(cWD9QA~mAOC)&*N(cOJ`^Qz#5+iCST[AIp&y[>P,tqVEE<L)'2EE[Kpk]uQD3dsH7~tt)<43{N8b`eeS%{:XQ]}!9u.f.eh}Lf:p/;*q'M;{`85C[h(Mm&,%aD
YNi77Z4_63kmD,]2>.PZ;:I%w},82*Q|~yW9cxL=Y+y2RJ~lnw!`bBqT[t#5h%=!a,vpyCQ1yq`9f*L=d)+_|BVoe%JcgX+m/I}~vdCTA70#f$hw:H?!8$'%VG+vI`ucD,{1y?BLc38kgao(75,4I,
Lf{7$ep|UK_^y_+*<YzPA>xIo?gCr/Nl98yPd%?QdSv7jhUy,d._y0&|QARxC_D.~DMnPjaw~!Vi,i/<mnV*~1pmM/'Je~|^l$40n/$g7P92N.,apL{MGiRtv)Ja]o/bu;ZFP3d>Zep'kcAg`]&~3=
4HV1]Kl9|cs%)AsVXtw3T5M^ljX6Q(76!V]QVL&fDm?}x_G20s,;X4iUk8POM?bUtHB/2bLQ&ED!B:^{nk;Ag_aI2}5~=CAR>yy%tp2?vhvo9icHtu~$4yq'=|`8i*UL6CC)G'$vf7K+b{q1}{P0dU
):~,)?Dr!nH>kKevwTcDi*4r|wiYV`|N!0^5X$ekB'GX$zpB)H}|OTfwA9bPWxN1!tQ/c)oM>p1Dg1J*9^N#(,kvNC!ium(o`8'Q#0.X>R]HYnjQ,F`nb_,EN2ft/cnF7B!,!N9D?y0kV#w1{J1}*|
vb9nDHu*qa.9FO)fu1=+T+|$4$_97<t0r%r8dssmo4}eL_{OL7Y>!_x(Fb)4qBZ#ytY?D6Hb69}6s%01T$*`FQLgEuOa!7D^.}Z7zD|ClQJ^Q{2NBr1Rov8T0EdMhSb~_7p#t~29xTo8/8HJx${1`q
`8:Rd{ph{!aE/A!U{E]0W20|VJIMN^vdDWR+CJJ+NyL+E2WA4ZvBc77I)J9#UYh#9xrVI*BW8.,h_/`ZNKIpTb?zMnZmi$Aa~#r5wmGW+pRjp{W{5$CNKVF!QjI^iT8`|&u>_k[rknM+5Djms90T,A
!|<3BQW[l<7CH*zmc&o61fb#n<9=='zG&GL}./uKwadOBS8<eROiA`+(F=s3Qg#YgDwg7vv2C?W9i<2BfqXr=cI<%,d%?]ekYc6y'O7K^OVlO|mk=y&e*H9_|Wt/Njg>#e=R=A6#YeixauptNyyUL~
XxEM2'85lLZKsG]yKC(kjHCk'*BhMcWKP_'>+GmnVELHtMrXFRs._V]Mc7x&QLYD,3s3j(ESe:1.Q(lL~C'ot()6oX?/Zi8r0'H6p.nt=2&]LT:/MCntUeS|Je7)BM+aar[RLI,)+P?'9noGiHrVjI
T,l~?n^mecOxT=Hl$/{<89L}ruvod]+lFN~B{,CcRb]^/E{%r:tPOCcQHg~eoz<D}/.pdDGp..=fCCYA&5*'j<IE=,2|ia(z+RY2ZXRcI&23#p_}0Q!!hqL6*CwR8Bn<10Z6mJ*3zll2ZJN5#c1VE8
>&GY(E*=42!RCEfSv]Mpk4u*`ibp#I;=*bI:*b#R;S9ceH+$y:hNBBVl2K11)>kb(Ji^Mb}n)ALs+O[#HiR.D2YF$DDN9lt<]t^Kbh5pT>qLJ9^^s+>P&dF*bKSMo7=2rxJit!LCipEH9ALF7_8ahT
[Oyjawh^#s4Vg2=>F=upN&p?;z[37iLGd#H*d:NCAWh,Vt8=RIV|rdFJ,+jGTA1SA8x,?`|BQ8/(|4rE{Mw=Jo+Eh);H4YOJ/Ql(oaOEt_8)6!:5|=TqOK`RWO_}K!HSNKb4+{hNRVb|KC&Xm8hrde
I0;k8{V*flbe'*0Ia<A.Y}prty:y02KX,Em.k!DP<1~|H;l4UYDi^`:wjpaZ6eTA$gf^~1gh0gzIqoX78QLrGcP)$XkzcC.3tv.gcF[yK9a~5y#$R0ZdDE.osBgZG+d>.OgK%q_^;G}oEW/qLduD?4
%a1#_CgL{QyE0*JXiG0qN?#/`{e%$;9$T[2^P`O_IB5u4nV?aAV.T#}3R|fcLAmGbT5!7H7j}t[#?Ybo>BTv'l'?x|P4Ed;7|OA*cr:z%yG2Jhu&}=);|3w~RbHq6yujNE>l]pPq7gGkG*,&q,'HtG
pnI{mEqss;p.8u6Sw{XY}_t)fPeg:IHrS8mYN]?}oWWKwtDEVz+]{p:d[8+)oq[JnF{$apTtR+LWC?XIAOQ+~UKtOqDAC2OLuoidNi,z8wX<rHVB[|<`$W1I,,<!L.loD:HA+^;fjdlaAV6}9[|U3z
Q,g>El;akvHk`K>B]!+'x{e7u[fw[WI{B)EVxs(hqxC*E<Y6_Q_Y!dYI|n0)LfUqr_0L.:5Ndf<^sG|$R.7[N;=O}>yX5MaD2:y=PFe]sJ!!?9V~s*<]0u6l32d0f#^..UHgSOy,TongA1miW6SjhG
rGIz~}A`ymf4oZ~,x54Wo*'eBgsb3r<2EX1UW=?nlgW&e|;13%5unZ1Y<{y^&cr%_n[OT%^$S8$k|NtFO6g#sUbh(T5z^_!%%}96Kto/n9qoJhq:!X>IvM>N#Ddm]~6_;An;W#$xJ/+M*8n!69/s6d
+(rt!k4&:TM_eTbzkPG#4YG^KPydA.%J~/*xmP$l|n~veI!Rm/NtgP3UALeue.|[]'Cz;NWTahv}~ZfqEIZi0paz,)d$#312I]L'pCf4lPrJeh7xUhZw;*s.VUKyU3.!=oJlUqfMC`R`EIW2)bJ's1
Z<$tXpTW!!zEOFG1T/pMd5O;3kB&K,0)90.^,hVNIFs63K,nyg2<+WK{aLi5(*|Hvq:mP]^dva1vQ^hWsc7:FGOV^Rpzwv;Ha$RBlTG'.WG.ts|Z64!U.8l$XF5*ExVvZlea)CVhf#$~7hS8LU2Ltp
sgMm%,K40OHx_,N2,c7i]iS,u?u/FD{Y5i/k9*~r.bwPor>Lk_YrcE;fy98h90t62K*%!{QcS5xOJ[pwBr67?wmpqmnxf~I*X1?dkN16R'opL`}e41Wwq^XcRznYh(QzwR!|DGTxyI0W|;hz[<q%ee
!Y(li'nIyB^ZO.v+MB2d9oL=^j'{5iD{`r.]Kr0TFMSykWLYDL&4sBS+kU#PBDqU=tV[RN|Sz~ppJa!|ToLZWZ?]JLGY(qcXJIZu69s(gWuWz_5AaETF}0k1Mtg`q|_E;d;9;;TU4q2RQh(&8clRxS
h]RqB}wo.GM%d<fYJFw'!q4z>c2W|mn:X+J$5.T_>f#(?aED]JKNl8xSk=e+Qvy[H=j`1q/XKmLFibn8g;ln=^?wffsc>K.SYW.nCBkH?zNeXhH1tRG#}Z(fGCl7Zm$o?'Dc]7NxcMbpdZY]<[Xu.4
d4E7|QSD;vR|ic7s6FDtdVD4rQH:'=^afoi;usEXL=FB|^:>JpA4y%'xz?LlK}q/eaDUSPd/k!kYi|4i=exz5nr'9ku9WFa+au9k|KI;ZgK~S|?v#M`i?7Ir*1gg&vzXdh/Vk+trObq>wwAooKR'^:
X=9'RtlnpA!Nh=49#[`HS{mH*l,YR'P$(.7{To~|A,weNPO9gc5scT^nt[+/F%?zJ?2&#eZ{gAL&v$(d$UX?3uU=QIA`9(PsYQT,hd%0A~y&Zi+;gU9Cu)]Ap_Gm/zp!6th+_f*[3`Z*yC0u#r70hU
d>BLeRl^GCv^eAGc=^Ut$7U8t3)cfqDf5Lo/jD1Cz.eF!Qp%h{>HWtyT^,>iI#a}o!$Y?bxHx{{S5B)[teBku/MEUdhi.5s)z[/K.y*W4td!UMxH/kS!R'.Sp3(sG!Z]Bgf?Xa*eMi*u:C$S<o,:^8
2z+$K!S8^%6w^2%#Dlb>L01plA[ym^d!olz1#1.J!WP1&aJF22&:czYbw2/!Q~;Q8P#^nPx,Dup9(Y[sLRLq.`MzXpnHprHy!Wbv/7P(BfMb}$EVtzU,#|%1:YU)oA|WA9C|&HH_<y~YS>+UK{tXl{
I1DA9z+0[Ku6v!+KI~9B~zWvb|`j%X{6VJnuoD;nRg^l6p[dDUe'C{KM/j1a{=ef4qC|fJ%:E]r:Y$9`BTe6cXC?{WQe[64.i80xbuvH?jhaNhUM'1SPEnFVHU>AiB$u8.M>I8`OkQ]7OQPdvedQR]
_OjR`xyG92.RG'aF8va_]9D~w/N}rK4IyJara64Pb_*o?au5k#nGT![V5h#S%daOvx<'r{}QA%lZ(70|A{w4M$6'.YV3eB7VbF5CT#Cw7^_eynz!dO,TvX.i=~$V*#vnZg`sgPnov'txq#g3XY?UFz
'x7jw.Tw55B$,#3jl!aa*<g$(/^``}]QY~74!{VkUUqiB&pCu%ob}N0YoG)UDO*g:/dT_;l3g_>`s}P744'M{V{(_<HkxWpS5(onpd1GMVit]0FjOVYLi<pNd'7XOw_'rs,6&N[{hhK<%M!9n1yE#f
CMsDZaNaO<BL5Ado(JC~XyL^mPKhROM/5*e6:S}rq,n[E=3g[HSSGP[f6oWp.CccV+1LJE7}NZ;%I<9sF{Xb_OBrerN*zc)+KaGoOXY_&&*_w8OmTtaqLN,z+;%9KqBbOsO81~rz'g`$G_VV.d!A*P
q:xMucL_&NC~x/,esL#3Q`fJM:l0vS`qB2N&)$|9V(NQZCAlc>oc^R|6..E/u0:%,w>5^5CMlhrQZ+QB2.mLh*>0.qJZpW.q4EAQ3z!>ZT&3,g``l%LuCk$pA3!L+Ep5?>lx!*zp|zOv,NBXr,4qs4
J>A<0N7H%6D/W;W^x!hMO!Mai?P+<Fi=uQgBbkKGrI2yM763.wQ5s9X_Gj]/vY?'(_qyyA[zZ<U3ZDblbiuNtz_?1A$%Iq^}q`,lX;mjR^}{gfb^qB%MwJpY[M:k)QHsb1h:*kcVH!KZ;bhS>'CelD
+oji[xv]N3JRW{pgo_I*dF0>pULo_pG$^>mH]ce0INDPL,RKH869A!G~c.C%<KG/W2G|t|B0nH&%s+{s[+N9N)f4eG|g)*j2!eNGa^1!{0?|QptP/m[zD4L4o,Y*yu>G&$]T9<6WLTFYuXj`xs)DR;
Io#H=K!i3%*OtB;q*)PE7rVw0.hY4m]{Q?nsF?PHc*P,VH>Rg!m*$3&GqJ)*tkl$04$`l&;7~qhb&I/!n{fV^qq2lNiK'_!._hnzHht,am72l%E(:*^1GIU`4uZZy|>.!Z05#~Nl*GosliWtWAf{md
Iw_;Joa*t`DDV4/'eB5nXTMFE$v=S4{8?}j+!0jdzFEnJBZy%vhzz]y}B`y1%f/gV#TYk_(IBaCldacEr%<+~_8N!ZqO'b:]7In`2[^Q2M%D5e0]x)jI'/m=JED13|f<oSr:ms[g_h6}zClC&mVlQf
y)VhHKRFoVe%hpd=XWlt#QmNFKS,u3nXp^*Z/rlkj6.g!hUGLWst)b3]3+qiacX49sV45foZjq9z|EER5uGtza$J),o/nQwEw0DRk%cm`s~t%1#+K&0Yi+{*XUp'9=K*W0uz](K0l257B(HsbTin9M
x7+fki.G(ZJN%zkjI6=6{+[=jB/IT?rE=AC}#}a_5OHs.&81+k>|f<{.ODJ'fEZ#;IQdzzJXTzh+ud]+A*)<,/v'mHhQsHm]NRlLG)tMQNPo(1CT'wdrU'+28;JOGl:ECyE?0XuE*sWillcoq)e`_0
Ae5?1|xVZ2V17V+}~4m|ed,4(a&s'vKkG2Y7vXkyVQZBB4[xc]>?I9b0]iiD!3jG)`ztT2_[rwW$,`$mdECH;L`6BwCl((6x'Qo;8X'74vQ!!8B3)V$HNU(Y(:r0#662Ix4M}^+EzZTJpkt)XQx)XL
pu7jTYInY<MGAa?39+2!vp$&r;,sGR{e2ad7DWLw4tO:i4`E<QWb|0xr;0.'~Y4I0'#0vb6UyV<!^cs#`oN3M7vF~:fL?2AbI_MhwL_aXsk{cKb6z3)$11>}4`0f`<&?oY0s.H'T0*CmF2x1`_.8nG
`H%a~rVESpi)N<[=uI(Z5*K'BWJ'J[L`$tTF1z%^ZO<b83,^Y3[~a},+8]0S~n>(ZeW'Gmo(cXCQ}%C^H>8[>c{,`%k/B<3bAK:ityaq)zhEB(I7C6)WU{ccwII&#*`t{A<On)#JUosesw}3Ab=EQ~
j2P;QxGbprz[&D'MY)}tC|:^Wf{UsO6dPFJu.u{|G].3%8j&bG.c9illK//m~:,!^Er}o:/E~6a[5ey+v]0y+UX*.Y:iO{k'&{.I{<Eb^ApPYEgb]l2#]OG{;cI77T|1OG;6Wx0>y%pky.BVEN^P!.
o$vnI%pjX#0rNkhbR+ik/y`]0sOv)![6n#_jMc.X}BWIum?EGdV/'FHUN}g9.%A#xR)f}|prgxFvEW#N^d=a6F&#[6xIU!npq85c=OQS9vb'4(*FkT=Zadpc(.AvuUEX20{%QCdbY7Hp_O,i!}t(&v
9.LHO<a)V<fA05{!)Lq9]BWS~+9OFXIxP~k7NbT1fGj?A>IUpgM,U~+x=.b!<Oz929aA[8bQGJ?UHz/G*#68[Wd,_MP|!'L~l6[6/HGFTf8Y~fac*./5f2ERQF6DC~.YVIzi&XuOQ0U=Z+;+~C/r>V
7,(p#Ku!'_s8`$S1B&`+Od!jVbr|*.$I/$M?wv_K^.Zi[Nwe.6.)tVNqw?Kg_zG*:+W7l.~(N;7EW(5jD!8zm/Q6qr{ip0_)VxQk1c7c/VRDR4eFMSqrga:Wb=):$r)*Ipt0?a<r8ynB?f=jb+]V<1
Sm8v*jT?2)_W/m}(o)$/={NIYV#:S{5['Ep}IWKbeAOk.C0%btbL[bIK77,:UWx]p$!6`b|1,MYBINqi99W,]0EG[N=ES#aUtO':s1t]sDb,X/g+L'q[)FvwuLpD:U&u'[Uf_Xe}8xKF;nM*yHh768
;?%8d^1v?F3=4bK/:]TA=*/wk.#tPqX)s(;Ie#|DkdFdHb5JeCr*uIaQMNj2;SzTI&uv]S[iYKK:Ay/0>_hKP*N'RJIv,JZExGD7:twk`c8$A6&Z1X:wjwII).se`zOc`VXUIK{PZ?lVdrP#OB.(WX
;yxN4K}O6bTs[dShu*SEmg[ZFc#h'ip^JQ&4T(z~3m;NR?_#]d(n{r6o<[7(IBTWOnY&UiGRz~~3UZy/l/aeNK:vz+VX={zUC?WBxCoo#s1iPKfl(Jd6iE!Oz'^6(1&3:NzT]&[<x1&7bJ&9,q3N~{
XA|_HS}wg)pCqK>72xJxiFWg/*|39C.}1Vz28$8_O)w4MXrP7|l?zfp&X,<f9}&y#q<+,E9(7HDZ]J:oz&oB/Og#['g$yO!5QTn{(*xI4?G_2cT/ELsYq1r2`7{?{*gyng>ws+>*9m=C+l%&zFOBC6
GKfI^6v#_|VxLmx{%a{25m+R4+u![&eL{K.gN8R(,p8tN:Eurq[=!tMa~[&||QvvOBqu#j(E)vk'^(X4mf$K?9??J3cR%$5c[:^_/!#$H/Vk3!W7]|Jo1XE^><^1}NS4:~w8b/]{izDvjO^4C42Kkr
m3G!qqxX.*ze(x(;q/L]8F!u30Q?Jc$f{QD$d?~?cq4zo`u,mu3_h,](d}:UjJLwtPq(Z[tRjUsVJx:*/73gw*6Sz{}ZAH3_VWjIR^hOw2M}!zBwjVyVe~rQWS>=862O?!:lqP.EpAg55cj1i/dd3O
AB.Mb<m4dh,=|?)aGT][o!$9SoBgwji_[1.]_;m>_M$b,^X/OuFdCgr[5<3R`8DN,82yq72i&IUB_DmA%F(8[[3%M{IU0o=P4Kt57AR&DHV:dkA4k`gCxkbnI2kpK/g~DE0xlh2X85$qf#WJ!;qT35
YW6;}kqnCOw(u<p85w_oE'o#DP.:Z?#Er[N>8MKcSM&s?#GQfzl?'~95Wsh6=&9&s]p}:W/XvxFWQj4:PAN702)L6K78lh:v1fyC7:^,M2#~3T9<Co0#^<5+!gKP'/gDz03ZX.3#Hc:2+;{XZ+x%Te
Ei},OXl.m*K<<J/`_JY#5#hFrk)Y^ayRQ{m'04$%7&~k_#zQDte}nW$c8DbRA5CLqe4$m3#9z,H/|#q*>[7IP4wYxtyfdsDX_K&queWuB7GW;/eZsQ8dv2}{9F::WWxD*^>gH/YN^(6J<Rg6Y&Up}I
7I'?<lHuP0NGFSpp4ryv1C~{1{CvI#P4d+[pbC%6vE`.b5hl=rroBwJQbY}1GHZJKZok%GA{|Uzw!OvxJddW#,x?RTb7LnzOU&bz%EWG_3vq]T+qkn.?XwFBiCb<QjpsGl|i:h69>*H&uqK]Zabqx9
wux3}'IzdkG]^kc'Cwm50bGBKN?kv=rB2AX:')$!p75+$A:rzn%egpZ+w#=2t%`}e>%_[&Gak*x[pV%#0C6^OvAT#2e}DsUJhC,MG?5j;jAtpnV$?kcs6v5cz|$.,~DOB`KMI<<M#OLw+gyks[}:;D
=8TP;gDRc+}d3/WBZ)YTzQ$?qU;%X|LKRYZ'w9t5z{>b|SJNaH1Kl`H2n_}><%C:dl'Xd[vY*4/Z:V4ETs=czP)1:c9m(QLA<%o0]]NHNa4txkZf}%ZB~1OK3E1CV,a2Bc3Itk7o}ul?!tTn9RvTd9
Co`c`Y#[hv<RM`f5_Gk$Q9CapRv:W/*S&3eGxTFdF(p;xF4&:dPP0!^5nJF2vraOc'AiT$&%*7msq`vp$eP0`S=D>GdAsL3fMN6sskCO>Nv7fQ(wi8`g`*KK=c5C7yqEt[:vbT7?kHNDRDYMA3|[)1
7]O!VV^Qy{)(~yHB#U4F{KtB;Qa`Es,vDa#Q3IJ?=j/Zc{v[:5%w3QOzzkcoIwj+v:l.pWA8&^v]'R}p_]fk?6E'0hh?aBSq|jd^?4!/Sd?6&93bu}}9q6T>`obe|qCcUZOv<]Z};h0+AHbs1S7gCM
6&N/2XQ?>vnvMdVll:)LgB49(ZDQ~M3*JriOITS6L8sm|Sm`IOR:`H_wUhM>AySeHc=^MfBT7u.;4*/cE8[C59r]aWltCsdEW9]^1nrNz08XDC[Yb[Uz)!Hul$O?^o6g#,~B75!OrNTuAmQ!Pl00&c
UY}9#<#]Q`)240jp;N4tk4kDgnOHIg>zLN0*QqTcP,Bxs$[DZlm*Uv:ipT'mN1<m8YSLE^<BccO!rH]S&'KJD7iC+I(d}[7YaWCm9D<Y3nR1%VYRJGDCMY6dkYyVcYN*UsXz!51UF.Fby06lW'?q2t
!__tc1;Y5n;WMq9hu+PW?WrQ#GakMznXAK;}3Nf`<O]NU=c&fB!7ROwlPwcv8zwAGG0CQYqe^z=n)eaCZNWLEto=^fc'';>vjJU'aXyIry5?,^Vx{Kz#Mu524$.wQw<Hcv]wq5T|c5vJZ*HaHUa%rd
.*$k^>Gg:?En|`H=D|U8HI|Gt30NfFJuM]LL.B`97Tfm1r6Y=Ve<9%]{^&aV1[|~D#1p{^J^$q4/fLMt8efWGlcWDI8)VB<[d`3]<O~.^j,(gGYO~sVN6L9#Z{5&!<j~'*GT(T.cLK',udHrt97yxf
[/((+t:Ro:F[9Y#$Qc7`cF|U0LH`jZ2;EwsZ5_kz7)+Y'4S:BZ(H&7GDPX=j{'h51jPi77PTlfEWJu8`~[e1<`Sl+dsZR(%OTl,Qh#EN'z<C%8lY0qWHotCZ1T#y3>y*XS{OLwk,AnS|IX]b|$a:j;
Tm{IfL:(_e(HK|Tl?<}]WsV,|]}L]mr$LRZg7lr.cSi[D^Q;/5*.0z4*hVe4<*J_z.16jx/xMdsW2C=OLz'MwAmK?YV(oj/8j&O{cUIx/kvdH=KbdY34'5!(h$KLA:Y>JASg*15#ts+<0!}ZYlSZ39
m:`ISSn1J=Mdxm<c*Eo76?Srfb8f^wUZ$_mURWq|r,8?xLy/2^p|2:aFaawZpr`<0Al2D4K#3.TQ>_|demS$`v<EgqtZzS%.hVTr=`u4:Jg4_h9~gr^$%FGbBr2T^G}xt{MJG)$z/cpG{?z9[Y7m47
'g<M7.`7W[C9ICr_&`d9OS>#rZlFOWDkWp#(UWk]{'j|.,S7p1F_47^=ivMpCTB[1=mEd88*KH)%ua`5!G'>E^4kk[lB(2`dkbZw%7l_aSJ$,l!*F&gUY<>Fcx$'kl01hf0?_']H2x$aRp=xGm6#O~
M&DEJu6?*EZ+?w&q}6e,B9r2Pa{4I_nYtj=BrMD,:,683Z|hkll,tlcqOWc]r*wS$|7|v6NyQ';P#pdBHR'^E+mfP`{JAK)oJ.2s#9u$B9bAx4okDe?x)s>.GBmnurw=['0.~#k#!n(Ot_$vas9w)w
8*=;)P]l|v7*J8C;x}YkINrKdmpe:q+&]tH8XKQ,2gAXUa[2tA%CCm6D*ZK2mI~^9`)?;LDd}dx+lgEeeLEcX2{Vw$/O[zG8594&IpvB9sHIs{;]c?o8]s&+9hRVTIIehlKKv6|*1~(Drjwk?LNWWw
f=IZ(F2(NdLX'wh5Y{Vf[8fJhSu`d2_<Rv)pLg'b)}yM/pdUQ_/1=f8J.M<;OppU7);Ur:M6!^pLCf40b(<eCWuodTnxBjKk,U2Bxh^e6wR|v6[w:./|gd0.IVN~=`T{/OnP)&R0?QRjSwOk1~L6c>
(zX516+J|RpEo]4E):m+*+5C)VHxZRD:Uz4^{q,7lYovn>!EO%y(cW8nZ;SIzZ6jT)R0I42i'R',5]c*Si;_)2^cO`yC2`exRqPhsGLT32mKzolNH%,2?ew4X_Xd[Yb<_.e44i*eUb<kb)i}`_NPMi
bv5P*{{BM';y{$#)?4!|yj%rjc>$DYc//J!xDy=uLVBzmc:OZpl]<s(Onj0|e[A~f%M1z}DAQ(uudb;jO`V!KU{E>R0x^2a._|8NPlfvhA,FDO,`a3VMS_e:/g0|k^(Mv`q;RO,.+!W+2r~.*DG/CP
E0(vZDA=s#IzfO'VKMi77!*wV6|KZ_d,UddxHSQfGzoP&boD#9)F?TR.pft,uC'<*&YVc<Zv%3AwBvSdfsUX_)'UwgTZhVfD9~4u0:98XO/K?Hcx%p':P>mQUHl`)+7`/>(sl76E56b|u{.Jw??Xy}
wzvf3pR{'wsk_&(M!vHL/sw*>nBNi{ATvZvqlM~FO#Z2hE;H4OL1*r,N=T#n=5DKWEZ0]0cv/f{*I?WJhb$9PAR;9;z[)ts76LQz'o8>dXCU+SS~VmL6oT7E.Vsxqp_9}D){..H~B)vD/8yw+0^4IA
N2hJO%(#bHx|<IWjD`bG!:%Wwx<(jSt.7sbM+cvNgC#WMZnD49KVG~HZ|Yf<z%}D$H+W#{P#l9d$FU.P4!qxSKBqa`m#lgbX]R9'02nJ&H0s}`|yL|O'3Q5nDvUSPY;UwMg][T8S!|JdYn0=8u/=M4
}^6&`a5G[*}$72F=Ww3Dxcb6ca?1tQ+*>$d^XH%t2WIsR$#2])*^zKVXqx3NFRFbiyK/D*N/Xz^UC%NB?|v$.hfaoHBgvO9Tj$Spx5Py}3/H%#0'tOdc>?_C8W!&5Vz,Q(IO2{]U?~kqP1}idn4X?V
M?QY*mi^TK[B+V`g#EV'+(B6}Ok|<SnkYR:7&eSIA>,N~{;(u>.<v5CQV0W*R<PN'<J`2wheo,[Ts:cCNOM9D~{[We!o9RWBgS5TmO0oIM5CCcd1:Up+/6Y>wZG!~|T6e$IZ$SIJ,/Y^_z^D`ugN7;
.{7l#BH;k+ICu?s(=I/sUkMQS7ig4NxSep*[WWFCCIfnd8gK#H5/kq'OP*nr#c%zol)ZbK]CI5{C[6d2b_q(0QgxP5e+{TQdhE:%S|KZQy1NYO#O.7R6u([7PJ'_+h{l/_NN_h#S|B[ItxHF!K60Fv
`fDa}EsQpmBBC4,BPu;'HWLC36Z[c^dMHsVXFRX?05H3]jYk(3:{9tL{)m]|laO*X=joLhF*oX:_g*I8'lL{&)8BG=TsGo1v&)m#&:Z8MdDc)(DuY+%?|q6P&sT9U|{5&PevKL}Zz;mvxmF~4}c#Ss
s7Ur0$U|aVOc&a3Ae2XzG$%Qw`gPE']G/z7Acz|~u`H>wg3Kj)IaRe,oNZ+_)uf4T`}~[|S9B;gBW&h3hJ8r6VpZoitM8?p3)3u/jdnpZAQSuqh2[(wSgP*Vt{VVj8}#/bZ73#Y6s4,b6F!JbsF~{a
:<z{;*39BfK_|_.g4kf;Qnw#bQTnfW>1Yl58UBzBqqA3LutdrE6&#6Cg81hLvdi%8%0[QzkIMP&Wm{gWaGST}Xj;H39oH,E?/0nhQd3?ZEIwhl4P'ItOk6Ux&,!Ib{G<Zm_<VL!OMu_/PHN[uS>^SM
&9hshvTS_x2w<;[rT[uHTMU+Hg)dVs^A&3+x)QZwWq,Y<T,B{l2VRv*aLE|efZ/2WKoLIuTfB.czP<rcnBZR~qD1MG5#qaGehm};2kgM*1IEm'_D.%%?mGx/8Z6!65Y][qxEiQPCpl;*:=v./`l(yt
PQG{*l7A|}1AMMYojB_n0RrhJnXiN>=cYBzZ.LOq[u~Fk}2]<hrc8}?,0x!bEIV*`vzU?!t56N;~V%U$JIA*)Vb4<2Ve7.G_odndPGv285L)D:wcSLQT/0f^#G=TNX}|<l'r=Jw$%EFtiB9$uk`r+0
^?'2oJ&5?_JmcX1RC%<j)oWy,?*^?k|v[OTC*ccCyz!I21MBe>MGvim&N1nDR+aROia0X(v4_&Bp]]<dvzUBD5mZ3Z%PJrwB91>UUhpeMh(8,|WCI.uAcf:|pE=ZL*i^NhtCd~Q5GXjO^3Ks'&IK|p
j;(h?,i5wA.mH*Nl:P^VN'X*wbhWD(]QPn,k'eMP:b:bL4iTs8twg>$='ZtE]$(sR(!r`osrwOW2$A*_kQ^Vv<tXyP^L(Nq'Ta.sw!C#>6y?*lbz15t5<ECjwh86qe]qOEE{jyzzR&{ImXUF!h7Bw`
]K3`Cu2gDUpFU;tsjrY7p7S;|.PBcC:Qht&iix~/Q'v]jakOtC=H95!,%u$?2}pv9cYXEMc1<x7bSGAtT%$K'>7>`]C}JN$?4$Ko?^f2S,GCxfdiiW*l]DpG:xuJG?Dc4(jU.<N&G{en^oQ9J72G#(
kHb|4udR)<#pQHYwx1X>=8r5oBrJE*Lk]A.$5/<=|BR7T$b26gzP9*RRnQVq`k>8tIafuQB*)h>CnZgo=`xEU+)r=_7O}s/3MCTz_D}9f?.i`Pw[g8IxiWQ4x,m1LdXn&v2=B]XVx[,^St]{we([Jr
(^:|&0Og[*nFgF>&,u+_d:3N4czDCs[,UMCUKOhZmD`g0svt&bY}g4n:Sno<A8`p[;Coox.tp.'[<zSIQqA&HR9SR*<vEpX0sfwAO1SAwo/%ax4UWz3~M7C7MYZ!EyV1b/&|1r%BahtVls_r.?iEkj
4(7g{10e98#5K57B02$Y^#KtpE>HyX;|:3;xusKtxfRy2V'4shVD4mhxfm]7&qu{?gL*_&W*(=WMiJbcZ)~vA_`4~GH6~HV%5}g{zL$EXL7EWBA`]HiZU^(KH{P#(hys1+~`]^2F~Ldwz7.i>R&qK_
c(gPV'n:UrB9YdszvI~d`9_:}J3;d)%y>]NC*2:1#yXCMZtlCF1[CcYSi6)y8l$p4aW>(yK%r3DahyC~KksGV4v>}d]KiztIxbbYz+?X(eU*Shl=(dVpIT|;QUZYA$b^tDHV`FOa3uh:0O5C1~37h~
5tLB|m..DV&za6ya_QG!Lf_jU|1PZd#J%0%f`K*_Q{9950z>6tBf_fDnPgP#p^rS>pOL.|,t6*nUc=gJbYg50M{pTW1CuSA0=6Dl9y<?A12K?Qr<q#UCV%:zCS{MT/+h/T)q#~uA~H1/<g.7iIJ__X
EvS.OKz$Ze|Ou~BSbYU|Cn2BPGa>7Y]8$,<;'Q/DFz*>&KQ.sUwto?IFRIgP3Nh'^M1L}lxlUcqSC$!M9{EqUVqQZ=1UWrAa9Ip]d8a:4JUUrGUUg_kiczr!.,'i<Gu(0ga8PA2f2u$Pu2L/{'lBD^
JE%c&h<Y{6('m'~/zf%SbGdUiglnTO;U>rUOFIXu=2}0w{KkLmB88!FU]|0qNNc)s:v#OLc;/(=SAOe2gm`N_O<(=jq8;*_ZST%vBZx;_=hbAfuTWcp.Z7oh'GH%UgmgC).0YGC/G(6^#k1q+K*EH=
jT0hv$)Fu>[?#aX4~fM?u}LLleP~;Cw)'bw#;XI'.eX~Ss`>H_qHd:B'A9fXrWU[UkeYHQFs5|fNPyO1,%bp0k|1U1T+zuB6$oq8>B!^uFW]buQsn``B<O](5UFM%.4GU%<!hD9D;/E>h|Q0fh^_Cj
06grLjqs3aqN$3ISlOlI7PfZY(XW4x}Z4#8Q*qZZWh2J.Cn]c0Ki2R7S[:|z4(pU={V36f)D})F)S'3*0mMf{|gDhasyA:v15b5ul?rh2=O*<WL,.&Lx#7R;)t3atS}:N^{^|&{~Jh`.VDBLrpfoJ=
S=nu,3,22#=2e6[z+4.Jo>v{P]Zbc%+Gq6k+OBmoFg#wv+r'84LH/'0%j&D{3+Z^Mp&Hl,|dsMj*B)/R?N3iN0A<p$|QaCN6{gA#D>=>XaPH!lq+)W6X*&9}j>y]|$^t1Gd.W%P/I,RkErby(RI]?1
f)QX~$![MJ9}LJ_JvR(}?yT?%3RMNaRqn}x0[E(ZP[?5Bu'Uoh~g(k==ZYj/xP4MP*Cjlad,|%h5BON[.}5(&:F#y=zq[ti4'P/v{FgxA1FM|nAy.p_e9Vc`a{>=QjW!Em[9=RX3xrVMGo.j$2gnQ+
#EXqh15(aW>t.bm?IJ$U:;%L_tNZ:Y5w7hqryDu{j|<,}eg?,T8{zCrU,>R6a%>5Rk?/8GI=W_zFVPa_Vu7]cj(u,w.zrCU4K[SXKT`vn3/xE70Idcq2pOpd>.>7|?8cQybGGFJ$52_>,XJqkH2~KB
5RZ[8{9/ewO#~X#Iaz(O.]OzEtGBwq'7Z8;n2q,&`XjBsvhF(Bm1s?Gp8a|YK}FIZptHTR{0dW/^XFJYS1kt^~d9yh_fTq1}j;hMQPqO{`1cUgBq4Sr,P~e(3=D*P7;j_idxa6x}~w}58.L#'O3]9q
:NPa~(N{Af.(%RkOl6y$[F?9>oxgp+C.]9(%eW3c{X7O1c9UYD.eyoB!eB0GUENa:{GKN>Ds6_qzMJH%Ut3IhFkHtFv4R;^zL]FbEh1mke7sVzE=NKU0G5AMI<vGViGzx6s;[eUG'^|vG?;h!F_Y*9
4G.guw(Y2Wf!/Le(qa|G`#+a:v8ksSViW~Wqm9F+Y1yBf9!Ja3l=L'ti7[$+lXfw~}B_`[M[GDP,gpdA#;2m`n8q}NMrH[v,VX1voIZ4ZRo{(G8y|~+$IbmV9C?S%,qpid2u{_JXyL'IDU>TYxzDl9
5.`6bW]b;pulm7$S>v6T]bg}%]=Dy&8]lj?)/OEM&y$8Gr|</[Tl75=&bJI7t?dXYz3L:6lhZ}%GCfP=,faq9Z!gi#G}Be4qw>S['V,u_WQ#1S6N`x%M2.~%t/4crEwNj^86IQf;?8:|D~j0Chy^V%
.]z$z5y.'$5`BQ~e{BMW,_}80L;ID)T7sB]5,[QcW+hm'U|9y+)r'>Ik$1!nDp4#wA)zc>MWzz3oJdezC(M/IA8uJ.7q`],rLGeaOs$&s8J<HTZsEz=Y7%>&Xqz$y,VNG02=.0H(jS^WiU{P;P^)|J
!:tbh[Y118D|IuxM_Q?**kEmp53${z22YOp4O!e<iZ?{L2{ghsRA7c183U{e*8XM9}&Cu22MTEelj+_AdtLrYQB<N<E}*DYw4##'9/bmP1_>Ixr1lQ~6DgC2:^6)2sS8Y56mvnnV=)V[NYi~+Uj}7?
%dv1:BHZTiL){_YWT]'zvsMuqH&w3xrX!;YW2i?th}gZwh'ii9T%Sh?XUxY~8v<JcL^yd1cd`kQR,L#vO?7GsNx2o$]HSEB{Zj,&mkI|]9E$`4BYg*yrOllnWX)<f%I$z,AdpF/%agpT5cX*seta4?
ol_i('(K|J<ta,VXRDwjevu0VF^aqtPg~^%s`U61]W)Oj}rfq>#g>6MY:#}B3c#&OB5=s!p5{wuS!q6CRUT/B5RO1)A#ooTyvzXyl7[G{8w};vlAf;2OPw:1cHcDkJI'4[MfR`J:l{6fuJ;N~gyq9G
8V#IYt/XTgh/SEl3nCyp1kyu1'0oN:Za)s{?]Iy`7b]}Z(`>=ku)psw>QXNx2p~1,BV3(*ybFK{yD2UAKby{^Xfow{1%o/$Q1Zw1GBAw9CceKdugVWa]~,>([fSoptvt(&=SVd>*PKW>g,j9OjY/R1
C:<;;y;$nt$P_fd2[w9/.8Ji($~cKWlbR!g:Q>#c.wIl={zcm:lne#w(z9O11MjE/yW<VMlO,#pwyk3M2d+BTeB,zKphxPh~M6wWkBpb/(qVgmI9|A*Nw(|w`KmQBK5p4|:Dl0k&]=A,7PZCWkgft>
Ani}9pBZeout=8>.XfKWlR^o7%y>glTa8ERUgXojy?wp9O`jCYXv[ub0`Q!dY7_n(SD1z4HKp=8{qw._3Qu!6{S<zF|y``:B{PVL!(Sz{MH[N}Y/]=awI}bEe3EqRs<Q;CDssBB?5^*)JTy4nxh(4V
c#IH,4crQnHC3_Got5`!|$:ArA0)37+$*MpM{>('Rq>jTGb%9MdttTZ&xd9*|cWkA2RZ.&uRQkcA>lUr&ux#d4A!JxpW9afOElw$,aj1r=V'o6Y,{_pq,B;_`,!M<^4h4,MlI)mD0h.^80>HZTb0G]
pN7UuA13J#Qy)E+4AF(qV{y2$?%mTp|{lNG?`Wq:h6_Q`'([_QB'nfdn2LQ_Ey:)zE.f}.jwpEpA6>x,%3~Uv0UTBx/.ck83w%AyS4m.Szx[LLlXWHe}wJ:;.<qU6IobO5:GlqbOm/z~&+TUfR#[tw
a%=o}}/`b)bycO7KuAS&XcvlZ2(61EIMun_Y/U3y=v?6)Ua`}5~c7BW2[cRDho7;CnL+IMeqGtc57ZwzlsajmX>6>1J!4GO<jAv{S12_jIn_TQd~mi?%cG]vf:GQZ_;LE}YO*H,J~4872>`/Gs*_X7
&Gtnf3b':Q_`Qi$fmCOgs]S`7`N'$7b.&fkWD|QQ;&Xx/aX[6n8y.I8.1<dLqx]i/47&6s,`LJQV0r6~j7+vpwp.jOOq<;<(,x=|XcIOR;W;lU$Ua%sW[HKxXuSY)eC)eK$CMmZ%#L3<37h.uM.~ep
{_U(<kQ[Kt1c;Tn/k57j8KXHfIlz0sQZGbLSZvP/ts'kdA>a=NX>oD$)'?6|N!:9`#$E^6:IXjeV#EJSlyTh}Cq1LFP_2YYzvWNf1g4$I%T%:a<F6Fi^).25v8E8:G<ikC2_myru0?)j5P]QO[>pGq
UXq#Jb1eTT0=]0!?'Rx/RS>&rs0$q6:j*PD7]UwJ`F}y<b=HH^.A{O!q=t5VWa(hVOW'2,Tu,lvR{^L)I:,SVr=P~J=$e.02X5<'^2=O8LTEb2|yBL_3&cl.rQtq(sXC[N]7O4;=o*zZSaH+o:.'tA
Dvk?1AVGAiQE;K.UU%SlV4RJg/Kz07+~lxqD_%XalgEPDmigfq%>~zmc9!.z_(CVHR}R^T'(u6pF7%3OpXU=<E>/x7+d4a}D(:CcvC}WaMHSR{E.E>WIki_Ixyme<dh3JM|o!}issusTsm5Dc1{wh(
Ebj/dUqO*gO'iTJjA{issZ!Le1Q_;C+b#!vcZ*x+v'7RjY{&jd0jH~HHV~:,ZFK[n#3^h0ua2>1g]?N*(939IzEcB]vDw3WE=rT9J?xOQsNtf}}i7ifrW3B+0{ig}Z~V+Ed}iq2^k[J}54Ad&JYL2u
(B7S,%Vg,|?)Q/TKjS'BJ:&7C4)HUc;6^+NgZ0<wVA1nhpN^f7hY<}xa9gKqs{)hk*p/Z('*%$_t)LMmK>m[H[m$$b%'4054+tk=q8B_v`jd[>.[o<J<;Crf&b+XLWxW|25W%P}DqUYmNdOPm+lai1
fbnRG<&Z_P,16]][Ruq9S4N[K7>zOWa`Ydo]y*OT7>QC#?t6L{L'FcA2w6$;2O1l8<{L&R0Tai[D`~PClNU[JxL$~lMAK|0qUEa4?*t+d#zt>lE#Gaf`9z*R4#Z?BKO?8=n_[U;!<=s]bC<[2~C(H)
3VG_hX6Eqak/x:C0fe/}5&Qu%(Gt#5g{_WThCJ{l1u~)8*<sc`0LVM^!/^6SmwW'OIHe(j[yhiZ4X7BXOde]V{J8yVxWv5m)vUCsGoo~ZTa9Gfc]yI%o~/b]YSla`0}wGRor>BPz?<[^0s$m%'0Z8z
g%L<mkg$aA^^{YD/CcZMiIxl._j6dcZZeZHh)sr]sgT*/.lIp.Z<t^mFDq61#v2,^%<lc+X<#h2mkKRZ?%U`^M)7~r22W#7a+aeCwb[<N<OfM7b%FoE07^>3dp/((!X#_xK#]/maWzL,30o1&i)qjQ
6a{7U/4_nM^us!pc5S<JA]LPjSGZh0+R|Y99,q)C}kpw[XgBSXC_*1nGjh7N~c./%yx3KB[cq3<3y.0g%87FxzUpIaZr<{_Bp`T^&o=<S0YFPJe]lbcE}7j#1<_;F(PWJ`Y_M(c2H)y]ei=`F`m7^8
(C;z_34,>d1m3.!Q1m7kPi}%{]lr/eoZz[M?+E$Y{HU#BB}1Dl;jDf[!#58z^kZ9lkXb+VjWY3/|{(V#p<nhF4SukBqkG<SdzbD%],U/K'>:M7)WADVe^O=!yI%=Q/5[Ee[=sA{[PyjCzuM(Lm_MZw
_=E+$)UZdQITbWU&VlZxdp3mZtir^(N|tu?&`=x_qV:}8[#tSYe(hXz^=*<hrx~w`5<`3h^1ihHOO9v^+*EyNqk5Q|G&Mdxj]%SKblDs>>_#m+]tFXf9Ad>E*hRR/3F6Q[80TQLX1+VOS;;+i`&r$h
Yj)EEi=tvV0XU~fj3|d$)sU>z%=<4RX~wo?88UwJPRK]?h|*s?PYS4e%0_r+,Ylcov_*NqgIVw/JFzI{RN~lj0AAEzL6W<%H!$Gwt2c}#D%Ft_'';?tf>~Z1XHMG]g_Xjg~oVRGbHI`LFW?Tl22,2f
Ln%x_5UUDbF)KPxJ=FDEo+bsamdVaKT;B=/*0L//l^vHD(UIv+?ii%DsM+!8K}S|T^aqP)6lGjQ?d`2yDdo4UU&N*XR?,))Z8+~CaUHoQs6THfoUw{3!E[&]yJaRk8~}j*7ZZUaAN}DmHxb!qFCDT<
c:EXl{lqmjE~JxNZ]:dJfG`>M};Sk`(af_SZJ8Ig^Y<a`?=J:h!+M&#.Z$D('BaC%cL<oOp)*~(LUp+iY]9`9UL37Lh?S;,j/A+Q8lnmNIPwCER2dY.H77f)W>tWpIK=/J`V/7I0KIoMa`CJO^,Q9(
(DL(/+D3MDyxn|tiP;r'{J:+un=RFLH1_Kbd.j'/CDgOn*Svved<ukIL%<%k>..eub#uAe.50kr0Sr>.9%OFxH!d~=hpP$t=#T}H89ugRPSo>wL^0_L5zJZQXrO>l0g[_/4=2W9iI/h3^z>Cr~zd'&
tgb}W)tN#~lqhXqLHpJNo|]xYi8r;&x)Q3,],e0TdPEmA^X_9m6FyD`AUFWRp&))E/5'YhS3][a$vF)8i9}szdj(aN:vD,;CnB?`gU8$k^w8l2#2z:TXkKxgA#zo]qJ]=%&h|'d2TzU;QYs}2oLF%;
WH#X&OQG+j}DAt:UxWz%nIgQedoKCiQDQbOP#~W?{qk|7TQ9$:Hs.R4VtZ2K~Z><(=yBUZ3WvyZ*1uCxHkaVZKv3Y_<I4SjwAClb`1>'.g6)]v=;aI1o$.Fl3znUbT+a5C*g/<YhiTCYNH8^(w`xLe
_:$NEO`B8!21R865CXl_V,n?2QFLJ/cD|m0$|edsn%cfC?uYd6`?=jc!:a)=zM&Q=R&!.9dm.NrF,sNl4zqF`VkQ/abB'n{zK3|sPRQ}31Vq:nvTlkna)>lO:JzOd?bdv`VW_x1?ovX}oO8nE(TpNe
cC>igzG;5|UmKyGPb/kk(G!^Hb'_<(/2BrLKr$Pb]2:6P!L8O<kM],v5!Mr2yj:w,E6f;69MG&3HQQp;MDMQn}W>y|iIst?`TYJh&bi#5#G'4Asm0RhCsn;[I7AJB1}G$fnOquJ6eAo`+AYz|Rf~hp
)eIbnV/!!NP#hjZAf,xp`kz(DqYN|iw^?hvw#/Yc%X.(gaz$Lx0Iu^{y]NOsC29}<|2wDtVH/e?C(lk=r57!Ulf%Yyoe){ev[Wt{clV9%1n~8.tC5b<jgH~0BtqHgGi^Zmc.OFRiu]<d;}B)&wGPE<
wL$Pzr6L95H(6>6D[/ZQ3.J}#$V>95nMl8/A{!D4H'hkW,=PMK+]`QEx7RlDV2&'/2^J[eNoP#eBaR89j{oPWT)8ewJ77pcAc!3y><Fzs]A&C77eQ1#n;3VZCL0FhKfb*j]UY,kFD*iA1;gJ*p{*}s
xQ*Wv=pUD~Yq[v!g7>TWJ]qQX[_S;99Fu6wtrt'z^[Mtu#{mdsl`Sx=wj|si:f2ExQZ`F9T=$V2B]S4Qy0BiGxu0lD$%rm0ZK%[=M0lN]2*M&>Nr7fwKnyvMU5_YV|]If(D/B:?BULs)BKI&je:tw_
[d*m=D}`gkm|1_;(#J2/smy[*V0oTMGL.PM[0az'fvu#sRiFXJ5b?p#.eyt!^0t3AhhX6&BB0c{i<lL9.9B]]*,%liv8d?,{Pa9(hT33G#=9[0<XYbR(%tg8clp;^ozy3$_1S|=~RhCo|&xu%pBk:0
r/.iG0';e*i#6eWAwTrZ/fxr.,C$l4P.$w`opcw89Kd50H9y<use*|)dc}{>Tu8PS4_Z>wECVBk<W%Z/4jdoC>1KPrhHlMoSZYST.9<6}J|!0RHFf7#TM?g{PSc+t9t$6c}JcB's]nLPRDn}OiB7;R
)=dX!YX*1w%{;D!E?maQ(`(cb9WH[':_;v[L]l0{sBjIXXbx`+c!?gas[S|U?7!87l;n=v?%J.{YsM$Bj`20t%zaTx2JlLM%86!$o>U)rOaw{;7lsYlP::R&#RZoKlz8mwW!!lUekx8hSoZTt__?ig
sDlESF=96Z`XWX*K8tOx&`!6]dZ^{Q''ow3:EgQ9|l6`MY%$~bqBuO52M&3/u9u8bO/OCJT/lMPYi10MU!)g2}D9dvSf.q`ZU%k[G=3fFelF,E&(g?<3SwJcc^H^.mb%1?ZeMs&BY`SISlBYngKYL7
L!tJN$8'_`Zml/]PXA8mU$rB!lr6uwJWd4C;UR^l?A7Ala!`[LSv!{:L]5!CE~Do$RWs1t7#J5<QfF/LP9_cjVf[LGNlc.ijY`tUmoRVg<(d,ah;AOSXDs]O^HU$d%/XI%smnKz()F!wJ~*QK|q1pV
'aNMHlSwyAvg>>RCuEQ$|l.t=%VgPP>nn>imB[Mbj[Vm9Cyg;u,`h>l_k5bg#UBQ|tD<}%pi<&v$suC2Ai6?gs$l#:U!%P|&g_2uUK14NYRu>~r2YgHbaS'5d]Fp]5bhqACrOcwPx`WtG,<yNdhEKU
vWnze;c%cB_&1#g$jIdye3_vbt/B>3?f93uEJ8`3?zk+}LQo+FX:Q?fB,Y:H42_d^HmYA*VcH1wBz9DZwXTSlNV8FRCPg,RQO=G:OlL6iR<mRQr0Zs]jug`uwiYC7![.lEM^}B.mTbiJlvkU]AY9Q5
Z6qjRPl=94{bS,,JeU'Nt7zZ,{/YF7SuRl>2d!*f`eD<&A14:cONMCMJ[IsepfNc9w_{au~VT!H/sLEgD?jV3Pcd)ckH4LkKMZ9|~u0c&L?p5V'I[U5$k_hgo#(R<3k^lwS'D(UQZc+NW=O4^#CjL5
2,KamZEJ2|i;,]sGT*'734_y&u8FYhk,9cvcteUPo2=t^^hUqK=|uhGXKc<Qq>L[QqPp3noMy,[{4Z$wr[F[bGM0U>k:?,|Fy`tit;pAVZBXY3XY_YGS&fddS[C0Eo:AU;|*.|j=aQNqL!V*h<,E..
Kt,={+v#R~1'y9f,1f2eIVkqhu^[o6c6t&>8Ts+|ZASApSxBe{U35/x6D6PTv^BV;x0V1:{(WWRE<4|m$b3c2$WxG?uak(}=<>YMe<ymmb5>O8fl$m5SKH16#H/XI;f]=Ebq*';*{nQhhKtza#mlI/
+$b(Oq;A0rD+,zJM8<nln[,*3#R4r)to/yZ?bb9;_jBk7HHQ#*,j1q3+=ivQmeN0SRfw~5Z+hU^.S+;(nMVe~,<^Fm(pum9lxbBP&$Q.EEE*u5hp/xmYW/e~!z|U[hO|'A50bxT#g=]'(~:%V*{t|:
:k7yvxqr88n<S3n#`[9IEg~Ut:=sYc'7|}YyL?gO1F8RDXC(!0JB8Xi42={!=%0D:0AIh!s]$wBx^MH5hY!=oyo3zn/6/kF!5l+poCje'gzM}AG/P}YlSkkzM2%~2,*,o&4C*._5:?__Z^0NFSPL<A
NECT8t?$O9voo9{(~*x3d+'nR!c8+V3P{.H(Y+o%y=QKx^YMO;Jv5oM>nKRr'XU8T^'$[#2_9TTsX:Ju%U9J+OkA|D)|_RH,0aMYu^o_D/#<qT]&!97(.E`9RQ4=}VSA32fnJ;ZrhdNqlhf0v1#{tg
1z}v>E7u14VWk8OP}!Q?m0,Y78|zNb8T<B_2&nD:$pSdPbd?oc`.sUir4<e>a8]~y)G7rv=J&<lzF=K$h|gQP>x>O{7aK%22thA/uCH_lQKr.*8gA[S:n8AShRt:4|8|}%.OQJ^;XL]56ltLzr0WDv
mQiaDS[#I*29&W6Q%&:6V#&7'JN}y8mpw(~^+cmRRJt%n2<S6neESfp4S(h$h&pOs4gF<~9Q)8riQ2sw$0z3b5_EAxgqM{K'jA,,IAnNa#117xNx{hRsiNLk*Si'#>NUh}qTm'N.b}IcU*G#PPMfwi
kS9x<NoXEpc2BZ:~8i.(&tW*Lo0*aIGjf'3IP!}im$F!:1<|m=f+V,655~DqjP='Ucq|qCuE>2,vREd9'Rz&W8*+1kPfZIqPP9b6/j^!2ou8yC266=`|Km{S>}>k)Xf<&:q85`Mw{:4Imo&wwPLk?d
')X;$|ny({0mWR(LZ:swFB)&jtEl3|Hj4Ypu:gks)W.O$N3YbPGBJ2^?aH,%C&Gw1t*,cfY9#Hn!2&l_K72zO;5!SP|/eQ)0(]YqRBK~w^k5+{1n<d'6%!}Eu9zD4B2EXWI:Ni&Z`&9*^W{b07)I_A
ikDz+SiYB*[.L1))(3AoR;S$ofo:$=H1pl=tFz!nY~ZF?qXz2K=8dRnzy4w$/901G#LS'wSK_,O$Q$PsvHS{w[<~&Gb%w8cphF6{({cR6yb2g_&%4tSgWWQzXL<)zDX!KnX*VGjbqRV,w5~)wW98qP
w3%(ma+u!0+s|UxkXR75T^spb1]6Q2N)9?fM<s7GcO|)'HA6&3v<|U:QQeE<k4]aPWxK=fPw5l#h'Ly,RQrK;kL`,)r7|$*TIsac4yvCe7i!HABkErS~7(33K#OY}kf/yEJAbF7}3x}eTtq%7r/[JH
fjb)pO.ylJQAMo^C`I~w>b8U;ao[39Oy>5~P(>WWj)e<4wgxN6O?oi.yHYyMHncl6O<}O*GBjV}|XtcUMLYig5{N1^Dm1/j(g!1)(knDz%,~+UFo7eJy0$KvL_;RP!#G;7nhhhjg=n}TAe9,P]aoEC
K/~5+FbYwi8YX.*z%9^Ddi[B.V#eIJAuiG&%Tw>&.ka+h{#/P)G|PNhhF8U;&8}SmNI&iJoGMrcO,coxEkerS&^#/r:|)w.%h?ImYO5M<n<g?JU1:9&F9<l8zcohH9eyp(c.upIrqQq*Zg{z*L28#u
el/fM5c?144zj`S&8uiBZp;8E7K`R5Y4<|zN2lFFXbD9f[[HQKrv+H'`B%v^);r[!Pe^N!_F[4]ItRM>SM$1]4reW%F_1QI1i8WtB<qO^v,o1:HC2jDDey:kEqubRafm,A}Cq/OD4?/>sq$i74[D[W
fnusI24m0`ACmfx0'mVLkULru:'0t%bZe==C1Xj.3ie}K^hP3?c;Xdl/vdU=j{y29k+CO8U.,$LY2!XO<a|9=5dgY[,nsizPm/Yvgh9qQ`I{Y4x*<?F!?lBD7rHOhG4%$<6s9`r_a/(3';`PV8lBF>
.Wd8)h#;bj=dW3J%7P}E,:RF{I0LTS[thB|g28rsHAx6c+=KZ,8ukt#TvctrZbAIGP~`Uko(r:U)$q8dW*yX5fk;f,%onPVHa!2!ZaD4vHAdiUo'I?eG!{F5a&`;P&CzedvKwCPMjy!JfKB[ZDM#5z
IoGYRP**8U%+nTMeW1n;lqKL]PZG<(H9x_Wwwpvi;rQ_o_hnb$=cBaiXHlnWvRl0TDmB5mN_dt|0Q2#5wd!i/iT*0pjyDl4J5F6dX$(Yl8OGK}ce/2F$p;93r8Jp%zk766]?(fqzyVLmTnN]bIFjyp
9kIvN'cvZ4:fo%nh(t&y.!:],BH24Asa8KY0i5n3IF5cEbbExf/]~vV+L76m&:m`5'oAk[Nxd**{2%O6HK8#2Z[u)1W;h62!yv1VjQ?<NeF(AdKN|:)+|4mrgj>k9IZUqV8x&![8+5&E6b3U+HbW/O
iY.>vZ;$ay`zw<|G>/MUh5s2qGJQ`T[x,)yI>lb<JV[Z5Yy&W=9;I`LF+HSP05Wl+%Z9Y'ncram93}imw%lNdiUfwq2s9noK{^=HE&R!M3RlF:ih_raO[5ZK?}DM4GzidU6Ad~bjg:kyaHBFh/Op<K
Tcf,qWpMm#+k,_`XzLmr0K!{=M$q0H8S2IJORvOZi%,XoGdJ3Dw^.q=OUv4Eeaa2Z[_[0eR6N~s5y%?~rX/},^n+]7<zSf~IM3L`4{o4q0WH8CtE!:7,ue6.*2`4cb~y!/0wycND:^|1v^aWQ=b[Aa
#Y3u2,M~aXa1Rulz0tAIpIz_HH.Q*5cXE>bPMYj%EudAu;5aB9?t?mM:0w8M5rKq8.3EmG];;L{HPeZvs,SQg*ly:)l4mfxRKrm0/5QoZ_Ay8,|+|!ov~Up1.>Z+JHnn$Upj~9<MT4Cph$*f=S=WA5
_*cl~#9OI}93rc:(rr643Kynteff!<X~20rxXCJ6S(w%&C<C%dMk&z.YO0e$n1vZjxR#YkT#hpZb?{NF),#C9[W[e?hbbFom}?]$t/tH:1uOF}Igj;`_8fA*VKV_q/;!Nrj:3$q%_Cpn*BToOsgcL>
LjLL1p[O_]t<]G4}MSEOe`]z)QRTg&nR#~MPv,cW^;w3AF*%:FTun[J*PF>`ol!}maQ{XA+E?:7r=KLiHrC^|EO;6&4KutR8EEtws^Qr0,!tm_4iH{x0bTOCG6fNH_yj6+jyMZ(tTt]zZk&AY].d*p
e6}<p>tb_beoJL:)T73xDCh/uFS3*=|]/AeJ^SJ{'w(MvuTK9:HckU0fw=(hD^/M(R'7lj^Pez}HCZkII4fCu3Dh:7P:mFbQ^]+,F?<<sY^I|;lAYhTj>g2k/m2TupmwX6+d1QCy#)o]CYJ|''PhTK
W;$a;5=|._3~/CEg9d]1YY1~X1)aHk9/CnS3|/yS=.3fD^8ej(AbpSE*8DaxbH^'I^r9'[v4/^?}sX`W6i||Iia*i#o`ku'^z0.akAn;~D#{m0>qKjGX&C$c{,_gwF*C)hY6)5*Y9^0Nrh(^7DL^L3
stipnrd*>6h3[dW)y(=FrJ=l7qsh;&mWr16Vat](s};D9v^^QYhy|:m(:<bU`r)Fyd]gih$oPrS6eN{gO5w^0pZT1XZOO}I..sF{PSfsH!5Ks[xbH}q`p;3JY(g*_VlEi9N`Wy8,#baQrxn3X0{&Pb
[kKL6c|q0jJfM,Y8/g3K9^`C4nAZ4oM.MqbrRCzdFK?+LRxS>Z40{p[tm.<m2)km*c4t3|r9^$1m$cRBZJGL]z?_CJp6H_`HSl{ZGs&IQ<xVyVL[GDq0vt+Rd53ZR3c,i<cSMCbBsD~V'%]aD(k)4)
5vcET?_ZjkSJp*i|Mp|pFPD{u+gFzYXtwEJD=xkHBTx&jVlD'dgA'x&KiQ:9B?_J)Lt)^8KCzE`c4s]Un!!zTbydmoHj,kTi}~Za=OZjHE[SL^}D[*h+T<Xb~2q_v{E}iI*ZcpK[{1U;J6m{.GtOOI
DJ%+8Aee*x0.oF1Xd5+2?~:c0s#O[MJz0]qu(!o_`}UB{l7bEFv1aNX&7A/iAF[aAxg0ZcplOIPNxx9%^wTBAFah)&o$I1b+2A(9}H1=G)xGd0$[DeV#yF5)rcf5saN!)F#RJ#JgTRz/QAFmZNi4F^
|0V]$`=7M>T^a==8~3Dx4`m,.udp`e'/FOZi?LZ?nc73Mc;bY{Iiu75jG{b{#(ayb>*mz#|.,ehwRQD;+kmJ<;p(A*{Mq50=.A_UW$zZERBW=[yjRV)JsaKQk:aE(t?.;D0Y**d1?D?n,7m(qh'+GB
fldA>4!c`ny2Jt`Jyil=?1JH;8/8%VMZx''bP33/A]^.`BZ5ZQ5?7C(SJaf!Ae'tacmE$1Rd&,lYvm;s~dZ7(d:dQ&#z`czN!`d>.KrzDGT%3iBIIpaiA'nf2yJa'=8`<m'G4SHFAG)!4N]YCd;nCC
n<;$!H.01rSl^Z9q&zXGyT7Z&0f[:qmIAV`mdvBmVVe&P~qak8BQ(07xhtjij8<`>A[Rh;p+};3`?kkoM';OS($(s;y<d1Xzp=[:#K4IrFg7dZ8#oqRhNP7/6~PH8N'q6jpp{:mNCV{Q4A)Ia&2NkB
_=aZA3kEUAO6xJH~{T723P})V<EUqJ8}QP3iORuUsBpE7o!Cj`7PmZ|vd?M_Rs!ZGe3~~)$u+|BzuWwT:86HK+.&.{):NA[0#;aV^H&9Z?K~;1Fvi'3Z?AhyQIj*jFKx$Q7J#U`i,=9Ke]&xF=SY<4
IAp5N5PTe8U[Qk8S^c6]4<cKwoGYV^u{NQ0h;mEpZ^AS'BW,::T`Xo)ycy;N(8*FKroo/?c2h2'K^8,(:LMpxP=^<}F:`W~mTKjZwp<>/G#n*B/6K'.93|=Y%KOsWQrVN9`OcFIvuZ`HjzP0tzms`c
odaCJ],7%Y4KRnKB7lN}mpFOAM78DKct^:`mp|c<*VGAVInkZME?DT=Bi9FSmT:,h|TG7s?6)gno3xmJqK}k!5xeOE/N7c{.cPH?e`Jc0klm|~D#JT9y86v3#}gC&'?rGa+{cq|No?q%1J:H(7SGS{
Zps%F{Jgh~^t)]mI?y!8i;]<c's;b}p!3d*e7||t~:5WwvD?Y+}&uB$5HBA!][o^E;v+C>Y84P]Ro=cm89l4PP0'UVu0xH[ccz.^g,T`cFoEz}?<DC[Bvv.GWtNH48?vf?5hEpk)spAmGCMpNp2]_o
sE%OODJUz8QNz!$R[.za.Z0C`'[Gh!*;5ul)nF/i5_&|N3U=+1|_YvLl0Re(sIXV,Wwc*/HIC![yy[7hPv(&S?J1tBHf>e<8GKxdC|N>}RKDS3)'##or{&Hv>4(S^Z.}^nnGU%4Dx`AdLr#(yU^7Oi
h'C(Q>Upr(P_T=JSLQ2MGOg<&|&{2q'.S<I+9DYw:$+SJ5enObDfZD%*R]'Sw<UtV<T+gXOS!g?L=}mRC](O9&,,/*K+FGZt=0yAzrGdp!mGc}f;X,_5!Eoa}7ub|P^u}xhWw1BX5;B#0%?w4(Npl1
?tKNAa.rF;>2b97HQ<XFFZ4b)e|Xkwl!4)`HTYxRYiS6qhb$zJWhhf(A|bW{dL0*msdgN6w.KQq}wuB!TQoPI~uZ!gxGh)kk6FXiwL8^b9+BIFI#F_Yw<H?/Q`aO03gFZc0VK4%F?gi9V58UN.#18!
t#Z7AhR?&TU~M6Exd9Az<:3<CFss[!8wn>l:Eu4&sC(dj?C&$+E<0QmhPrFCd8&}0&3)>T?e4da9i_'~Pk4`6T2v=^7x~M_q4sdzwr{5$k')e`B[?Qa%2;~I950vt!<Z=ay){T<YwTlhSc|j=WDV6,
GR,U,5w5Kwg}SyM*).bS=NHZ=fmX&Pe=aa%n;D.nmVU]69?{0CcKn,%'A0AIWd`>8<%MNPYZQ&Wk=3{YLYDNaK7.jJd=:G{bol(e(e|T8KXY(;Wi3<]|F(K0|xt_?I,MvTxVcrU=7JlAbE?_VPCWx/
#sAlW!U.*O2NWG*YeKW{l,2kG5K}?Aas|{d5<v[av%VgvYs)b=jv]b`+>D)&aa*pdZuzdRCYcq+n&[non}qM0WwVcn?2;yUIB._wQ+,nCAv3u;k(RX5((ac~77)cNemwPsRW9s^B<6%>MweA~]^aNs
OF[Dy('S%qn`D`s*?3'qqCN_JEt_jws^?Q=a?psJ7h1[fG0BR.sJ1wIY%n#8I{Zkzg'wI?!|>;Ydl0(WyznD/p%XV'WysJHYWLR[YWhY7ilG*F=Pl>K0#ttj5G+TenwaGt.*e.y7=p&L2O.P!BM3BU
^~lfeh~'m<*tOdt^#Oj2MjmKjmK'FhL':FN;rbtgi9^CMl*BE$jBV?T;x`Xm.L4`I<}I&$`F|7>u&nZ8EJz`32%=.kNl=aSPUtF='>$3%53.3qQVcS)V5LQks4*{w~OVjADU%czns|FxK!.1KTYVnS
M5<+i;diYs*~}L`JWcx58RlZnOYKyy/b^/n,&zOc^}d]~GM!?Vw|4Rdy{/Zl{7/ULCLs?F}dkO'2e0J4_%{WxRwE&]+dK#tl+xO=g{4Pq.Y)bs}Xn/Of<ggC~bq__F55B2|Ykm]4!$cG153(>H:CUR
jA,^kaA)${WW)HE]7<]$/mQ^P1?pi)+]c>:{W:,4:CCGPicroVCg2DKrLJph*=&h10_o',p(vdp8IiY}bOzo!gZm]Mj;edJyG;RGRT,32##/0d=JbZ_F9])Ce3=zgn2Fl32rta97pTUGPpS?yaKE/}
.3zg%PIm`AkRpF%v|6GO.N}%kOpB)oeI39Me!,y/}nGN!i;Xv&xzuc?29nM=4:YUvb|gr#w<)4[gP3_VcM,2FUMIYw#Y^+kZmQ]S[|/N2}yVO=VGU%xu*Zq}4bV'mZ2>BmJXqm)wfmph#?`t%+?YNl
_rV2W/m59caSP6]s]1P($BRT%tgW;#H:b/.AGgeqB#|{pCCJ'](B<T$[%JCQb,S9}_Y7YTq3ydSflz7Wc=XCOxE#e*sKf*QL.P&mPEFu'625K$zhVLxB).v{^pS&TuCx3>?5]xhb)iNigT/XREIEE|
B</~+?t0<A1y)[()hxpi>$!1X7B~cb[e:HbpG`i58(;P(%4b4oZY=IF9?y^BKps?o!8t!}!g'A/!}6QF2V_6es{8lGCe>1pG^:`:fyL6)?h<5Z:xaVCV:n_CbA.d8i3R*`(mskaT<X=?cb!{~akjwY
J6/[an*.:yAKQ)10#eB^a}gF<h>xNZ3x_<KW26Y*5p`vot<s$`qFLP:hlq)Lkny_y=nZ]*rnSTi/8:J4>1)*jZh(L8#SB;n8P3nx(M~`v=^8[&orJxcDcUZpJ%+MxAEoPaoJY^Fh?7wROYr:z]2+#+
oNXi2pe%>C0yx|q_80#L3Ql5t5/qWn<4zp,B_G[3sr2RyD$JZK+6e,AL`F?}pzi_tEf7EA3j~x|:'<XQBtJqU]TEH1?SeQyeQ{X3B{gh2L)|kZHwy#VW1y=Q!xIZ00id)~eE}y:cSK3a>D57aB[rwC
!5lyL}Z8|hlY%LL4ZJr[oLG}4Er)yRiL>fgCdShnJ;N:[~YT~,9&6cteARgVNGzjKG5fC!u%N*^(LTSOIDP;P*Y^zamrMhV{t5]D+>mi>6IPD&6w}5SXxS]FANdChwq+u3}2fU`Sj]fpf0;.{KC$I0
`)tGfooF{lCo]6U2vaGBMw]B;zvuv,u4T4=rS.OD|lWQE1V3Lx;T2s%R6Dh_%CMKa2RpwY}N>v^j&!&ml>3.`F}u5iM$=X}N0vKc;;(n&}5XMCU)mTe2d_GNUwyn{*=8wif3V/%lc|Zdqgs.c_PwlL
i~o4|DWqTmoo}l=.fwn|L5n/o42;Pp*b]p!8%B|=(?%/|iqRnNYI^ARc,I5ooMl,rwgOGJXa3(ME;RolN.*tzb{G)TwQc:rhgGcK9DrSw'y/p8_pM0Fn,.,Lvo4lk[4*t2#M0CH&2dl5#POF'S)&br
3dAsgv=w789HkYg?e*XD<xwOLwFX}qLLGT,d0$=KKV+R4mDKPm[&*gwW)M?hsSieVf+lZUU9*[YlTY%W%n({2yF<Q*YZJBD[&Hb&af1I3%hxbv32*ODv!P0(ei,(l705RoA!w)&}stWs&N|j~5x~]W
i`2h/KN8{fc{!U|ZSL8XZKgiewz)vAw1M%FjU.$?u0WoO<lm%Y1&b0b$JuVYDZ7n$Rw;zO`2(s`]!mi`TOzqR?,{[Z4jDX;|{u6(69$E'5Ef5ML{ieWS#;>KYM7[HnbLDQIJmxP8Iu<cqnthSm7hj+
!Oy]PY:ou,/n{8w55f{*|97l>SJ/1E/O2k^==SCda&g[ogLvSswE?T0=$$lj_wjw;#20pAXD5TCaCGN=&'iv+`G/,EE}Zv+42D|O0_!_dMs$o'R.(Dr;,=fK:7zB'RN$gmU8||%bqX#Apc*eN(_s/i
%VX`%.WPQ'{eI{Vd4T)*NdV;1tB$|a<wOZt*%3AWe:T0//&>&y5=N8g5UO/pG4zGy`P?vuy:|LD3)wvp':D(xLY6VVbP_i/}vL;0u]O48G(Jq2IF:&B?]<W<N?9>,sxyS80+q:JvD'*L*vQVDF^iYS
n<4yNN$natiE:kd&eLP(&X+O!_)ioKU|~q]_`;egk2|d%BJ<.keNOBLiuyFIIpQ8ARKl}ex}3PNSimEC5CU|B{l5iCGH(%h}_JPE.[teMlJ9R9>}wW;uu7?/4KY|QPw/[meSLpnBWjHJqT%L|b:lbo
33n{6NvPo^5Xm2G(,}1KiGEfH'r!Zl|<CH;H7Q5)IHf3'y7:gfN^IQ$j0zu)4OcmQE'E$?OCo*.U6'~JhPk#bFUlc&~[3citCg$XK`Ya}w/Y]Uxq%~''6c6=qWH~CXYsXf94Sh(?6r1x+%6)*xu!ky
jU]q>y{npE>d2<^(}I]/:VOd%C!fexnUH3y?_&H9fan(aYs19Mg!NbQ{ZOGPA'T)9R2V?:jkLv8{t47pdTjTf&Y2Ab#}k7,6XC/W=n,y3]?kgkg#k19Mot>Xf=4W3hj,K/PN^S3Z7x3zsR;!!rf*91
8g5C=sMeJQIH;_JRij[,qbO}<}6B~|OHK>V]|VE#/paJ[FQV?Zu^o['4%>d,$`qYtHrL(p=wTXQ7+n/rLCN)`(UX~5zkVj+lcYL38lN7gV;g9V.=!X%|'m:vS&Gm2mL)$F(C3)^h7BWaa{=i9l?o/X
!p.1F.)99dBC~+a:Pa*SR*YbdoNK~5TerLF.w3H`U.QteAB)pbfP>o)^;&~Y^3,Y$3).zJEt3hKyvp8J{%A>N*y65.?DJ_G^[!7,rJH&;;ye'T!SHJ.,3skD(M/;8GW}9}^tYCN>'_$;asY{=F>lJU
nff1XVN68[:ifkTzlJ/()NkcpGMG$Cf1??H9k5%Lz=s.qr(fFZjEuLQ([_/=+FKdn:=,IUFVWY6$UH^;M&cMDA9AI_,~<DQ0l6Yz:zpD[/`Zhk%3~f:vH4[bE6{$_,XFe2Ocbl;r'_6Y%a$vFQF7pq
j<FI/2,IUl`%f/&#1DN_z*K6Zc8gB6ygr|t'~Pc)9L)=Q_%2oKO`%RVmhy5D9Z,F$m_a~'bGgxK_ti0wELEKH~F4bkXX>~F?%v/$V%fQf*u#*R4|X.R,<`r/HFu|,9N~_AcX<d~_C<`/X7*o8~.N.]
ihki;*ek#t<yz*r_/{8>+g~;H%'|[g74>qVOHA[wA))yQ!9xTGE3.hw8SoQs8f:/fVM7{bJP~D3Lv7)ZvTLVTlXy9oD.fqvVDC>_{Z;9(cR]]K~VG~>K<2OaLm=T=K2ojz#C[$UJ7t$&$&i6uL1ts~
Tc_,,{7I'4_4#[U'Gm.6GL*VKk'w.P_?LuRq#D/A!''?M:Vq52>b!{W<]F)A^naVA_aSOhDJ(8d'5,$|b^vm'T2DD.~d$Zwq6pC~*m`S'5{h(HpIOmI:E~%f=F.3iYV.*+yuX.3XE8wcCSuF~9Z=}4
DUc|9cEx2r~/]Bd5JvTr9>#V_V;L8PP`X1$U$Web9QAbHYq`S,Bi;iA7RicIpT|Tq1ApnDej:>O}F6b;&JI$/X{2nYtYf7k8}e2_DI4y5L|8ppr#(Qs4]iB{]J,:NZxDC5Opc~C$a.'ezxyJG/rzan
6YF}6BqxjY{2b0JLI'rqGJU4*,/pVJDVKRLX_>B]/k*j[q3%2E=`YJBJM=m`l12&b01fhM}:5G6Nx/*y^p!Bq6EYR>tgbwy!cx%NP98C*zoH_`ECpm&Z|6,!V:qP}o0:OaU2&#ajw6nqlz*rv'*_U&
Gr.[z[><R?=qr+Dv1>DZ,]3(g3b5%DIJiVewK5uNbA[p|iic%c>vQrxm}*T|+hkEByKTd2?:dWH64M0/!<d*Wn[EcJb'4=dL^A<T14R<8M7PX$+oNXwbY5:;,MG2K$U6|&17FrY)I'G#O:1axE6<B+
+)N$C0g~tB8L'}E+6w~v4%/7fGfw$2?F+g|n5W)Pc2t6Jy=E3ycTZ]Fn*Ldht)I?.%)*yJtKQdatsm%hH4w_4Nu'?twLWccEUJPQgBUkEfbs<fExxiM.d'GEtDcYJ48sp(ysP;GPUh_6.6rD[~?9=H
j5[gWD]6*e2kD/c+)ynP+#K91Uy)FhYE(P#6l$7kj0=aKJ*vS*Nm^KY>]'3xxm/Dpy7JH8ml.Tu0^^/h~$U%=J,4DH*$0vb*z|1QoZhAOqXu1'X93As|(2]{:fuYQNBHDHnZ~#9lKT+BlOR2&dq=_m
]oLv.elc{ZGkgA)Biqm3h^^$_YN</Bsh[dSn}~Wd$01j_1O7'p[$)}#fN|4NbRSrCkMeF%?K/=lt^?S1C#?t#vIC^(a(R}P{2fd*~!;SubR;e89`ix,r~8P|n`_PsL9n}]7>m}.FHD~p)I(dYD%yVJ
71^SAc!^kMqZo)3./qNtvX'd%^*~|tK%P0yKQK;V=jaYh#(<pm:Vf,[QI_)mn$X%a|/opwpfyxEL$br,TeqgRTKmoIhXt`8^X8pU5e9)tIAp?Ur2r7R|h}x]y7PUDtdghfJhozT7EB!*f>G&Ut0XIF
1X9jU}JzS:8N$jons2BkAwcg7<5{Q[Rg^zm['iUAx0D8<CVwI9+YBjv.90ul&puUHYgBeJ&:!Mg)},vm8j!)z3Xk$Qtl|JCyh610Zssc2UuE09ox:t+99?/[g:jIZ8c106DG0n6EEuC7tXEpiUkl#U
LyTeT.nPT/6a9[<qmYsXQ;v>nIsTo1~6_(~gk5!.C{FSJ=V'ke*E,[hW>RB+^*|hLrh3LRlxAWGkp]E_fTK)pcteE7%{R=3i!.vv?BZHc&ynNs^x_bePSA:__QS)ls9*q'?7[Drq*d$o'kFzV7CD3%
SS3r^S,''+PQE6ZcoPeDIry>p1ly2GC7?UTFLU6PgF|9FFiji!2hooKNFN*$a,2wJk'39$l$_fq;'qjH[ePySa54k2E&#7aSz(0e`'B6x,vDBVs`GtF1<O9r]dfqv*qdX8vJ#(seOX_Bp/zVGdAZ5G
^~[xsUWk8}JuvZOlnmFLPwc(06{HAudTZ##d#FhJA%YtAtn6joFoXRHb7Tx>k'DhF2}'yGG)VM%+!W4L'^4&.0Pye[fT5zey0NHCNyE:jF$;qw`ZLZ]<~Np2PT&)XL::Mj~C$LxpBq+,RvWMh7jMjM
8?))d3WTjpX437UPBj:Ky8|<U!4L:aJst48VzA<Lw=}_+WGMdf<j0.]9.%V&h*xZ)*t:*8~Giq<4&vLgcVQVZR*:1C:%]2H(~>aIM$e_2M6j^n:`&ur!(C9SU4JN3jZ`a3aAG6|<xDhNcjGK_+!TuG
`hiF%(vg%N=2AwQda;8L+Y;sg=Z/os7}XZ+WIDoLVasMmpSMkb^`APnIfgLcMOfLzMR^)%EF~M2Z&GqvK=;eYg.ZG7$Pg7|>nktpG;nRoxyl<(Crh/&(K&2M&Uyxy+u/a`EPjSqCOnGiVzEX|vq6>&
B(]0S<GSaFs+sCw{JQQWcy&<FBAY^lOPXTrL5duv}s,(Z`>sK'Ehi$gXrT50;Y+7P^R#iJscxPcXmkg#kv6x+HqB(g6!bqHNX2_}^ljC,F[jbAvW*Nb2{g_s'bZm1?H]XV7rOWJZP1g%kZWyvQ`,#p
he%zx2v<9D[QNC7e27[m*6Efs'h'14o>NZ/i~mcjwVkCiXD,)fg9U#`zyq5*.yr9[!`'F*lA^hm}pHA1ba}?+W6ff`4#Pdub!2izO=OS+ye9jD$}CNF>iv~F*]J^ON2rZ,2fb*c<wB~ds7b9kESMu;
~(i(]u9`|`%Bd+I6|yL6C$3L+'7ab#%6}e<#_![l]yv5&P0YH|cslIFy!uZqYRNqs/35UhVRkIiA<(A?ER#3^t>H#Sh)>aA^|u0O&;.Jl&716+zaGvECfiGRdLFjaIrp.PF[7`_`xX[0D0fXlI'aXU
NG0k><?D?u^3OMvd0t2|c2PZ0|Ngg+L#=8x>[0N(Q0Nc>P4RpghTb(,6Jl2*D2G+j|3yo=gQ5?>{6uuQuK&zEv)&Z')((|$r6E4=TuY*{QZ{MEMllBUbBe$Zw?q)]rMzW/p4PVy0wU>4!4e!*N~J:?
=SPl%6zd*4Xj,D&ufD!zZ3!$e&(DHSiTkckK(g+H;?'pZ7>tJh>3:a!nDODgZ$TqK(o4?x#<P^0=&].Sx;A{Wo+Z.V8V!p&:YkFNTjl'#?Pz_~Q{_keZalK2{g,0bD8ZRG,pRo=C}|H:{>*S+F#E~A
'L(>d:!26L{p3tOu`6uJKT{Z'!SP|WTA;|]q1BIfKC7R1Y4y5>0)3{U;!y(hXdQyh9~|wvRX`oAS_`x}dE&ruqYz[U=P]e'z`R_0C]EQHncK]*gli|zBd1g$vj6oxjLA^vI2(wlVtSL>&[o&e/|0.(
HJG1Y5}w{4`gIKgKTI*rHAS78Y%t8V?Nn8K&#g899~G.V_NBORla+)N^ZHRE9.2hj!S=X=usN5VW(Z&wkX~n=Br=oQ!o{!:rA.!l?HJEB0A>*+euv#aRSG^trp_#K3T0lu=%bL*A$J44#&|9f9f=G4
hM0?SPVvV!oMh:w{0mUbY_ax$?z3rl$abf0d)hX&PQ1`{pWUz.WardU6C=_#v3sP1zgr7W#BJr`3{L$?nZ<q*`T~p%zTrT<%Q(vCT&t}1hC2BtyJ(GPkcj:(d7~c5(`8,*2y>;L9MtpIi>yw9dD253
N%1JaZ^+=%D!yfRXXp()yk^KV,Lk_g#w4Nyp#jFuuu:2Sh`7PB;!aKgvg}3pIUEj'K+Irk0+y$XWn&10W.vQP|~3B`=K#?YXCue:wtFf}PobB8/a#q4e^ine(?}jvoTNa!HciEb`nMHp::&1hV:n9x
2CBhHr>4;&s{i&r%NBYLi<9v|(%C{B;V?`!|kM&^|=)ZgvgFn7m5UZ)7B.UUh9&mnQ.Jlhw=1?QfQh$cr*W>+JJ5h.=ZNA81H9vtBn<|>>/q9ZdT}9nrw#I2~KvA4B:Q!r'|SSIOYG7[;QiN_QC`mF
F<S1h+W=!j'&1JS}cgtKA?*&`sz83L(lmL0r!Qv0Zmb|}db85HjN$OsRCIXz1'<(pL|ZSKD3/wjx|XDO.]u#N]g'I[m5sA*sHm6Fo.pMfY$o(:KYmTq)5ep^iP==mjbl;!eokh0q*}Y<({m3g`:r}%
?wUV4jn%84GKn{tK;;g|dxxgQaC^WF}!dS3^B=a!Lj.I#up([`g;Vnr(SagB+i)Han7/BX,VP;Y:$ZQRh*~y#xn7`~r8hO.TR1bw{m]&d<U+`f&`>jqov|u2VU23~b/P7uW:K)yKi&EVt'7aYFU$>&
~jTy?Dey8BCQ?#hetrq|1F1|([p'Ql3ir]UQA;h)W3E~|oH{(pNI8>?J[HR]~c8/,JG2&o,CfsY!mX15&>?/Jsdv5d$jqVsszgSZ<hf/^)d*1+fp|#&*YwKG!$r7rcKx,Dlo,#A6dSwa=w*QHS.t2{
93rXEL~,<!)Ldfz]!#*qssB0;+Qf:WG}|&Bf7?H~s<e.1.?afx^Ts~,HrivlXDHA6<_^h=H)_Vfg&i+*TMXi+K#4cA}.wie{G[P#>_1tug9[L`dP<o<Qzeht=]H*>isZ~HHuQfE$.=$+j1f>N~60Vr
B{Q#wq~xGugk4%igf8o!6!P%Tq]25#,NGXF9?tcW*&dv8+d{C$CFNU,=OVwYkX$CFt]HOXb~e8aU';[Wgx<Z}6^{<k!U}*:2&F:K~&WryvKp!BHK3M1TTu&ggpX%DsR=HPn0KSeO,UnHzkH}A`3cxu
:HJd1#KNJ]0k<j>n={^Qs?3V],:1#?wo~#,CHjFDi1q+yFl7v&tsbCpEWEx$Hppx}e!S#x69K(f|/~63amv1AO3Gdz2kel;1ZL)PDenQmRe44!JK2xGnF?]b7xgx_t##3,pWT8##%?NSVZ]GRA^TGP
L^q%0U#RFnBoqh2i>&,y?<<7/5}Z!Xxilne/LsJEXD~Q,c}Y$mUvQ507&_H=H(55({vbI!CTR4;U>,u=(}+ura#B*ADX5<3HEyvMc*d[wHk/2~K]0lm*%O^~GSw&q^+D}ton=[96Q}+$pksmXrn|f%
f(O|]G1<'O^L?7IJY^'N*NLUD?h~meS5B$.SD^U#Uq2hsnvD.;[./=V_,FD8Lkt{.~ul5StA*0nxm[1X?JVsq%7G:DL$7brb=nQbnN.6O'/EwO2OnGcW3F5l?d)W%+beC7W}Ph[>$S[M)i>,l6dQ0v
7OLFma^=1MhP=mt!ePpD&fo3CCaXrN7j)1QY[9KP~r;q]c)wqua<dW=DZ}Hb2jd~3k$CcDd}+!|'W#2P*}8%+KErp;^`iY^6$uC+xm!N)6.zfHN88Gg1('I]_[X'OF*AdeIBSiRyk|B>c<GOM>!,i>
hH5&o;lLLg64itb]yE*Bxa6=)N]2A,%#;1pu833^V[VJebFyq0zfCoI.x_+{8mr})AGR!'pMq^F4iY%haMZ*oMX]djU1`LH2%Jr!b%v&k$(t_%GY+N2sGqL_KGT:2qBl/r}wBu`^2`05U^if0,1cTM
;Jxn,3aA,[_r#cwqwlCT,g:%*/]~UMo1[(W&mOVyd4F;b%77<.>'M[l{VUFI;l#+|F+lpXJh~~wPNEep0)tt4w&%8}$(#jpIc8VhyNl6~V}P]swCU5o5BcYkEo_S:a<ACE!$0~8e>6wed'usK6D'!<
*^X)%`z9?uzQ^8|gCB$%)C9*5sh%)4:oucA,Pys9)~&nXFx}'z!jzK5Ha.oZNODJ<>n8Zc|s2l_.'nZxffYTVeJA$9X8}W^?XF^?pAm}HT8JSsN}Jm;TP`Qo:jn3fftA1Fj1}OObcnlV`Kvl<DIhPJ
fkdBMc/s]Rr'Gr~1lk`McnoBIQD5A(FH*<5f0jjffk7nUntUCb[bj]q!=ilh|W7?sVo?Z=:2t)^MI/},>u=3CU8}gNbB>NGGOhoPtG(,]uXz.&Eh'T+J,lDh),=<:jy}6Q^t?Rnv>$*P%<e5.k.D('
UgI)^{ZBi=RgOY^q[;PLvRq^5PAI{;{Yo>k_[:uGSrOYat4)]kQ8X+k#oRtK6qm%dK7T8|H+5f)|I)/_c/XVns/)%BNTCSU/h[z=b9egqJNhwr?;5v5,~aG)q>VXVqa2fdXtPf/C<qk`=_5V(^W`wN
XJEvj?q'fG:#ZA'Dab,'SXAd|zz6[>7IJXt|)(Z~I3^Ck4&))2#`heb=~!4xr(*%y{f&WUXd<Q2VS]yeo{(j:)q$v[^5?{ud'j_;ncFNTWc4+ES6Qc>&*A|{ruUA^t<wtl6ax?II=ov03kTJln[E3m
9FAb37r*lxY[C!gnym5or$g>9#?cJ1^8l*z,)$,%^j7u4l68Ep:9QVDMn2l$kvqKQAAXR9Vwl8)*th*)z<NJ=LjOvQfCnIs=rQx6j4Qu8yw/Y>1*F7HF4r]l4</bmc}{2>MQI='x'g?pt>X0]$'A]9
U``&A4=x(nD&/C%:7sH>wq7a0hRGRW8qr?'YSdR8er5B3KZpM(%W<m<uFXf`Uh(G|PGCu1RGF+H``>PNbF&6$yG?.OEqBfYD&XNPBDfWi&:)7t.i)w=hVVshC([jod)P'VM51mvXCWDlYO)Eyy)VnO
V+T+:3(T6UE;4Y6IFWIN_$a!=!ULnuK~vQmHo_Y1im!nWKCXN'&.#/[;3m[GmeiSJC/BLM?~gAq9(Xbrfz[|QkD5.g4C2e6(p8UF*B5x2}C>*J9JL|4V>Be>eP5.|kV~NFY>Gx>V(a{qm;kLIlW'wm
|o?,c,mMXq6C+%E|2/$Sb'.W+t<Kr~zv+&9v[s}]'%#r<$wk~fYP,GfJru*V1pdWbf2Nam/pxTYgpD!G%:g[9tax_]w1|`uuQC8)x1)3~S{[Y7FK+(RW3}[`#xU`1#U~+KZ1a_|grl,Hyzf+f<nnIo
~,(^O$^E[xvBPT}ifGVqZ{I[AXT2O$XcLh261;yzz!:tv=^LGP[L>,Kh;X?ec&h[lL*I,)m;K&q)Wyi're()ifL&aot9N4L5OI+K6[TID!cR`M'gxu^c;e/1SNKP3!G^`_mO4yPD+'+`rI9;8jzP8.
MF'/R7Ap=(%h[Sq'rEy,$Z/EcN$&+ZeE+!(2l;S?7:K%/6`v7Yjr8(Ko.{;A65mt%(ebk);56*jg!M=a!|}pJ9&kv|*'UCbqprAceqjJ?>rw`,mz6G{U5y&'S8ssQ{r&;aE~d;o5tCl3Z'7cZZ&7w_
Cy;;_:=FtM!RNHJ3qPpTxmNi2cks<,Xce/$1l7qMtGCn^[X+^#X1EqYx]:UrnlejFORzO8oI=+wV&Vc71X;o3Jow`(/1ly>JG{bhy4JG>~V~B[$PncBK/TkDGvf%&1E_&g>=A&)=qXe?OlZ::RjxeU
uqlw?,ul:n#^*ntK^8P_yD0}9?2Z%k>2(InZKMVB[M(^tz+cETl=C3d^Je8WDKQUP9SBQVY:R.rs=u<S/6I2{&::yqmJC~_q|qJ$eM5,:15B{W:,/4dQb]YJ:'b}!K%Tr9Z]UxUx*(vA7;j5}J?fHA
&GUT'fT,{#4ji+/Q&?LCE2z5>1Rj;fBHN_u'^Hg1)F^e7(V;uFU%WmpT?&0;s:FQ(oCYVXTHb.BG?}m2i%W<P<&tgE7a$,i{$<}I?uR~YqKJ8<I>^AOtl<A4oBDDXd[jVmEbFJdOShob}t,XQ1O0U/
qSJOR=P>AZ;zq$_P<5.uoB#dR2p&J#ySZ>5$D;.;V/<b(Te,dd[}c7,,Q|<jCTy.4&$+]Q/uO2t,b{JMdVxa}[enZu>GJHCS<h,CiDeg*,^L,]=}vRw9+AArRb_RKR9]tLm'uh}w,CpoUmPZ7bT?A[
5V'7(kK+EGPCVrvEXWZPdDfTPVDw!ln6`?_wijAT&k#k?7ae)/P?<gt8nFeVL4Yo6(c~*bgeED8JGms;$C[{^selDz>fkDT=)f&?G8lqx?Jvg7#Qu1Eo1ZRXuUg:)_c&Lo97,`MF8[?p$~Y|x(zb0e
h4a.wg[UEQ(bvF}8fGH8/(m*wPLLN_F8p4lsZYoYLHQ8)e[5LvsE|vqn~GldN{p4}b5mZQnl8=L>cPC'PB%9sWnh[bFlfo*V5tI97k0eo;c~Q2jp7/ONs!0qtj(:/*1i~DpjS>)[qyitZD_e[q'CC}
mAor4~a!o}Iz1*`%IYdXfp43Q#]4HEk+AB^gUJ2kV`1%YSdVw=(M(D|9<<vB&p0a7$Sd3s=0*~?&2(e+3<:qFHfax|rq12AKe!P&o/k/b=^;Ml(47_g1a^K+TzEQRZP4lO|`K!aT;jgXTse0ib^}X#
0Dr~e{6.%)*/L/)j_Q&BIVKX%]F>/b<5ET;8X4mQLlN8sEQEFBpGtC?S&=aOgB3Jp/H>Kzx>75%^f'l&c4Seom_*jJ_#DV?ol/:r_vTv^,lC$QzG&]XQR=d=V#_b+QOSw]kjeZl.gZ>W+vR*lT]bAJ
l74dEo`!4lKw_1Db4hZ5m6N>+QXD83Ln<cZ)eA~t'wQu`d'Gb[MMa=cPf%1PCS2gVy7:.1en{Tb|g+oAstVOLt+t<_pfKY!6YGRS>'[=rEAA?mK=8>Bp_K,(GE/1]nHB7mD/8P2u70Bf&vo1F&n_1G
%ON_+34?q4Q;Jk,<cct5$]P|i.jwY~q*E/RD#J^#(g_O0[&H<TI0oAz3j8$q9|~wriP17F/;r7!0,=am5orOCNUyAd<_x1^!b3R|M'j+/^od1E5`M<;eYm,.f9B(rk;7')J3oYn>z(BnG8muu+99m6
DKo4,pgpK>/]&MRtLpP*aGSOU&}XIRCO!dNADYzX6^e}%ScFPM/:S8>t#^5i62XSZJTk{|]*8iyrgFcT)IO'oZHw9[R7wD5T0B1'1{$!=5CikzjE~s}x;2pw8%=j|0o&sN<B'=Xj;q;t[>Cb,u#KU0
4eNll,];J;:UgRc:FJ4ap[4PqnYF)&58|!>*Wqc/!bKmnk)HCJ5(TZt%G[~DM>F^.7$Rt/%Y=x~]8i??A/~+IG!<j?Z=CJHT2TJz`/p)3[g]oo1Cd'T`T+7)]MGze3aC|SNmtbw=PzYv>e^$[<)Vub
3F6jPiy6WXu7!M1PKx=)+[pCy`en%~m0iNohd[:w9(;o{7HSXM=z`Zxukcl9,pM`|DW^hIY`{S]|MqV2RQpIs;DS+^%gL#gYK?h/U,3=WT6cBeUQl3?p0rD*mC)2n/(K8Zz}#J|XOhx{T1~<DlS:}'
SO3DsILp:;do^%z)%u!8)Tr6Y)Ge90^Da.Vfyc5;FOk~,F_qwjI%K;sg5k6?m,,({5rNGIcjM{Hg+>RC~z+5$1?*xwhHf^*?(]Sf9%|nD_=87~cD/ejbI77*gvl!iWPx)1)Dht+lq9a8Z?6X_)cQ5r
iv5p,e90.Dv[SRqnl20ht<QFm(Ad+L{up9=qN/^r5A]7ZVAe/|N~vWJjL'y:OSa'c$&L8<$C!v<*Rt!w)&+9Ed.nP*V*mIQ}rDXN)/326Z}?87M^z9BCy/mK>v#)4.$Wn.?``Pz{{KiC!EbLg_L~?v
k4Zp,7r9qgwVbr&~%C[Qn0uCp#HXtm5i2.r$=0.GB[3T6zlY*cs_''=MT_fd$+:*U8wST.OF'q7Bdf!A;ntVL|p^4Mq!uN`)W#9j&:8fC*BmV.1QG>pc&.2IULKRPJ/$3+2da}q)VK8cQEh[VsJ<ql
1lkCY<Ui<[ds7WQ%Y'5(p]X`2>y^%PLH;7ubVL1htnmK)G,+jzTu5h',gp/ho)ElL6fFQdjM1NCX:q3|M&U3%Kt^<[Y)$[ZIflZ7id+(W<grwuuDdhEF7>[dX$02aS`%S!LXq$'q?E$Owd;}F##NBr
E~K>K8U.UiR8V9p83F*6ZT>a0ij<hl[UI#DIVLhUj>,N9agY4POOu7)n)!^275^q9eIOxp:y,MHA[^IdkWut!uSuz[?R,HJ|Wk92e+3uc8d6c>['c}%rQ+aA0hOmSyo'~h5$.|'z<}|h;mUu=W^~gZ
%/7DYKHKPF!9goAk,xAw[hsw#Z5aK/os0^6SMkK,o%jY/:fu:ak)`2,gEJE?)L}gJgf[.[MXu3^Pld]H[LKC;XOW|+nK(6<I,$6hbD%]K=U,.St5J[I33,n3'UF8(5qV{QI.Qp,Jxo:hipJLidHNS5
^]IbKf5`mh4(u+~;dwSF_M+;3tiJ&yJ7A]&`h<y!2{#X&=bvj1?L)r&'`2$=0)z*G}r{&LA3AuFHaUTUiOJrYAdXZnl)*)Re5'M0usvS(:Knb'U*~!WT3oAT:C4vi}2=E~~vd'KSW[S;M`.eogiM(3
,2PyJ.y,!}T>zfAk0}]Y{4UT&q=KOlFC%4IAu(:5yk2(g61InGLfM)q]Vj1lj6%]+1xoO=1E+XiuL|5CbF{2}[92p1by~^&fd=J4H!YK+j^gYaaYm)v<a1O_2av4I|ZDafbF.UvI8O?=C|uY*;vG!m
[%FnH8srr}+e=R2!iuWPw,?K90l}(jV{J$kVFH/g_Y1do!y(78'_FE!2ib},c[}{BxMlcO=:udLHqSJPU:gZYY~{GP9#Ftq&RhZxK>lxLLkGlKZ39gs4<j9S5Yak^cn!CVL3=LCHAR2pJ+7b!B<RGO
,FR&FET[94R?U2qn$IfJr=,?7/IaJb{p6cBV/$VRWEQCNrk_SVnBGmL06lDn2N#FTDHjg,,^(xDz7aZHILkV0FR=_%$+|&QYaGr`p(T(<YF?amz_c>ln2:)2s=C_}RN~$`<tgg)$z$H&cGmia7JK.3
,JnSHPR9~Yy/y?S2bf23~qw>k_1.63$37<am2x4i|b>_eH<#Nend^a^}R0X~)oF_)#3Tb3SFwM?Md/B=sz<%h+GfGVW$1TU>&wZ$`0QWt;.i;W.[}FV%3J$Dm^=4gAkj55rcTb2W9>K}P#lRg%,Bm6
G_krw|z9N.YIi+S16~w_vr5/w,yoLFI|_8jmDF{GfvOi/5=k4J^7P%!jm|LeIKMjhuyzl>.'UV,9^&4T(+Pr?wN3QLFWa/)m[81G)XaC.9_)|ij_y)N4VIB2[P0b/ea7l=`rM<J;?JUkJ/$.$!z0v,
B!6$z$%3YE=';o9h/hKXVgUAan9r()N<bAoe9YAw]tHHl.+Q<bcaW^!gGhFh[/wuV2mfI#x=n;kY|BqDj5[l?b=Xe>2w(4NC'$gZovrgp)MA.ZNb>H#He>dJ62Rc&(gYS?f*H%ihj1MCRY6]q8jDWw
hiA!ywfUw^?s#`F=gj/{)zaaP&/)g3?lLl4r'h'ECJ4}q8/~qin3D(5&lt2%zN}M?qO;NH4Yc%;HOiMt}u+dTYnZfjBC?{P&?}RdZSp6cDs=LDA!#>ZX%9!L]'&FVJ5KzhW9%ZUM1}r]=**w$J;8Mh
cl[]ZR/pO.=6eREz>AB^B~'7>5dwnb/$:>fE.ma(B1lDt98:4:6C5;5SZGvIETg5*NZjmFy=?;%JPR5)ceO`+U'j/7z7G+k7Y?f_[pFkRxC;q$r&Z?bOx!i6_=>bzI7DWz!J:Xi<7'f1>4LmJIU{L]
s#:PzQ=2H51>+EcLAX)tv6!FEv(r..)g3_Xf|we8;Q([{mRvf3;H`U&vYbsX,Pg8xT~6N|!v>X]>k$;Db|sbb00j*BXH,SLd~>k[MyK:eLA$3xQYb;%RPXaO?sX_f/vm];viv#`Ts1!lJ'#eK%'xzq
Jm{nwz1D(<GaMB_'yB=6{%f63O9RepCY(n#&/rE(Y;};E'S*rx[}^q*YEe1u=Y:$EQ0=5yK*w:+d~<K_g9Cw$0r,bZM}^E/JzwlY8u6Ar~tm7w]NYm|3~/o{XrasEx`w|gD<8`'ju%&W>%IEG<{;TI
&6Vu}Q_FE'NZU4dP4iUJiw#]G4rMEHwl8MSu;'d+L<f}Eo>pIcfipXT:=UnHN6,tV2OJs%1Ma{d_/ycSb/|Tv5W^^eeCnKuBj^l>xti(8fY}83WTo0jBsA:'MIh'B:;jghWK'`B)HW!?i,DN'`a$hR
Ki.b2pFg?X.uE;O5k.>7%buwa)7S$IA(_1L2~pfop+J:~N4C6aqzZFGv)dT1PF`XyKLBx?;iXPK>3tK}zvUR!dy|2}M$,~=vxC);:KB:9ut#+{/]n}]6bL{8A{!VC_aN7oh{e$7_uvh9;vIweimw.|
5q$mu=38RN3P8r<S$;`Q^cfzP}wabvX^<b?0Zy9$7ba3]$.(v]5qyee%'8=VZ*Q>=Y[*fgfK3(/BHgT6)6K9%S.?s>9=?7=2$6$0HLMx|K`CF5]~X+PC]8598]1oO`+fFyS<7Ksy5abNccTFfO1U+5
bWPal>ZjHDULiA9H2eT[$SGJJqcE+9*Q]c/t99jNB;8hZ3_AS1kbv!r%LD6fKaYxzW0rB]&QqBy#~[ZR,smG]bXz+dU^,pI{M(_hR8eJO]?Qb:5D*vY|o!QzxgvU1NY~+clnwHPizW<o'x?F]dOWJ}
bIo&].LDLnrX$S+]1(u0JxaRl?yTdqkA!N=M8N<BTfs/eN+wB[6#<8G6~k;4,k4v|&^F(Dl*,t?A73>[.ijY5%drzX32~v&]E3]qrECdZy^~e_g05B8+v|fc{Y|e^7eyc(m,e&h&gh*G`W?)uEuiK:
ZMx[tFNZ),_._g,x}#>PA|E+ljQbC(~>Xepj;[Zk(PYU`i&U&/DQ1BqD&H?<^Kl)7NG$iA9I*v,e?rn8X]X$UFoPw'X~CaV+QzB;e/8N)RRMvyO]IHH5a[4I^A3W.$V.F{k#<0zA|vU0=!d~dt}dP`
Y9Sv5ygPGVR8Pe.mUf.u;13]P(!tzR_(.N!E==x^M:$V+[:yNM,REAB{]]:4F<9(hiGr8|2TIy,hW1F}j)?r/CKL4~6~heGuPJ0h0x)%$P4RwRX:7w>8//pnkbt`Hu1nf,jfWK5C|/`$;'6?jU<``p
C1J~VLLu)f:|V`eBASQ)8&2iG]K`,!e]dIR&)8%QC;:B>Apo4E&_p|*4%UM3pxw1A|j?]|U^zkwT_u1`3Op0mQ+G8:Z&B9p1R6a}c}UaP|=%>|?2{2'.fd7{RS?79S;q3jBv|h4hy/;*o742tb>k!c
vGWY!*{rnvjeYuG|=<LRQV#*.6ys[r|D2mTjLbH%iRSqH,.Yus$M!rRAFif~g*q)XTVsdtRg{,%CxabumE:PAXNI(nOQ^$t&:+fdm:sJ>3,y6AT#;!9DlB#b%z(GpfoyW&$~UA&.<VYJW$t1eTJ#G7
Hm:]1`_i2GwH(kXNg0L~>r?teFF^qw#Vt7mLWIBf|~dXD~h=6^Q>2Hv`/z#Ras}sajXP{NTdQH!5Aq:plU`,EX5WmGu}vR0Z1[TWZh0y;u;mj:^}tyVBQ`qp[sJs]^$YK*R;MbC9,GD4jF8+HS%tt{
RIqRJSIDs&'0I[4uS[c=D_$#KA$UV0:^duBLVp>A$!C_~K0IB'L_n__99Fc%/QD7]zOKQS[ga2fEE:Ks]deF9M/))#<~xzv+3ayBdIbgmAGNE=<4D.;Uz=*Dkht8yf0tr9ZMXdH4h%'&BKME|6`?'(
ojgsbdO_t>Nc9fHSR)+%/(SdvH1&7nqfs9>6S=QPbD$F%1<:C#Fa8g'Wf+?'403s4Ak:(ihY(~Vn4q0RWkflkqFJIzB.;fkIp)2&bvFjA1J]!*bT0v:C#yvTs/q9tkac1'M#a;3(C}x)R[Jcf}oCdI
tl9z&<3_zjx|[j1B|^DbcbnjF>i!B.$rvX=p3`qoJDVx3d3bN!4SUu:WyeIXA/p5^>B*0{ks4L9|'RcnyJ4h^z![D',[2k8{c53UG$J>M6*3|4h/dk(2?:Nq[ZK[r_7%Be6[~^}>aTm|DP)'XME{{o
kzGyU42i=nZsXxp7zNL`w!jZYTN/923'kAw#><Df#|_^Ce)MrCk'`pIlERP?r4fi;q3xt;}{S,zNpz+<_[wcw+*sLw+4qPl0ep|^z;+0JmIJ#T4*Y~j[*]3NJ/g)K|D1ebuDJF/=AWf0)Kz#j';0y+
%#~(tD]V2v<+WTHx{y'YMV>C0p*LCPQ:vD'Taj:PA#)3mxW!bAp$6b4v(5F`d}R#z3WRg]No7V'1EAG3L])xd4Kq>)b2bbsP$i[eaEdp9#;$ed!m_vs0H:jPh(L~E%.{#a,4*Sz/tMtrwBzp?3mGF=
]mNXE~lgF$%(v!qNLh4UnE#;!bhUZrzWrEc%+H$gUQ<[^BcZH}S>'6Uu7p/tk+7zhwV=T%*`J3Kpq}1TMvJ;o9qFEosw?tFpL9M7o/D85+ZPhl?c!*z>6wV}CFan_l,AMuAPeZR<<Z`1vhAUe=t+$d
Nnw[8~}Lu6,ab1|)Xzeqy~L%uAG{ux'z{84}q>|p7LE;7KSLkTd_o0NJPTIgr53?WdR$76u_mdhO9T/t?+?_5AtL5Z`j6eo<;B?[^oMXuEzMT{66$x}(tQvq(O92AG>|`ZAoO+IC6&8!0E9h>SL}kT
D?'P%H$eG<{;[LH_7/6gR/L8L~2oYm}o[Bu'qH~d7vRN=]WMXQtk/EQ7m38<H+m|kmPJ#`AK0#rpU^4O=`h?L)oUlm/4}[Qavg4ht6u]Y9fb`]i&O1kAgW6`mT_8e;pV7V>ez(^r5Gf_LWbw{hHr?2
0RcG~HopgyDJ,S,n+l.1%wG#!$)kr3{6fm)lT;Pw1#u+0YLC!JtC9vGOVJUgzXI1V<bP94ckM%QXG[($;KV(7Wfny6Yu]d]}l[zKHUvn_R0>8iS<NCC'p<ct3(qTD)kN_.H?[+vPiBFr4;Yv(#^.c<
MT1yE6Je$2Hfcw[]GHvGOw&+,=Jk`qR]/ekIoZBQ5[&=XZu&?`Be]By{NhJAJyH)!D=EL|_6>MX>26q/=:5Ny,~duO2FO$eJi0QowRa=#[1LuT*9%m6VfI'MRbuRDARdr)baH(v>o$3G3N`Xvc{wiF
(r`KqEmxZA^bJ$50gNR[Wt44Z'f?He2[rFkgD<<j%&LLbe!e_{L%iDz'GbBCYY)BXjSoX`[kw)e+?]YlJ#%'sjMT:3O!1?A=>7[;|uzPr(P8bLTfE#hb,q8AmJkOt3p>[^0v[/5Sl{jB:vVJ+OqIlp
u]u$];}0~(Z%P2EpAlmmHGT)cG`'exY[FC;>:Eut#AH5MIxeUbeQhh8HdfH,:BK#MG{t+6=27;Y](dx_%uUmJU,T/!/<IiEsT.&bJ}u^lbyp4xWiG^g1G1Y*a|xO8tXN?M>A%6,x|+'i+FAwVZnG2>
%V|12^&cMm~1$PQ!yr,WwomYs=if'lz2{u~K<&qm:LB6R8y:e]9IS%bx1L?1;/CbbsI!j5^o/t_%B9y:nj~_$P;P%y5!JHaKpohKb=r%s}=Y2Hm7U!5&G2H}#:jZJp6z^{6{0#Z1N<6evU=]uf>3Gi
II^qg>~=#Rg,sMO9!`:n$Q0a2$C2SyFH0}=72_cs1WZ=b>~:*]ES?fzQWQ4*uv3eB7(W&8^Xp&Ds0s/(u<pSDv2q(k{TT[#aA3qAcTbv*HS8pxUj7_O`eK*Or*$JR8Bv;0P`cGa5&Y*$,eNg?1R<y~
aaNIhaLx6|0m:~D*k9%50;:yZYdmg0GVOnUmO}^U`fGJdKOJednXWLvy`c<dDkK7hmYZP?;h_B5ijS4Hzkm4m6XbD45bUJu6r$Y_i:m5sdKHq?IXYO7rgf#xDr:1sG<>qYc%(fr:nf&g:H5)%.s(KR
R.'NgN,snZPS>p<A,.c*`jp&>FGMf7X)KBH7y;IOrSE2}q6$c%3Tq#n_3CeHT:D^}R2CTP5{`7.#&Pl<g[QfKewi^(`k'xcJQy!N3x(~Ar!F&qL8bIIHd<.iI'49:+4}_K,qqFvJiU4P!D;*.Q(iwe
k*c3]s~LNJ|DuG9<m04y0wS)+~lO&8QrTO+R[F*0sAJ7G;iWj`RGOA=5l|cp#)&+g[f.XEQ.c:,A~A?f|SV?hhaNgJ(t<IB</cCS2h)*zFZn]~9z%444ma&f0Fl7VR%p]gqvu,4g5C]BPT%5:jpD!D
U|m+GO9JKU,&Qa#=7w[]aD(oQf&73i6eO3SbXO8(I~2wJ1bHgY3R(a$R,2ay;QFe10!t>G}WE;E*Rp&ja#Umuw[!~Y,L<_CK5f6/_'Z`5WSg;3e3X_F>aI>CX'Tl^>~z:gx0$cK_ub|B5xtOJ})6Gx
_Fw_u2SK*#tDIFC1&R?)g*7FkTUDqB2lyh6TA]W)Ut,]!KvhuG,Z(6eO.<iu+w0n*n&p;im)0~gZn4#w^EGN9i|cTvw5ADl+dg;b4HL?cFMTUjPWG}sr?ldp/1;S[27GV)9x(Z&ZiwIc)(CK].T1{M
W*VuvGvG<xKI1^eT9E$N5'0Ts:r9O$WcEl6cDK`z5O++u#=j(#zM8jj!VbS+G9j[N_cbD_s4d^sWc>;v5:4n2GY$GA}g*Hw|,'LzKJcW;6*3m,?n:qjIR]G~_w0[+scnA`kd{l?`A%uO~J{~C_#Bb9
vTiT:Z&%J6}`yUNXqKt_LmiBL%lf[''1eZBRbYN.R~9I3Vtzwq`}TcG&m>&9_KX8n^J'N?)(q:Xyw+P;q~2|/uuo#QZgg=]vo':H4(~g>R8Omi1/+{M;=Ag>1A4*nW{`;#z}cX|N+zPG8f*WGcF=Jt
&O9ai(mOjr?qt?eveK7II'8DW5#W,!3t=zhJVMxqsTKfE{w]F6Vf#Ukv?L&rx;XNi'5)WGgfcy#;b*w5CPhB1|/$4k[E9O,nwx]yCk=~kM5])K~Xa9S+=c*zWra5CAtPx/r4>N<Jsq$?)pUj7pS`(z
}f&,w`*_tbB;3k4w(Za=H2u5$TQr<RORRnLVdmti*B'Ky{7CdzhWEI[h{rexn4;*sIJHc#(wlp;mtEw3,krn]hw*E^4viFP=?09xsU7biDCi5`?r4oJw,V8h()(;}{.IUErfIzkJ#*|zj9C17d12[)
NU4.Fh*BFNXXI_JSE&Y&pAO+m*O'L}CT+Q.h^6ZW84b)GI:pQU`23xkQ7z^KBIt]d40A5(I{}ekRVo}Q&6r(1P&z`1Qw6bzO])BqB`f%d]AGEg~&2OC6/HEZ1Pk(Fygyf+]u$oDOEB9$Y>RtFoo.Y/
.?;8W<k~(H8g|ErTQSZbk4M:HaaD>iXcvyt[eDr}Hi;3p.*9:Uw^5bvI+?UYqbgNp(gs:u`!RI`u=*tB?j)x9u<K%CE2hab>_MJ/]u}Hr(O?#`t)mp(f|jGo0XhKG'De3.hp7G6Pi)W+OngY8S{Evu
[lS46V#UR.[mFW|)KKXB=d'xt`ulAi9zgI18nknzGnhYSh{75S%UHUB{SJblyTOF<:JegJ~Qb'E_HlnfFNIIP'NFJC3gQbkV]jdC&`hkgOuN`ktDBtZS^.KZnrlDvn|>6Wn3HCS#!*sCY6)XL8k0T;
NnU|LnEMm+.ji<bMd8n9m^Su[#xhAyrbbOHsbo|B+Ym0v:hm~5cAaTPS#aBU?QO+I*pq&smO5}OJu9`1XvI+bh~e3IAd'f05Cs9N(d~OPb2osQfxXWiwH?zz(0X(:g4CX,5,]k.S`|v[rzn<{wtO0T
i55wcz+>'2+OG~qwEO5yGIsa8tZNmV^$GiycoBNq/aj;hj_$?>u#)QoA;9E.Im']T_rXz9!IQhv4`ZypJM{%J9y,7|.vRnt(z~&a_^CB_BINL!D9Jzft+ZBjV2#Ed39#k()i'n^BF9XPO+v)(:NvJD
zp#AyMQBp)kIX?![j90DOgF8m|=Dh(}'=JZ34ghFw'^4t*I)4$G02EOz!j3_K?'+5$L*UbD.0%.3{C%O#[H]PS83y8Ou^+y{h+=b$6g,T8:xedRAsbf(#?p,Hc*4:ntdW8m~gH5%$l6]NXOu[yiBb:
7&c7+*0'nsrcVZ+R/|={v3%KJ_82A:b|}>p*PB}c/t!}~8+z<kzZ`4R/.Xt=XsRpW7.Q(p6t!jls.C};X`.R>XQVqkT99894_bEt}9C)()GELa4x=l`9R*cN'`#I6q:roDaV[~/iya77bYa9wq{RU0
RIV?E`(}3#yZ'n>X?6#?NQ;QGP]B1}*4%4MW]=+f>h0oDP+^K^H2Jqen#jj~GeYD8(jT2'?#/]_KKHT7?TLq{b{rLF&nz>r&g3V^'=f*(Ng%$q]G'V6A&NE]<]4m+uAl$r:zgt{>X5PT:}:'iDP*.D
.(&KK%!v?3pMXeoTcD:Ufx~eaU!|=|$hxv^'Mm%(9Dqr3Cm>`LW&*[(&(;#0ZJCi#0li7Vw:(Glu0:hpEh2xFn|^e40KLAWhhOLc.F5u3d6d~[)ASth/s^<<3U4;/.rskAT1|o$W9E!uQ{{U.AyE=4
6g1%ln#H=Cb'hA8c<:Z+Vks6D_)hNUVa7z7wonZhjyKTu,|A:.cm53fmT|hlziB.6;V!ccLyRF%]fMa>Zsj~tvpb={^KQg&Y<%Y/6~T2>(<PL[],(8YL$Aj^^Axhjro%.g**F43_8df%[ScuTk7,E8
=}sRltj*PH:=x=}K2kcHrpa;[:OlNbdsv&:BC&abzt3#,fq'=8dAV:c3cpV/o<)V~B|JG&o3{*6z]IDi.8=':*h=frG6}iEI}viW*;#$;B:HeyX4'tw5>AiwapPH$.+0dMQ3slg>)>tz=W$LFw!#u}
7m0y2[;ZwFfh?e2Y3kMFXb|6+w+NI>>7xV|*.WmwFky*,mxPN&DD5AsOXxM<ms,)aHgGP5Z3`Q9bbEf&RKe)cuy%uUGK<f<(pf'1EYtR:8{/x+TB|,WeanYZ$Q{g;d0<u]AUfb&sF>NnDp3`^bZWWN
G'|DKDjG_<i_iQsV7kie~n{N3;#4'x?G#:?_`/*&n=7(82Zg,%YGRh~f%]+6dVF&oF5v+f>1$n;gQIkt/f>6b6Wq.V!qwTv=L4o$E^jUxb`QW7UmmwFb~Q>uI8JH9HpdpB!AoI=yeL9i{8ob+*6BWy
DA><sD)[B6g?.^:C)HzOAlk|Tu(:ezKUZ2yDQ6%R`.u<T,,A~x1|E'|/3Cx^YZTI|~cfFR:_zO+5;_'MTHQqQ{fNoh(2:c#f.2_6yfVs,DWohroqJ]txd2,][F0kq++tBPmI0[2}PP?z+cVW2t'lbc
EDRWZ_x'3W}C.=^}B76E54AB4!nJ7tv^n=I]^OHo'_CP$*kh3l^GF2Si;v5(&]Zlamv{$fm,(9.+'&.wqejs/Q5D$<:URM%9:(D0^2q3+zP08B}$=ivbUG#A;C{D,xF2UZ^[;H^5aP9'c(iYRes5!+
V%ZY'~S~Vqz[J!I09l!9B_TN0:S,f}ZFR#^wf6H(bO/HAU%6p;d#MrkWQsRg)!&wk8!/h]bDP!YQ'M<0lm3rX0eC//Udmp]'io^2eaZD$SRqBL`A#_]aMN3RQH?Q9ic1uD9z2o'yLN}Y2td70~A:E3
mM{DbVK.Ptc>p(;LTxJPcWb?erbuOQ}x!J0S2/~[Z0N{Q/:DZzHd[Rp/M$#x#<Pv+P/IJcJO[PlfU|C;7jM>{]#Bl8t#t!T<.FIWVuI)/7{?tEg_/^!>t:!M]O`B(SSmsS#;Gr8DjeU0y[!=$:8Xhp
B[:6yn:}}_w^ZGw|PZR2eAW_Sz+asT<IR)ZqD)zjLmG#RXhZx^`x5A_z3oNbdrJ%Npo:{,r~Y^qpP+~reVH0GUwzRwf:VXty1umsZ3J7=:Pu$Ye_v*qT{i=iEDy+F}IhH#(l:GyawkdGm#d7Q_q<1`
?FKqG4tj]j]tSAlOv(`}+FBU9fWJ>#N!s?L*3?=n6o&8~4ZWN=IB`&^~9z$Mg4PJE=t|I#lhk*KuH0;CJ)WNw_&kh#qxYiK[6%x<Vk/sHJDkPoJDiKZaL)%N]nj){N|U9)U_t3bUba?0ZCGN(%jbyj
!y;`2`Pez'^B{V?^l6D)/na{3%uD|F]g?)QbJjWed)yizL3dbd9#l6kGI5t!+0HY#Rd?dqSe3g>oaO0Y/~?0dndlqNcZ~uiOz2'Ns?bp/<G~X9kW!nK$qANJL=37$'0r45b;_49K0VT$>JbwN[;n[Q
h2yWaj<09,UW^.Y>a)RXb|m;4lDpG.rgc|:FmG`V/Mj|$S^9{7w$FN2SdJ6fnh[8eKfAzd6Cb(qT+adV:b>F<HuB)?Fe:9MXh4`!6;tPd.&SgfG?obip/:Vr!;jfB=n.,vja|>R{$Ksv#CdW1^Rw[o
+%}a$CY%mlrOURtbcE=P06d4718wch8:O)%ljE3*~+ePtG{HE?Gv4sssV5cHZxMe=5Lw'sZKxqi=CK.WLF^:=J]$vz9A34yQ]36e?sZ?fa!m_6&zf2k*mC`WMnt4+^P;ZH*8_t~hV3`,ea)~^tGLK;
k~l?5l|g_Q/VQjSYOzN!ur]BzEqTCYQ=%LZ9B%>vb_4w:df0Z*sZg!s'hZa6VUdWkOa,;,ERN,o))F9Mf{6]9#[pvE_SXdcv+!nJ!hUXO}a_oslgZ+*RM3R(+CedB3voI[d1J~Vmv0^H5d)GybpFhs
p503u/yB`&fF$zL^[|1Qh8&Gw)Fqv37?zIE1=4_yfjL=s^{.2eL0,'.*k`4Cn]C{C[p5Bl$fZ!,zpc'xb^B/;f(yyb?)8.Z!jWzEno|}Q09%<+RvWt^I~0yCafx:d)4nQry(t<&^0.l>5j}vx4YP:T
z)n$91W9'.0S6u8=pucuHdm75]!bY|g'c:Z^#;xr/#wm'=Q)q6J/L?}7/&vPS3[5w,TQuWX$y;.`_xNvNNwMG)VfOD)!bnGKzUa>yb%xNp>`n82fV!,L<(eg,K}a*8NYYQtJ:e~)IAY|*n~E'c/K<8
QLA+Z,~p3=WgVk#q[0}a9~d2PI*z8W(uEJQFrU_$AJK]Tu/WcSHMVU^N'y?nxi0F,~:el>cdTd_%'uG^T&n2Bl1Kz'wzcr'/EzV!CF<3/YK>t+Gn'k#,f$`^1R9_#/Gu/VLDnX#?FB9ubZsGa:7}>h
*]9^%uQh_Y~Ga%uO]7UuF&!O]+_3tmZm0pAL#Htgc~|x;1&fv?/%u'yS|dsuf]fXhK:v)vPspcye2o2PSQgB;z*62.g+06<74a5f|F}6M$zRu:tX!,W9>t_gv%A#TT?i`V.$s*Lsy&5`]aU!EFzIPs
5jt9Vkgl[;V'Ru/DM?JtS+3nY1gk5{>ewR[nV3O'3R0?[[Ut[{AQF<.&V&rh^):oVD(sI[WiRf&xHe|YgjOFAq<+48&(2~Dh26QBL/mXol%C1htOLgxrAK~&~yCz[tcT;[m3?S^Styb7oc3mxfK!x7
;a:H1Bm]TS}qa||*>>gV+J^{ubl7r](:jDk0ryk)PiGTy%97#iu3Auyt~(XIGEwt0?2i^9ujfws81_Z</o<qjlZW6n6[o5|2,)Mm`7m8e.ly(8~rRjS}v0:gkoD%}o(UkSq?hECPX.'~VHedu}|A~u
zgWa4#A?nr[#YtlOT~~2p5)J%'`<2uKBA;LYBsK3*9lcJ8s,!:9cBaQ+1F)tO?<'B=B}&~=u#b]wY{#yM#d%i]~|C%*wU2tfxA+rL;YJ;b)UucfVDC{$!Re.$X~I>K7OmnQMd$IDQTm5J$JP6d{WFC
14mmY4/X#hdMD}O;7,VG2#F9'N^=6^(gY<YLpN[+*~9R)N[yq/9FnPczM^7r1_qO]?Dg]<BJ?A[kQ75oz,33>QG{9YoW88VVA`^C<,KJ*8EU%~csF0a,7,vY&voy(xcgF=P`o(IAJrfa)Ng$XXU#RL
{Nw6F_GFGA#ns?pe9naMF&FJF}u2r]s7XVZHb#xnG<Whc.Xic_+7!+CVPQENiSdq7Uy$qQjiwY%ix2L;Lt,?z%`mRv9J<y0Q53eaxzNQxXx*>~ZN(M.[4S=&BX>Y+[wUYu5ABU{`|L7W8vEP1ML&4X
!EyqqnSzY=.d8JPHT#mzsqr/b9[l_pc;IyfsMU8z>H$.Wy~>u__eP3AxT}+[u|}llf#/M9C.%NzRNNcCo#X%:#$QTTbd=w+v!q$c,nxv7h>t[!s689(:[$,qL&czj(1Nsz,a^YcqnZ4wTX/_2u;7E6
xFOOFStlr|o'w.TC$U8,oo[:9q8]2|bRO|RqMIk~;_'1QVrZND%C$$$M`{u7?ajc5D;.w(R4G6&XXia&uGWWfC~R;x2J)y2S&$Z+hN6?|SAF9't<7&^'WT7VIbV`Pn8bvVAoq!?utMRv66.RIYZ$4v
;S3|.OMN6Kgs#.Z]pN<sBApJrbtvB&eCC)hvUq_BX(n[h(Q1]?f,3O$JR,r/0Li1~_XtC1wJex*gkMR)p[b)edr1RgN?Vz]E.GQ|vV,{hE0v.9oR[2L(t,~GMz{dp^}JzgCz5VZz9KO*VqCQK*(W{M
#1G++OSMz{2v~j#w4fS=xe,%M+Ms5[Q~cL]R$ya6]L&lIe0'XlDTy5^[?si!;ES2xP00Zd^D:pK3gOGzG3l!jkEk`5WvUrm^naHR]68B.P*n<uy[rB)qWT%~wg>WrIb|'hLX[?/N^EBz}Jb:a8.(?O
dKQaw}6){N>{Cj2at2vhO<Ja2qtL[r3V`W<?050o62l/cGc&GYG'Z2+F36}k>K_PPqNGSU0a)a4[g|:]}Wo'^nXr%_$yH{!Lxb?C.WnwWt'iOu?+4dkzjd_>VYh*V&H&{f||)C^j{f$m4=f}KL+tRe
s+;_o)?Yr<%.QnkS&}&G5k&4f!^G#YO`bFf=]!2_Gh|JL?OEY0ouaU}/>yN^fqEYc0cZ>j0>fJ,6*d5.)[0WR?cRXC5;sG5Pa&w[?^|9lE/sW9~viH7/#6ZgheFUeqV(QZt8<s+9|`~wY}YQX^(33F
_+Rw_hJtw}Zp(3)&_/g;_6Po`%MzT0l!:SxPoGkkCEvDK8gpncXi7Y+Nh*[g][ZZT>!Rw$;D%%<+A0Q>d$YmlzuWE}L!_JfkCH'gg^wx5&B+N[2MfN&vjcf0=SGh(Py8iKjB_bx/ucFsv.~aF{)Y`U
+`_lj7IZLj{x62(}`wt{t_lxQl{OWzL1)iQN_zWVwHk`N>1:V~)T)R0j8UA?s9PH+Y^OLr$'I*n>a`FTZLm4uHA~7.4rU'9psO%~hpe)K}FVEe0pFA^DlGz:%K2=pvW$n?Gz7xhm[Usf.[fjU<bC;^
ufu.WA>ao:hS]kU)~$:6.2x;*t/|t;6u<FFs[7a%N[meRF&Cmqp={%hvJ$)~3GKH211#_mmKEN*lz.*lL/CG)z5bghf8LXCy|O946Q_P99;JtMt|$7#'XZ:wI|fvcg0f8w~xP8`vBW|wP`1w/XF1qG
1>n1d8mV71y)0.3=r8ZGPApr^$I=0;vQkWDkfD$coIFrRz|{etj~{rSi(%xj$t+*!#mT/StDuD}eRZ:o'qGJv>P%/x,GF>WjcShq7K0`!3Ke!:GdAmaVJ`%rY#L'&1eS4mTi^==FA7DbG3;J9QfIp2
{;}wSmZS$WT/:~yH7m77Fy$I#lns;P0xv+xda)C~FqnmO3`pTWw1kpAAZ2KZPbCG7Y_nfNDX&Cn/SU3=.*~^VNt)E>a)`'R^1>V3;ipx(iPtwvHh:f+tRx76K,%=U?MGtjYY!S~Bhfh_Y>4H,8}AR.
0HUj'jKRT8Sfi=O/(TgVAWa(L>zLw,>d0xPHyg8s`|U|Vou_z!~.%k[wMISxOWA3g#)0K/iv'd'Z?Dy(!2L23Qc_'z>a{|7t7[8j2KH<9S*X<M1~HTHk)vcq)=4>NrY'!dsQ,jnmy5o4&1_2.kBQ8w
y+pb6:HDfBqW.qJ_Sp]{&nt(K6f[U~e}b]S&oP<mKP)^b=<&x$r+89>3k8y|oa++R2u$&7[ZLYRG0=]u.Z$kAk1N?s81dg,8gGd'Ud<Ztz{$5m2lXJ;&)6cJsXI2yw,r,T3%M0VYl73oeF+:W6W7]M
?nI*GQMn>rh_:Lg9#rmLCo:`BONyzkg9)}&,=DR=q^Ka1B<8LI8rLD6}pRjp2wM#U'f1ZN9b<#Cgc]J^ak;bXt*%VpO/0f,60k},txVRJ9L:JvNecQB7rpGl(A)D(33{Ev?8zWTd3kTfCE7ct+,=18
U?PX)0Xw>8tV];ywNM<o#2!SqNhzE6:|v)b{N&^&ACz#3l]NZ0Seq=5}%<nSsP=*K,Lx?;FBWfTv%U|vn=sU|B;`;VN3hrj=&.2pp_s_jMH`A>#fA(T#IlU0Y=~B8*QW(e3ZxnmI}Og(T&`I2j{0L0
Gc;z[2G;0#aQONv+?I$V^2Ij*Ae2c`[!lUP9i_]?P}S_)gS[O`LHxdK{VBUy4ZVKnXBck!u|z&_/9$d.`KZ;tyY)ho_9R<o`wAs8fMxs/|m:oHHGD9ZVeJxC?bk8/F')21?/f8nlaytNlbx|}CscID
;)L4wTUnz%[Al5+E0cx0HRm>N{y/XpuPrL>Hj71yq$Az]B_ypHq=?D4eGul&H]~#qT;#/Z7;aosF;fZ>kYuymIQ3YDJdvLi<[=LR1yJY_xHp]A45!4Be&!|]4(qkB#eCA4`/,H{yoZ!{oJ_GY018k9
T=|o[vU8>.APn>'1O,IjxF^iMJt*He%2E}#KvVgv^eb~*wY,bqN$#N]oIZ4e`hg>KYSi]gru_ON61zZ]au81fd4A''9LLMq=%IEK[wWh`$'KI>%zjM%4YLrpSa:b4HGOIG~I^]0xF;_hpHODhDm[zr
~_&#rrrkKA`xJ>v^v=Nu33pu36#V#qp/`$Ec22J=/ZKO8Us^pBC_*,h(7&FR,%JJ%m'_2wd/LI_ke[_ouoqip1}!T*iN#6cogyh!HsZ>SCDE0EFLJw#5Z_(gJ9}nwgs93hiuV52z9qR'DK?&$&<q7B
k*FW]v=u7mdCE~|=2M`BIV?3+VA,/G`!IL.tDc(|H1FBce1lQ~^YUZg'0/H9D=bf1/]I0LeI*QHZ:;_:/&GUWKZi_Dpp8=9Pos}wI|wl)6|ywhn'p!|IAid5a~F^dcz_chN|!*,=y&PKbC`D]l)/O)
DWjFIl/{(<*8eHlDovIw}mB_3jiO29z]?>at3W6it,&((!jNy]urtSdm6%[U`^Xr39g4jd'e6rII&_Pt:chcFwvJ!>Twy3nU*potC.xrLp.EzEg^$R5gXR<%rI&O'_Deo/H0ee$ol7P(g/HR34c_Wn
9(<*4.e8;qDow#RLV3nK)Rd%i^tMd&N$;Oi.EQ),79L|g=%4N_r/>yKD2mu&M[B`P_]aMd:8}M<3=1[V.gprJ9!4coMjx<k3(g;lh*EbejX%o=q7;PW7&FzBW0#1k}Rm'6R.]ZzHe?<IZt^l`#0Oyu
S'lt*tNTVY,w}*]{ds0y*G*m|Y'9L_0QyS2`T^QFT,4'=Qpu#=g$]aEO}6Q<JK9kdIK`/=n_}7U;[=d94eU>U[N0(E7(~)GI:,)7<a!Obo5?}4]=F7Od's~:51/O&Whtrj)?DF?'lie2o2n}4M,Yk2
cX*72a3hnuS^QsgD0YxO&gg$4~!/V8RTc'c!$O/#uMdK++m,X45|O[_'zg=j{T_EF6hF601&bJlzay&.u7hW'XR>0{[W6(T_^KE].}:!+OoYkffbP[#UTONsPNYqXiG*Fcml5I'u9Q~wLd~:GEP4`w
5p{[(>h'j~/I*>3pM#ZqyKkD*(4=dwnQ1Bx,EBs+!d6=Lc+SCnOYrjFm1A]$YfdPdQAKykA)P2}={&wg|/2+<j4yh2t1R~[`6#8sD~XYZk9AA7EL]Eo{o4b+:6RK6W*5e.(4GX&9`W{0F`ucya+)lQ
P&X`C^)8A`qO&L_uv$u%bY?+8nt<11=]qEq]<FeR3k{(T/7FCO07c?B]%hake}d?S>Q`0raNWX,1&=YghupCDJ[_muaxh2,l#{qrmQY?7_'~Tv[>`xud5'QH(V{6qj,.ttJ):uBV{ps3{V#T&$OA{T
R]GE6hql.kYtiSk{E3Vb{WgnAx~,Z'HD6f>]bM;Sl`gPQlL&d0JaOmC_r;gkuG_OU`MipBLX|`/W1>L%3Rq'd#_e1l#5H:xRG>N[NhN.ZTCR=kS0%2tJcHzq|mvJ)|zC^}arXkMBaixA7;qej[igO,
]c.5:LQ2g}rAzNyD$~`k8&#R8=K:T]vAEeP;H4s+oX%#k2hakGw5xSBx05qrG4l2e6P)[.&G%KpHl`GgSC3Qi&j8/]D<G9{oC_7&fV44^!(fZduspyw3,&;,ep;0vl%(E8OyQ]iNz6NN4>#^eao_iC
#K&J[XbGAprQ?[VZ|2wX6w?WW~f?R4//g`'xGn.iN:3dNwQT8m&ubJR<r'7M7bTCM~;Asx]&CTRLyz8|yd|tVA;##=5`H%?lw0``GCLG,'!q;UMW;Fi:Fs[_7%mqaPJei24_5g$1wK''VsoB^{Q(HX
G>=%CroM=42D)18,_|}IYWeEQWW8:fV(?u<'s',M^2V9a#Ny7(=a(cZDmz'?vZ5&y+dl2_7Oa5}zmLXfR7O%}=Yp5oM3dFC/mhyOl>*:.DnZu$:U>B)*A)*fwUTBEqn49d(Djd&G^>0k{12akk^M}0
;15iD}z'8,Z^.VTf0w|CvTZ)|#4j#tljPiLjQ$;^yCK)%sSS[.f*]oI`+#YOosb,5>e|d7T`hN469Ff&l7|C0bAVTE]Asr17SF,[XV[#pJ&epM<N5TZD=%}|pUpxOu5>#IyEQe(~{~=Dz+T4qy:HY*
gt$_<Z~zlc~a`gE+0lo[B8_d[$<[Ssd(FQU<6}IN2`Jggvm?m`#m1*I~dwo5d/_UD*y0;=]utk8EXU4a=k=m*khv/[PKvpa1!?HePceS<ktFeSB{mY=<jHZFnJCK&0N%B5:D0Fo+vE)_iS1)m0NtRj
WEMzZ8yY?VaW}(qB9m;,(%8s1|pgd#::Q?ab4ft:Ig+OOugYt/jfg!o_pNEtz7K,S)5|npGW52Vc1Z|mv933VCQ9k(:k/F;IUp!}a/:}^D9#%_$/r/PM07x9/+_8;qAut(R<M|&I[so(2OxP|>di*b
wjJFpEkdN:o<KUP&`$SO=`HOhCZV!0LNwP5s+DMR>$wNPZ+^)uaNchn45(|!RFM;1>m~M#XOcZ?PRAB/r}C$RT{MV=k0bHM.5Ol5+#5RqcBQoUCFjb/=RPWVuCD!8{e6Bq3F`L*A7Iq[k2zuqyymN$
Z(5>|%LTj0f8+c8zQ)dUS.6_odN=G^KgzSY}}3y=UM+k;'1D]JapPk]CzK*UNhooAc<5d`N+N09,(DM!q0]~0i[F}+a+V]/:+4N<h81V!>~I)+W*&7<_ENPyF1LHduNx.M29j7i#:cE$#y}7w>8x(b
LcXj.;`2ZP=BA>_7fbte)?V!qW0IqhmHm'vi7?eP31rMw3BwfGsL3FJ5#q'O+KC{%=ObG)v?IO6HVpB?S,u#=n|kU0:/(=bmoqUB0p{mvaBP=p'0.bu.9ePm.fzeQ&#CG~w7[/436X4/uT)nn_2*6p
ESOnMfuO54O?rkY8fEWMX}k'Bz3W^>OAO&N)#L!tM2_`9pWLzFnLi39YcE(%*jo/_IRFL{(MwTDNFBe{^;1HshH):6$iLSVRJ(nlgfI$vO*+(t1t8RKqT9gHWemQj2^MScw|2+]hy/It*8[!W.,*Kd
zaYjm~TR=_m2F6`H^GZJo~8J45'w5fY&BO0zdk?fBCel6v'YvF(g>j7Ak3I0DvO$&HJq?clhJw?dM&0t3k^2Bs(QB0#_l|R~kPkG|Do4^(H:=RrnVHV(Qf77zl3YH<SMU<98}1oa4ev[k~IS}'6!t&
,jR.`s^0005^v;5*AywBPZBzx1To8(r?4Pfh?f)*{1JQRp^6{N[`bqPL3=KJ?3*tcSVt3OSB+l&a&adXa;yLs[ae,V9+Y+O<bZ6(Vhl,'WzhpHZ2mGPO.&{Wi%>/+?Xg]2NE{v4.}cMEM#r[n);I1n
t2X[12<hK|psR!$l9~8%v`nqw$;I6F'lAR:Vz7{G~,B33*_0r^o>Iy|_(#uk?sl~7waeME^dyJhGK_HdxjiHzqV8owSYG!{GzdF8{29?bF[~R1)$q%)gUR&02/]j9=0[S$f}2;):+:+J;WsOfcP{1z
D__zwPZ%q1'=RhrRfWFZ0}%y.SjyJFka9~y(q<Fxm`cLxq4BNZ(v*w?<i[d*LAws9Yjxj+nApIPzsHo$xb8=`SJ`8L}G*MRS:;_3H?7c4=(*o88qsb3=g;M6[8XS)l9<_V%z.!pz|mBTcL~P8)WiQ/
>+XrFgW|Vz'RB<uI;k3u{GI_iXS2*u}k9|>>f9TqT`{0gdW|CZC]x'eW_#wid4;V`N[*)RQG:DLN!w+C28WlB(BdmcSaC5j_+?*jUke4r4*Rde$^DIPW%6I9J9XX??m)qr1|gDCJL8g^)B*F1j4T9Z
D<]`>U.XT&yLf6B3QQjW(r5:O>hR=!(/~C>v1t,+KO|v]lTc0zRz4)rxCDV6%iDtKr;0)d#^7=0rgI[G?AeG'|g=v}uv$l/l^$cZ;jok4g/d**&&.!*7~)*V:>n~866GLq,W9!uv)v1b~XAF]!bh:v
fkrj^^r;O(_xg9B~8x(83+%4`608p>63S2GN:.Y<{vO;w_YLG|qw:Azufq_]Uc'j<`GNCE|88nw53PPGK7XXj|LwT?i~27/]oA(Z{BZNS]J(<FR[KSyj3OM>+hZU,:p;!1`cd)qP}kqxwX'O%}.A?z
WpOu7#r=j%Z|o+dkZ&B}3!m2]a3n.o,A,1.B<S^*a9UTY75n~j+E&?wMXZ0V2LW+pQwG$e~IIn1lLbfs~`F6zx~%[ly=v|h~}30X9h2|O0ebKm%RU'kEVE>qf1eD=UOKNBylc+[hqqycT8O0uNlIAa
0]6$_}#[*W4{.VO8ADifbkYJ]]`&D{W?~W>s*h[hVe+xwwhOtw%k2%+$]86%nm+wbSj+`0kkjZkh%W<S/_a*#~e%RsuN4S#c`YtYRPXD=DLu/{v(y$[^'*CAW,QEgfw#.jdjW7{WNs}fP1o[PPw^/4
8<&K&x!^ked!C&qrqsoSKE9(v^B)rm'q6Q:Rh,aK$,n&^wIwgXp0U=rx%8C<=ma:Pok$QYTikam9ib}yBsO!Cuez&g6lh.}*5Y9F#P~uj8p~MoRV&pWiCMRH.8H,J#Jd?.CHx_m^aBymx)ycOZO?i0
F{O).Pij!]DBbAEB=sFm>nO/96`pVQ=mNTf%?QaTe=|ZO{_^1VXRpombgXmx{%}hBjxU?Pm+j05UXW}6u[WI5Er=8p[7A5[ojJSu92*j2/(x%pj%WrTlvuj]}7b.L;Jl|B{Agt]kJOE#;I(&Mdwh6p
EEfO.H=1!.1L=o[pJYo9,*!tiiNNuINDF=A$:BX/f#]u/.=x$|!#!ae6O*Ob(%8+D1n8HkO1h&L=SG!PgC3U$D6>/C~FkBKQy{!L^13PcP1(3$3J2Nfu^a;wdQ,55zm|&8*DxLWU<vUa}8Zh3XK8|l
%C3kkLEa!S[e74rx.#3xYg)u%4</<QgHTRBDAw1p!7v+:G;RXQ>x^,vAN0KCxLC1%ivK.Nw3I]XRlSsJ0(uLZO~{boDU_$/b#9d.?S!Sty)s*I9_skLXOM&1F+bJ8hYdp4Y;dFC=V:MIK%d^2O>=B5
;>dc33BK'V!u/&xYBzT_ik6vm]Z!q=*)DOa'M>NDWR'NkZ>Cp3ae:]*y<DEosVb(,Db]>ToiwcF6I!v]e]A5Er+BW2W7%F<~XLnP,#xl[l+Cp>GR^E4j`CM`r9#kbHum1RVp`}v9#LW*TD_5T=o%k^
lXo1Qb1*FQ&iopt}gx;$7hA.S^)%F'#fd^JJ&>M!YOzQ8dwkNwK/w.DW>kl:`(h}t<z[l9.M1Be~iX^4uJ&a1a!Y5S8GnQmI31_wS)?s_[Rh$KGy!uQN7Y=tNqA1pBTP*mdd5[gg]:o?L4EUK&roUX
<S{$HE%z7XO:]<EVxBpfd^0lbmQYN9FT^s48wDxW{5|=C2nJ%=oPo8yVI<o*|iG`I(W~u}ISPZ(M87W<l/+AT5>gEebcb.tRq_d:o5ff^ML3OH4Rpt=W;jNRa.k8[Tf&K~fnrMDfBV'rdDMo]HN0HM
mY&c&K]Ux`[8ZBG2]lq#0nZ4[_SvY'Og%B*874Hg6BW'Jpz1WZe8u~z1.zKvgz38BV{2esJh8oJO]l5$H+G!}wG'R}T.ewV$pQb7X[R5dr,:vN^]}|j_$i|8neFc}36ZCc%,!|gOauN<cjE]YQfd:d
o#Dk*Mu>n)!n_M3Jnf}{KC$0Wp:x/B}&dQ'G$?7ah=$XLpkl<_B'u?_Rc!J'4FMwR<F3mCrcwnl)}UlYRLuv{Q);T=m|C^Xr#%i,`l8'6p&tsAUZMR!~DjG1H,t(H<'3Ur4[fPdIAnk[<V)y]JG.Hm
Jr/'3)AcBOjfCHTo>4Y.Z5p71xK>)RZ>2%Dx`_ob8'p:ND`.bg*)c<{rRtsj,`[l5!(%l!z'Gi]:?JifTvhoj1=f2*W.31IpF;U=nZ({Z/0%X+P+rHA~/:f9]CxGRKQc{E,(UR<B_p=+P9hVUZOMBZ
Kr3jY'cEro&/&SR(na!+HL>=V0^|3W:Py0/S#l?i,WI*qS]nROP!^9iE1MPwKs8#b,Us6XK/veSdG`6X(f}BN0tRs*K=&KkrROf!H+&'~>yO<OSMtj,Wc0xW'gzpjeE!</:mav?HQ|kjPb|eVm;`%&
25Q.'g_R~a^ngT0661&_fI*fy;o0O6{04H'D4'u:J,L_MsZ7vj[>KMZb,N'WC0jmbyDm5W|T{8WW{Z+W_fXP9r(k'Z]n4[Q(Q5k5??Ms;,Ian?s+viE4B!eO/Xw_lQVGbZbD,s{1%3A|Jwgh&lY4;!
jso1G450D.+dr*Yn9Dj)X%6TLo{L/gi!y|>E^)y]=yq<WSdwOEcPY+E{1{CO{2(|P>3BM,aalGH!z4.k#}<XoGOZ=rB?rk=]Ia=;L|ir,KtRP|XaWuRuH<v%MXTHjq7q8g|9GAO_0^w.I)zzU`}~rB
x*F)7/rpw34R[do?wot[^.%|,&~gCVkv={><caa>t`?eUm,v75CqBFKKHgO|AN405q_$>KqIgu%n8hX;`a]9<yXpWb2S%eWLMT1#s'5)w+u&??V*wEjecL/~Fto5+[WT8PkYi<AH]B%Mj~p6v/38L<
XqE.F(V>V%`t4}f'F$Yq*?q:_vgcDo)+d5Fo(HiI.IqJ(uDF!Ej819RdgO??&3ildgrhV719Ge)wZs/%HJ%ERgiX(q:J?R4i**TZzgMdM).HJPz0mla}d_A?'Y<ImX)+M9o7q?v{9cDwQGIJS+~/Z1
N]pu>z1n_f2h5dgi2}2]ob'++Iu=jtAv.}odSV1:`#LDRUZRVG+zsg?d+66qeem_Tc^ospiQ&fQl?c4EndI1+%E2$lN+sGMm#|oma*h=UU'?9FGX4l)qtoV*Jj$JBxCKV]]Kt=H%5{,}lKbY>mD0:c
fPKyBCjKqM3z%wbK!hNp,=3w!d2>[qMC+:>xS=uB9dZsSi0QXT,BFQEshf>'RFU,6#z~IK<!wX*~b8/2/Moizj4BZCk5jDh)%%)HnN<0tN*`CCaJ_ehDM,&%'tEAN}u&rK8Y~5+YN&eA3GiCf!0~g#
Gn_ix_ar.n,!dxMzJQP~MbaBS%eEtG2u5a&!z(^I.$*l|uc4'0T![oAVC[_ZSY'vv(NK7e27:4$!1v&fa=3e$qwpY1CM^4B$qyFusHJx7Ujbxt}i4l8(~mh)zC3|S=VVy0[s;tJz6MpvL)2BoL$5~~
{,WC_rTxqj9`#S9&I8yk6dQxuiNfjsx0fstLnixZgF6at$<ZjGR$r$hkzOX4l03iWZT.`nqXOO1iiwFv{fR>sSn.V#9&i'_B05nllz{bX>v~7o=*~p+cpv''OIR%JSHRz~HiPVq&bBCYJ/MzW7yXPh
/4FF=#lD&Ejn{Ypz.&.[bq3A=y'~}*qaV^#`bGnAkfsZ+~v|_PrbniwyY9x4<D`iv&iZ^^dnX~P.$zh^Qq~nbb'~],U;]:]sUhTjQk2]}_a1Eb8SH7eWA:`q/?l(9pa(I<w]%lr+lJ.$'v:t'uDEsA
hqla8a][6^M}E}SPk(=ZnG%0g'8N1B~S`f]0fKLxqkNl09=:7Io#%&&5md::uIK$t&7OVuC?rl[$#[#)8;#b%cq_(6Awd4k!S45g5+~'phJ?W{&mb(f!yI4E5r#eAaE273mAlTnAL|e1Nt[=:S!X'G
p9LF`V.VxYyzC8W?IDv6f8p2'tunLQX2|2y]r$!Hcd'G7{%w#JJvDnp](<9W?pM3^D.R;`.5I_=xD[(V'M*90*,9C`vuDSaw6QSC~URDI+L6`|,#%ZB7N9<w7p+%|lvULUq5v40l6&RO?0gVd^y6(]
6.xzmE't:t.Vo:jB<{'gXTezrUl~4}'Qlv/6}wb+SS]|sYJ`FPanhZ^nJm.8y2y9g<h4;oGDV9l'=FvF!!MhcK>+:G~~p?Ip${BVt2HKWqPd9Zbz]I)cZBSQFi+<0WRQFnGxHC(JEuByaKACZaX[90
b5(M3Er2.Qq>EC{YQ=#=7QDk;D4d~D{RF!l6yM,3~hd5/#+mjP_Sd72Yb_9W{$:#P,$FH9YtaAK6xLS;Lxv7(5xzBfU6'm#=jj<kyCUS,kxx92)<JjHk*nr6I,i{Rz#EMB=7Aiwr03PO5Y'E:f^{<'
$BwC:Q5iNZ,EHJ:Y9l%j<>9jy#5;'g':Y;.#?#I]ZDHr&e{n_o=&i5]^SMmftC3!SO9<K?+SZYzkL,w$^>U~5PVY<>crk'u*`+gm/W<ar`L6u4gifl1.SWhAjAytSoKb*,8EtGE'2VHATOGNH2Xv&P
j#ZmzzGkmehChId+/C}zHT8I1hSNMZ`b{E8JNWA1{ZzG|qv2]Xum_=7$Lyb]=n3P,:R|Ct0GZFf{oG8t|,]#bW2=X2vyY/&g4j/R.'3Gv5JHrvm|;Hq+Yd=D+o|vkB'!AW8qbsN6+v]^~GM`Cv=bMI
wtxMuBRZVS+?Xfm=Hv,l`(6r24&a|h!m|C<u[p(gx0cs#ouc3xVEG;6m'gIN>G2Y:QopuLlC>}rD(1#{?&:6V)/6e'FBpjAc=F(:QlQq4?OY{x$5sk,TK`|gx1mwM8?.fvkt)h_bH+4|(yu/Q/045I
6doxd#VY,y$RcdRV.M,HPE{)o8jUPc7Uo}p{s#dt'01QxRHn69.'[=[tCyPwa!YJ_H^:!}F~8dB{hu[K;Vt/k.'s~Cw6E0ed_?ms|P~kpg<<p*z;InuYtV~|ZHQG'dh&m0{ckZN][.Hb?c4[ZNnI+P
D>I>*GOwQ^,wlgp?'x`XO[<S*4$gNzpg&7Y:f.O7l:)3bkafnus3ge:1.|QZ}eJbPFGOV:~DvaG41XEG%w:(U+Yk|I!~XpKk'U+BfBsf'lmGg^9F)1toHh{%^v9aiV`u&O8Xa+ti;+,LApI|~#0Mum
#a~Z~>/9SzNK}9>i6MoB<{iDzg#oe{CB=3rYT<8_|.cX6n`*t.7{r^`>ahRRsK.u6xGQ.[.j`02%0Qi'Q0Jwu[(h%kY[]Pt?U0Xrw?By0^H&NOeT%T&2A9Jyewhg1(ruX|w{U[6zhVdbVKUlnK$zEB
0U[t$;?sPi~mg+)<)1wJ8m0Rc`(3L.AkI~*H<L~gJVOu;kz*b,>8?xVjY>wSDAqSr`.;(~q|*c#L^PqK8{k%j8:,MK%w#W*gD~nk_d^VXu.j:dO+ezL(ez`,oJ*'0tudJgFn=oE)N}kU?wX$XH{[|'
IjjB,(hF}6d{pD7s.O]1dGl#FjE_wGJ';cKR}8JZx4,b%?G1Ln!%/<|vMfnz`rex0X'g#QYL/g=:u}TFl^0|?|$pTwH<BnmHp?D)cnm#6ipXaKLNc7r}i{~!4M<Qnv)Y)_X$5A(fnOVWOu9Q'4qC_Q
9Wyk$+sZ6}[S4CMfh(PbC2x;>HMg!G'O,l/H!8w;;4Sop5JSt.{5)hG`f<eXyeLm~PM;<j){v;_h1I$i,nJuu1]mG+f?F~jk5J6'%cf7/ISMJfWAhyj4+OGMn8eH[#T#6ILC(LnN]qyA>}q%c!EPhv
'R(*?_,)~t=Vhm|wIg/?UxS4;tq8(/C$VAemE}vRKpzf}{?{*O;{#mL~I!VZvM);+_NV6[A=|B$EG{^7t'pQ[P_DAZ^rneD:lABjbv?iB&W8Eu%QOOlDOuC6><t5l:|{>fGbnxV'csyeI2i!q.?`^D
U9P*2&z]XQ<C?TEhBOCGH)LqTH,Lq=dfW46E:Ruy;K%uQfv^=:fDKw|D{g]PbN{Tq^B]gsNKX?$~:m%`hgg'_6q?ILFW<7qtWcQ!P8q^40DdargG%L2/S$BcyfFVnFWS!~cc6'Z8Kt&Lr;/.g{A5NF
zx!.fUFMOKG0'GzCko!/+Ts|XVYD<#]SV]&)y[.iya]k#^8:e%)a&.J3MMhEms]fE`)3I3iEpD)|PP3U?wI0%]KZqODZj'#l]!+aAFT%4D'{,|45OX}Ju{~d8(oI{8n7A)O~q?C'?4Pypy;_}{+j^?
ye>D?_pcbiL?%r_}Uw*4TWe.M{P3B7,qV!0s9<=VL2}<6OweIs&`&`]ZNR]/Y$)|96|Y'{e+5:zv|A[L5C3DLq{V05{6[tX7qg$=wspy}gZ4<xO!2_as,c.=#~1)WmrNtX6on))CaPx9.c77l]pt?q
k2T?xB=cCMjtqpX8xAR(.#T03?/=C'khz0XB/tAG>ar=~1R2xEo;OE%0GzzXE9]UK1aPd*O$auiB[r^e$,>oE|qfTa0]$+4:5#!(+BFgS8zii5LrFMm[f8crHmz`r8ji&dLgsI]9%]1zclLbEF$?GG
p2Zrt~.V^]3{&3e17Gm,X8p5:^{^_^}IB.]{`q]$TC5|14a~2L7GnvXe]if5fmbkf!?sv)p?87.fDumamFLCPULR1fGc,CDLWR'8cV'I7MF/6bHg7dKwSab/a3Sho,J<KZ+%`.3%[ol^#R!f(N2V|:
,Gv)aQo3qtf:&{x`'DU0Ut)^i90KKK(iqVxU|eL4[{e?aT}E|FJ3d:`SHJ*kC&?:>t+Z+B#vIne&m!XRMIvVqO<$iW*F=WNzd~|+:pU>yCSHlx6Y+PIv3/,|<+Ia)~?=^[1e,Iz2o>%(X:5iL?z=ud
KHnyk;)VJnpNW;<7Y>T<dc+6_;Bew?>Jb%[1`zt;9Rm(^~2!)W5C/f~3)Fonq<Mw1SXMG5oM>=}`ftc&By}Qz:+,?!dla;[<#LUOQ5Fj2I36#1/:>,>)/!w,<AKmPs1&#Y[gau}8QEjPFGE_?Q0LGK
J)c^?cT'?QdK)ne[!fjAoqWnz=xRs`6/c5eesFr!D*QVvMj&P7TT+D,m`IBqPjj=Z#w&Tv*`E*4cKBIJ/:!q*>peTwsVMG7g$=:ed#c$,{.K4F;S{NR&Q,~JnG?]T[PiwY^_$/PzoyUk__)b'5aMX,
j#';]ZV>(v~m9xyTrMM5lclM1E4s+WrJ!%Jx'UhE/3c$Z<Jws^8&B0LS*!V*bfurwQ;G>6^41nzpFfe$ftFaV9rY?a'}!Q51kNB**wNAoEa?e/y}5iQv?NKuGXX,NO7C179TUA_Py`J[DQlWM8)]k+
NJ%U*f,kpj*K7MdZ>guYs3U!r[zQnxcANpTENf$VthX]+xd7[z^;vB)x[meBKCgA|l<sX;B,oGj}s%9>;G>y(1y1um%!8X_e{4qa#+|TIK7&%:cX+]mvj=!jOKL'%t[ZsG{qeW.i%!<.wlXO>%)g4e
)~ytuTC1,#HTsF/aYEA8>XpGfp*b*+CXAV)|96Jb>zHxAx87h(!oAtnKgA^*N>Go:[<Y,^|<KpVNqp>AlheMj|.W>&a3eWy.79LOZoRJSfN3,KJ0gB'61Qk=FG^}?<pOUCr4`w$h)_:wSdpa;5++w?
*s$1BFHuaK^PAd_.N}qmOJA&$C6~ABCRs3?37J{JPN(e~Ric]^6/e6a!M]/Ny[.=%gFF0G$Esh`zw=3v?Gu`Rh,W<Rqb{giYT?Qjp;Bk#4%,Uj`g[4z1as%O'e,4Q(S55gn;O31/h}s:!2H[arRY(e
.XJ?5ac:So07gh1`Dt!K<59dF[PRYc)Z#T9^Ezb}+`o`s1,%?8`au%<%+9asQzXQ!CD^sBQzxw]OE=2t,'XolZ+/AYstRE9y=$g,w1ZLn!.$UHUmm8QL[Sgw!7s/sl0;XY5t{4$e?j9dWCVk%z)u&y
;PH+TCN4>wyv`R'S`/,%Ki?o`bK_~gJc/gRR}ly/NfHxQ#SaR3*B]wOsC|yMSNg>yRK=wa^?vV!/.]^sEP!evsrqY{xg]naS3:P>tBy[^(uG{Ad;MYys]l0~~/Sq(=}RE+M$7'K.(~AVZSe:`q*7uR
439clClQ`MRT_tUbDO<jQbqJYTKDIML7(KQiQ_8)!,9GY{;vVkh:Eq3{NV#o$$}eU[P[t2}LNHaGJYu+0kyW]r}{sGko#uwFXTlNx=x'1j5q*8,q|TYxjey}l?Q|SJx(kz,B8kNlKoq0[|4SHIX[Et
($CUy2yDG3R_swteBEmd+A9#US}aPZ5d|7%(Dyizl+iI%xT~(nk1+rnbzlP+T&p?rbIxQ0On_fszM*`A|Fh$#>`F<[yJ];C5]e[9~_JQ<.W[RD:P}_gZtGPmhwHTGmTr,x'Lsc1,cY?Y<L>AT]B?Wg
JPzwnq{{{U^#d!?p4Wk_jHo_MocV.[^YeuTCSN8v/uyD7Konp$3.6_Kf[^/[=yvORpjdy^28]k8gr[6Ue+24&aH:!Cka]AU#U??j_Au{(XVy3<FagL&FWv6l(5mbG&l>7F(adlR/W*fm'3&kpRPj9Y
H?(ykcE+!$}C[5'=tqZ~xf*MFbXzL'Mb_rL7+<{2$UGFD64tTg5X?y8XIQOOWyr|^;(vE<w|Ky>X0C{*]Eagk6T&[7HM'cBh!aXXQC[KB6*ItUQMrd)_gSUk,CS~xH;x+`z?hmjU{^{gNz`lYDbrgz
z_`>3E7MCv)}vXw5:{fwt38sm/gJ|.SOJea79]>w5Y{XRlP^#G4]Iq}!E6.TpOQF<EIGiN,rk;eps!<izV#_tRdT&EWorE}MqJg5,4kRG*e8]<tT.tdKXPeP)L9x:V^4ok8TPy?L|7xcl$HxnJ>F}|
wrGl>3$3`.=^u~Iylc,;Z$K_$,0&&v1y,(UGk&B(hq94ld(D?,Sj9mjk(&+3rOgK+|Y!Il})n<'}F0or>u#8(a?~[9p}Mi+9J>`Dk5baU9]z]DN9TIa8RE&QjBg.h~hbz:kADqiZ$;8;`4P9lrlX[C
fqx?}UN&:Ue*/ayFFTlY8T'VC|_?s#]Zo>v[z,E2x4kEic_ER8Tu<kvcEQ9k&'QDflyOWVko^7{B4T*Lpb?rdYsF*_UPibm3(.}*)s2qp.n6&<)wyvZNO8AjS3e&Ff3x!RXm?.tF<xN#?dRWHg3y#b
PU%OA'UHs$P,;:/qc_yb%kb85Dj=H^czHW~h$]?j%1zdiODE;,TwG&!=4J8Xmyb`cS_y_]g%,~S|Iz[[bn<lgb;5D6fHI1.4'^HS'W{vKqE6CYAPq.Hc|T}RAj|N))4F&<|Do03t4DI0c{%;gdKb;v
M/L!^n_}Q`EARQK4N2tR#e8L&A}+Ek5<ja=#(aRNnU3>A,kSq:G{=)9[zis4<8Z45KLR6Vdou18j>{u=SPcoM5Z~js&!l,K,R0E'17Z=n%:(02rs=wxw~8X6GwX%''i_h!MKD]^{+l,$&c>Up)RH'!
r6}k3hle=u4pOC:4S'VgNQt;h9[c.eMpHMDR0Xu5$r7IZ2j^>7+'iq0,?GvPI;?znidCXO_;l([hM'o^!s(HUjKD=5`;oZMMG9)<T)1oK*`poUC0sn2N+)/O=POkvnzuo93{+7D(7m}m1yhL1*<SHY
HfS?S2,z.v&gK#4A%8%Ug6,91v;Vt~poV!{'1,d7QoJPL?%L|~VHqTQ'2:97y3F31RfkR)*Y5^`v2Ev^_hlt>I}nVPTbPSDMY5br5>~G]FG=hXXuQ8fx4{<AarStW4rAlh1WUf'OWz6+7X3G>;!]#&
c7XeC{=trV1YZ5Pu9!p:Z,6?L|Dim4/F8ZNbvpd9{8u3vbdhf`Q3v?:ei'/iN&q+Z1MZUUfAD.W|CQ%S0fT1>Dx,pJ!}gi;}/jBRzz#[MDgU8%ZH?gPTkDd4sZ<4#.u1[L[Bb'3EdnhSGziug^dJjD
hoyj%0Q6GKsGOXRpAlid5M83~ZkxYCrD$O6g;<9j=V5Qwsco2Lk$N6(MY*bQtN0$b8KQ`f$8zu`HPibKCdOtg=^&*YdIr/Nck8/5s{X~8bkO#PCi>w:O3tXj#G56arQ*=FdSXU?>%X?[Q*?dmQ`s4s
ZbJE4~K(q/mY!s.+wImF>D%G46U2wnZNU}|W#FT`tQ3~/9XJ5oWJyHO8;$U*m_;'j}Lk!>XE9k$(ysMi;<<T1|a_u.A}<Q65_ZikKm#:4FQv4>LR$pp<EgH&Oq5o/1gLcC7XfnK]h32DMD0^yL+3Mt
$K?(zLS%<uy)uO}x^s_j2c+1+ri$Zf#`ntCK'oDssAD#il']V'aM?+3y[R)zEctx&T>sgOY=f;Gy}:0zWd,U$o)?+~a=lc$:$Xg_CF^T>o;lXA)m=Sok*+:H~(k9>A8v[5efsgYCZ<S/:8Oj2Os7;&
AU$.Tf1MF'ox6(5c6PcCI/}OT/c,Fj>S]Uk]+pD[i&Fx<#zL/p~DHPClzo}F+xkbLHHcjTY[/OY:RuW&fB/KxF=rl+5*BP2c7mcvla'k5P+:y5EGC]jvN~mQ}RMm#[Z6`9O=b$Qj.ub1]UGM51vpoy
!+!L8?c9]q0rCAJ!N/wEIyeD'&^,qI0_iMQvQuhNQ<<hW2zsIKP)`uA??Pi6hVuMEP4zQ>9WT{m)ErNt&?b9{[1_$MO3p_j+/PfBp]6J;merf9=q[[s<K>nQGe3^QFTa6tfsWGU[}'D?h{b07{L#dH
8cr]G.YAVti*&VP~121}B+?Eo2z&fG$WN`zu)GxoP:(qb,_TSC1tb+n^EJmHedgkU/Q~O;G>)hRY}~yTO$x1$cG34<I%9>XHs=[2S4mP,3YAcfYK(Fq)P'I%]dF?cO*8%lbL}KFA]*kX1l9DE./pl8
qo/Hg'Cr}oFT56i8=d*[g3&_Zt#UDDRrfbDunDw2J($YLhT605<'G~as~*C`#+.fLf?TQi{vgu.{h[qwdxD?*,FtxybA!B?h{sqIh`]gqa|u#t8q1x'4,+yi4v^Bq7Ug*Q5I9s!F'k([Ow4kn%[MMQ
T75MU^J(gGkiO[WzWneA2;TbyfY}WnR%#dJ)o'^XsQ=Z~^MeQ.rBiWaBGiW7~6+%<57NC?O$EY149+w.VkW(~Z2=[1h6(IdInL!|9?b<(G8Uw*J>}VU$wba27FH^k?8sy*2RT?~Czg{/AL9Sa%TgTe
6K(zTyMh`B49ME1Hz<{8wPC^f9o'|^H<2kn](MF/mpjAL'tKcF/git?Fkjp)uI<L>4XUk'(9WnUX1hf_c)E#yZDwDDEiLFhShEYv[Zo?.mKgg{<77rWVs=K+LZ}~]>d#O[!AJ,x^sNG(?PSykbu+`|
Lx^p%?kcZEX>LYbWJ.Wx}}kg|NkoULg:0P2I1;6ww`RX)DY8~cbjY#s*.C55S~u[*k+IYG)%B+(Aun!|5%/ABWCuj2qM1T,ajqw*9Rp~Vwj8KI38W{^jU_g:nzxz6f0Q9hQKB56'=N$/kE0aC>>rO%
nM=1PaC_hUi=]5|IaBvC3aH<9QwEN`/)u%V/dSNh#<ffA6T<&/i96K'G&z59z&Pk8|=q+gYe>E=?([)]nnK]}E=P+FrEA!_Z3U9qh~E&ScGfdJ;ck<7z(m^GYBv;!lyXL(BOv9LJgxq^2^l=bPioyC
CU(I}?<iqw8=D:5iLlxDIbhZ'R75mi/AMP;6idP)l.g?GJKFZsdJm<,_pCj>*xk<!Oq1p!t5)yIS^LR7]OJToe?~+)HKnUMry.2.zzM}{k%B*dV)^={ODTVTkLB4t29PFxu_uNHa>cJz&)!:v'F49b
ZskhKQjmIse*.rWt8FxR8M5mlU1lj}7o#'W[ol?AgXgPz2J=I~413#1|o(~)ej<^t,cZ|d=KKA~J'Ea$i$2hq3IMdhqAFIv>;cyzKne/=B:{}kt+B%X+xKMe!PT4F8ZI:G`/O]nn|Ycbj9W9tw[r2A
|'5HS:yFg/5{R`rf2XR$c.Y{Ok8.q1?wiz5d0ImeGwoAQKh|DgDXi1;[M9C26:_CoG3Xdt:N5'G`w%lV2g[.2.'n:b]eRlF=Us<qCiT561yy^Z>u)>F^MN9(wQ?0Wz/nunN&cQeY_WkU1p[Nfsq|%S
v*|t<r]&x$bigp{'`uB$ei508A;>GVizD6!B8/!3wd)qR!f!uS$/e|MTUx`,:'[GX;LlQyT7]f,x&O9yr]52Vdo>6]GVNwe>dq&[!`T/,B7cz5}eyJ0pYXHYdB{;u_{Fk^KKf_7n*q=S|`#FfdT{k_
`H/I6rN]X+$*_QMJ'pgOSp3=sbf[m$$l)!&$`Pn?Dz:&+|r9O$WlRmMQAP|K'luKAy:#[||$yUo>|3j57muBY$:]c^(NTKS<62*GNq(/uw$+bu}PXix%ZPn]$?#>;ha:T/sDuxbX_,k/n+M|We>X|k
'DKYcWB2:mDtf65vnRNgubA'[KI$H~|3/y6XCzaSa[V^eu4oT5eo5WQq+':k]Z{H'S_PApl[9fH%v3odIH>Hk0~:vT)wF(89'o]wMs)aNxhgl2,ITPm9rbb<pny>YWxkbc,ovF},k>mROUG(kHV':A
}b{vfN.Z`rhr9VaA|K%0_WiOaJW13MtCwi]eaB/W6wCaYS4a}paajyAIaiX3K|>l0LNr?!.'4i3hIGg6B[N2|%_y5<8R17|{)D#KA4iN|+0O*$>HrnaxDl7vP:q;hn4DcP9i'=6oegvLc}h&'=.I9c
WxC5f:_(E375[exDNt%L%]R8%a4~zv0(L/CPt7x9ZL;3Yh0jMZJM!T)k*<:P}H*]Qm},EU?P:u>6HxUAu_id6,xhl5s5oos(8?<!pgSB/'FJ5fpaJeMqE#/[MOEU?7z3s(}5GM?1rv*sTFQ'T5lhYF
95|,V|3$?V1tXlA*.f^XuzAs4<gBV.<}rB12bXuC6N]CZ/4Sn`am$,97nwbX>pl&F+&$RkBxoE5NZ9(F1U47Wa8h)!b7H?FEU8Gkvho[sz}Fo}FkdA64G}%+DGr8I%P6'S*C_B&bvmp[3Ivx4>JkVi
BD0{mvlC<Vr/u'SlVsD*>odWzY<T8_]vx.}E[>x_QqDVJ7ZPAt}Zz6d|#f;^,k:Dd7q0sl(MTHc0rO:|tBK7U6%$q;S4Wavc%HINCwmC{WxY+nZ8~tZ?tQqafR/BcV^4/sY:CoY7D+I<bDM4VFu]|*
|GH28,Q*A6tyQF}#zglZHHD2hTr;KLAW<]_#>!tUefX[{1lE%}<b?yIA|#y<}6s4p.~fsc%[;<b4i?;b,v_lG>o&1|J|4ed'8)(gCyJnVOOwft[6KOY}b2I~b5{>gW$*;<]o.eW$x&hC8Rk;]x~No{
wgBN06</<cBs.0Q{vX3VQ~07HN'g$i2tC%]~<!jk+gZwxo{>1fe[Wm4]pViYkHUU#LYp/u+'zc8|X,J+!i[^5~qSdmG3nq6A?w21+N1{_*wwd0ismI3qnqud^7m1?J5b3Xe|vhd6t[57&6N1nUrC]O
&J&b5p/*/DN!Y#mq[OTQp'.Aul+m~wQxJ2HV&hEgds(h.wWLud1'bOCU^'{*0q>Y<=ghfL|7w]GWDc/5q</_3L*fHdOlo]2T6('O|o2GSSh>EJ}NgHOeDJ1]DBm[$lM.m|#ieWlpYiYf'%QSSCg^?f
:ew*'JIHU%%Nd[?)v'o%Wz&`c]&'^cghlp=L;Mkg&i0GZKr*Fwk#=u.i]eX9JEX'AjsjoZQkEytq:aOH!4+X{p#gAd7;{Wjwy|:toUD:WDSmzayVPr$JMjG53>`_{];rCWhihB%q^!>/tlB&4o|R1j
fo}:6Bmt%bZ#C{$UTK;G9U~D~Qfy,mA%PM6yB^R.bae3,!O3w'I5%S,LGie)R#6McO229(}~Y=a[Gr;o:MjC^=sqpoOBA;RcCIZgg5hH}5Hdcs;y.:HgrdV)Azew|wdz2!VfRIM9!)bJ=YZZ;<?lad
h$#.{el*}4/vb?J03I{|W,D#NNryN.)<hHLukEr$,h]J{nw3vsiFYY_j)B%,us!]WQwe6M}r53)UD,dY/j=|u<I*B%j4*y)gUvYn_y'vv_evE1]b,2bn!7Ml2YP5g|YGt<_'9e73HqeVmQ|UIel;ao
gy;*dkv&}Mb4vRTSx9*yAlS7$_NEA}G^S3sKA.nXD2C1>$iino[P{AvY#~f/FI&mwK%IPxcrY`;5Ss*!gRj}jhUXTVcHh#V;jS=>bfSxkputZt%IOTFp=Iypq{0K`X'%*GS4CdA/z51J7Qu0UTA17:
NUC?{G~U?~bOd^'?M;{Ranr=SWlM]2`c/A&GueK3KWj$>4jBUvo>]M_d#rJ0.^+[e%ksZjphT2Fl7zd),I9k)_ZwxeCU+MWasSxh3079,8p)%^JJ=DF5]7BCy99=RU)FJr0wFEE5#z^`S?Q,qGTb!}
K:~e{0I6a5gXjnW~OMC'ie[?K&)}!^j*n1%+=85o?4&Fd}QIS%cJ=ol<.C&iX(&Bl/O09Slc$}0`d;f06wK#/eLHe/3Pqf8`Cid./Yrt$p~wXZhu0u3d!A`1:Ln<3LJLB&O{dTr2'ok44!G7W*6vC0
|tK(!tj`o03l=1yB?rb%0<o(OW%Awnn2LQgI<<fHhes;E#Hii)>j*q_evHT4pOTj|l!jLS+`5xH4]uP_Fj;s8Ceu]z|j*8{OZi+/A2bel4CndF;JE0p;#py/&dG}'Y/1DU0iOae(z}1J.mEH$xqgAv
q}&<~,&[.zYu!oJi+Pc`[W{z!zlNx%S^YHTGHEw;>#i,p8t!uN,S]/_Q38||fo#|pjpW{$D=9~gC{sm!}E_P=WV7+#20J+Sp[be)n_/$L_s,$nn'JT{?zXdfS(#SP~WS?fw`ESx;k}UteQa?$T4j!h
&O:|}Vh#=]xR^$LaYK6$HrVyiLYNZc0([:d7+ov3,nye$DaH`iWE&>_&jyy+Qm}dz?EqJ(VH0+IU]*v8mo/iu35lq6>X(269Bz<5ZPd`G21Y;Pn[&=OVjGHO,42Ksa{I2Qkb.SkwxK:.+{,BG&'W6x
ffca4A$&W~$s^]Q}_()b6+~aMa{Es4Jf#W&x`&^iY:?++a7GPU}y80|MXid<y+_hS:hE}8`E7h;k:Gcx{GFz[)hd$u0z:rerg1?iMd([o6Wz%R>b!$9paIO({IH(O&A&>kNZMU(Iy(+}EIBEI$s5y4
9J(zzMhOP(<RZ?c/0ib_V}DnQ3T6o&!>9qm%i+gndRw=Di7ue?$MJ^ErfR:.]8:#+$v)?Pj`6F~kBOpLG,0NtU[q)%}*BG],]vnAg;hb$he]Q;r|hR<&65O<fpcG|H:rfJow!6{j~gFFR$3ZvqQr]Y
>X8.nj]n'O.#P1!vXD2,W_Q$.`lh/I!&pk]82^T%hn%+Z~|4kh<.f0r;7*#0Vx`3M~|*&wv$S>w%x=Y#l0;M0{E&]sVI2j)zM&wxNPk[[n{QR&&n{AYzF1O889faRsK$F5Lmr/[)H4)^K*3S7:Sng+
B^qe4?4Texd,L}W(y}.Zy(G]nlXm1tp[/wtCW>c0F$gqo!T2T)j:S4rkyiYp*p!_IzGj.`R3<Se*d[y=Ct!gM#;;xJ*nFQ0N2KlXbw#J],w<iA$'Yi<]+2bEItoUmBu:IKo7g}ZWO[T}rxk5qTMD?>
wbWcty&=8IX),%[l`{.8!Rj[n,E^SpIQlO;wYsik,9|=CYhfS*2!_I+mjYXzU;w2=Ahdsjz(+;Yn[cw|<%OstJ_dr|pJnp$!4+ma?65?`T0EUN2;e{/PjCFrgPcLEz9~|~#(*k%N?v{Ksj[>LUvi?0
T$(B*1Cxfi/*61v4~A{>R.ODs2|5Op.ow!2Y,th5dfN+7Y)UXcKHa)l?,IoQy/8BX$=.UsO#z~AP6kR~B_*r%JArcgOF4``5^[Wwg:9]7<HzaUuF_`b3ps(|7FUgO;4wF]~0Qu(W]9)PA!^#dH8K'=
raT/,xX7l1,NLsSFo?>[V>&XG2oW*0$`ksg5nRUYZ#RqREyw6,](:Lr7Q):QR|2APJQ~.W!MX<(TyGR1Z|c2|7JuqH^d{ZJ3H3|>J%Yo`T.n>+=gtDHfhxIWS+Q{c8_7|a%)gmG~^iLIz2/d4E52H/
~}HUm[%H/;A0BeI6+.zsCrYb`S];$IWZ6rTdV]TSD].O){P1Xm?wL7A5s)ek8/HYc1)bh%]fRE*9PF.$y8pH(i0I7GC,i=m#Z>'Wbhmyai+p'<!NJSabLo]T_g^;OXYZ29T#GH04tDPCQ:StJ)suyi
,GV5*%vQwqboNO+u7vfz!#%y!2y*wY$E&Hn<S1$#d;l(AW!es:iOlO=9cQ(eLUr9,T~mkk[N8&8Hc|6TO^zycA5P^Ib].c3em]|*O/RAp<d]uVzkhVL#6<NTyzs04fBT:|no7Ai<_%OXT,(=l#<mU2
vw[.V+UH1x[93*Q'N#c.={efNq&ih24240c{Xr;aMdt:=zc^v(Ep.Amdk#QgY]IyyL%!TY$%NFj}MyX)=k0]Bp2/(f8L{c!~>}5WCvjJFoL90tvBYXm'Fw*m=;3A|f;OzC._,T|rOOyNMtrGIkKSlK
R}lb9g<M=s8(/FZc,pm0xN$}CT.&*{N];,?j^2V2U$!?8'k?4cf%`+p7x~[du&]R}Jh>/S=quZyxnANxH|QOy/R##CRt$C|zKMBdcDs(|hb53ju%MIJxF)QHN(sdon;$LZ%H;<=#~f,'T=E^oXCyt:
J^oj7E`U#mGE<``u^^W;RhEz*T{^G3%zjsAGu0S}+MhofZeY,k||aFwyX'/I$:,uZyd}PilcSp%{`5Xu[vGd#8X$qZRP^7JZ3LJ;B!`&l8DUqy<F,6bz&2(OlN(N|8/s*k{jwrJ1j_~mZr$(h:>^xD
Q}M;JK<kR{lejQIsVe$Vf/.?4UfZ:ta1(QW?RyJ=7a<]2k>E!<g^Gf:^PP`#nY(ST_p{svMsZrM:i^XD^zh10mmJPdi5DL'K5=/O{S~^jop_z2/LVGT}C.X?~B.<>!z<B8Iv_'*.mLS+kMZ2QhxB^U
A^d?0>.>2cyf~n'WjhC+rWpz1#](0:.|FMU`;wZIAm0GwIA<7)L.duQphf)s'W~nANrb%<.mA;[`1gH}szp20p_aNwl?jYy:;2BS#h;Bg#pH];KLt#CRso7xc6i++8Lhc;fnJ5{rVpEO)0LBenz(.:
W927/sI]J2o'X}9~YSi=TKaIL:|la+q.1aWd+eR37==ce<DI`(3yN}=q%'~}bK)tKg~5SHHcXI3~>7HyU<5[B!YHr}/e`ufE3%FIu;,H;[>AHb4KZ4:Z&Pl,O+D{/;,uXAP'0Q5kagHk8cT{Zw4Bai
E[:,sEQc;/4Syf#.aYT?z)FolJ|dinRl2hu/4YL{0VlTM*E&n./;d>H$=xM.c$r?^3Kr|qOW6WF*86HG=j:t4w3}}:=nidaGd3Dt5Y8wkK1Hk%WFmtzH9:6sP?/Df~U1p:pp'hLv9mZyyyA[DtDBdh
`f*w4J9u'.Ps'y~g2;./<t!PPR>1MFMM6|X(ezSe:$qQLN1St?RRaDa?4|zg#pUjc8>{]ZQ}KDMHK$d0>I<6^qu?8Tg_RPB[|eIb5oc&*!RR&gp4MW8wEjjK='e1$&;xrw(p?+`$<jfAv_f6<`OPR1
eErGjLfnZ_h4`u3?QW,02vWR):H}JIgeu04FFzQP17^p,EAP}h5RuDbCbCK|t?3r3[7xP&A}0hi=q2a=Eg>mUg(*Nr|R04PubRKb)JA,ou*XRjfoE]70T>DF*Q'V3(~Uc06fUn,}YNuOt<HMw/!nv_
pz[}4d!&utBHo?X:oSEc),eX;D#EbgZtDsN{uoURIwi_x^z*gk5g7+J'aUM/K%+[!{]G+xC.1['Rd'<JUE:Ep17O($S).hjzIPre?tAp`qhq>m*shr?bFb?l)F!HS;fX{N_&x7kpB;J'p05ihaVXyw
J+TyR<X5e.!N#3lQB)y}!#pXX#PBc0OE(83$!tWGvaM4i$T[xqvVb2CGFDph#H1<F<3pFc2Yxv#I:%l]V)[sZ9+|qY!Xl$<yVh{L5!ARqAIqP[?R!?k`sWp]Q+/?%^qW59is#::BCjZh>$:vd=?)fk
;hju^V2WB;cqM#=n=DsJp,;?ONbgX)hbvaeZ]en64A,L_c>|]V;zU]`5SJp%hOwFRG'H,feUMpT,7SiW9YQRrdIJGfONE{72kvv<<N;m^[$UvpM##[n:Lx6U();<,(C2e%s3oszodphXaB&V,oVles
M3~MRRV^+EKf[%*<<O/vP:DvD]fg+yk340gm5/4qq&z7K|(,p<mR9x4fx(RtC>+XK6ac/4+o{Y`gfk84A8Q2$e_6:Od<bvI=!9J?Ae&<,m')/,R'>7Xp^W*X4g^.=*)6Gy0'mzFzET'ZO*_;~:9B[g
URj_8|mM^bo0F]&oo*i0Q%u,y21${W:nkIMs2<0_+']jt9>JK|UR*FY,?n6Q2Zw+4+]X)4S2c(^%'6WTV~oH%70)(E,rDT&1>}xC5WF0Yc&_I>42<M=EB56M(c(rFSdRQ)Q2e8Hm!.!,WGu4J$1M*>
%s%r3*`amPeXyr|fhi,exj^o?3xi]]T./0~|Qd0<=)_*lek)<[cCP`32%i0H+aGdalyBJ,1qP2j:d7!c'|WP)J8Q7,_GJwslZ{dxd('FMRK#pex0p$C4`>K{>3?!`IL&`sw6sK6tHEK22Yi$xVA<gv
jAv;o$`nX`Nx3,rl|grDqJW*Llv,k|jz;O:mtc}&>]S//]Y1J);)?hM/v~cLq=Plb[ycTLu0zzsR>6nSM;=1ZH&z&(_e?TuT>s.uXi#&FarcL3`RtUegk=aKI=DJb)F&_^hJG=*xeX[hK.Vu*w.>pS
g(z_npV4Qe{WnYPw`}[)OyKDSy|'qr/,g9qJ$WBZeR_q4#X^38UiyVbsCY=4S<]|ut28i#(f5bP0dU_>knSB`t`iO<}<AWi|MsKcZbWp4q?i*EQ0RS:0u`NAD(tZ4J_;mp~4R[MIye1F4tu1Bz45A.
D1hVA/KIzJ|zHgp,HLq5z:2HRA=AR{t|h!*&)Y_P:'7'A+f24ri3nD4/!Usb~?<uv*LDzQ2g2FZ{,1${GeBdlyZsG`E#?V75:YM,fkfxC*&HTKRr`JqxSl^k%R<v*d$(=uuTr3Ip7|O7FIu:{jlVS[
FI,75:=$?3B(.B$_?fBsDM*^v]JHyVT26#i8<YuaYDhZ2:SDo,;e77*,ikhp<q#_Vgka5XDt,Rv[W_7X/IDgVc'`(q7xN;uejt&3T[1B~'u>c&bh3<pmP;2/%^5m>49cJmWc9~mFX4WKcnog=y,KN?
Y.ugVTRyRL!n5*]`:zzy;9>^?K9fy.58#)ZTO:}i)VsP`C'e+0^fwZaR2,9y|OLB)21Z0Q<k^C={PBz~[j#mGbSqa%W*zI*pO*ymWtOjO!70A?':1`)m'PE9nb/9[{!ZiW&y=Ll4nQE^(W|B>E'2,u
qIeos}ng?A{4I]{A.c1+DuI1oL$[3Bb'`oZ.W'=2kC1Y8vgMf^5^otnB(=G&R$R2$nY5vwuI,Ri[as*<p!Cu%pDv]G+4hh.fI%(lJ{&O.P>v<=&8V4wKhZ}N}F1Mi;K**W_ZrLZhQJAy?PV'nnJylY
9Cx/x:=bN2Oox!eMclQHarEXXdE|y$ENINnZW/ddkrP+.43B.Dn7kaO8an<+9'=;SX%D]!aqZUQFGJ~+>Z7hnTDvC_jm>cPW8FH!>dE',ef.YC6gtJ3xfGb}Y3[ZWtF>4ne,~9d(Q3*VnY,a%0Otf#
9;y*wx$O>uVAFJt`SY:$nlE^iI</>)qa9hZ1e(4mIxq8~%,u1(<yH3FTF#u9.aQ01=2kK4]uy#4O_*^(^MMBM}^~][?g(;tSD!QL((wUu'r8*J7[0osXd9dZ{D,s1_2x=F.|ucY]+1wPSN?Z.ZITPx
LC,Guca&zOPpyZFtV!}L%OB1'*O4EOmiEmranMD+#&,=qNuJ>]0E9;.<w?XT?1VM4kTM<xAEp5rJAZ9e&GW{[UU/8<d}y1~S+hAPPSAFqc.%SvU.!|[]oUKOF=doFD7&Ot~.bz5:+!UsxX*zt5fl2!
+eZG{q/&Y$YRf(6Z!RgTMWnL9%UL.ZgOm[ryHpj+jbDb&*N+Fd*2!%!KhgT4eqCG6Lhbz+pYSxKN02l9jq?wSqk5^;VSAVx8?PdkXAcg3sYiY.jYy<w91P[GS|JA)c!of%0>F63lD'Ll^dPJqx5|N]
d|8L]6RHkHD&O/]gu9a+WX5wB8&f`Ukw6B9~p6aWmgcoHw(#:.eARr~%?&/MHrG62`&uK1|`]q79?]sG,08)wOABczTa2:UpPb77Cpiyd+Stb2W^olHdVsJJj;JA:;#q/|1WU9[K$Pge2t1XwdHGQ$
94#`t/RRCNHEtLy|vY6>7;c%rf8>MU*x_SC>kL;KzYoNWtA%,3z&oDj[4Wf13ttEUT4yc/r>Lbd>5S[Hkh?xE4]qvUV|h8Ga[<+04EJAmcr]x+(E$0gHhmptuSF=X+S=[U%.^+3G(<s$7u8Y*5d_d]
s?h}T,'yA&~VjGDY$I+k+.pniP'%JOn/QjA,kI6O%a~g<?`A9dgjRAw2=oExrN/WqWrIXk3f$zOOQ2f!C:=Qg!9m}'#m5n%kgOKAml~IYs{0n&OEA!N0&EE[Zmo2T[o[uLP5s}<rv_KWSdvFc85lMd
L=?:'v,wd7$rRb>`D#KnEx}Ym6*i7EcRSLd11%:8hMgF`itk{BC}4q1sHA%I*[2Ue828m04LNeHpyx}4/q[^pu+QMh[ZV5mRh%Hj;JbZ62DY''tTH52~JOHJcF2h}j{_4rWev)*[|+QEK9M;se/1qV
1wf0$W3PTao!QRD7WJBF/'|UMqfhKs#[.={845p0PZu+(xE2N3e&hJBm2(wZ6Y='Pw4AG*O$q5N+Oq7oKM_eiEL#3X7If[:nqYS>1s2<Q2?g(TSJS0},6#r~<]fOE4rSfZej^K*WyJ7u1TjI7!F)E+
l'mjy7w5?1,P!mSgEp4KcPz.Mge`)3HK=5v8tJ<>n=m[gK{UI5{nKGla_nuo5!j9Mtv^6XZ#(9cH?rLTqh|w4CM7GNZygPs!#(F!z`=bWiuX[tn#5;S3y]F`Y{Bdr)pZsnYCfpP9<jb02qrzQ=,yEL
r&oz=dA$M55t3%epRW9+i(lrO'Ic^}+DQgOd.p5:Qc/Df0Y*)>kKa{K^<FvxV.]Fkm~:5M3qMg'ACbrN1)_lp[IbBuCl#=l3#+q52)UU>D?O7g[3Nzp*8/b0*H/``bZd,Jtb,Le)&kj8%II$vS]<E(
^*p[>oS92TCwHPEim`+y]^%RFhBOmnKPb8bRY+%hZymb`YqM:WZq[huf3X'!Ste7L7eN?4C1$C9_t;=B>CX2!JD=PP.hDn(*eYH^T%o)O%cG`D=3xK%A7Sw6!EfU|^ah[xB4L_;vY]k*pgc+x(^BSq
D1%33VT5FFPUuImmC^dj/U4Hwgw.X5=p.%~4_zv(T{9%F;J;BMm*.%|chpgt]2y~xng?Plbw7JZfpodFD!eNw`s&>FX2H3/jKa$qUiTk~)EA+Dc=ZuoL[}]cq0e:S?L+cmM?unW=[fV|DjB~5UW]<G
#<fj%A,wn7wRhhDO[2;7X}`&jd{lK<~ECRl1ok!vj?W;w;NS).xDUG&r}Y<G$FYL%n5&nnK_SaJ8G_!azwL7ao!PEO^62S,~~|7;S_`E[7_au1aYUP#?svKF*nqTnr+ic{^A]VfCv#OzG!_5{g}_iV
O7S?[7<xE%0D)]9ab#+$(1hp45#:f3!.B#?,*C.'LGqpjRWZjY};u%m653)Wl.fn6eq35U279;C8~=]Ge)(GDcOZnsHT~x/aa<y_w|;aH>VhNf291fE[+z*eM*JT60WDd7M!e%+,l88GR*c$ARadu^
Ou<w0zezJ*rSc3DF+BQ/A6<.2lLA#eUQP^ap)0^uQe89BBD,2x.a~waDf]&D5seu~}km2y7AEwj}B:lmnWNL$5+*Nj<)(l[%jjC&7}_AH>akKk`4~oM%(WB,%JEjc/Ydh*>%v~D$[E')(*az:XX_P&
R{'CUV~C=Dg4]tkyZBb<9VAv9hb1vlUtFt;r)58v0t<D;+S'D^Mw3:pUl8+'*d18ZNkr8x2Hws?Y=Z+'.7y:*|c^O?c_4;zKqWksc=X.$Qh|qnV44mWKkila+aZ+VC,zdZb2tz9v0MGfNUs0_zBhWO
[&1WpPzr=t&J_i3j3MB6LTaE^q3eB>L|o+!m6Zq=.p*p~Q_37{c<'0u_z3Aq`9B)X__P*=rU?qCDP48!bLb9C^yi)}e]9y:%KKwP^W6ffrcS}m+gklMqU;U>On]k7xw$T{QT.cP^bJ8k~w^s{qE7ez
])6Z^?P`m+u17j^oVw<K!7`#h`co_=y]|$9He:!~OhK2{]EF*27t^#v7NwdJ6zF3*#O)K#F4|'P0u]3LvLxsn:(^.?S%ip2{VwDsZICo.]V0).|$Z0)j3h1o0t5wkqyZEi<WvI6;7Z.`v'oQa5&Yu9
A*9}{Ttj$mV%K~ov)MXh2_JFl^Qp$a|UWHBN*%w[;uW{luY*`BbYRjsFNkdF=95L%%j3uZ#*9UM|CvEC)gra6WQ>Ig^!D)C(Up8Se).w!>UH[s0Fwj}mqR6^_4$4sU(%Q,[hNj]atC?4akc;8ZEAfu
q`G6(8.g;2FC>|t&4}iERzv*ffbDVS=Y4FWHp5,+t#?0![Q+/V`CMwrLYQLk!JFbawTsEpKcs(;;zJ]|`:k:'7T20o(CGH{Pp&5?59#kLU>9`cKxS`~LB!i<pNG*bh!78T?Hsr9`+!*S_j8G%Q?8Ep
2CkVT/Y)So?4Yj*FeiAp&[aw76v7)QJ2vRdjz.MgM|RXx[r4DJ*w&>V%;ukFt}Z_Hc`9=*..N=.mCm$2X#f`2Z+I97EwjRMJlz!gMrpz|qLUHx`C7LR0?+x:5`t{?pn[']P(vF7m=o0txxT1aSG?JP
$Mpsm%CB,cV;2hjty{bO$N0p_.C+1(4+>0]g<%O.dx]=:;'eS(]9[ty8$wqsq'8f4#QG5c2J?%;E|uV9F'B<lIz~tmv.Vv$>q4d,yl{>X;pzWX[e:IS9fy5/`>U;9(rh/P4xViH^J]<gXLe~A?~c1g
+U==?gByE!b>L;AZ9~Y6Trt0e2f[0!5JLp;sa%JwKvX:2)*;8.r7lXb_K}ih=Z_t*GWuqdt|q!?ZTW6t]lWV2a:*KNQI;6[iRCE+_~tGGIA''Qd2r;3$~dpB*:V`EoEW/7(a%hB|_BEMrN<[/G]$lZ
FloCA:A*I:|f4{R!{*Qv<?}u1h?anAegzbu78Wp(6}qQD|#6C#m.^nDtd(qG%VDT]<oPdH1`N=Y+351ba`ZwTz;&($Q#MqoawOQ;kR;X;NkblsXG:,GBd<7h't{5gc6PoJ^4&va>I4>)a8g??~{)EU
_Vx3JkSM1cC?4Sv1<h/oz7Q4TiN33X|zDhdS0]}Plm2m_ibW?N8xLu$Jwn8*N?qFOeC7TF+lg[.nIUafcc3#bEu7R^6},03J7Y~vF3!wJ[6hO|KE^T*.MPy/_Qt$~D;('J/PEd;w?UqA2[Xb=7y/mY
nmJ|8GM)'XdZP*`k`!rCz5jINlp_8e^V]7qD,P3bscK8GqDecw6CH17H|NsUGj~W|)]P0ODvg^UBsVM])FM/<(ojV5M_~U#HAf/+_Nac'>!xi_Z^jgV&QX^bj8T&rY|?(5u;7dOL#5[TguU;w:3}0x
*AkZ|?O7OMi#(`N*d=UR//I(+4PQBnDBk*PfkpdgeqbM(GZEI$DTJIjLJ;hJ[9e07%g~a4>2};A<Hf}Hi(KKr<z6[f.>Y*oPTm{OvW0XV9QUn%_a>S;,>EdSMOW+P4|Y1C`Z9NI5b;;W4nRifsN$#]
}I<hLoR^TvygBj{Rg^<wefj^l&ZgA++C/!{H'ICz'u`X}e;?oKy6*7<i`I`aFVT1k^X9F^WT;wEmP4Q`a>%nb.G*wC'CX<M?4%eQHZ,9VQe!3#|CC#IQ36h{<h8uvC,?t#|n4l((i|dBLN$VUe$56|
Oti'9LIer,R^nj4)hJ(SI?RIV$f$wN;4}a&`aof[VL<u04`6M+.MigbQnJ{^&2[R[=y:.?DHEwsDi.R4b<[h)l^^!zq,XA.%Ahdl}X[S(zrAgA9:GW(:OX?t02PnyJOE'0)P8VZ,'$oKc{y9+fzwHy
sjcJqNh;uyA>S9J:4Mmb'`,8h}v=};kbeIe2+k`8w:VM?20llnX71*BoP<Rf(?|7rRc/&w71+jW]S]Pe+(g%ttX+:.M}>R,n11M0!+G>mx0#n]eVD)vadcKzE3_i0J4lU5]LL[VKHD?bKLQ]?xQ,}V
o8k<`PSnHllVraagkr+V8dl<b$(eEX^Rmmcv+*qMj]y0M2>jr]tRmN#e/N|#'~&0H,[MV1nYD|GpbJiZ.YPiOYV0#P?Orw?^jp6930_%%MjWgR7/!tvWamtp'!I'qc,Q/~A&|LNLjEWNXToxtT%B}=
;d4<L3lomMrePf3|;I;'*#f9mT)sgu5IsPt[F8:af=lt8tFOKcPV0redYcX#U1&j4C#&609W4+'3!|[o4EmOVx?08ss4VY;#8t[K*Cd3CO^T47+T=hC2]rsJpCKVGd.;VHqhgC],m:zCWm)d(=mvSP
VEZb`$=n/MUd<<}KqbR=5c;}L#pJ9%+jkQ%QCuax[Z#L8A!8I{1W.YWHdrYY2UW~&SDX:mcIzq/s8jJAlZ[UjZu,>~8c.dUT#,izCmi^}y!2.Bn6h<XbdO6aG9D:;GK]T!j!U/b`XC2'1QHY2ch1Es
|_uvu%QHGa:WjC<1b<+y}klZ8al_JxHX9),:J%=:tQ0tFj.&paGz^q,hO6b=i4Vk4_NJ{x<!NHs#APR7e'1$iO<%G=3t`^iNIufg`THGnwpM#%V[7gK?FXO%.e3Q?nFFT*0M,fZ<xe6aj<97e:<.WG
'z9Q4Zpxjg5u2<7:,PzW#M_n?xc?ksVSuxGK,B?O'ZWEu)%H]&PVi.^x%muJ2V%B_BFGHE%&|r%6L}<vcN)=$hc^6~*N?muX96j+*:dG6z`0Qbml(0>O~.:#<UVu*;%=jSgBR9(x%M:`p?.TxheG/4
YcQ(>$,XlHBl*%m6kA+(J{5<aN_nEzsn<SK1SAA?D]qsAz:,<Hq6z:ocIp?BS.1Rzrb~J`sA&)K,8W:y%*p0f6Xn;g[Ib|bQR!}2A|,'#U;*WJ>xZ3pl*qw%0E*d_vzBhhqBz{Tz9zHq|DBCzjsFDB
^+0t!);wjn4HGHUiU(*4/*lTM9rJ!^z{N!G8qxJOh7hC?T.*|0l;Y2!Oq855rg<TnR.tDn.+IO.q,wk`MWz}TQ7^.X&%#pwV;34ySBfg=%p5=f=Srz{3iW!#(]Kf9k%5lp=Ezi5iA0eT5GlmI_RLRP
LSnID_$PpIo[Yqj1!5/32Sd+c4OwG2Mb:}CHq&/KC5[~*MZ3>ze>X{k6D<ITQOgbzqE9tY+!k%#L9%tFZf3!mT5:3;]0o6Fzs]vK$D[0f^$71G,8V'T{m<p(WE(A58k:S'c!P=$NTlz0#e#z,a]?_3
G5WJG41XYqh})ZZCbuUrKTy>4|iOD4J!>VaHAetIO/o,Cfp*+B+fqW%E3jRq+A=a?uPtxpe.v(UrO2(>gB+P/tZd^1?)q~UY?*u4E&7}sa:6DI,fQ15XSG]]bgx,12,8++>(gmOsoK,RAcabk[Z>qb
Hw']GguU^2eJR+WQQw.ea7rZ$hkueXTi)|'/AYiQ4YUd,hb:quY^!{`eyKQHxinrr%)oQW)vQqTd9+Q}X<%uIvUj3]~)SWP_YojDLK+O*mpbsQ(,;2asiy2C}PGszXEAC`A5&8M6HqD+|uV0kvvAG(
oe!$gVTa[9l<zY,R([4y6/E&2LX$h+EXD7(,JXV~x)W>4Suoxh#Jo0>j_ONs]mcrN/'47t%1utN`B%z:=m64|OX]wfJlYey1e1E$B0D%c3&!R~x8tEyU^7yX!_KS](C|opct5aG#vY,rGEc/;+.>zm
!VD7waG&<J{HPs}cHi+jE=N]7!c}QW=6,~b07#nYVp4BoGWc7_]k_e)8#]TM6YkB[W9lS,W#BhhPBF$tB$ORy0EXh8/V37E8R'uOtEy'HSA*3V}9of>Kv/$n~[?}3z6pkg]yN=pZywc>}3(CX.4iff
NMxU.$[0[_y_6{SP>E7_RwD);guE~^X|,D_*g)sFeViI1O=gRcGq|1agy|%p;+{):dF'lY*;CZLMx<UA6=2CwX016SR!<Uh%p][?2VLjaC4ly|EOr{QD~,]dW~{6RB4'[tWb8_M=V!&u'(d$Mm9mn{
;/~xM0j5X>]M%6tuW;n#cM3(5]+N9zT3#h/exQ{4HEs!rB{W7ffc(^;r+vB7^t%o8nEb&eQVA<z)XUw9_;<)bu9I_,.NB<HW1'3`'_li`(9*$NB=.4=#'VX4rDR6_%)ctA=[5JFja)xGQbL=_yr0*#
X'N9'o9cqK]^iklW7d4HvSis#B.y9!z>,Z#b#[c0Uoh$/qv8ZYnc}]s85j:9zi^1dQmeV~E&7/C72>1f5NSn^;BAj8fY9x2;XNp%GYpn=;Z=%BQ>ALtu95Q}jC+hu_;WmWlTUJ4NcuM>%UQ=&*s$a6
=Pr!Zr}gCc^A>T`lEME,gR+^;ehu0U~^GHpxE2Ps'P*d4W<,'?5iZ`;ikPwSmNietVE[L<Z[WAD]`45fQ}FhBwlgv&iwn+]iyCeaPl>tZgo|IjqviXA);Ukhqyfwo[f$wKx8<uQSQx`<yPp0X2ze$j
]}s/n_EX9|ou]/I6[4ze+>ct=x..eap>w,/s6QEI7#'y/Jh{kU1t<W6(iPtc^Fe1gak.KQD.[iS&YCQmle)0/.DefU1'P=2%bzi|6L0!G&kBI1jd?|W}'Ss7MwF4{a3J^p{+MXV[PLubA}xe[E5u,i
P&J#D+,,62>paue^myC[*wyp}4AP]iZ_cL3$a_/Ee24OR0>5cH{U7BdKh(UPfiB^t0p*x>Iyt]3[aEOJ,7BQTLPnrrSA<<U~3Ii.v)f>C.^}nYF{z5i9_s=g{#*N(L+QQvzl^wKjlF;jzj3I4N!aWB
19:L8|KpK`jt|`p3kI7V7ElKQV]|#AA}ravD)ndIRs4Ukv)|J&fO*N~2]=Fa|xr5fFiWmxax,y{%67:OdVxr!&Z}C40uoow)HgXOFz<PNtbrm+3w*P!c<]P[*?19~hk8|f0Tl'x{lt05<s|Qqt(IWH
+:sjQ*{ms>[W35hG1R>>LMYr&u;gjqKQsmPCE?C7E3Bx?yc1rYG!z`Ee6wnh_<0{OQ.uL?7InZv5^GL4s=tBtwkV5BUhutq.=:ErR`eg:4r!qZ4Lad3lkyh1^%GI1DGMSm~QYBe&><Q9DmDCl0e[gd
KsSb`|YMr%'W#oOvTPk_:|QL3X1s~'<oo+}3Z{HkwAq*~<>wV])`YzHFrWU9CRFjCetV<hE6w6Ek8:E|k(<R('QU)QIaA1u9#?_V*e(q3=vYcwzfZ<^]9hSOeTp|OKLtq6*:wn>3Iwe%VGg$oS/dWs
6QdoW7kHseve^(`5*?py^*R5&E2Ixx~.[}Zd<UT.0>))2IOVzl0NB;wm(+'Mja<,KxZ/,35D6$QzU^`R[::irse,FFAk|zrb>]v#'sY]pSid=dgOW.0u7B:a*9Obx3~=kh;A]KGs:Us'=|.&RM?s_,
]Y=jjpKj9Qi[;x=#N+!BE2qeiZ(4aXeUfg#{4/VfweBu9;+izNE1APU{TXcn$L~u8>oE`la!rr*3$`jNK?e=w}tKqJYH#o0gIq.i,[lZ,Fr#`w6LYYCht1YOPtJBE%+bE[.cTs!U9rkG3}U^:r$E?3
QF{*$FvMaF?A6Txj$V!_g7IVQ(hm%ukpKIz5Vm4k<1#W9<xZ.(T1UCU(Skp(>[Jv2j*ZP+3XyPbb?L+1suUfE(65Wf+*09ogwwB:Gs&CYyThz0qhmhh*gUnT`3So;*MqTTdWY6Jgk$}aj6,N].oZY8
KlrA?Y:8[&/'=ltii4y=<Pm>5J8Di;&1.iX9~8JdBwVL]'NRdXmS~P}bIP&L:uirJsru,q16pji2:+mmbY]or$fw$,t7G|9pSiks$pWOt%ifIeaWExfI^Dy.f/G%4p1)Xpsn/e){!V/MPqNz0fG[0c
`x;Hs:{R_HWp]$TL$Hb^b3o.9Mjx32&8`*;9_%)gtb$,5;!$V%#EK_e,]0#G*>[(AprXOsi*S8XCY_C!abDF8k7.!Nbc8jNov8t`d!+b86upR,1*(6#x:C.C]/t&[s4IGcJ_#5aYMqs(S!0au9m(=Q
O!K(Y/}trBISx]6uvpRC+tO.Z~aB*c00nM?DAkAGwM[we<>WAYI'CT>#_6&2.:XCk%>G#Zn[8R|:b0?on=q+u*S&7>zZu<^ytf6#f}]o^NIb?HS)$z;:`>9IuIKcW~?5PPKn~}qjj}?u%&MSC:#8)I
^WJijxVQLoj|K)wYG?E:>rnzwfBn|.}9(wX>}3YpXV1'&PCX3E]8ZYh`C0ui<E9mJH[_7xrxWv|OJOX_B_g%X*U~e17#$^Nn[dDzX<peE,A'^j/2+.La6^TR6u]q=y$7:#Z/hF/Mui4v[G*i/rJ0bL
gq9wA<?qk_m#>7|zcJ1G.V(EtY8)oF3zMM*oG~eD}ZhU&7.M^b?pt,4E!8]LyPn<a1rp5.'%2/P8LoQ'E8(vN(.+`7O{%M0x3k&s0p1Aa/8QDviE{hjT3Tq:6^n8s[NDw}~Ka7MEM;Bi&j*x$,N;C>
/N[qXIpN(UJi|x9a;z.dO3n8<fV6BV_rEM<KB[dGOu34re[`.,)QlTMNH+dz[FT0&I)hL[NWEpSC%,bh4_y}~%)OWaYI2DRK0`Ey|]U)kf<E/,l:BFU`qd<*lzlbx}lieCza/]M%m&}{BV1q,r1lED
oQ2QDlhLc~3feDt<C6lKDhcm<Em`v5+X<qhSmXCv12W%x=`q4sb^i;x*|{u%3SnG`T_r8_D/'=ql_C}:#?FPuri*aw,5Se{rQ`lsz)uPnjM`c%W,%O,C,3io18.vUTSb,V~>!lmbY>xj)z9n)]1TK2
P%:dh.1}yr%y^R%JVc>d9s,gp`}4v$dV'Vx~(npCxv+=xxg5v),?<'cHCo.Dz*7OjkR?.:a)9zg;F?h5Bj7)~Ez_{8~uvMi.rKtLzT7=GVb1fnAg]s;+>k$t#{[ct##o,z{B]{Xa3uS1u,[T:r2Xs/
bd/BH|OhX=(Nmq0A]2MdcXmu~?xy%DP}5[w)2}83SCTJx(0MKsdTZJVUdty?&r^wFWJ9E%eV_*copLbx/V&npz)?{{cA(=OEbEjfDXZ_'UaQbV'm=#98Vld=y%auJ;YI9>Ue]U}]Pgwa/9*nJ;^Ihc
i'!tcfp$~jp=r2Ef}^|AeWpEN,z2d42{hyz}bV^J{j87ZZq:lVs;y`[Cp(9>+*3:]nw2V<{z'JQ9;u2uBd`r~Wz++qYVqraw_LCKB6MwR>..GztQ,aZW$m(WThzIz%?v8g71n'n&bj_c[[HP{QX6mL
e1ysx:K*1+XhykqI~szr95oEw9*=E{3,JYCd_vvs:jEM1zW<KC}~u<$T8eN~G2s]IVc!vqzcf0ym;dw#rXh?K#^t!q+S:97A|wlEb<Kl^x/<ul[$S?l$&M=`3+`/`Q'B<EuIt#W[I1HDE0692L9'..
nyc#,L$DR$PMS>:l}>BHLzDqitpvn;JY1$|%)sdVn1u}'KkXWenv)ICHWjy3K{g#qyXVAM*Q0k:u<aYy|.f%KAsKF/|)fk(e8:^2+VVL0]Z;6$5D+ihX3;qYhN^4n4ML(9Rz27sp7u{gQJJROzsc<Q
Qn(hxWeWR[x({`iY<BfV_G0a`13*M}mv}~ScO_?#KD9CF|Cz?i7P4M}UTkhihhV5*Ee'G{;p9'OB/c9F)l%rK;6RowcU?NN8]~z.QppP1Es$hCtUxB/Z[_9]yJ[$SNj6ZY=^*B9A;OzkM>x4p~}Hay
Num<E1B?WjCGJQB#!>0BHhS3(Rjg!M^/#n4>+V%}w6!2a=5vSQc+R.1yr0;Xx(c5%2WNs)S(*3KbAQ?4N?{aKAa)o&>`qpqyzy|pYBZ~nqK(=vaGxK!bmdOT,RCyz9Z1zGl!v^P[p{7VuC:$!,'9k)
g~Tv.}_>x]mP*5DIZZRz`mSeSh>4XWqR2yli$#s_mYe^oGc!iONZA9GosMhbIJk8_{[i/#(`X|E=2Y>hu%yt^[9([zgP1AJjYSnt;SW__P`72_rf9Khl+,:e+SI2'zYm|f>4i6k+_>F>sMA}5zD0rP
{7#NPIXZN*BZjL6#YurfA'am~;32aC,;CDqI|`3m`CAv6^5C0;Kaa>2V*>zL`K9yG&p8s##pa1|Sp`GfAjN#_~t4RfT$g4.NkS=J=9eu^x1~W%qx2u:'xY2n#/?6',dg+.mmClWcW!1)YK+8wJwL!X
9>asoY,0~`'Qbysipy7f'9;OIDWdldUpsy|u4behqU>0Vzk3S/^gb(kIw|,Pl^!X=u|7x(Zio3:;AN5grRdZFA{7ySy2Vyd3nJHo!kg[6>3`cC!}Kzws#0J?_3%vX(^1,rPkTclgX>d1L_hG.;d<Z}
_ka%AuK}SB+J|2iE$BxC{??eU~:^Mtkm;;~eNjp&2Nr>dS?A=_!2lpaGQO3YzDkM^]['fG4P19!.I>RH{qt%7giKrDhsw.rb'6XhbGHyCf)#/uq14:xj:~CjXrSh!xJq%XvLX>I$/X]AC#rV3'{ALS
dAA|W>?(/x.EQd/1Z,;}${EE1'xh5Auo,$kt^ACVx2[!|TEp|E/%O2|IC$3|8Up~uxv',>yA>L`=74u(:r|5K7W+xW;C;lmkwT3zdA=9)Q#|qAAJhsn01o>woh#OVg^s,ZWvb<9kct+q$c<*_<rgIb
dyv'663AbQ/n5ATU.|Heh}.e9fE/S!LrJNoo;z;Djp,o[k_SV[aD+8Nus)=Jrqbn&&HAP0ubGP)val}boCqvMW!hTy7ivKKb#Yl&}$EL2TJ1AgxGOC$:?)U?R7h[T/|N&31BysO2xEauAFa3B+Be{<
2mrX]#lgNAgTHC>eJj|!S9>_z7|bQ{n&AF?cZ7!jup<7WUiSB%Hd.!o32XEVFbpc|~s:(5CD<9Qezg$VM(:C9t0B=pPL,XFXGgnj(a,$lMK`VznIvSnA:L`Z6+DPN{M'iZqxd3ZY<:>E':CtLEsWj.
~]+{4P#^xde(6'o*_dioMT&P|o8W{~T/46:itr9x1_US1SFWLO%(xW:<4cHyaBS1;'vm>n[{kXJD6?>EjtQnkc|fIhJgsPa5g&,.%:]}y359]`oGWBlafkArm~/8uI9ynyMp#:r]MInj3n$;r0^lEZ
oQD'1W>xXC2&fB!4?G7;DiAgMD]MEB%eIND#W+on9z%pP^E[9O[h&B6uI(![usi>2Q7{KAV/R>J[[]ZX('^y$I_OZJG*,Jl'%hWkjS&7KEg{FL9$fob~M8V=c[u.;f43c~q0)SKI|yzzibW:eN{=a'
$[<SX1uX41HDIc#Y8Xm_Y|mG<77.?1SeD6]Ggzl$t:An>uoSpMaG!u`3~UtIo'>Gzcg=TfNGwOT#Y>'cty1Rj?v=`cYX~YxfNd8;B%/*|GhP<)vGYrss.]oM<x#:t4_e%^H/>Mmy]&1LO:ych!JX*t
L|&4x;Rf1ti(YExjpL`=kE58N$MF{q|/Ip$DHE=Of3bn~(aSBQ.mx_GfjnqkQF(C?I*pP_e1>6xvHPbp]TELf`aH)PkUq,*6fWBIe>Fkg__M[ko!uW;j40fcH=>+#gjL).rTf/z=WaGUlFbz8/.UK5
EP('U<C?]!1JXo7;5[ej6T`OO,):sUDiR%APPFDtD[W$wl2zGVJIFy];?!D8a4o{~0YQV_ocKIZKoYXs8Y0FAmj.3OZew$4Fq>tXzt+V/2UGrs<?13Q^aG{A}^Q'$BJoJhN`VL0VJ%|i>;#TuKRdG'
t&z(n.x&(Md*B,rWLa3(L1:k6Kb%T5krGSne^,Of^,Rq1_W9#yNUZgrpgQbWyfZ(rlRc=[/4{l2)4+zk^YvSMh##pLJ#sqXhw0A6Jh9t#3k4YmJL|(5|l%(By5F%}*`&7NKs/FJ%2P&5hcmHZ`:Znz
5q}cB_%o.)kYPm5oh;cGtc!/~=oKwNw1F]?uu*~#1jyGB69.0NwtGU3QaujO_wQe3Wv)kyL^U}5<C5{ypa!/]*u:e,vQ?5#Cu(JN`X=ByxHo|[b{u:Qt^^CN<[E]t2Lg1n?}9N5L.SZZ00yN~%NMA/
E/6X/{}q<5SAis6NdFIP#_t66(S4$_f6Zg(:gqAm)tVb`zG<6.ts66(O&]ddRr7RTWtHD}S9[.)=,vsmxNRT,mKa}$BpUs'VxmjQbX#3'9bo#f&b){3n2B/0cN{hXR*|CuI2#:KuIJuG'ANR>ALsrm
;rm>XylCSs;,7`rq;iZ9C</Aej)$A_tyS*Bg!h2J$v&9/Rg+9?8^IhI74<_]<>FP8?PIpc0=WQ6Q;uKc;`:><z5rOQO01:guigY:NGjG{9B:f;4(itiWUamG$^$wZQ(%awyDI>43FFK0JBLfRTM[!^
5C&;K.J<#N__%~|nde%2`'L1h1HN5JNb_BK^UC5aLOpjVE>WUgP&F:$CK%TE.j[`wi`(afVi.%kSS<9vH_o6n,D%7g5Z2:W|*]i)ris&OAV*CvYW?6VT|U70lx_b6|l7A}Vi%lXU6k)1;Ao^4+$Z)i
L$v('egb1F?YYtd{O.`vEKpP??{Tpp4X(`(#TlaMWzy15ppOTS#}pB{O'lCq.D^'kp55NcLL6)<08LmLj!+u^Y[%0QUd3{WIT'p&l&OHnAvX76+t.MP6~^$h,ypWY_XWj<(;`8h!g;h!)?rT7<M8!b
0MdFB?)oX^E#pMDn'p7gR(;;la'H|5J6/BC!`$%KlVO6Q+zB!UhflV&Y4nR/D_]3,)^X9b$:4h_Y`|&}pq|m&^s>D4_]AZl=$MjVs(?{cIU/,6)mb8[8',/ZNa%kx~!>}+W$HcS&MNh7APVzoX+A7o
7qRP^iJLVZkzl#`})Y6=Zw7#E>9+yo?BvLYaNoEHuQ4s7_i(C>WRWcD,pYd5$EUvCXp'hb2#ULngwCNLmv)0Mp}o.pg>gF8`AEALm<mSC6ox^JR.6rh$9$2ysSAfU#,e{_iFE[u3A91~zUw?~fui;e
ZH0Fu3hV#f/}MaErDu!P<VD_`/l!h_tgfy?A.T?dlCo_2MEW+O4&Mvwi5)lnA{KcO*yxVV>mVEQ>Qj>Fswhgsmc/Up9BI'M`zp%b.wG_L{HW:(KP7QPMsLDa{Q!:8_e)dVxju)/RD&u22++2&zw4FA
%s)yihh{kUuQzu2#fdh&!LFqpsSL9m7+Kwv,e9u:#A4`2V4[{8w_jQduSXsb*F=yyEhrAO8'&E8SJJq;/92OIU#PH+vhc6ymv77uu}k,Oei4/_(C_FzClW]p4S8hjsoI?!Jr6}vfv3g8>8tR}C[cCX
*pI|SKIfsJVsS4?vb^onKuYdY>$hqZV3~zn3;.m()h{Sg!9>3x%(wp>rp^Q8LkPZH0G1)sJo8ooyQUl$?x4x`*~N*L41ZSsl5m_0wVLLX+UML/AEW8'`Iayk/34jeHQjzg)b{#|2tJBQQRlaby(b#&
g6dS2I}%:[6jY!BdHB27BQ#918yd6/d[My=0)Mh's4fQmbXo/6'g3IY$d+1}dZPssag.>:HLDF!Jfj<%R6PDYfeg]5!P%W[i&4XC?=0`1o;I.b)kjyf2$qX=CJt2:fZ0?g):k&V4gj}dpBx;'QBMPd
`rl?V{a4QwMKyb^]{Mq,QxCJD0#eR5i)~5m[7#zc;)k#QU[RfcP8vO4EhDHnX)'`o5u`%QUjhKaH722u^MnRC{)>BDG}vJj'}[?56%R,fJ*hz513j73//funoo=oWzKy]GN6o_Tt15|qG>ZgW+;Okb
#dj^jev^v6eb;_H;S!BgJs>qhk|cC(h]KBMz?rnpy%yOr|?.+dqm~7cnS20Fz(>31:}{z$Ab6PZz[h4rE~%|/Jo~g!Iy9#EQO/[:yEUM/%'a17Lp}Z)taq=^k;Wg8pkUF|d3eE~ijF~hxPr&>VAM|<
10!,b4Q_Q8E:Dw#~=!YRkFI%`4DqJlJQawz2&vjcXq#5krgMd9B]MNG^Ipox$_&BY~rqm474um+nh+6%SDX0JFA88dC.ZvM&&SS#6MHiD(6MBUh0m0Lg]o#r73$1I).Tr'i8V3F)raNZC:3yN?]Yt[
#+P9zoH3pa3&uYZPKUz|sNhIyia9Y!IY,|N+E{JVs)AxA`fa?`E7S*,8DyJC2bZj(f)em((8(iXL<Rc.O8Ou%K|FYp7|6wnvk_+6#!c*qmeM'|#1Gg1/fI$G$y7:!i7L8+bRjI4qDW1NRaBCt],;oj
VM%Q6=~rntT6(}(.omK{&^J,C5N9B{&g7r<AiRDRb5v;Du]q%Qb+9`L~nYyiPRx(nRd~F$75CL)e~I;f<coZ2TgqP5d~|*5J7Sw`ix8zB+7^~oxir8Qav%nIQloy68(0pabIqiq$doU$r/~r6LqhTd
{Z}OaF]P1N<}.bOY:{d+Xi{/$EL0$lIV=`HV?]?Zf|uh&ZG$4tUl86.)_2o={j5n5l3YV<)8ck5xRbd^9qEMRM'gGUaJte^Id8>=(<SMVQ1d68*UcN&y3YD=$IE,5{Ka:RAseO'gv[yR2bUK)~r$?%
D|ocrG#KTSIV=[J/L$c5~)8BdYBw!TIn{:3rxd|i^szoisNVy/`kk=/Iq)'AkWEld0CO<y$Q^EupbP)5~MR'PSN*VGq/?8Qv*B.So}tLnp,|^b*x<k7Uf[9?pz1qD.XWFAy;0Tw!:r1_bm]r1JK1p>
$vlr7w('D~mJq+]!|%7W[5RXW2V.c**.ikJn4r#5]2F}QE_H(7'+j_0J/F,v6(~Zo<%D^=p.68>,>q/%<mgi#Hk[://G.50Q<U#.>Y'Z&a`I{c%S#0GIZ9Ua9JS:SUE%_zw:Bz/cO5:rb3;?m;},sl
hd)Z~;mYJ]IQxQ#vIqSrFy7C?uv#A'CJNjnb.LFScrFY4vE^##^F1z6]DF0[9PHSnC2+5}F<O$9U.R6K]/zN.W6#kf#`Z;7lJ$58^js_G3}yF%j(la4zYw}R7^d7OOt;p/'NtTN3(<MNilO8t(G~!D
kj3tsF{;%y9848;1W:P<gDm36u;W3%B,z6TC5%w<w&Jbv?*z+xoyar5V];Y[rZ!d'?YJ>Vgfc!<g7l5kt{vpq%CY3Q<7}fPEr%*u[N9,DnJ0*KxE`z{gG}Jm5Z;TJ,HOCK5{gMlXWU1]7x(TU$B%QO
;s]uw~u:9gEA`NrsiAP0ENnq|`i?>|f,~&^=V.HiI}21PFMc7gDcMDf}dz)I7':([s`<,kO^s#<W_LzX,O.YAZd!k#Ao9X?Y)k=.R3,i+RF8]<ho{O&A:xuB?8FMF#7hoA(/'s6MIh]`mcuKP{H=L(
f[pL$+d.Pd.W>5wuK?:|S}G/McIg/pUuCtJM_S!PkYa3.s*/RJU1)KtQLy)V[Oa>{YaH>_z;ZTh(|J2!<q37w`G3Xk(Y${J**Bw6twse]D58d&1yn+(pb4X/5=r<dDPEhbFoV|.apei[AQ9BJc|mAm
35HmR]^#I!hI(be9ON$d^B2:.(V6jL83rqqE7Nha}f5|nAt4&rZ*;lCe[!DzkWS8>FxXL=)6+.},.VA<1?5?{Zw:OCU#$Z^Qm[asy+}kG~!:T?*Zsme?,<#Ju6EQ{]f.r#SrNUEZ,AhxA#Pt=ljZPj
UA^sm_+D8bzZ%XJ{cs$tN56zrw,'aS]rT]!E&5{T8,Zxb2)`YJsXZU{g''4A}0bbL_6Ms=]t&Zj}=2G#~!Cn}]eMCFNa>pS/p<oIAwZ)Q}dc#8(+`AiwW>}AbE%5+Mk&G7rfe3SC$68;wH7CorK%cO
1':(bz!j5=F7:>=n{O>JAQ.2`SXz](S,CEj<xeObcp!5~,jgyG8:DvVGrJ?9&0F$'?f`%kl|KU6dZta2w}ti;nssz:|h|CzeJEWh[!w;QRXKPDCm%pX`Z0i060V;rs4+lPn=us%T8ig:V:u[F#.!Mk
TgE,KeJ7Pgg1RHvzsqL>W4SnSG^]=U,$Esn(R.ma1sPRoWxmQaZOGUXOc+?EG[)4BHt%P|/|Z*pY:qPcsO)KYR[m?5_9yOz[1%~Gari6O`O4alutoT!o9,s[Y'>N9wsQr9G_xY)m$k>&kn`xvrMFoF
j_oCnr>+A,gPv`w]b!alT[H0bTt89,ctkI^F_facl3$p0#,05eJO|j$*{C*mX6p}22H5100!f;}H`R]/cD7RBy>0m,^Di&WPAH9BVPT=x.'6y/=:)9>v+#&$JtH7`NoSUM}^:/:$*[S0z?`i3<{:DE
D3;BEsV)<u%_^n.02Ul/ae7tzSvts6o)MMvg+~MgAu!jHm~Lz07VjPqXL'QJ.RV}t$w#jcRa&|yyw^B{G[3adAx`O97,usp7H7nD}CKtN_/(&y*#:[.}+hv+&l/Cd*dY%XaiKKO8MMVmLNNIj`i%%T
$d{wU,h|ia)Hb|1FaT7O6]r~I_*R%fE|e&3m=Ky~5IyU>c1Ubo&hp|9rU<?FaH4|QJ/iY_Gx9g6m&e%hKpKx%'~QEDXMq,TN5^qA^~Het0oe/t!qu?hb3S:E,#qF/qzL^fIr<I}vk{Mg}7v_k$:h}w
m:S9H?pg/'Zuo~6e$fKBVNAW7bFm^,zE;%DtBuNnswGwKUnz4M{j>R3GC7dw3;^k13E?gQk40+7IdDF^zbET2W)yf{}i/p>[W}(~[_s4L=0J#S/Y%;!4cgNL*o1EW|Lnu)iEzZ>u}|GCd_E.xr*!QD
;[J<j<LE2sMW;)rPj%Zx8b&J;Weizcl5Lr$q'Cr+^m'(O=qpp*W}(V]9.7t#fYHEVRSY^~OT!BM(77RcN4h>>;s{+t0$BgOwy/59rg`~e(vT:A]434%>6=xO7LbwVv+1}a>XNVuBM,a&%4k1JE_y/9
0eDkV&'&}N1>MH'wO/)bHz)0o[27&)gf24J=`:~OrLuz;$RX!8tt7L811^O`4:+c7fqp9V6m7{32/F3FEM9Yf2t_g*1C8E7hg!%90d[,GJ:L<1>h`2Sjg/j6Xd>YBoo]v(Ui4+[W}yYw8GpojB7vd/
5D0A2oPlku>XqJ1#t5;:r/*O`ef;oBh!u86]+YbJ~)`g/LxOBRTJrbOQ9cD&<:X<ZlB+Ld*f6z;/ifw6lfZPH%yk6%'axJso|wdo)aPE[!!V&%%iQ3D?/!fcY#=G)hiBg$*;Q0uwuCspixei&N&XRH
HIe&vWpM*!0d5/D,(~vD<>E=hjUIm4M'9wQ0eZP{ppeUG'%:gN^k+4vDi'LF<J%+%xC!Jztk+eyIM|/zG$F0=^jIDzH$%;'W{~v{38d>*XWDKEp<Wb&qqKC{WdandgipaSgk')N&&f%Sd}[!Kwau:A
Y$k|r591s]IOsx=A3PjzG*~Z>/|FG}_ZNE<#Hw.?8B&ch]Q+^~=PJ[E]a9aQ<L'*L2NpZlNwQ[|gxHeB<Cc`K_hZM^nhaF~ceG)EnfE?EA/{,.5_<kiZY_u>u29ZiuakKl^iaE,#s<8s2d)T_McP08
;D#mopOr8HvD~zw#54+Z~%9qnx,7+>!8r'mXWC!9Cp&.uoVyZ1Y[osy,I'hg(&2HM.?Pz6AD*Sb?`9];U}ee2U/;M4Pm3.)}5eKOBdSvQ<7En~WhCz%`CU5E(EE>NDl<=Da;B'USpkBucE{t$WL3)'
U,{B7TA[QEtR.|zo8$jtV*Tr{a~uP/emI]mz{!0YdwHM/d3nFDw76Z$6B_&Jf'?_yk_B]><yz%%ti$+3bbq/Fios57#lFv[t$Jj3rucm).DFg7HT5_.n}QHpHOnVEee}.Yl*wFL'r^H:{Kmcx5UVDO
Ov|FUJuxo$p/^D4:C')vrE(H1`$ck:hXG^<W;&3Bl(0tJe/gc4f{%|6^`|L&Mpk6g}OB&]cY}6dHM_?.]'R(=hhHsMqvWJ:z?J8Bd5J4%q:!|W2?oqpJ?!voDcJ+~~tU|MO'E^R~vI!JR4n;x9moLL
QD$r8zlIY?1MQ~Sv#N>eCj!]g~l[TAr%,%^Ayh}T5[QR1vN|;2_+hR1NPls5~?m`SXx*S7U^0?L,21[dZ!}zt~?LBUsvl`uc._b4Onud{Fc=<4FFr0eGzrH7^uoss2Gb_:>h:=A`mH3kKIP|%uYwGa
IoJh/hD<UK0P?jpHA6eR{dp|PW]$o7R#6<H%kutlC1~a}de5ag;L{*9Y{*o~xHi,DhsR.xG6SY4/',![N'q{]Y{wZhf(,/`GG1<tL(M4X%$1).L/*Ep2:D&;OtS]tNy%ZK9BwZSE<d{JopF5oqoG16
i$}7~E+MBpwfCbolnRh(6UB5wzO.UdNmH1|Us4Pmp*v.oZK>lAVp_[^ru(`*D8eCJkj%~Zj_(U}|]uXd[>LOy0$FQFyY7ax8HN+J|>z?h.JV5)6U~Khkr;$y.w/Om[)b#EM}srDCQ3v#V*gr)wl%:P
Zs!SKVTqU(Ii'~DQq'N,;V4shxD.S*hV`&RvLNfpOnKfrS{qT[w.m_aZC8p}l+!f5z_Q~QL2{4[/]JLc2N;u/ut5f.#jLMX8)ugJQ~Jxo12SKrljV/9_Q3?Xum;RLy`i5{?_,Bw{KG{gk]^Rv~KAI9
dC3pU&GsNl0IQ1/cpwL]r=cf}',:vp}Q{Hh]V^'rwg8_>MKB[brb~;s:2!~{b#}$aCHHkd[&RCc{KxfC!Kw~yY~PG*SPm.8`uniV*fk#aYF^W'CH#so'8/D('u[C3.:2P1(=>r7HX!Z5FgTm8iVVva
1MG?w3mamqL`bVX=4FyNV[2K}{**'E`9FKjJ.J9v9{rU=dFWk]D<av|dzD[SD1%c2>;t&V*;t.nWwz~E0aBGrMKT&DfW[k}V8H(Dk7dmq`LA>g)VEf*n$hO')9obcP_/=D{h9hWmf`0(eE309<'b;O
oEi=GR]|v:Z2:`>Z30tFSL{n&%343n.Q9~4HVPqC=IPAAM0#Ebfh0/RW;*[WP^B_(`0aI#I:OXErX6}YK_%uO0ZPNGO[OBb'Kp9)YQR(=d2`:jC%df(1<E7#gxhb!jxOlu(3[CPv?(1V^V=QL9vwzR
i*8tXt9h63>0}V#{'Vls?[B)dw.ZK/#'(G|:B9Wc(|>Hzt83+o^]+Y[608;|<f*zuz4|_7J!$17/5`wNiu)sSn$|ix<:?N_u=|EnKn4Y'aX!Bb8p_Ea+7:Px(6HYlghemP&#,_K3nfPH!unU]=ZOb%
v2DtJgFdd:!`1J:(MrLcrRvNn[z9~|W6AhYXs!O<b)upc6R4(&fkmD!.R+igkI:wC*Gcd8Fow>~VmTi1J6tL}~LCK,jZGP&6fuNiNO{Q_r;4)XE+{FOCo_y>)B`BFu{y#pCU3nx;U4OUU5N?h}Ba%)
%BmO7>tf+^VZKVcaFH8_V2EE$G[Ir6s'%#85:p=<4zG$ltd=fBn0|.{k~~D<U05s+H.U%#(>(Xm}:Vy'HH21=|F9<)+ayNw}s|o_.8c(,$iH,ahDl#M_u8^ovkv5JqUHAoI3FckU>Nb')eUEIxWp0|
ER>UKd[u$?b1mn:zz>f{>?kZij;_u;q+&#,<4,k4+2l,>4.,hhj;(`z`(S]IR(Vp5z&E5fw^v<}p&Fl8zCw{VZKBydGyeomUC;j]n'1*%_$[~~/?6/LsyI!;(jxOzcMPoA#26(v&?PGDsjB<d5}9ut
0A(N=DwCP%0)>U:z,jAr<f=`I13$y=Kf48C$S5~5RaHq[j,L.S`w^w,HM^|0|<v^|PNyvAu?_3.$?o'f}I'g.4rIjN4'n'euR[cx2Ul$vx_.yg(/|3rb5#(_R9rt=)5k:DS}[(Ip;G.~V)4$;]prZU
03`<kR3:4Yvn}f<rqW>Z;Q5Xs:7)0}8F=<T*HCa6x6k#sgPpc$+GDtCrvcQKHK8,1Sg8K&cr]2_YZEeoiz2ki:V&11acpS`]Bx4ozqw9k7%;2^hoSw&=r`8+kVCGR|WKpQ`zd?5L0EeIN)gW/P6s]&
i/&d(*YCq_G)DQ4wK0cVFz`te6Pp[gQY~^6yYa.2VlCdrYzQ%_8U2{)zQn6$?)~`u(JRC`bt+Baek(m1X6RF%tWi/oXF$bDGJMRd4=NH8q>yD+`]I,ye;cxzcMxy{e((M,3)w]}M|4fj%&71>5)q$U
%97xoK:Gm0[.TlVBKub8i748AB5I{gK&v39uDD=7Kw7A8&|3_w{_Tx5ZrdBx%V1Krn>;g#Ib00D*)hOkHF:T$fVk4Zqy<CwjUMu(vO?caaei2irO|~}8J,[fwUnXKZxTFCC$C;t,/kFM2Y%B4uFGu&
&tO]fT3af//)Ab2],MfTb|kcID].;O^K7Xh0SDFF4{0aGp}ErYE<s]'sMaNQ;_.QgoiE!J^,,3{%|sKMq8CKbPAB*/n1wuK}}4;3Y%bGbS35f0|A9'11AY7A&o0$96|5}.fW)j#PHe;W$|=Ie):e2g
4wuT]UqXR>?(eOOl(zZ^~RHN*:^.ur<h+Vfb2cj4](1':./gaPbx**2+gF^Y|gi]YWdOdPDFx}$YiP?M2>VL~q<YF,>Tg{m{jK!mM#fP|ugkI:e}xHsBDu8Oo#'7*cnQ8yQSPpO.V1'>Nx#U/3B1j=
G'LQ1/289jJ]%S>VxkEcyMlU.T>M4(ZUMbW*0xcm[Goa49VWcA`}Kn[Nqe3/&El$2$6R8W15~bz^(?GV9[vt7VCkn[!$s[$)>RuO{Ch.fllw|COC2t2E>>,^3V5AEZ_H}'7|o[33BhvIUv`E:F^GNj
W/FT'UA><dnoC,zzQ9QPmKDuehkwh7U!Au*k!RxYDbunzG(dU(5!i}[ct8%#/G|asNO63V_*ej}PMsSX(G#SP14{ZUUwY_qoQ:{.>%vG$*$!V*PS63ul,F*:dmNUY1Qf3Ow4**kM(~u_sQl2&*7`zz
2,KtrlRKoa*L)bE{v`wOj&YQ^L.tjT!jyEvXmWG?R?/)FGuRgQo]i(AfVeuIfr<{;c3pdIk?PNW:tfn9[1w_qUolw|3NlWzx6{Pm*e57Pl}e6<bIimIDRChlCw6i)ABN3t^Hmx#wZMkr1yjL.vw?*H
SkH7adVU`#z7Ylmzl:WF2fK'DgvW`)/a'953r'hxd||/ELu5v}Vi#_(0%5/tE=1SUPQqhsQqgO{NW,7/4LISAKo%LI|f3VHj,zvzY+m_^5s>F$Htfiw#2:YMpaEUdW_5LOuNs:_tYj/q[Doh7*S$:b
`rQ|OErdb_KdUQ>S1oP|nK3w{X<_EDVeH5m%C$.:(`/J2(>R3}%7E3mv7O07GZ`,'umNK~mK<%RIz2MxXgY6uc>sKh|'`vau7iK]vzv>pMR(t1^wh[S`JBWk~S9H67Yl8u:mk8WoOWGHnW?x(d6(!Y
fdz#4yo]NiL:97Ok74h4]V*$;v3+O8dLJb0%?X$V__]FejNVzA`8'G^$1seN0~m5IT_d[!,e/pSs1F5d}lf]=b4Ni+2]M^S%;,g9Tt+b_)w$b>+4pN6`67f]CcHU9qJhK680K0M+ihv+:}ezy1cV~q
UoKZWa*Fj)o~~fn98BHCpl'Yh$;mP0M'&vV3Qo+$r2P)^I3'$FvR2gLDCAiwHzW3c)J.2MGcFn?/W*Suax9[$d`eGb(TXj{rWsA>1'kyJK)|Ag}50Bx[^TKD:0$veEoV+.MYIRcCo^V,JI26ny6*/o
^<Z3#8nDR]()hb?fuY;74)E5!xXb[eEhxoVm:k.um1l,=UWXH&&9/jGt]cFY.U!v~5dBXE*D.DvvD'mFtY2~4Aa?p/~pEvXEv'AhLZzYa{AhBBc(eB^la1Hb]_[,'1;=g)nPV6tF{>6{_t*9g{=]>/
PD,xO3ye]g5p(X.oQ5eZ,~kD~xpt0c2L=vut./nkUv:ETL.rz5M_psE,*fs3?1kn`!8s%3j2PvT`.TO:m}~!g:W0E?Xe/Vgs>Awx;s,{?WR}qk;Z|O?PQ9rsG;]YdMyykcZ]kk!c*|Y*0iY~=*#=S{
Stp/r&?+H)y{eW~JX}m1NTll.Xc5m(|4'DJ=vVj*c=cE>=`m|DWh3h$<Kq%i!Dq$MNgN>L{JdlQqW^>gPwNGssLt%vYIt/BV/ZV4x7#d/cN.=yzl^d.>$IL'v#{fHQw'CM$tH6h`tPYH(mJl,?7]^E
mvBKwhT^UO/UBU/#M<jOV8([][T<)xe]bS[^#[~?#IAh/|R%l(#SSMz,biysf7KqZM=Zt:|],~]Qu1b#d%U~$j&Bh,(uc'hrC+'tYnp2|^uW3dv^ujU*PpQ*Hs:`8#>.{b(?|26.2Hy<f_o)xX+Pil
f.$55?;=s/>S>ET+a}mV4>aOSn15;zG.dL6;WynOuN&wR$8%In&.[]Lb6de3IPf>|&`qlsQ2Z8OcP3v14J%f)5%I),I4$]VyS9gh3f1B&cGnNUp6sSj#5GnL%*96Ko;pJj#0M3Aq0yf3L~dhjG$'kF
YvZO<1~PutEw&bxYb3G:}BS`}n.?A0Gi9]V*I8c]JbAdP<+YTZ5o|?j}f(0C1_7g7>+Z4sZ~OYW?f]8a,e(R!]bEpklpU17GmHU}I3nq}3+u89<X2t8m_xD%FnP8:)yZ_B^jV<(=t'Xp#Fz)A8],kA
K~AT[/n9a>+I2}4A1?{1/&wYw^a*wIg)9pfCE[}Zz!kL]&xTXyN&.%X$uc:!R?4^H`71Hk,LPMkcgmDkU(i9!IkP_<pF2QZSa=2+U`L`<#nHGj5D6IK<nKkn!O,'z&#=Gw({9+Kkf>d[!90zPj9nw&
Ji}5(_0'bJ,m^+s8oLr]?K1F~*qW?TPXkBYq/+/U?iGqD#!U^m'{9qioCT(WMTPR#a6xw%A<xH+anjA;uj5Zp^h>D_},7jg,.>#)&KmQ2|NHW^/JQQG1O*w:d:7h5TwlW^7|C;H3eAy$U[ufMl0KvD
&/]FduQ~,IgO^g$LOrp)8(dZb)1+ocxK{2V!911L,_Mm:YrD;6v&k<Chu6>6bV2}Psp0,YD!fNs_3rJ3{Z'IC4.5Ms$.yf3qC,ECh0x#%,]&i)IuSn^Rb8zL6/k1L=z/h`4tdTd+jpR6>h^ISwl7m:
+FaF%oSA.6'bz0Hx)q:bq}TS&P#v^n`Y%P600F~z0?dRHB8'Y+Bx[)I0MWJ?CNx4a<rdS9w!/eIT11|zi{.G+R]|0_uE822fLaYvIZEXw?Aa)z>;(DkD_:4g)I1md#ZO`<(5NEpR(}SfoG[V^r{UC6
K?b=.wM_:>P<pt7D]Y3E,Y9VR?VEY'+KhSa:f##08e[nm6Nw|a#iA?ezvV$=+dGc8uyRR>rMo$:]VDMIpG.Yrk=>i2Ob2k5R]xr].jen(4R%)jYif8K1LjT~37>c(Yo0'0lBp*XBq(u>%J`{eGvm+b
w:R8N|uHaOxYH.g'g|96AjUQw[H[(?#PbwyaKs,Y+`4BmWzjYK]%0'iPhxLx=[[6jY*x{HO!3?0&r*BXj>|d]N{.ILn`d733ScNi{$Qt'7h>MP|QXTl}%0wk:_K|m>|Ml2*!8=d1_Xl/$OV8L':rIv
wn<RQ%Ers/OR,6B{j*eBX`]z{beuln`oa&rkeZ(~B$8<$oT<]XJ_P~sh[~da4'k_hTNmqiOGc51/#]`_XcSS<zW!VP2i4=,e{2S{wX)Cls/B7Xlrj>=]A=j!aPgZ(YT>}?A{<s?`qf,$LGdmV9ib7o
O~O0{U/N3N6PApX~E.uv4T}=1}S`]Lq&&3P/kX}%4c^oxSRh{K~7EK]Xv|tAzkCAWY#E!5w0GC&iRGD(Av4bP~{g7Ly[e?nC<S<'b#MB=oEL*l~+Yp8J>&>J{?_'Nc>T,)W_Lq9xZ|l#aKIbO7=%lN
M_%2U24.Ih'JB3qm75gep#7$;~;n5ne#}u~xkLu|+aE)+4E.9=r6K)t23]aWDVob7Xr|]%^%%P5zZ;8S,1CHoqJ{YuWf0z^V<xutj[?7P[j`F&CMrJc7SQ2q}LVGQ`uMwyS++4cqR?M)s|x9x1n(F6
[~/}R8K}oP5IyUS=dU3XatG&Jfot|<{~LIf'%J7)+G^Gt/Gsz$!CI3xF:t]emhkfS7]kze~^_Wo/?m:5hpaEB[*GI!l4$#2o+m+9ubT|NSVC8ZX:(DEZ^Y)].4VyQ6mPJVaO+y/+mhsf+r3p<V$4k6
26}3/.}SXUC*EMsg2GtO$b%EBp99N'cKz*RHD_7}!CDo7KR:t3{K9}iy!wq{?*OpdeUXLsDBBHA1d^8S_gZ)eVXC~UoLubx~aS956,wIb6[YyDTe_4*Lk2)1MdTRII9nkn=o=_yh8gzTgA~64zl84>
hFYqI*&wWu731eg>7/`g+'a52GSAec<y+?$4?(08![3=7V3:So34428a[{?c;R.N{7X':j`{}CVJ`<ay*D.X&a%:b>]%#DG!>?Jrcv?um]eu|Ae&vV<3FKbxx<yo%Qj~GZ#jJJQlY6x/bYUSrCF3R9
Hs01y%hr'%!$?QmB=]e7!2A!<Nk8MbgG[t?^L.?`.XbRhK+x)4J_m,>?A72~XkD<74R#cm+p1~{1UX}Y_{.2/ijPNU+18n?kFE^$9%a{Ke9aJ;4'Z+^Nf7N=Dfbc#'90}TkO?{HISvoc&i;[AOFT$P
nGvHa%z2$YFQq$|~'AKK&zGK:N!W'l>Q8mLTA5L^UO<3dqEi)/4d};1||B#Auw<{4+$g./f4v(O_>UIq!En(;DDd!2h|5pT?1/K[rE)jeKHs1JRBP$HA`7(.M,4E=~bkMPBlI6Cjw_J6GJmofF7J]h
$/*__6#']+}OnUKSs#6O|QS7k[q$FqTk8mMDx]VZSN~nS9e6!VZliUx%w763d^*:d7d;Q]j~t0`C*ZP}_jqSN|;n;u{0h9^(O5a,IFVady$['Gy3]YYmtT*ZFsj?Q0KQ_({;HG=fUNx6_/i:#,bKB8
!!'UK.g|?m|/_h,UwvEhx8t1%_Dq4O/.FzbU?^LBaR!S]i::(:.R`11SFMsG0nL?Zh+]hY6#1tl^KAWdY[Wc?y)Y'HcE[hK:v'c8eC8KIZ_ff%|%:sL,WE0fGVuYfU'yE#W{UJx?yAlu|!rl3st8?]
T5q]$9i(lJ&VMS%mp6U`X43r[3N>#H80yzsOIk,kgt'2iuJ!Hte9P5{NX8JF=A<})puzb6bQ0?;$*_{g%mos=*4wL[3&y&}l^qB1K(Hn959{[nZc=Z8fdiuUI;>l5^fAHevJ&;ND:9=<xNyt<*NQBv
!<OJOT9iew[>mq|<sI{PgSKd}y(6(0pToQonzS];I]nnb/AT/LJ#9Tn}QdXMDP>(D[>f`jrc{g&!>duP8xYmpfMA|SEJ3%3;$[/12M&beoFjWiO,04_k5SDg2PAIPc!T0)X5~Hx~>9tt<N<WpJ{`Q^
5(&){=>c,yAvm)pm(m*ChWt74ar2v<;$a3w+ltBR#I`/%~ply!D$s_SXNbP$7;,1#lnc~U]9AM?C,eO/_mZ6p#qcx9j!R,6UP+n[]}~TKBx<'yQK#S|bdpaAF[}&/yi|rPnf>frO;LcF{]$7MW~<~g
#,*jJ.=Z'#W`JwpIBD3~4Ln()=Eg<PBj3Wc9HY&br;.%Md]l};5!(?M$D8V~m~2'yT[x)Z9vXmlq;+xT4s18_lMAuB2q?,eVyBt=1dCMen!LS84LVn$%c>o#i%g{2Hg5YqJ&RvOQe}%<}z}*UR%%q?
~u0TFCC89FkA^,8Zr;(<M}D1(?:l42/Jq)fnwv]uwbM(5.(Om90ji}?<<K6g.DxVcjXN5g>{2SkiHA,[+IwBEgw;4>(A:wMwvv;#Msk`[*LE#^M2VKPtV%B9mu;GT+!X0PG>.p2'I#u.<.[&=7(y'i
'Ch#|<z]lom$f{KGn=SYvKOg+Gg^>%/w1T1Edw(AG^Wpd*x:Qs&^*z*$L?dLCCx<:p/D+ZR6=xnpz8Env[gzIs^A?:SU,NVQgQ.(x5oMI[djO!e*rtf2<,<pVC_nm'nwDHA9~.h:wjHFd>;=G&mvzL
zf^zkoCvZZWqu`=Nxh4`/4:^f8j)^Ma[czs$DwYSlP('D6YpX{aUZi!{ychds,2RboDg[YncD`q>D(OP,3DFT7:*4iMup~Hy_tq;Pf'%1.*mB~`EBxHC?[8GLmG97>=lZf17,unyfxn(s;+,HNk:M&
k8pIeVrM<JeTJt&Hnr+,$gI{T=.IqR5uLbwL)Yq)v)<HW~OH$i+2{pJ/'iqX?1*ujaUe6UssU6MB7o_OH{&Wym3/^GwYKZ..mGh0uR14&Nkqnkc[j~C1A&z?`f&Y0`~,{b9xMmj1gf.YjC:Y00.[o+
[7Z.;30&0`r:4/G](joGcRS=,b.zM<{1$1PY$liF1/=]V3n3<V%,5:n|rls$Jf`urAn,)3Dzy>T0Y.SF8cS7C5>dI!5REo/k(mv:LpWK/HJi&$H}BtZRHCOdfBL|<crNfgr=2YBgH&cn$){XQ:t1m*
|x=4)wYlDQP1sV6k8WEQQ2u$qT]^5Jy},Gq/Vxk!jK2/N6b6>#pi(l'/.d#vnc~:91!FW8%r7Z%ZTV770GwOWU~p1>oQSJtwr9LGIIhHet|sB;$b/9m2$:pp>*//q8+3ltoMSEz+SEYNal_~Mq^PvU
qq{Rwisam`ve^PNbN$loj>^P}2`cy3YR~6QfQQ{T]B'T`W`=f>~5cxRKv,:%/u0jD,[{RF1&IwvwVg[#e=Y3rP6u1Bit=^JwQ8y*0slmhY#J,)?TeFNv^F5]INJLH}}qUy(lFav%[v|}58!dRJe$K&
5&J]Y^w>gA&;gLfA:?t)z.a;v+Xgg=}0xI9?EHm_kCmt~i$,1pYdzKM!1?z4{5<U3DV.axh1`Aps07H#'d%(F!i?K2?VXlBA^AA(,EvT*9C1Qds67q&+F_.Q}yQjnCP^1q.|c.vZ{Xh&EFam1o4}y#
pLNo:vfATDb72Ok'w!=,.#(X/e8+$1pGr7/u0n%Nd1A=si^WQO'|K<EB%4Y511lFj6RGNQ(iVin6Zp:s7<75KovtOh1V]<{W~^L{U?:1$!on7C/laT!~?xw5JO,K9pQDmA`1z,D{C}|Fy{OnA{v(jo
W=qN4NrGbwP}}s7;OfF?JWP~tC8V/SU[_xC%(.dFA|APO?$ULr9^U]N~22Pek?7xzp)>m,$o)s)677DnQkn6INs}74x}mkP/^|g%(9r)iW)hWo#KHF0vr1KhzP[OP#`J{<LaYm9Ms56XTvZS3$E*U,
g?242He|vnUC:iV2Z>i?vCPBVn4F?'`r|O2+#<LCl<[j7(r%mI|4dLHBm!X4]j?CcEW|X~~22`#4G/S]0kmN$)NT^hTNF;heOgVTl{ErGGkJ=kot5|%KTWI}3eA#Q>7.P$+2guJ}_.?=mfz=*jBY=.
B$`Vka0gzpU0>sNnm&:U|Uax(Sg2B8]Ig/Bs`.{d[9ZO)?lw9wiS+mbfDz2&I>5vMe'xZZ<sUrzv!QP;%B}_E/`F7SWC%u<ZUVcqo.J]]lXNE9offKgG$.a:Gd3KK!v,w6T']mns7+K~La;eXHeK%(
o_#Blyel]YPd}cZ0vlbs[=i<smQLUm{eq/mTh4$kmi<}tE2dgtw/ca0c!e>_=AvKo8)P8NU$X=''+`?50*I>*wCtS$:_JV(gX|Uc7.41!|Jl1CzT</VfabI(!.jN1%*?$3?AFpOqS;>Tc3]ro2%w49
wNZ8X8OziZ:6&3D7d6e:[z8[0g%wl'fS!df0(=xiO3e{tVqOy~#?iLwr2rEfdd:W1Jkn=M3sEAmD?nAm_CX!`97hH/(!ovi5EO^_/w}qgWE5wv$t*^lz1oEY.h<cVud,u|i0!+fS,GMD1rbg%6Q6nW
'^oa{gj+o`e5K.,[p:g1,W&B{=`JGXR!.p8y1t~N'yda;pUis.`/+D((WOol{'S:37wzIkWROXHFC:/M<_:I(Me#h/+1HF[cE8SL;HHz%m8QW_k!hd.3b+|`/JwxqFQ:'(CDxt4,HoO1oA2il:NOqg
p;Wm(l6r]K2)Ulrf;RbEfxyjx=3/pZ>|vJpPn(=pz><tLhgF34C{3{?veTiU>?*|G2QM=w&RCpTrnaa4upJ_U,pC~EaZ55iY.9uw[$>=Rqro{5`NDNiQiQhjY)Dp?oFxS3(a<&2dk=Jgvj]E~:2a/q
uHb&[=#*!;6Z_TP:cJU<n)u?YSCNwU5dk;_}XAJPW~~R0)j6wc)=O&rP:P+>}ff59IW)VjYyfx1_;jDW#>XO`RI3P6e%cA5$X>L0xH:^WMd#>Ot*>h,.m1K3AHh(sOQ.m~^~8|mN`b>=EO?bx;?/cw
J`9sX$J1&Aik#2TriZ9S#m()3r>/UPd$/QYRq!K2GkIuJ/~3NG]l4*(nX~+Oh&{|2no3x0!C2YNaOEw.aV7kMPm9`1CnQXWeLSlzvNapd/$u*{?Qf|VrQ'pSD=06}%wdUWzH2m2VhW;LG|S4|GuxUP
'?>#,(YCpN~qxA'`).gOnE2|+XocTEn31`g07v00'Qp<:U[&bJ0Y;vo~d*Gl'r5b~``0aE~jZ/4~[]8{:3A:5w$mwP#2Y#ZP|+^!GisgL/uezxJBx~YjO?pvp%(5Qb5I+7Z~kaZ4m_,'Lacv$N34.*
QdZ:C:5c1IcMij;eA|LU?9E~vh?G5[t<0NHF!U/hsEitWH6bD+d(o[]%%l8M|a>Rjap{_*.<a'>jJAPjax>!K~ZC('7Hh5oSjP,Wa~w|,9Z]e|RW`_QG{VVyl]G59kcH9>t&7EGAal9u&vN?NGHb7z
|Lw3ZsT5C`Uc{3*umvl}w3a'YjDb2mq4|HJ^bBUiAeJ~rM!F_k_EN[6Xj/q:kc)?8IqK:s*}>!t8x>E|Q<bu8r8D(o,g3Y'_7FOYu]e_prTHw;=L`9:~C?n`D|rfEcLgdt+h>SF>8{#N$1mR{w]_9M
!J9WET?Vm~Ih{'|wn''ll~Pg_hl+JmfjRB5,wfm!(Sf'Gh?38:Q~BZx1pbwUDQ6_wu*,aS`*0dB0]d(X}Z>B/e:q1W+/R|KcPOB]~Q5%sE))w)wZj;ehhyL(xoO73QjNmU?Nv%/#7{$pdG*;k8FIlN
waUTY?d8ExtouTXQ=XSRUw&DnOaZ{}DN9M=:N:xx3XL1>iPy!I=0&El#MA,Ga!*K#dG=l4<01P:_1C.7|Z9]N%)&2_}m&lL~.P/d>PH%c~jZ1+D!1XaTPXF19.WVm]<[^~^+OCZ(n~5SB#b`J7y<;3
Rqc%~hb(M8fdN8.i~SW=Gwr>smUHB%zo!a?[m_KOvH$S,,?}iLn>NAG[11V0uN+#g!2TBWcL3TKLs|NU:EG30v7UJG5qfq(7d2gGqHv)P0$0r($|,XFBD/o[}[n80B]^TS=9V.Llp_!pBbWbrq$.,.
,Piz*2Z,?4y/{RD,+mCvo9AA[xzr|H?sQo?>m8.%y&O)<f8>HZ2[AnR'Fxk.N`eS(c(^#2J=1vKrO^c11uxOk`8wQf&912%)IkUahh3|(ygZw'D]AHfB$hI)et26,&QlnmLWa`mw:WcCyda5WCa,eS
b.'}35<0$(9(2A237lmR,(toB0x_Eb!'4Kf_{qG]6~WbLPDPz)=]Nj1#/]0ec44R_e6l]6?_L$2LlxFEG+<x6M({JG9vkO6Kgqsh[qE;f[#1=%LN2[%R8~Vp.._)A$4<m$`p::OBl=5uN0*#;+NMk+
=7)tU&M2;uW*mHCM{3vU`Lc6THJ/v:!h:ojwhcT[G?Z`g^~KZ;(dp(eWyM^wo&S,8KR[0M%zmT9Z_10gkr^`=X[fb6im+^+(>Jdj:S*?[5]SS3qc(03x&FI^[pFg+H>#xvu/eLmFScka*.0nRz?!m~
L3g0R0$<D=ve%Le0/D8`zdHW&YoWkbM<N81&TQg+:FSD,pjnnO2m}k31W7U?(>jH]4oSHB!J/*|}TKIuqJG#4jvr(TJqlot5H~&g4aGYd==V)5MHRr#WTK/y~v9}f|QE(+uii6>p9<iGtTX*h)_LSm
m6:HsA1}*1b!)2l=QYD%P`aGEJlfH6bsA5iIm=RkhA;GQo*Sg1{UPv(nT(ld!JFQST&G!O;vO4D'E^jbvtYeP'`ihNpYgKBTwReRK|!Y%6)(jWjAbzq{!j!P|(,mnY(H+w*4$dF`EA3?v{n#El+W'M
xt449['[xs/uyHq,ZSnv9*n5(N1tng9XY=m3sd1HAK#mj/wFpq/#jV#E4/0trh4%kJU[BcL7B,w/9FqJr#P*7>W~rcny|u$d.qlrG'`7.gFlMyxAr/3kw7iqbd~6qV7Y`=6qAi{G|Dav;)v~b<+6Ma
~hJR;`S0*hF(1K6*hx{P.&J%c[JMu}dn=(+zqcl=GoQmr+uMlUmqETq+Jxv[6{O4v.vC>'v,g1ES=lDX0TH[Lr]c0]T>$<1O'H#F^mL$&h0*J(zDhLm7vp/[NDL,|p|#.cx?oF(>CQUv_DAGn/Y[uI
yV&fCm+DIRU~Y)j8r1ym68<2B4t!+dLn2wPgtKo*F>iuZpk_0QN1CWMq|>#gy)w^3L~Tr~T~Ck,%3v?`Bri*6`Xt46VMK,WHq~]e+mUdWX{q=q`Y(w=4ndB|(R0^<+76^d(9c!mxDSz>^.r&]X^1u[
W^TAvp(TXJ7I9~r}wyMf!IehUQ[)`Dj%>L+3~Q]Tb:W}FmFfNyG)+*DRKkk3x}6e71Xl<i^(+2eX`L&*':QJ,tL,/EIr?6E!qic0}{0pOmp_>LI6/#d4g4r.c]]%I:[`Bo!_.A5%GB_I)ZaoKdu3n?
Ra^pxRb0G0>SSR'?woWu`b?0[>63|xkD&*7st:P*13,>'Ukbl761jRf1^nZ~0vprytiZF+yhR?6U/|yFySui*+z3PHRUi%Yljh[QRoS<4dh2*_Hek5:?}Jp_4yO{4}F=Yn`F`*DGC`w+e_(lb{S!>,
AmEWuD$okp}HNP>R&6JS%KdW>,}Bb;<DRze*>Q6R]'/0iHQB`|#2f/WlW&OpgLt;VU6fpF<Zv9IRgOMQ>F~^)#WxPi.2Bl}_/ZuK;cNj2kR:(zSAnKXqC/nxfRGlazr4SML[*I9ckr$nWU[bH)8cb(
+3htffE}Ajx*csxZq>59B`K<`H&bvPwQ/ZSUbf(.MtzmK79&v_x6d=ioPjm52YKRDqOT6=oj7gftDuaXE12utBb4_+0$*y=tUrm*qOapu75&W^4Ifb56'R)Rpl^N]=B;c>uEN4.vSNR=.JlUqmfz<c
0V{0BE?7|ytLkG%1J]Bc=dr]OyBRyh>`b;mK|o0UM`!_%|D)Q>zKcFaKkj(XT<9s{F+7/#WC'h2v+95d;4}EKuTG~4pm$o{vsR4TaSNc2}ghfVjqrNAbZwFtkATn*E:af*mc!;xs3n%)lKA8zuiqn0
a5IYsDvcq#,hQBwflrzoXL~p(Uj^?*d#.fjHLz^:iQq&vFTBp]mL|NCfj3[;'YppA)]M;m53$9K<R1yNLwU2t.Mj6Y)tdN4dI6oB4Xym+s^M8MtNTkqnR}WuHc=]I.*>^Qy(Kf3vJE;X1W;ySS?F]~
Fe}<3$iJIgCC1'$`H!VWA=c!9A$p`Yvo&qotOX9HMvLif#J/ss4!5!}s`TIZ:`6KO^ROTk4&KbLw6EY!I+KI),SM:Aii9CsK`r8z|EuIpx8qu=~puw#iYD^h$Rq!197X!Ca}`YCcdU#Z:`!;n$RX'd
R~BuBQ(yzuh.}~5rQ0tC$EwRzp<*:`#+kV7Su'#;APovXx_kQ&~R#b1V6PF,|;zXU?;:j1Qz&w`/})G,VrK;Zy4+D,lZD;zYyzskE6^5Mf3I7Vv2Vy3Rq'cAWiCd0K|$fH^[K%)Q#IR0$$YBO>hvxE
H4i4WwP;)>7CC!k(9m=}{5./vCZwsy~9!4rfQ!VJUiW<|h'(XCyR.HRs9+LER*Rc;`59rrU>p:OLm|ldf*z&ST1yKg:sJOPwir]4yyfL~#xPzU:hIFody$P?|/GYhVMyc|>?]aoUx)F;R%H~Jdg*FX
5FJH)>%Tct5}p15llX+c&v%e$JJWA|Fnuj.8E&vy,S$G{_)%MmqVz=0;L5`,Fo*sC#e[CbtK<u<:2.Q2ZIyDQeqXDG3q1_}2TVtYVa#LWzmKdRxF3OviGK#H*)Rk.mDQn.0.RGv`n#PBJ<_>G=4g/o
Kp^~3H;r}'.b?TbTEsevO)/5d2%%`W!o7{$52)+rZHOJ#6}e({rAKWYpQ;~;V?JVJE#bSGZ:~37zwD8b#fh(AJOZ.c}rnI/;Uk)eI{Q<1v6Jfs7>=,&!x{UcaxcQKbFKBFZ=?05TfTfmK8[TxD}s,'
6]9nJl'AyiuYH(tDd)EkBCDc3XPkUr+z`(fc0nj]yEs<Z5IQ0i],}4d2wgyhp?Q0*3W+E:$KV<ngH.=I|n6d?,W8Z[]Ll+~t.oO&_oKTw`F?8=M9_g1<ohgWW:7qT{L0USgRmXD?c:V<]oWNrkC2}U
ZW/*<y?YAy2x)qM(SqjHB:|oPEAYYjlX;QGNpAj#o#Q3$n#4W'G4/DY(#.7yKF`crU/<R^$x8*:sOJn];OSW!>Ex%u+5Ot;T)>4`P0M=}NLA+&WjP_p#p5)IK~=^;Exx]PPNWD[6ajK_np+9HGsdgj
,'w#GpGDi2A3vG+s92XqGtwoMNCKTmA=jm4IzP:Lvg+(tQ5F^?lQ,M}/8.AR2l~Q7!ir$.IDCPPtO#[K}&T{J>J_l2UBPl[HQ(n(Fm{PPN:GBE~|qXO_WZ#o.tUkC}!vD&X&h[ts[hR!>9WxS)]aqj
uzoUygL>.G!'s1bWT}9VIN'bBSpI[Lz6_K]g9&[bk$Acx)N+d&giD$>xvlgn$bRZCM6w1oa8JT;>d(grxE6w}}3Eo,SFh?b#7&Ghj,*4VZ}Nz;w/G{goH6=6>%+.Sz1*8rS(pg&[/sgs|`*t'bhuF3
2'I_|WdKaqHuV(kXd'jhD_x*|Hu?;[kQBY%XB_{qz+`}{$'DE/.)C/d~Z`|4:YV6fW8tMSxj;=~Ccnv>o/E']FhpMEpbu,cTplCNs9Qp#[X=z$_ktq8bvdn_+GK3H.]ELu*5z7|ibi8&|GPwn21X;,
Jp44aKc}7r)8XPW#!K%c&i`3LjgQY0aK#.Wbuml[LS^&/EFPQGyNFYvFVMkwig}xO796>k0fJFs5hXJ)q}(j}V^<q#6MkO8983![W~i(m}Z}Yu:p3<t4WcKgH=CgZoUch7j#x9yK|Y!e_znmn2!H6D
`uHoYDed,)Te]i*p3FMZQO|w<P4R$lKl54#8Y3v=?_#v6xtEO[JA1<yA06ukTq:k*c6NT[ArPl7%(Fn!q{;nltt_$]l]s~1Q)R4G5hBoVHm_%W'M>t9E_i<GJ*_kA#NofO}0Jca!6'FF|RZ[lRFa4>
CFrF}[.*wdE_MtXGL8e40yp|)_<KR81*)tH]uM5V3t&>Bg{[&XhmZ1*DUxuY;R[8A)CWJdx'uaBKSn17A+J~G&[+dq7EWCA#(EdmF[j)r#7a$U>f?rLo&Ijr%6+D=,Yg6iC:OtfE(eC`0Fjk4cF2su
5+1;2kjt9vNvx^~RZe#~ZtH#R!DkFtv5IL]}1yK&_#6~R#I,|tnDL'z?j_?M1,HZ&Fg3g2D>L3EUr:dlg:Iw_1!V.(QLXnsBP2LO3>0ZBXAH8.cY1((B9KQB8{?bI{]x5P~V6ovRo3:s7jYuj_Y`Pp
r,?X]adILoxO5c(#fHCRcTvT^HL<nyAN1[N^C)6eJlN[E^poUMv{3<Vx{rF&irz{`1:,#)SJrb{:2<LK}=ltjSgGiLp9D$Fc5>.]~+5%c/$J:fJ/N}UxXILrvrc{*1`FHkkeMGa#8ENWwjsn*VISeV
N2znd#Od]Nwd?hD]`^Wpt:S)ajoVXRPVCxAJF7!;:iO7qkq'w_f,Lpn2{<B_'eB;j#ED*y&xbYoc*hQ.<<1tdsP=&0XZm9K5*mnMg/({h2pv]/}^C^,WI/c!>4#<A]LgCIf1kL4fqo8!lGB+pOIadK
_jB[s9xU'.G!w315hb]EMw7Q?Cx=7Y%ye[W!HNza7q.`R<Z0o)Qh/vZ#4it4fC>xC)VwoMwrZ_NPvpJfu[H/ohEr}quy)jG_[PgncF200lSD,_'Fe[4cwk'H]P)z&{JH2<lviGII=hR2D*^Do==X&g
sv`6P=s9u_p]%qfmf+lYd$zuAh)&xx8nhTgjAmj$v?JB!/iGf[$o#Ps5Vu#`8w/bkixU$KWY'7L7y1Y5$^o|4`lS;nk??9sz=~6I{rx#o~_5>>/(H[<9/BlS/Enu)h7h'wlIPjukRS*,+|YHd%$TgD
:i(12#qV|rGLDfP}yJolt+MwTa9o`B8U4g_bQ%!b%)Q|DBX!aTwE?`X?E{4ppyF2#n4kkdU]u`:f_1O`G9)J}Rm('6u`I]pq!8l3=oYy?[,}4]jc$0KE<Xt'&UoVlYVI,eCT,,tAT;Hsm';*{%0od=
RA<rh,`c?q7CG%/Y4624Td2+Dt,4Md;kSiYA>l*3_OBHI|nmJ^;V^R*?EmPJ}%{s):*y[+HvGEQ98y`TE*M/Rc~K&q8Iv}C{CPnsp_Qq1*&rEALg|>D.O0C$SEyyL~>W[;G'H^B:Ls+=o:R+q8!VeG
3^t]hHeTCX=qzBYV`ET(y2[AOjw?;ijTBlv[JXqE'{W:CxbCVjS<Ovnc}3WDOnr%Dqwq]yd^%rqk&E!j=+MqvSUEV$UlP5W>jv'8Aq;g')ALB*1e&NNIGs'}6rE(p9fe4|HI(~3J3({298%y0qRmWt
So+*W70GiS%{SiF~Q$&>.'43ZC4A>j17J(D_o}a[Hn.>G~PETs>oi:S3FrcrXvc^9vQJp=Nb)wGD}?bMtqi'd4i6dtZ1#nQHdN/uPrl_RTKJmG/FbjTKndjs(EHr<oDna63yXdILGhgy2/>PQH,(_F
1^6%#oNB)Sb>W:2Eys*$5I^6OlkQ'3u)R|b#<=`T8MGxe+n/jq=nR2ZrvKiolN!%^l~_=)*>vg`NXnr%b}VxahWJWDZh8`,Wr,gELw.6R:qEh>AAmqcxby276?`9swKW}5f`]r1M}L).WG]bMMh<b6
bJ,iii7G}9H;8#Chj~bdsBzpP%%.}+d1ExdxN>#8|Blhu]Z?m|0AFd$8,2`_>7CditUaZ'iYgIsM2C;%/S,M;zlE0b{l!~*Zm|?m`my;;X$|/?wb<FdFNp]gKQxooDzqh;SiA'dz=c$!S/6;D$IztY
B~!hEi6)ieQX=a?>[Y*Zbh]rISwU%2+Tuzr(P7)W_?IQNL=:l]&ReC9R6e/5uKFvNyR%Ozt)7M1QE]=.}f|,:3|n]Sk2bOTq4=,nq!~zVQF(L_ep|}=;S7E{LA%C?M=(eQMX{t0mE0jMz8QaxBxL$e
$LE`_NJ?`LK+u0Q];jr&CU^2!|W=%NN(saeE!:rXIV#fIAA1apxLqZ|BtCDM>O2*,K90H'K#kK!t:S^/Q.isMBDr4)].Ba7_zaVtpB=gk'WB*(tuyOaTQl%n>/OrC!]3/NP]mh6;.AU*7)BC[LC<K0
W(q]1>=LE<3VOVy1+~f7+<kly&QIhgh8|/`2UgLw}(D$)`h|PKFi0C&>UgWZ;JqoXB_v#7U]s>)f7E.|`ciHH.~w|1Ir,s.^%8[kQ/''!;tLT5^J^DEC=DO;ygYP7Sz>{kCk%>JYEZ>OV9?l:IYLv`
8&K}CC{AVL#O5^V(iD/Z~{|Xb:r+AS+Iw#O]~a!`j<|YEE;7ZAM!/kXm}mDvWYC~d&Kz~*<pC,(+vQHh=Ji}y9;7L)ib:M]|wiaQ|3a{kkZ2jYmy5_w#Ta8Kd7T?ynkjy~xwz9;`;i9'sD6epPwE.k
LQv'|xr^N.,vwa5b$$O|abHI4~T5{]dsd%g%j_^!Gbpc7'q.*L]Uu}Sv15WKzNUHhaX6YIsE}2.naX<Fawu/HLmsuD7FCj{),&unW]t+;~uIKtBvDZN{yI`PQcj!a[j2ihMAOYf?CR>&`kkNgQ{3C8
b4SVfq9u6L.aNgWL9e,;wOuct<~aNWi'9/?bFCP$hl2Jb<f)b[X91xRn3MdEaW~fI:zSFkJ:e}*kwF0{l4JBWI5hn*AC40<w5*TSL53fL0|}HXYO'>8z=G+|w:k$}n1tA_imo~;rjKS9(Gl^8KykFy
(21{v=wRdp{5o,}=jOZet,98N7'cHA9#T9T4JZL2Z/K)dc8,aeN6:L18i.%/+e&R2~1g&'Zdw,^`T!2H#]xYY7/pF4l6x/gCb3%:(M=[{pm|DmKuE|Eyl2;,N=bmG286eJOv0'PVu|])1~UsB`v`Qd
T7NcD=]{3dw=r:cALKr~|E}]GKd!']Dy`rBdq|n[WIp~%.M{q27am4c:_vuT$30N#0Gfw+`mUl}uU1|do}4cTY9l_PdziJ]$e[<>pxnYUrH!H`?w>&nQ5kLwb_G>^rp>6c(6b{r_skBmnX&z2f4F|x
p*RsGn$80uS7`!;ctYE3K(`a~pzFP<AkI8<9VVy9UUw,G0$dda&;8a#!%t^w2sye%YQ7%c[)+g9IIyV$cL3^?L)RcrS0QWbTbFEN0gC3%tIj:3lmXtY$_JvN,L2triL5P7^jS0r$^];&ex/_}Qjm92
_s5r`$P&csIe^s48=ciD8JjA3t;BKX(hmTk)t83n6o(ziffXS3:po`BeC:{P%SVEn2NWnC^om7:a~mI;SV2GR#l!:D*5x=YRcuaOZ,Hp`Y|Q#e553*Qg7G}I,%9mP^e7m3),71>Xomkvwyi?,;{1kI
N$A`:/zEhD1[IdWEiYn(6cDB]M_ebPV[#l`r65yOzA8%;{/Zo:]5I<gjC%d7qi#34]Uj&?Mf>jD|&;BcmkoAq)'ELWo0l&UBJD1^r);nSwA/d<D#'[UgpOMf5Vr*^,J9qHLxGoXKl6K3jpPAfTKHA{
*`.<Ft?^Kw%yA#kFi$4.`FHK}y>$agwT2e|yM2,;4StY,2PK]=Gf4pEMP]VYrlhiv_.?[8b}Q:yFz!<5SX9%GE5E/5Zz4K:kTj27;&cwl:'n~cR;gE5.$Y+D;bsI|u&QZC2{Q=B.,db06lf}}lMr17
41VV8lC%VBO?CUs1]V?Hg~ulQj>!Pn{s,Rh'w}jb$qxbCEe~a:U%#v&Z`h>[<'il;)$OVDWXoGGMBV<)VZKP'FvWm}0)k_YY*hwvCHe'B^zGxEjOw*Fd%:N]OGJLO5S/)(0*.qa$4u`q!}5+>Ia`[o
;o)qiwN'piX7$,7i<|Zu1/zrFS1cI=9ec6WW1Iw6XBy[aLR*1AaQ_[0~fV&}*Dk=Nn}5SbGCxHP00PFLET'&e^hE;aTu}OuFsW6?')PDkC67+Skr,e:&<4$;<,RBO>^6e'DKBxJn:W,~VS?0&6mw$A
kI>D!lQ?wGW.e=4lq'yfB:ho)+p!nOBf1TZ>%[jK_sD`'K9pfzbff&/{OE>QN5y>)lU6QtdiPNxb8YBIh)jIRsZU~&jaJO4V+47ktotFR#5(;6v4mtS!G=SV[:0XGFT6xm3&!ZQ'JEvr,,KNDVz&{{
'HoHC/{?|`Y|&~q!Tw^Rl0VV)8lZoaYE6]/{D6aYM&wyYJS&g(uKN7D(l~hMX9MQ.w&2=d>DU#Kboda=<^NXkRJbIZN#k[k+Egg;z$cv]T&rSu&Twt]Q]>#WTfp0ZocW38Nq&L(.CUu!mV/b2,3lY}
8AzVIKP8J73&j5U5<vQ!a)`<Yo>F+JKap_yolEUi*qauso+iN%t]+d_rgJZ:O~EWI&cawd;`A~|om?+rN_13..S[!Px+s`7D6h!riSVlQ}CYnF0A%cb#U:qv]f0vPz,q$pS45OSz533CmvU&LDa4^*
0Xp:!mJt=)~Sy2=wsPlJC1Jjv#!F;#uRj.ed$c7j#U1__~KDz5R,b1SAF`pnqtqfFwa7TlJZ968*jA$;9&_8ONbxWMa<5uHjbv*/$+r`M4&Q(N0|1lX_%&m'Cu/SP._xsV{_ZNUA4Tvd%KNx=}q^3Z
{IJqb5T%O%k/H+O3o%by9Bz]YP(a%+tZtr.Dz<>yOe4up4z{4$HnRXmR#f0yJ[lMA=3CE+|:e34LOq7[,};ai_XtidLV)r$a/<H%YmLJEY4'N1~_cUFw3#Zif9bR+;{QWI{`+.an/,N>y?It;G9]]V
v0XHwum&xS:GLz5U[xb]mq7xR!Rtr~J8]A<;Ih4/e?(//L0lXJy=Y5D4b7,..;I!qwEYO#x2co8!J^tVG},g.MzhFGlXtj_8LSG?Lb7TPkB(5/K^_i(]ik*B?t{]%qK(sP[x8*Z[!ks?LdRD7oZ5eq
UD*:6y/uQXl:*$.)C+Cv8<&+BMjhA0M:<MD_~*<<0!t*UHbIm_cowP]S|sHgj)4T``CW24Y.O&xvmt:f<$`EfnfRZN!a|x87Kny0OQm_WDJ/,N/DRC0()$cUZGf'XCy5[1pR:ew!](QaJ6yKy`~zIt
KfTfkG^F}HSS;3Md%Cf&2KjqA2Ak.3&u/sDh}/CN?7^3T+GT,DgjoJ'>I,_q(Fg<(NWs/RX3(~/`^%tXs0dFg7tN4FZY*z&}cVmoI,iS>mX%,iK]6$Vg{'W{?3(ot'}LEu}';3Kr90aA+l[(Rd[)ko
HohKHkU!DfBKOpb%XBH%bq{gCCi6;godE`;AzkTlwX]w?^Py!p9aHFA0ajWAq;:1v`p5!l9u1YJY<,x`b`4Dt53ynle434Eu9E;!/us`+uhW<Jxzj`>UU[qYKFaJfdjMXSla$}PI,8a{>3#:[jRYKd
fD!!iS7T7q1ZRNMlYC8W>j4Q?]rgWQ7%,DMe:Bo?v7g`Q/1{0JTS4+W6%h;P<,[?`bJOzrli6P(h2#xiB1&=b^;AZ$R;j6i,#Td;l0p(`);w;$K<p=SH,[A'5<(R!TviNFz(&t>LspZY!8^4LrbPd7
SfnsfCx#;s'g:Xv%vVW?fRl%lA{:p*G2jJWBk2hPoDrVRjBg+pL(j8KASGVFei5KynwF$5<8=ypAy}tQAd4*Cs6bEqon03(Hhi;LirH9qPV9%vuVUN}'z/U2zkIvq_=r7:Z5mJ0W=3KxZ/AK*KKLr`
O,;ou4GBbGnEX4Nsn9*LpYQma!3a`zVvr!0~/7]b.?o%Z<dr9loeEuF.|JCI3]0fA!F.ZhLhjO+n,N.RSiQS`E[XoehK#6/}oV?ao9+A`uW>de[9&UI$Hch>7pb#BPYy?6i1I%=F<WHT=B]++:'7YW
j=/4&nBAT4vi<{g?n4R//2e2pYngqHje(IUUq]&%/.R0w*u=d|.{C!TwQp1XcB]M<wt#SMw}6`7ybo,|d]EX+15h+_b>4|`1sS!|I`)=wweoS!uSD$Nrip<R$.9Bac$dOk%*|)BmGJPFcjQWOg$q:Z
~g6Josroi0~I9HVV)va$|KyD6`z5[$cDQ)8Oe5k('&Skdu7sHO>?r/5G?:*At,so_2X_h}UdrDA^%X}._T{fP~%Zu$rR'cd24DR]}nD[l]knnS`yGI}L.<ZN8x0M'O:h]zAauPo3>8m~/(!`R~sD>m
Y=Ph>7dVpv5Y8?ZfT:KYs]?QCrG&VX<Zy'gWdm(9>Wox2<XFF[P3ic}?ra:7PZlgnem(oS~qkm%=B;Jr=>H8dc!sXrcdxFc%rwY(WJ|R|%'2VcL4oWuG2Cp$V#B2K}JfR%isXRC]o?j)gh'uu4WU9E
GToon_p|$&s1B`JO5C*#x2Hb+#NKDVar'$A<cD$1yduwXYq}wk)>ml>'{`H/+JY!1v.w[5uV!BSEbxE^.zC3lj&0(^aSN6?jP%]$mtX6gV(B1rxC:=e9=`H_U'40qRRa`^kaDWK.qeU,xGmoseLg&X
mnE_05BGNu3Rgt1mba5!']3V?/JS.c[C~gtr&5MD(],eaTTAFTzxx/n4kvisJ7F/nim23K5fn'qaB]v+A!s6|+dZ)tThRU*jn%x%fYW*>b!xS2mFQh]'bjO}<5Lj27DJYX~`A%6Q3U%wvgMb+Q%0%r
&AIE*pm0kz5O5,Mi!&g'TyCzG;48XT36n'L5M,YA|DiV#kSf0eagA{,DGen;PSVVPi4Xw62F)_duHt0VO{XZXZ9+:/VIyZ26(HDYC3nfVOAWpN{pXK}^IAlr6`F}XD&bu1c0~5S4R0RE.+9J$W)2Z'
K,2!`j]{zzL=N3i<}NT3%q0+T]Q%7N.CwdLe;Ao#imHI8Q]B*azz`}2=<J0[qr*5M&7cB)]:DmXg:q`0Yy,185,7+U|eGhp<fATPpLb.{<_C':MTh0H4u<f{v.Ea8__XuWKhyWBKVzy#il1}5n`8s9
BeG9=tNPaE^|,lgR{F;1Qk_2L{oYf5Z]V3<A*Mg:I3^>)4'+L2aIVQ]*6(LF+rDx/]ly+?<j7ERh%U4]yizc1IrT5R3E02NS6211#6.'m3#hf,N8w)wfuN7p]Q#)3O#C%2r:)2nSH$!zm3XB.s_G*8
6HO&nLRCd5jF7kzp_^jW%*7h1RDpcy,sB*tE,(b.5'sC+k;unlk]ixb{a]&nz:<9|w$3`ak$;8p}]L?I?[?%*vpes~RPJE6U*^+rtj8W%G,EH5:jazQt706oQ&jwL^[#GA*a_{B,D3jFVD<dUS%X4l
/~%fQ7XWyUX0E3Zgp/EdsdX7K~zJC[*ea2PX}?/]FBcps.MDfX}[TkmDx<3.Mt<Ju~5I6U:Mar52Ep#2bkpm(KUwE4%66OfBq;+3'MIFSjs]{=IZbT$0.XUBY&o{zDbuozw0t(/ZeEOd>Cs&}P2H^r
;6crxzWVbB]U~/?4J]By.w{%pRV/7}qrXKX*7Mxug5_otXx[['E(vW^bm;(!>`XM.yZJBO.omAt~pDo{OF0q%2oAU;=}lvtKZ:~_ylOyiM<9JDh9J4H)CD6S1Qg#Z5nOFqFRPD!yR7$k(^J?77Fs:>
L>/rD:]7ii3mt9%x[/<HPY|SmqC_1;ront.in&+Ux<)6=|g*#K?D7(9.b,S%]lM/HEgp[<X3eGE'KeN:?QwJphyfWObp~z|/L0r(QCtYrWjo:pY|mb!luh+.PgCW#ex4&9HHiAX)mX|RSTMWV:Dh*o
Pq1uosO=W6Bo!c_b!BBN`n#EG;.gh[s?A)dV0>h[n?c>=NaUaRz;'&;>.Tj'BPh;s$d_ngZYoC('$uP=z,k{3L_qU$^o<425dyU8QU0/Xpx:v20kzm[;:YKwY`E.Rx{Hu8<Q^,hVv1Fw[W:3v[N36e
oEn&n,()5kPU%Fu5(b7$c2H8xp++K&dQ3%NSr<=<9wwVK;S46c[44.#Gjd3Kd~&)f3S8jE!xI[]v:~=Tcw+Y{%IA.ub_Y)|ingFg1^6xqW%Wc<9csY0s[&_*B?{~!/Tc1;1(%6qQds/!#;oMi$vrvO
<MN5Vhn4S18rWA8b[?4rsk41(<X]L&c13n%:<Cx#m$?oL#zczMq)Tt`rH+xxCBTz~0gf#hvu{hHbF~n[H4;obyATdBw`S/Azi<fS(~=pzRR;VxOX?3sA<y<xs.8ah.vE1q)~J5$CL8:Om]mju6bn]2
yz9%,sct.')jPo9aet0tj,3+sBZrn(+NS!,_qi<K0,{2~8aa5JqxoTkn<N=waTU|^fxDenSrL_6}s/';s{[j349~n%~r8qBup:;3R.,}*UF5*l/BP[G)F*aXj}u'JevOK?[~A~{f3s8on!?ljiuntA
<P&_S~xaxJqZkc}';s+)r,4:L)+o^bGS4p8QK0.063ZJ&#6ZA%3I]G$6b8|$Ut%u.$Zv,DcsttC%Tz|IFG)XwE4AcQ..5WF<28v&GP$N{`$lkE]X8<hAt|;s3l}UI:3tu4t/s>_{+>=,w8xM*=4Xp<
0!n{qO*c4P1e&DqtW<Kf7YC7!s+V&K53(a!+n;)s3+U7:=hfdBi2YH=DU.Hz3I![,.R_*x2ddB:3{AH~*s]rcC6RcBta5(A3JtS{)240YpQdTem=:dx|opGq[s66PfLzb=u)P0u2udIpbkQ`DZ,9oh
vse;vp)U]]s%VVNrnTaBpAv/sW<r!|.u3kw^kC)Ck^Z(XI*6i|&7l+dqaI!t&73T$Hz9>W)Vg4X?JF|%xzAJ+?<*l|MSgEw+^n15:EUE#3;oCQH.>b#2P!&Q/`:iSHOB0rJ+w&>yry5#kSpK;Ry,%P
9%Ln}Tu~hJP>=FS(;7_c~+]:gVBfxWAczXi1+?:*)MqCwA9TZA*$6i4=J^'A5>;W<.mYIMW](S!W!yLO:Fz6as2BEHg]{[O3H&tY80{SOe3Q([2mPQ|;ks1/2/ym]sYs^v^|l:NMW'GHZOmN=2X<xg
0eI_6oS/E7`Jzpkp_,kXO^)ARI;o%<x!8tS#IEUmI%x/Yf~i:HQ.wt[ZJxaf*2UpDc(U9cVPve||7F4dBX^1EW9!_^u..A%X<0yB#:d6UUhvn%}WNXg0icZnGg)'qAT2:YDW}*HP>>)DkI^mPp1&u!
!mkwG?Lt5UdCbah*OFkuHWkQY#nqivP+;3i/<rj.)gOl9Q$I^<jXFUVVkP7}bUeOk(|C|dGHRA7G;JJ'}*b)6YFJ*KwzP&/:XfIO_w32ebFp<{pRg^=NSYCRkQrk=lg4&>Cj0,j;pOSy?:GE|9^`1r
wpTD?[ix^G!3)rm8A&BnOrI?^~b`|>x9!>Hq+_#ltbc4[QvlK5q;],Vnw%3UVn`0aqs&k?o!qC6C:n_>93J:XKY#z)W%nVpL(%QuPX23^Y(R)<oW7Xg&8s[~qv/n8*G!%95uD?Lg(OcQOaZq,hp`2W
p:v_3Djj0I,Ptz`'Tpt)i5`(uaMSb'*jyg>&EXm830/v4jVBX!Z9Slc^<~{KNX,H|$IdkFIQRJYia6X^j;+&}Zk%l2bw)xtF.!#}8aQ{yd7A'31B;rBw*2;_^k|o9JZir'L7:jyg1eBCx60i*WeY?V
4gG(F{&!Qb<P024lW:YXH=4J{S,qC!uI*bBK%~v]Q`4Mv^RR06#tz(DA(+W4h4o6(=6Ye#`AZm1<}h<hba.iMl!Y.Oqq~=A}YdydJsY~y#zZ#lO>W%nYW:%l'EW2qXi_}0r|yRICZP}cY!WqN*h[iS
jk6gCfEN;n3G<g019{3PT1leAIc_fUX=X=47Nq<zVheP&DG[_ZrmA:n|Ue>R}SG?;^^0WJ'.LeP)ZcX|T(=f:6l!W~A_58|osWyac~6ftZ6.vERKJ^yA8&(lw!G]INs74Vj3D.j2J0B^:aW&[`%F!|
oVAZFu3_^lUN?G*^Q1Er?{QQoc;AMSGM9&`o2NSi=;KF%^e7MAi)5;t9c5io}OT5b_k}YZAlimMDqEeX4;MJvq&(/LC|Sr5/z#5Whodss_4DrZtc'p2ptGLV5/MdzGTY!xxBV;_GON=/{jK_39=oVw
#T{+O'k1log:jDNLxNP>UXCf]_FNK6t(ZAQtdK8y<1pkVHm:|B,g;ezbfk9XifBMhi%glUOo,VxJV50&q}i]o?^|GE2Bty~u(wujE}5:z4Drg&oM'HO[>QlJ{!QOse9+:oTPgP;AGJj*qpP.k;OpP_
&<97gITSIa2N}*]nE%|YF&3~QqRf?O*je8Z>N!IzVH(lr[J5#8>)A=?M<rn~CGw{R6E60$dXW9DkbB|+=VN[C6BL23idiroV7Q7d_R:5KPD2`RDZg.RNhC&]'RivPX%8dxFD<;n|s}>j5T%xjMdrhF
BeHOv&Xfq>V`Hvge/78G{fz3FYr^TObsoYCB*<VuM,0.InQ}{p;LE'GPCUW+I0P?)U,%O0.XL,A5r.p9BlP(`kXm^Tm`9`_='I[K`!DV.#JRknOl_DYI:F1zZe^Zm$48wOcQV:7.4qe2MvPs+<G1OF
dcODUQOrIBT#ka!v<92u%))Y&<_Jl:25/otm%3wxeG2NBs_ODo}Fbt5fVvw2mK^z5Vy{e{i.OLNJE7Tp7O;.'<X9RP8bH}`qJ~}5UQ9#;2v8l(x%IKgGju2Ra&'zr7{kQQ0=NTigIem7stQw!XPa`7
L)=J'Ocw$rGSNJxT)*X`T|uqFeLoZXXbLU]8HH.0Fq|_Uh6.gWa|28Z?lC1}p9b'ecRm9oflw?itl}`&7Z42Y?SqoB8msuf(Bz3X_8K%z5JWTTKDoN&^#1p_,Ma~i:Z!1ud6miupn~/zRdCYT0,K5r
mz,[vOiKi1b*A95N:r;*7Ob7XJ$*b78Ks(%mt$FvW(b+/u5H}_NFtN'1|(t&g/Ev[AMlV9+jD;iCB%YhrWk[RoyMUEAMODaWNyuf5!n]r*u<,nW~WI#P1l:MnG:sIEb[<ci[P(*&(Kl:T)YX!A>an=
J4&+F4Sr,SzmTiKjYq)v([ux~=O;QMod2*xf#i3M/WPJI8F_<)NOJY'5>wxOLGG*[2Ebp6&Yn+mq0apVDczgnk~yE'a!B}[U+>ePOEYjj;:o(jDHhzP.R=mdkD|Y*%w%BV~nyZFbhu[3j#RF?]P3~j
Ud3|YgbRylE8>6.[mG>}]hAptnE'*u8~soN%78N3tUd},)7`19E/0[P?nf7G8ny0nIrNsn2;xE338>^=>&qTo98RUMQvcFWm;Mw|+>e&qB_v|F5)J7olU;nx~r76kHO)ajJ`x1mN+Qqo52^nfTAC6%
,9<q;$W?OXG|ADb'tMy6Y?heL`_dhBnw1~^<EQ!Vi:%Bm3qT8K)lmz7#xP'l20+'6tvf)9+k)1!Azqs`qqR5mYbPYZbc59&#m%l)*(.XwhAfXSXXwMw}M~L,7`t~Yptus3_ngi#h8o;&BFBG6;O:cF
HHQbkyCz{G3=Bz:4Ic2*VCM&;Y75FY'D^:3EIEHv:Js;jfGz>J2(r16RYFk<oje*m7Y=ya>|y:=*E$*;s)kf6K;jM=DDD3xRd`1BlQ66E;j]bsm3:j,}GdL}%&3E$V`?hm_]rQA?1iqf7{r.SSm^h^
UFC[jV$gLA3::{p|^#%n4#JLj:Md>jMT)Xq=QA>t^!DWkYmoLpT*#A7])zC)1J>kyf.K`^JFT>;Om#dEyuUkN:0_uzr;vaf/sj{nMYs.y!h67cKSa7UVQ8xc[7DZAe7dtv?*E^_FaX)q/n'm)kEqw8
<no',N{A|=m='3Nbs=/TE^v6QQgL4p9KUCYSDe:Yr.){YoT^i{MWT;6,(gk!S4vJde.J(y8TTaG+s}+]!eP;:Z$`LySK:lHno]RI|,sh.In>4kT'(gWk[IK()_e`1qQn}ZeyP,>x/Q{MX[6OQ_Q<%`
,.uiazCd`xhuo8JD#c=l{&2}inHzBcJ9`z5Ftw_jO__F]`yD_QIzL=&MP]mdZHI&=KbI,}vf{mN0(Gx(tt8_.1q*Ge=nqpa}9Ae7~G<O!>ODc;gD{bDt?y,8T,}yP.2iUVBX*YdGc89:GV9}5[_tWp
2OC3KC]9n|bhtN/BLE2?KUY#y=cm8ev2j,q?/x^>XTTpifZ0;TB[vIbCAP<|H2f&,>|VrvGg&?Fu8g^FfFni<2qyVEx6FwL|J{(Ii#!.^|b?w.I,D0vI48cMESUG8wRy^#om6+6}rwCL%;=~.:EvIU
`YMXqfx2|p16oT6Tk~h(2BY>Xnmej;n/a0S7h|nv5e}D&Y`B_+fP)bU/rnAeO`VYo0a:|:q>NFy*V[Daa[[jSm$sv:`!D%nHbFRN_OAh8cW$+cy0QtlA+v<GK%7b_d*J]H=`R/g>m4^*38D7j<l*'1
Q]+X'=~3nymlKm)X13sk&ZU9i0a.U5{[z.UZBM?g$D,>i^d6jq+5?9STiv84L8}8Iu{JH]Or[d2FD)KvW4B{|K8>P(gTsi6ODDDoG~hO$H'}rKxBvO*(}8JXoVcKuUtDq.>.4:wgX|}/#yGdH_5:Gy
5ldy/dOejw$H9HfWiQmq.R,F$msNE]B:*(Q3n)M/#3VqV?l15H#6sDzZ7%ip+HA$1L{wS2Z42[wxbwpveB`<D'(,GC#2usnKOel,u<#j~,)gZUp`hs^0PJa,L)_jBPbj=6$Ksnhb3[`r_^&:RB0[{E
&Mm!4s%e+0pBn)FojdRxk=~*W&X#Qj9}t})(Z!S:#%DGcny_BkA8N>.8bW|Du;&6A*pjd,G*VV!A8U504b9a<N]f86pg%A%x[5G&H|(;#a<Y/7]8(gU|?D^+C_C=4N{%2iAyagy:dI$}<68%B='N%g
T_VsKojYZP+]/PLp}yG}DX;5,65yHmkM=<mGzLq+.Ld~ju~?m.Zo}X(WMC.<4i$!C,]EKbdjj>,/ufKcxhDCiEvYiDGDXa<_x`q3!E!`IuA&bw/`jdjD0wz2V~qmw:/msu7uwcWf`o`2yv*;z%E](b
1>II^$>(2gQLmCC.yjeQB=N1`P$|!K,.q8+['EQmJ*g?,,Nv},R,0Q}SmH1x%h^.h7Om=`bxNa=rC|jj~8|G,?~777ewR[g&K[s75jWgE&.s[JWu{rG<`0fU~_jX|c,%0jb2//.PwcN;Pp`F&z~4c$
qj`i=N&{{Plz+jr)dBWo(r|`+[Wj/$`tGQ)Up21LNv}Cati7LZdtOpTLmFj!SF}%2MQOrB([EjCbQ/59t{{gUS.5*xmEgEu_BYdm&*BLZS]0S):I?3s:&,K{ieD0]nH2(j_jZ<KcNS`C.Ud4<66XK?
Wf[N:s;zMI0NGN!U)ovVuzIAbByZp7E*t0Vqld71/d,rU'Z*k%O^^}eP414!WIin<.jj?c'zd{'B4h7[=hQ^q]4!U(b4YBW7?Us%<zghz%y*t(%VMG,3:`oM7}N)u1st$?*Zdl4L;M9s414SB;M6[j
]1zG%5Z3mDvx'AbM9Yw7)47,c;5k6~U8K}>OwgT#cxP;fOj5Dsa0s^>j)UK*3Y,y6HDOq5oVMm!;*mz,7ut~)O>Z>o*<~'}E{5Q2]pHXz+B[i[/O<%.tSNKyvAkMz8Pj83:3^>>]4h5A;p{5rJ2s2f
6v05j4OznF%D~$/5]{KAEjsKfh/U2O}_Y=O~{KmrRD%`3.a~8{9w,)(8B`LS3M!4rLN,Mh*2>/V)?Wq]r!GayAdG1F6J']#<g}^S?~VVHQ=94JJkTlQPo:!wPn%kkN^s/ChRW|/TQThui,~zI7;=[/
MisdEd%M(kFj%:aY_62?J`'),9gMr1WU~*`AiX`=d[q<6c~dJ/akY'OYy7q{]5API&G3H:bt)9l3)P4ycg~b!|efXBfGH<YQ3Erl=H3v}m>m6yC?mb8aXo9.'cW(kw:2|&)CDJlhCIH/lR'X+=fyzj
rEU&M.&SqDezGxI{`xObnXF1|$|seB5o.V+XU*a{5O9gd&'cZ]hx|5BR:_s2#M]>ddQ_.$NI$!!EToMvfK)hB^G[3KG'3j.)1r2px/q.Ek*ljHu_70y)zWqbV^p$'J<4yc`f1q%Y(x&kj+^INhWl8Z
bol;P+K9#<$I>d*kbze}X:3iuQVCqZp;]3:1MSU3^pbaTNRnG=I1Je8jSxWP;T{m`^tocl66qpy%WFdfu[>L:m}>1n~b*q5ED&&/k%uYMMZ6sTTva}^{l'(:a/of&;_fVW/Z%a?ka8FPcuF6scpdVg
(A!,;5dB5Pr5Hb^Db!fy`$+{M]M>TF8$?7YDsj/TOO0b}T&HB1j|y[gwvnL(eUww_9w5OWAaQx5oLk/pIYOW]{9sBDk5;I<s}?bE;G^l}TLor$%T:i1?YDK+gcmp9?w^q}X!8$<zKoqmEj,VHuXX0=
J1pzKl=VXbAJUR3O)<mgx%_~M=G.}f+0OF.vEaxy[RwSfGLh^!N.V%4_&2(+G)9r0&Z,huH[!|PKnkzlLEvELt*'Vl_|L{Vll7YMy7fDWX83!GM/I2ZS.F^?oZS<?dFh#}7$}2%A48%~j`V'8>n_e:
E0SY6RXMG.]X;OR!sX0^rAnFV36J=|.Fwg/J[v{)OZ542j1nmoe!7:Y,B&zjXVfsfw/VG#^a~iLj|,AcWjef:M;hwgv#PR({rL,PsVQqs{~:;d}k{:v}C,L]|d*gR)90uX|7c_u&`!T7/?n!fMc(=T
=UAIa*|5L,j2u8<'p8odtQCJ~fQMOcQ[MA*#:9}%O2Fo7wB]SLvB#}7)vecYV}bj`^>wAI+Pj&/M&wR3;uveSzvanfj#cSB_u7GfLaUNLEorq}0(X};/h^=qVfd$&cd0LhuzGy8y)TKm9=b,8Qtc6a
ZAjN{m.JVk#tT$]NK+n^6=k(#VJ5fcQ:dubnZ.q9*elks![06`uRdZ1AcIe;ZGQofY]65Ukwe8]5Q[Yd`#<Xrfw(?*b'!l)VXQr/4$1GY3f;8Dc'}Jrb.XcmB?:[iRX5#K]xs(Fc/FKd{#[m5M.QND
){(emNYcK`+:2}2rWN7AHYoe;<c~Q`xD0O}k_Vhz/Rhz!5slv^22''O?iE*6(*JOW]PB*%YTil1C6h*#TPiG,jUTB9:,JF`g[V:6~I/+xrgpZ)s?~tIB_o#IsC=t]J>RU,OqY<]+}Fm%Ui*)Xi}Z'4
OT5V{]K5Ott$cdxE.,3*%#M,]JSX{tB.qOqaRq!uH#Q%04H%|(1ETRVA6&C,^N*}5vGwN;A<PDC.Y?|,a`D<2j6,Z/R5sS3^D|)DL|1ImiVonmN8/w7QYso4*J=wrM$Q:*gzAk#?d9DgQb#QOq+}g[
|61`~obd.4<9V|&y,<p1wuF;O{#Ok}sNEZtewp;45:u'_Q[ugUf1[p{j5Z2V#7Re;2r<f}d;X?`<?EFw{7+U#)H_GLCa`VqwYRz3`,VNOEhCD/o3O5aidN[o7UV+ZF0'5Y{8.tB{LhXmx}?B)1=ldn
!ULro}46qI7s)%CuRK%C`~.x8_ZBkbR&V?>8,TsAyp:;J=An'b^dtJ6k*q0AUx^UJ^}SQX7Gr=]W[4BwwO0RO$8Rr)QIaRG2'nJ[?t59%VCUs:%_#+kPSMGv^g+PS6d?tJLm>|/WelXz,[t4V$z.MC
O~r%5#{ACOt%qB&NvNlH.[x;XPanAMe'1HYhhxj9[h1cb/C~'bTxLVa40b)tckxs_$+yA]Jj]9xl7^8|Y!IwM'!Y)5zbBmn7boZ0r{Q83_=J}$LrWE!ET:AJjr5pG~>N$8/#(m^u=pED/Ax6]FMKOu
ryy?ptFG:GMmsMf}rn,&P)v/n3oV(NGa_^C(xJx6wJqyR,20IiR,qs$5pF_ZTTi=CLF^`LN[4NRMc9d]Tq+T/F,SFiWhmqg5MNdBwR9pa,y'~}dl.^Vj7o|,~r;|KXgNsL=X}y}/nFxd{]/N<_y+{X
bx6f~[9YCDMw&|kQq_[%j<,j+Y/?Fw`0Ve?[?MSP<``7vv^E/oP2ww|.%mzEHSoLA1'v7GIB<REH)gf8L3G`&|]:nV_<DhB$u+I]w$Zj[q}7D6%Z#GH*6M~CTJ3()l^e#+LP>'o8y*q!+iYtg$H^s{
JZ&Mlk;I/VzitQJO.V|we>~t990u}*c:6>,6#w)snHTE~l5Ssb/GgEuUj^k2yA[phc.ML,zd/E]$T*7q_(A,Exy6nRFbg:3o9>VH!g^B<RdJgcj_AKrFu)N4O+0wT:^e2m:?5Axi9H#S=$w8m3kJqL
TUr:yAv.5MsrZuW;GcZT`>_9.9[7nA:n51VN<N&O9`pIq`_jCC`>a}hk9o./aU0F5+8,)tA]lq[%IG/?:>A*mY}?p;v|a/jAuzXxC+Ppjl?2f5Em/:M/TO/bBLDuSO9OLQR=~D7B>Fdw9r/m!]e^uy
`Wpm&Dtt,V[5QS[>/+$y'_%1!%0q(wDTFb3DxKon}h&lm9nGpmBbQ.l|IyYIU7=]Zp2)w/4'G*}?Ugqgh_!Dx$BHFJ8T+MJEsoG.N0~zk!G`;s.[1zDo.)s3Y?Fj>zKYetkt5h#Cy>}lj4a224fZ!c
F4UZek,g#?H^gcsY[z[AH,ZJVK!Oe<8zy=(0'k`x4o(9i6ytP#!*_xzxtJ|h$=(I/~|oNjbXuwKOfd,|uTfW0<]o;$[W9)=0T&*''cd7+To<+dJkt[wr~yEM`CPCYPHuDGkw00'6Be7.$FAJ3m!;uy
]RjNW<?Kao=J_3y0Kj7Pz)Uf{LmUs8'03}!3mgjN:=^;aLWNxY5nuvRv_):mh'&PV()p`A;0k_l2d4D126>28*~2[5p]ALcO0Ndcc%G(|dfw&Wa&JGE8um:3sA4TKRRi7Yxw;3[/[Z$!cM!9Va)Qpk
~;}`J%{0H89J(J>`.frn!TQ4S^JnNvRZ?x6bN1ub//*96yJO|`n$zARw)=TRBuBw/6dJT*Eh3)uMg>#p|hh{'y;H)%LfW1+7zX(H/WGfPnVv<.TBbhLTQZT]qR:~*H`'$[A^H(sF<)lEI7k9f%Q6%Q
<#18EpQgT;MQn`erLP))Yg,9?QlVj?<|v*TDWI%le.L.aL3a`[p<YM;`3W=f|7xX7r.)<^RrfJ#E<hM3&;2og~,)?n=rezKiT/'8sJN)h|.lLK%{gZ*t7h4:Ld&wZ/qk.#t|pK`+aGWS0BeNF|IkSP
v6d3ERYTteI|%J6vt45I=5SsC}MX5sJ4Dsh(yn8~C~#/_BU`dIFA&,G0+P&{i8|cJtis2e])T0_QX,QcY'XI.B5,vvv&pQqz)]}h#7ky/CtpG?NQXh'(jPK8''LhRU6~f)unbBZ3eB'K>~]E^%siSF
xM4u+!=Z'fs`#M&:x?{'r4JaSmZQOe}<SfvbmJr]<!;7it;0!vfVwhNOeH+v$.$[?L:IJVhzRo,`I*kJ9QpJK6?h$j01vxYxq};RL9?M<BKSF+PpkK9Jvc9c6C)3VPQSM)W/~:Z|Q:wgtk.q|h}iQA
leF(TK;'AGIboO18C~=SZDF[d1]XQnl2oXY{2.C)tPEaJlz970Qz(MnY:[H>pS+,AjiK)!3Ih;%%t=,P8GYq;J09S5nn4XR'e_m`eUOmj*:]+3hL=Idr1<BaBA12bScCfu;N9U?:JYzk^Q|d2*z49V
%p6XfNY#q%_U{Rh;?fc'1k^$u^yM^_I1T8UM:QS7XixGDuRDQd1!Sf0yqK!+`]J'^%5<~A)HW;,2h8zlC#w(w4>0ecXMEljfc<'hjtf]kPAyy?LHLVSc.u*;!JCeL7rgz}a`~g[vuT6_FnNNqN[/=+
iTqSrm3Zz+QMs}:b0U['3rf&|`r(;GO1_y<.$F*9rn9R!D!X.L{2#Lf,I5pGc0[uUOquzRb'7(0~Tr*Pd~Pc86fEVS)KmUY{j=n[2EoON9rCB([v'.])Ei~(x'U2Ujxm3nP#W}8r%#$wQsn&P0)/uv
CX$XfeQ#7l[Po3e?i.$a2BhUFH/]Qwsr$4=lXiti0FlA^/_Op}/sMTyR?)Slx(A,;lA'#Rwxw}P]R!Z;qZ3JGw]R|_tW}6BSp'P%gdY5%0LxK%3eJ/5~(!t/&1:6:FZljWCn{SkgQ^U6zh~`^`og2,
VswK<o1A]S8FX;L#4d+kSyEKU=Dv$mc4*}?I}5,3'`L.WhcEsB_T['?HUu]>'U&A[y%_&tCz%k(vN:HNp%ti8&lKd4D|1Nx_LdfQ4Am5)it}x?4|pj{4FT:pWkHA{M;${21rC1P1uIvMZ].J}f7pV<
QF3Q6jdN#,INb#g~,HyP?Yjhma1,n=)+exbnR[{+m9,cFS.TSYG/l<`#yjX})[(vJ8b!#dI6s}M3A%gc$ESwE!v,$ERYr*_+{'8wC|w!]HGTa^OH#7|YsKwyT&=#?W$dv]3R;O$G*,7pqR.r?,.LMf
W#Mj.Hb>%?+hi!UdK!bE|33AVMG2?=UjF3om%Ls?{L[2jRC>{1DH#%n{cPg/CT/+K.):8]x27{8FYJcAqTE&UlA6Wb'[n1ym&jxRQHm_{:R4|uwA?Dj[$sQu'w!4D({3+|[U|LjMXMRDiU,B6]1q6I
xT{_Dc(_BV^Td}WUcQ_}5U2H3Y>U5##phVC]R^:ZDv,&<|42oy|,7jmL&(&g!ieR,R^'Pe*CFrU?|g5^>qugdQ~A.<8R`n0)qH_+^a6^y:xQRF/#~tYMQJF$t_GP7hN*a?RNKw{;O`?G='dtKmIBtY
6^|<_oyt?=;P}:cF9k$wvXKmOemJk!B%a4)c6,ob'ZC7N^T{+D2D3:Qs{T/qtn>2^j2`.W+0a]$?>_q$2nN8`ogwtN(SMsZF=yaMnE'Lzi_FDV,2fV%lGc$)2J.gmMw1&cGLVP0C$b&X!]]Z9tR>R9
3s#uo^Sc_ciU9!$V8I>{R,x5a+^]nE>E=6x;yNA'H'/!KO`;}=Kq(<Hs>Q2)#?[)%T*jsIfPGihz&L7wZnJ_F1WXP~O4IK!%eYNL$W{9_y}THjEN8ThPc!Ok0zT^&I0bTFQg)//IE^+#))esJ214Ac
X}`:,]7}M8<M?%[#`fmc/TG#p6faZYo!P[7W/NEoFa8dO,0SCC/16#3zBDIyE^u4^Q>1em(%n_hRy3NDq+oz5%'#08I?)ZkuWD$AqQ.*sfa'iHr]rjx),,GV|!vap%,0.iN0}k]Vt7N^TZ:)Ms~H*a
/%Lnwvg5nMm3Jnpue'^+s}E_yLNe]qUOBZsC!2QjT2e7QEMhC||xl%1X`rjP#??3BjJK.rk2WsyWyGY^1oJ4OBRY6nsnlIs[v_2xMp)_ec_/TrC]r;LZ%1`8dip9RrCTYF8%di~0x0W{oL^dxGC_Ta
}sooA^=J3P{Qg<_GZuz[R8{q##U5LSC9wfcb(7aMh|nLWg,;c?Ts:GT_w:o$ne'}u5cGE|;w,DewNEu|(Up`G^|bBs{;oRa*_HY41,j;zJU6N*h~s9jZW;5)8e$~^|kNa%}Hc7UWdH~.=e^qp~*p>`
|XF;j+MmnG9|BC7xmmWY9,J:+)H/dcCRl4Nuj=DNmfH_<ED7zffrrU)KR'VLiLMo.Q>*PsuSX0+NC,[E,Rg?&Zk8;jEsr`Z0,QBAVz4n1(L'{1P.7XUc8hd+Nv[0aR&ul1|ZbB,Ac;!]ot_SJjlD+5
RDEzi+)dmbxc,M2}F*dyKzO~Tt+;SxK4{&10ZhGuvysfi=oVfoVNM?p<Gxt)8D9l_h[O(y:wWac1uWI#.4:KoD^N(fg*X#`SBTJmKm]l}Z3aAF.t7]p<&nW(wuLf>imv=MC+V`4|W}qw4PRnVGIn(;
k^peoqLh[nvsUGF34!N_;w=#03dQoQ0%~%f48}$G*JIaRK~!7)^#cy;]|2N`o/E?]?`Eqd6z(?GAeVwlp=qg:0U/nHwW!w9Wg`.>+j|PSi]:p>0|q5Wh}GsrV1Wc,]Dvk'_}b9H'IZ>5i3.hUXrj.m
l}oIS3C76YfSzTMUQ{G5OXKa6IT;$0hUrHK>5l2R*d3D'aF=k4./{yvo4,HOzwl{TPd=GMTS{]Hmul&<VWbZ>a>Mg)Vx_[M#}]v6C%PdUpDA:NsGmI|0n7F&!_F:CTU^^W+mjzYdnK%nqz$2O4T!o'
,<Xww?:1:xP]g!ETUXP2c+,V[pJBDTDo5,DG>8X4L(o{G:>DU':J9`v<X[4'VOm5MmcA>iClOM)Ab{Je3qyM8C{8[w`0p'X+GOXHOEZ;$fm{[P9Hx6'3r]UJ+;vK%}NREmnmX{{<4_&+h![.(fTMs>
BiaA`K4APs[+U2p3^vDGWWx*SI2t*7;8(bb;j_9;kZF#$$6vvB=.$7;=tK)]n8;+vtLBU%W6oU]#1h`!sP%^1>!:M{Ea.:VI#/~B&U#B]e}?;cu.7)g*9=T;rv/_65`zLa[0&J,>wp95(t~U[!|nbZ
V2WC[Euy)wxy&H&I|iQv$sGq6y8OMg&w7oiP9yQ*uB|0S[IopU=N/q4A|nACIY;OO|V)q}drm(SNqnmL!uX'1ZbQB}OuQyV=#ls{fZ2ciZ6u<=,6y(P:tW0Y&fB(EeWH=;3h)!|+g>k&FI|HsBb2iK
FVTq+pP/w'0``_Dk0?Y|GXmy/.k'$u!tv6g%V]kI}p1'O69%56z+Kv;>HPS~{5F13c^{r?T*L}D^y/z5cPMa$j+^p3b`Nwm7,9SHE6k^]jnm`9?UoAfTx*_jU$4}n_c(/az;I^(!sdE4X5i9*E$+QB
Rd0(ncCgO^;r;nH9t87(Dmt]'[AxCi<b1phf{7.]%.l=OB*!1O;fh;Ir3r]uxS|}FBOq>mI%<,QIBHo[9x}(eo1y>/FysEZT{Zm7kwo)w#O[wzz];mBO3c`<xVVk=!9*Rg#|AZp^O~>,^dc9C04HW6
gkUP5yGZi8]WqI)OFH#qT,wl5l>ua]^Y0u8`ct~Jnih!8IJJy:#EK>.OOg{BCr:kt!,fdIS;aw$UEL%OUQ8}[ck.|kMm6zpdiw~=G?o56<`21U/zQ`PObtN_=7LepL_3`>+W<ISH<8X#t7fL8*.GgU
+D?v?_RFY!DU*4;/I%=UB/ut>1u+:mu7&!NNSaH7HPvZ0u2>e71$sd{I6|68wre>8X6PHT[_ZwqkU&>BPyh&i:l6lE0!~0g&K/&a6fwrcVA=q^>Bd7q1:*jz*4<21*Je0(d)C=!I`q)Y8V^8;#?;w~
;sg}2=+|1!B6o9/{j|,Il[i?f<|TAJ/Mn3yEX7Y)0EK7F=$6f;=<;3`gabNR9.Hs6Hc=~!.x$L`QiOBb]9:`HNfJAi.OF&?8Bk2F(w(iWj^6BOd%JJzMw8Qy|eN(znPrTyJ!!c*zkd:|H]iLgiO%|g
9T|0PV[W9HKaQ,DThS``pE=lkw4(`3Bk{A#Yk4H5P{&!e_Nh/3Eh%&p!`h}l#%Y?5B3J5n1O/3/EiIDa`3rG4l>pA(bY+,OnRNB|k4_t?_m5E:i{+=z6QEjzJPFQf:?i'q$/YzSmu78+C3!}X#52Ue
708k)GURnz*t!cZEH`_o?{dc9GRUI%G'ifdX&RB#qUmKG7#H6{{*W4_g.DMfm(IYxf8173s|_#i5~Q/4`z*MwP,wq:>$U6<ofE){Y,2Ck!!!!!!!!$0||Co(}t%V.j<,e`n!y{^j?&:^WXK`(C[RTx
r:)>_5}Jhnkpz{6UT*I2MXz_}`75oKUI6ME`y1j,{+gNqlG/$33kvZn]mL4b*c+$?[,3:=)Zb>;'v?4XUgxFKkccO$Wqb~sm>wx^r?nHh=:~+fI$1l}|7X;d!]JL8P<cozufqWUkDmKH75gMQp($Le
qF~&cYJb:=gN_#>=Pgn%?!?=cAe<LDp7{;e^v}~M9>g:Ox`4|A3|'x6e3];!!!!!!!!!!!!)if7?l}WIj31bGN*/g&!Wcvo[6k#pl9Wh3;Mvm{?PXbk56~Viyz%Z/|||wE;6zuX|us8VzZ}LWJoovT
cPWJPMMP_!7JK87lvFp_DtCImcNGimrsd'2J;)])ggp]O,24[gBwA:QpRRmz=gs+6|*3f89V~`&1j#Dd9<,hHV5[:VW)i/*mTJ~25dM>3i]pR!!!!!!!!!!!!!!!)1GY98E4/g7eE&*%sQ)mzDh#Xa
)ZSgfVj<#0yA6QHXHljr=?AOR)j,`hBagk:r|9q87`&YND0a'uG<:dfis:P,[K,XRg$</02?]QlN;WtN2f;:x9cj`aSL&Mm_fZt?!Wiy;>Ue|W%0|_sD;Rq$''W6>o]9Uk*Zx{y:MB8i1<>uQ#awKO
h?%VE.#9c.^Km>OBE,`qVz!*Kb.LH0`JQ0(p[Ff%.'tHxBr1v]^eiB6;(5Olzs7].M}NG/!WKfKb=]5:b)|cC.Y=Dfd5|I]XYs>&^r8AyN4wcDUL3lFyRshA=[Zy0s=h=S]1SA/N1?KK9tJ|a{xAT,
[n{8uoSsbXG5(]MI6|.b*LIE<^_Tf?FZ.};b'eS{CK!n<xk/;>[IN8l<Iv#7VRg#jo4HKx+B6Q'ynu~:T%Lb4iuZ%2].T16KFZd9DC&6R.;K&;m6kP{g`a=zvor[l<jZtr4/~$/`%[IZ>oYJw(JTv_
ju$_GfB%*>`8>u<9);a^16p:r>l>(JDlIXmdzM|f#YD!Z2~MdSO_iYuY:?IV$QB/59(si1W&v7zHh0G+Sh_|4}Qln<f[R_!4Dw6[9tV~DGMj=[IzK,~`S^RT|?QmVY$({hQmznwV!dEs71h4K.`92N
hK_v#dnXF^x8TOyQ`wuD5R1CUm^1fMj1<WgR#8EeX`l*e~5TcC{vjCn_,IvY{!_7~o`pPD7aXQhSA+t>6w|VK'WZo0?9nB%9:|BqNkc4qvDoyl,s'ibv)oW}i!1%{=on&Lcy*7^&7Kv]<{k;6'k4R7
(KlA#VG2.{q/qAJX.(9+.7L7lfJrg|sdbTRPH$)}Mku(cZ)mk%v0cgT^byUpM+SI'oAuXgjUv1*}f`>O8Y*H72L=5./0iht'`rIQD:A]fFP;n8U/SW[_/Ij/Y;YW<$j)9G|siX71e;9m1s)4^xpY2T
m.r2#FmNGC<`J.DP4tGPT5A:s|L!gpnX<Ze|p)}Fh7YM9+fj|Ye3GMmQcu({f][A7tpV=wyx/vZlpB2M)qv{zUjCP7%/{9A2gT!Bj5lkDpX>8;]gZuI{RtqVjhz_KxuG><Q=POipr+kcmntftcjtw1
16?{'or`h3WPdb^c'D;c>([^Pv:H!Jt<di1#/')>kp&Y!Fn<v)3Zl^fTI,#j{':McUPS9AZI2g9#d/~#[,Eu341TJ;';:~$A&I7Q}|tYdt,^yA;t8/;IwNdXhM~4,Q^QFvlw(~GP/i+M0j=syHtacv
V:JTr$m(i81cZ2]K'(}1(K}).ZS!SM_{,<rEQ,Iz3d43rg+mIIzxs.HQYT$M:|d0;u5Oa60myfD?qOyI.Mjga_1t]Hhq;;_$9uxue)N?_0ii43mCO^+OpO`DN[d[Whq9z|~}i8mYAM/9oE7LND^;)I
V[`rKe<$I+uk*~Kp9&|%ra42*L){Tex]E84J#rZs=jQKG$o`Dt5``LFi1YL&raXpkx`qjwX]FLD]fISM_5T450AXwmA5IiaRu_u7E/p`#rj^bu<z?<n<?v4Evh)E6fh3_Sf3T4^C;3jSX7Q+$M~Yee
(~:2]J?S[#.Y&=PK?>9Xdl+*|i#'ln<6r}QEQEC5#uRpzdT%/clu{Yu4k)!hv:/{GFXXa<1?YYe`D63vz?1_a[tN_WvirXL;xpcj'M<%o*MpiwrU5SUM)m+^,ohlT`:C$/eFdzvivH'?<0XiOBTF:b
_y~Y?#*Ljj+I#wQ*k,==lrED)*d(?5IFV,Z{AZAc]1_X;LV8A*#qD9iJB[*63opCI;Y#k0I]sCu7`:}z93s#.[qPZ'2SJiq&<]5oLcT(Cv<+r%2.(dk'nvk|Wf#&9+3dmCthFz*TW/F0V6v9x|!>mm
W*hxE`4W?PbUl1_,+LVk,]+{4&R{=gO+_mB47[^}81y.kBrcvd,_6J]#)sW~*GHcs{a!!{(HMfN8AW3?~]V3M?})ZpZ=x`KZx,x!;Q4&k}.s15StfahFcGekam}0I;Rqs$2NKa,Pe#LB0p#Ie&D44O
^2~kxG!jDGw81,D:%ysM!nH<4yb]53|ULxT#)r7V9+t)0~uFs],`_CpO,l#^hUuenWwm&J6`4[9!=1s+Ehm<(%`.uW)GqJ}RC)l|VhCh^y[DmbkDI+yRPd46:HQ}uHg}T9?ddg33Yk^4RtpM^^`_rJ
SoB:+A^V7EqC^[V_G`:m/Rd0BUY*jqPe]ot)!=+z{SWd4>Uoh0`7g9:rkN)G6p.8*Ql|_o$wWbCRDB1KB+{zUYJ{l~$8v&T6Y0^gFltsZ7r_fDtI6wCasW[idT/]3U$ONd)de8KB]&e].U_65+9A3n
/$5K)KncG(e86];5*YB)2$b<H%Y#(B6Zu,x)nLnT+U)T'#]241dqu=)S9#R|Y#?[}x`Qyi.v9bbzknz)ng0]}[Bdsf(jQH>s(DaOsmcD}g'MoY^qO1WeF3OqVh:^fE^G4:tNpl,Zc,s'f==iTWaZbw
chv/;T/(bN|>dXJ~3/P>|XX1jRd`xKQCc%rE!Ag'%2z~N<<4)n'0n73}rUv~wHsB},$q)j*?{kk8WQJWy}=&W]vD))pe)9&rH+uAHhp2mmgy[:'DmB5'w&#h>Yz_;k<}dasIyZImX,DF#W~Qi%RJ!.
Z}tz_p%IxAibCqdfR{Urp6s7%`XS,%,}dP<#B%)79uPxM$)ryGIQy<FQV+LX?Ovqkkc)fMz!dG!N.+9QijTU<COU?^i*Qq%&]pN7e(e46d)`APN!}?|fqLWn113&q'/(AWvZUGi':sdqG4Ev[>8Z<F
Y){6~b%<;Jd3!Q$Wm2t{in7xa0ksjhai$fs08O(tPQI0fn{b1HM>K*}z{u#C*({a8c8*I~YPk+)^})Qv)uPizqxT6FC7FdUM6`*1+3#A9u_VTB%zM}#uxF>i}M29|=jpoEn<Ku{_U'<`v>&vMikJ1y
OY(5cU]#HhHWmURTx1w|.3W1j%yBnd(n%g:xgBCv4^WCj5SyX_^:{%Pb>GwpNM5c)TIGZQ7c3F!9TrA5!I`OAp%BbgMU'[AsBc_e<Ry8^a='r}SZJC!b8F|My2b#!Os]R0:BZxKp'JaK]=:fx2*NzJ
2w]b$,VEj:s+*;%]*)c*!L8AYy5PT5u+itcXWX'*8Rmy5SxHhqw8aw_Lz/=t{cBB5z:j^!4Tn'vLrX/$PivG>=Z03X3|Wi+#9:!+FVmuL:+D=i&M;#R$u%BFutS_]Sp~O)HL:F6?em?L9Sg|t'z~w~
t+QKxPStv571hD#55}BJl=aD+4Tz)8+{/{7R]8+^%Z];|BB`Ywk;5ej.bG/.pe0{egj&n=|Ta<d6U65(9PC~lv]]zupoC#d;'IP{pA?/Ma>cQg/[s~wN{}2AeZcqL|DI4~C+mv2_J%74|U{KrRYDww
fVVdkFbR_>AlLJ<f}!8hmoo!A:1s'wly^4?P_j}9u>&|BN?m{JKf8U_pIU[Th~I*idI~0>fc[dmCXm7O*5^3yoCwFW%**`x4ZhW;zM8p,vnEMMNPhsbcwK&z'HHs72#]E'6|lxY?w=cElN'3E|ykWh
1^H>kFmy1MA8hb5dXtAGX!R{^+EHnS+as1l,q9yFy}aNx|W145Q;7ahBBo4}~NA{HK^qU9W?6o+TPZM5[{mKk*]E1(x?ZooPZVjJi<CB[!7|P$%U}cnGbCE:ajS&L+KXh={/glzy'0T$nQh5d>iad;
+Iz_Z9;9&:%GfZ)jj,yx+v*t&G}}lxx'Bl<pmB<~!x?&V+Zr=q)h2^o]hsoc^bMz=I=8'5gf3^RHB,a?5cP1^k8oeu<CT(iw>|Y_.uTezz5<!Nax&<ozF8j^%n|senwJQ/&bk&/DkfB=]'Zd,6Qm3<
h|!n=BjJZ?W_R&F?U(u&imt,^F<xdx14A~tXT{Zny</x*H(H6GKU<Y<2I8.jDLD5';k|yhA!NvY_}F~vVt><IP^7S8Y[M:;aid_/][HFL`;OjY,<R/rYQXrlv>)B.S0KI!4,mxa<wr4&DJiK`L9aGe
RMv`r=oP3[ykf{sW,WETAG(P1(|fz'|d9^5wOx6Hm`u7;`o+4>f:qDYP|3.utVK2|M:eJKQh9V$^*U/W?Y~C0j)_MD`,Uz|0AmzdoaMoVz7B%;su26U1&a,sNc=X=~O<v84>obT#fD+KF%k`]9e%Bp
*N=5]%wqmt!z7YQ!|Xyx^JiqiZ,sS`*5lS%v1xIE/2.`Z?I2Mt>`tM{(S&T>*axyT'KMjR&05ZB<8]m%|.k5U*]n23.A2X;%ijwtIAa{>V1;Z^M46R[lJ7_Z$nOz'^scYTv`k{a~h=g14s)..Xk9cL
DxBNO9p%MbkdLi(#CRcUyvg,4mVAl^*hrQyjXH>/3&P3/wR}Mzi*!xvuUFJ}'dn7)v(['|jEGi<nw^Wmf*_['/c~:;yYVtL=&pkx9r!Voo43O%TUr&BZ|r8.oNeU}?`z*DnC]$,(Lb4<eohCi0O*<z
>(X'h}SzrCJD(]bNt&9gdHm$=R>F=qm5'se0]Pye79'5+GB?3(!^XV2nW'TUh[&2Py17uzB[V{H<sXpAbRCNZ}rsPvu`+Gx}]}Oz>R|%+x~VKwh1I2!.zH;k>_'GsjCj.ZS{>F&<CrbcG~M;t~QrC3
:KA:8?iGDesIs)/wF|!e^EW4<4Iz}pZ['gsW,I%:F]N3y3G>j&}]&U:iS1j55]oxtnh]P6j#9d;R$5V609tL#viX0eA/v?aags!RE7#1G8xLK5mke)RlUN>s+<|R=zPuA^30!.z{*W?ix[SI'Ko=6O
)t$uWaKDY}q#`b1H>r2Tq~_UYk|(cylIN9X>$[Tc*v+sB!om2*94]rtS,AZ`QQ)Z'z56A3,Fd,qAKC31784ecfX`:!h_khjezNu=^oBNKc>j;rU,lxAE#](:7}!c%$Q4Uj:z4C'oq9]xex;udhJ7{i
5r~s.sTVXaZ_aNcYJC%3U!etAEU71$UA4|(lVg.zTW3foI$%k_>BX,vTn_q4&:,zhM'fo%GqoW7pe9,{0GU;[}U/_0yR+A,;},'YG,Lk&zf=r??K<3Wbw.zAl_$c(e/fydE&{.ba?`qPxO$P2j(!()
(LKMsZF6L=}nv{dZlYHXIOq60._O,9~k)!uvQ3>Rz_>oo/d&V1n$U)}k_$~!M]kgCbvUF2jXn{NNqRv~a4=rh)A(l*:Rd:RV#^4m*?IH5*r*<B;TN)SC~NVZq(rdsrK_d&1(FCKBze+7LF35fK&)oH
}sIdlcsE>ADQ=y^b19JUna[Qf<fBj/M#N*i>d1lJ_3UU+UE15q~Nyoj&OmRfRt~*KyIt/L~EcyVomO6{~EZ=)lxj9:;|Jk,>W`=B]9o)MkWkQUajZLEPK)|N)VG}>9HAs$k?*5TXt=YN[?^*0(7|;=
&9fkVrq:F#02u?}=aM;ffk2=p_8YG:4;]7>l%,q,!oOZw928M|C^jcE5|S[.r[Zr#4^?w5z#9.x}WRSXk$a4FA0xWVpX[#tSk#o)+NmWF6?o/4_b?gp{c}tZ,AV[>!Sd0_rpZXe2jG3(_/R0)svuMQ
iuk'&?Wp_HC]/y]0,SN~X}SD?kTFgsmlH~1$naz'cbO.}6(Fyf66)JE#)m)MNmLJ4CRaAZ[^hIXocd<xufw7.{[N7;Ok(F$<?rS[nT/4fJ<!{t.Ha`KV:Vaak}d$Hh][wZvn51&wa%C*8&svXbIM1Z
W*eo!(0fkx#`0#gLGdvT2.3QH*dT|i]~#LRw?bnaMeL0sFE6}{}|6x*,VV#dv~DcRuB{]%8tYkP_~X[&s/J<+:Jd;!/R3J!&0Ka_$<=SQG5+*Ts6wMkPX7&wfn~h0eH2(8~SnbMl3~veZojes[5SRv
{3pNpP<_JnUAwYTy15|HkfgGxBX>6kmC>w{4%8N^xp7~u2$XpV_$*rCs?+%;it!P`Yb>&0cL;8bQ31D:rtP2b5fM9&7r:aiQ15S.V?MxV+bVTFB2HTz,2V#1ovcs#d9BB;R;kXyT6=0/rfD]QbX6d:
&?w4?~>vFdXK!his)!iCo9DPDjqtVB_x{V,y/o=<IgAC(N5RKbv~C~TAD!>A~b8^yI(8=/M&I42VQfXUZE,RFOqb*[%JBFpH|u&|cz9aOYw>|4;X^;pa04ZnACFKE=BI58/y?5.B>;y#X,<dEB!$Kl
$0!URvG%:j6A7g+3r17wO{#*sH80cjo&uMQzqaV$;IB71BDq=|.g$h^'RT9KQwu8!}!(C13vWkTJhu_E+*!wW'khOuH&aMv!yd]cT0*oNLvZ!oqe2F+ro;Eofl;GBA];==1|A;%;.pW)gNRIb?qw#H
/c+k(Y<iY][fJG{kaK=%&(H#)g'EP(Stdp3XR|a.nprxbvc~%zV|{KFKj2J'b=Y&CRmx>v?K/XL/b7Q?gm/W7P=Jz;'r_c0drFCW^XItV_GG06Ul:F>'P%&ctO|)9c#NoaN?6&#HX}352dVbg0=qzN
ifX*%r+n`w[Mp)cJ~%TsikKXs(faq+?{z&^P73X?.jSjlRo*.AYh$7|&i01SWxakFQlWr6MfM|AX|$uD'l`F|M|$&|x~;$lM2n:]s_5+RwerKiis0v,341_FN,e3o6uN(*yI{bc(mS4gS,wE]hXh<N
~vynVkX&?^Fn~E4Oyxl4r^e8J_?|#s.6H?M=7!Nh>2w1XVI7XS4~4%y#~;S=(&FW>f1w7.D2H9IOAR]V9'.ef=Mb+kK9kI!MPYfmsyg3j8|p,b+?<jd^33+lcdb3z}{/np%RJYI:(+E|ou(yoon|j6
P!U8Lp=UEPh[lMP#0fa|?]31Pq:8d&2+hq[Ajd'^*]b8b%.J1md7ew0HQN1~yB:Qq;)La#<W9h4nRFulNL!p/db[NOK}Y%Sb!q9<1BcVf0sZYXWrmDUbQk!Ztf|QPIP05<Oo^VfV!Rd%ZN8]Zwk|eb
h}[[!A=5mJ*x${ssI/v_1K0vHm#7^`q~.sk4>Ss<B+${;`H4O>{lK^W*4T7%|nLhG1/QqczFi1$vbPoNvsi+&~sx4N0Gdt4{Yk{9T[]_D'k~>'=~J_av?.e]PQB0BeA28:)3l?OoBE[lYi/m*VH_Ty
FI+?AlR1Z+7>5e5`=Ia3amqTc4Y;~.'mlh,diJ|<HiE4i4nYkR0W/hmQ^VHy>129)y3oN<2l3#]PFxJlXo!%cpKGpU(*KEkAVu)j8g`Nw<a$VeYGT1s/Z+p984Ndv10]G<(r^u;~>P&Rs,1N4LT3So
4k{Z6;ESxM^7XH$)t6a#ey6o_&2~'ve1YSPIP>Pn&&jPry<^Xls>NDW+r]/xJ7U8TuLFy!$oKZ>TNIl,.c3ZkIdA*Giv$'Pv/46L9+TUGH:pdA&mwkhcTPLm>z]?'Qg^uy|{6TCG{%5Bv(#rv&[EFw
OI&,,*pb[Zy/'0B(tV0~#~A(;BiqwYX1a;Z`~SUwkUYWyBgswl||#]P8i;P',=V_gj{].]`HFV~1gG$p7%h:VIb,yT?Li{}d.SZfq)xnpw3:O9aOdn+GF.1x{$t^rV_eQ{x,4;?4dJ3SIF^gcwhFnF
L,{!'LaK*;YVLu|M9{JDV.(%y4#+H8Qrv+Qu#!J%Og(DCGeHOJNe[s);Q{qRJs%.gZH5w]T%lSPY{6|h*d>P*6mx<MNuQ<YwKPJN4N``mC#l,?}~[0XVI']I(.{]8T/:<INd/Tr{`=R'!S6U6]<nR|
4*lx59%OqhVk`9/?5.`Q[^=:Bl{a,4]R'JQPfgxfsZQs*h%J%g}n/i1h:+e:Jh*5(gB>QhO6g`U!]L;vqg_t(xgzSdo^okFciHUb3_HmN^kkz'f/}X#X=9NWo'%L:D1$|>H8D6/v7wVd<R`I,mvk.~
k0v$wldKd(0Is|5eKHhC,g[Mp1w1~$fdAtni^:6qPR'>iAufxvMa])UasI?|Lp*?!dohDMbt4ey%V8U;;Jm{j_Ig3K%vwh7yMINIQUAO6Gi8SyBUFw[Sk=`&~Z+GJ{Wq/;~:?8t=<Un[;j&J^i>JHD
;!Y#+'Fh<l9,8q1gNA!ga7!QPs`XC0d9&mJ|f~9.x|Y2TGf#2:Pe{0z9Fm}HZl$wit2'D|`xfF:%Q*.m`z$>P!G/Z/Jo>7r4DqfcsX/y!L$?sP6pdV($O9s3#d7zP6k6qLf6N*]y.!0|<&),F8Hz2%
`3T0Tsv2SX|)s/chu[y3]EnK'yuN9S=GHUSEKjZRYuNA|ag:$Im&,Uh&bh)n9X?./Es76;f9wP%j5!8*zm0?7~;2m)1c;!leSkL/ZMS3CnMUw%daJtZ7=Z4%=QX;o8>{cRx6,,oCW,u:$>rrLM]R8[
AP>5LpfTNBKjgfPwLP_yM<8p[dmQLScO,(~Dx00ezI~VDkW|/Z^WQl?/}X9]g*`e9J$U3g+*uEm0n_.W6uv+!6mJ;P(Z]w.A4if[1?O8X]L2Dz+&f?gI*}s6$h<MDrA/Fr[w<5$`KY^~$MUXHBUv3E
,.{kxA;H{x0&VjYz!D8mOLS&>E#r0i?q,D'WEy*+g4jb'U=KwzjGNRKNR2PZY0qLe2Hupxl9~Yl:o)_6|kZn^NPe],k>aMg.G6i1{U<iNiEG1#ivp,3.JSV<x25a,aMq:N=^k%Jykm>eCh[6L9*9'T
ig(qvl,O3(!Iw*^F<y=ipIS|JxxO39|mZ=aBm<:I/o,N(URA`Wz!7M#a5ABkx_leIj4q#/D%bdXTy[p}{[C_kdx?NvJaz;_vAgX<Th3{%MWvL|y*fQyx3|2URT}<uROmsjCo.YW{UDI7*(xA6e9J+1
10?KXo8hu8t^=ug1<`6XgU[l^]7Fc]N6Lu(]##OO9_lypT|t`'e]xZr#b{9#?ry:o8~}c+bH9DZ'(NhIt~e4)k33}9NK_afFn/]7Jfj`G&Q5Rp&&[f2UdFi{eD>Df1%CZ[`7rG_g6sn|?^%ovy4fxc
o.{l{}#7nfj]ptwFSHhp,v7jS|~<U]k0j{u(xGVSG&eVuRre8h)u1Wt<PIP3),T6;GU~4yQ$CS>j!^1/O48^P^oS+VYwZs:,))&wLmwJGl_{{Z0lWR6hwXE#[?5mk?Gwf/q($K}3%x=A09Tpb))ZbL
y'7IoCku;nfZL5Mre_/3g>$o2AL)dS{=G2+GH~pHhc3dm,Be5{Ay>gq^&IZIh$s2H&f|v}Pe|;)[O+[7zXO&8W:f<=Ii*)ttPFgI}L}M[Kt1T#xm7dV8cw={(1i):~LIS]0C#Kpzq~18UlGkLcP`jc
vzYdyuDA936]|QM_Ss[nZ%ZU0IF6I+.Q=WiEMX&~iav%3sv}n<9uL3AxP)^_bcUhQMw8'f6$v;G`<hJSZneKOx'sn!P4GsDx~C~L2MIu?qbiu!.%J{s*8FIb$o&N})TJtAelg!f`T0<NwdEsS]Crj%
+8mH{;,/Y/$3`MQX<R;[Fm4'G~lk/gj[rJMB(EQ&z:CexA^K;u}p%]xCPj=C%y,r<=3a+>nVa0OoL{=Cu=Yc3DU.Rm.!5Suj2UdT'0>EW{.q8M|;/vVdZ<HZAU6Znx%{SOd`/V&C85Yxv6CcPPDlCT
sx=iw$q4:*IKuG7[Vaxd,Cc+>b)D|uaN*'{6EW%2(SGL0P8+ebdkqQ(VvQ!!7*%Vf(?D=Xa=gpT&]DBfO5'(DTw)*,3q~QuuV<x,oX.:s7wB1<lx&)c}%(W7'.N%}ZOCDkr>93]Ct6S1?B]Ojvx<2_
;C$>pbz#4Je&bM'eKs2~5ZB'+qa~KW3`2(ui(Rf=f^U+15[i4X<XO%Y_oEP0'.H9S3,<#&pvo!fVaN:ak{7S2x&*1Fo'Xb1(IWH;Fkaz^bZTZ.(e+fPuq[DJ<j]e&2BO9&6W:P~T'`2N9'i{9MqWP,
YAq/d%TtBC'xK6,BQOtN$$EI.,Hxu&JgDT]_=n<>:,I^I,om7AXg[uV#Xa5RSNjywk]]hiI~5{,#4ug~uS`5L,5+A/P^%`'yobsV]=yN=9`k7;'VV3PsJxXSn8ZDsUy_>NuW'X|bS>Bxmv>svBk6*}
$F#aOBME3F2re2k68`|KZCsE`HT<jwy?VGJ=|rU^?uXmd~g&Qx2fxC<!60_Q>0]dyZdaj(D]5nYHxXT*LgcDYU:)d^BXMAOSZ[:2FiJG8;04j,d)+rLFcT{'+7(=s2UymI)d/6(bu'FHhMkgnjB6ii
1CLG0'KF]HFyn:);)&TPLmNPnh1fo=kcqBv}*p,,QcVX#OFGDT.i*#tE6}b)L>FQHy^xfruGz?f05St%$h=:<hwom&~PFK/rY.QBUx??7DU^]0/4q=04e,#kJx0IjJj{zu.Iw`2Qx{uSpL1X<c3R%b
P$*%vaGEr:Zr_C(05yKPsD&k>~0[*m07TY1ngtgHP9{E)hno;[7%%6U6Yn9Tk<Ns_OC<m]H4R/P+$UI519cz$qK^wqP`?uB%INa^2XG)|d.?]Vs3/nuz/GT#<yaiP_/uOGgnteRs8kHUo?y/]|gEC1
<]t[{9Otk0EaZOBNZpLM0#zIA`s.EU'*#t0|a/}W8KX~CWFA3nwc2BI.:J8jbMImhFvmeBNe59T}xU2^Jh$`V`9DOQf[}cNBO,R}>Cc?;Qs:Sb(5lzqv5{3];=AEd%;M8}0LJw1*n3_Qr5GV}26~hU
AV!T8BLw]bh.a/mcbRdeyaU~<p/S7H#y3/Qf'<}d%M$+ZM`a>hy<z5x)2_%HF|Ty0LA)`pbLLCYv'[Y5]l|l,aR+VAoYa>{`:bL()sFwnu*o|tuT7w^YN~7[bP=b4.AdH;,]k!m(&`IEp}%w5'cnjx
G5I;zy~s7>6~_B#Kdc.:Sz6V4kv,u)Gq5DtCYS!fMakui}tq{OuDJf18*|UT3*q~Ji(5};wzz>b2Y/DbrfWoHD~!D<*]7_>~xqip5:T&3mA,]w^(]AE3S=W{h/S=u~ffx')v$*,SQEYx2NMaTtl~/,
Tl|swEvpN*Sw'M&9*XmR{A}#<h}nrJ:WSi7P^`vl:7[TfE[[XF*.(yo9GkbEw'ru8FU>9<VukQp8u$<1)iw5W1RF]y0ee<asLAV9OPURdNN{wy9k$M49M]h&W<S02_9]{>17ruRZQu8=L1#G6:W{a9
Qp)!`m(4!2_g=h:]nMmU#D&qzadnqFj%ys+.i+9jrl$xY'^>y,P''!oh]%dw9FrVX;d6w$.ZqhV}p)?V+>JFJ45b8Led5x5CLn1*lW,6|DVUQfepmCM(lWDa$]fDg;:eQ~Hi.S.&$vo|3?mLX;Ccr5
E54>{&;.s/$J|3jsz[Jub!oq?<$fG]n#r;TUj#4db+PFrEyGc=maB|FzF5qLNqh~?JRV9R3Ug*O[ruL.+!;^OEgkjZBMe1_A^[6}D(b<(l3X9!NO:bdKkXn}+}eHR(N^cjdPo4*[jXYgZGn|Lc~(0c
CeX314M)Qo{U;i:X'VEwh!a$S3gA%,:m]3.vpv3jmQwDWX+^R0xVA=#AkB1AS'by&^hh51u8eC|KVEei:/usLVytDH`rg];pbD~=be3+<AXVd?A/Ha*jd~QLzMaGxjwjPN;^7v=3L4/Hn,5MwS_TS9
T9fuAv8H%&/lOhMxA_X5k8J8AC&UPF:I&64:kO;4K`joxHvDO98R;*wx8=Y`shNkoLHuh:]uo4>.oDb/^it68^2P.Y^E}K4TLBas8<<$1;^bx+!AgS3AYLRj/yp2#q3ox.2R!h=X!y_I}?:Wc3L;h_
|>}^F3tqyS=zM(N3h<:cfA!E5D2yy~|kRQQ)nY[rLGWv?Va|HH2xJ!l0~Wx06a<A(S)Rh]*1(z3/LA~<GJ2Tw#It|,4N,H[$*A7BMft!y#^8.Xql!iFIypeRwtQH]v(UcGeRcAL$2h,Q<~)YvE3y83
QGJVe5=[BfNgmfia^]xG6)/UTA2n]^O~?KpF!`$#jlXr:~z8:sW6OKzYpBQO55c%V{D>P)g7~[TeEy7ERK3MoIf_84<4BypTZR)[B}|%;Zr$9(Y?`P]%NdH*bS|Jq3~v+M^Qh!1`;/hv*exx>n<[7M
m:}$d[~9Cf{Y2'9<r2Tf.Ax'e`FmK_~UFEWf=G1L$?Ep{OZtT8tqu?:;CMF2[8?M$)9E[IZZn)?5M),Cn;OoZ;?qc^o}Qn2y_Hj<H'H:Nhq/tuNfn.7eDbv)_ZP,]j>*_.kHY>_:iS+q$D5}%7=L4.
/=$Bv|cFB9l[Y1+]F0]>No/X0%c.U]|lM!PX/+FuTDm<sn89'CEkb2*N/E]i>4u}{A|u6ZpZIu|Spb6di'5T?I/mB,X$;Mhn^k`m*+ax%Sc8oRYj0z<xYEjroNk5oiVl_Yj$A;1pk,;;GDu}!el0nl
ack=I*DL|?#qHzS$g3PoABKf:G>vsL!&WpTBts?>&D52d%PkuKcN:[m^V#&v{+vvRI+JhKb=BE,)m3~$UcW%h]/&YR$M1f?TH[`P}I;5N?mU,K2)7C+z~O%1e&PFfekTUun~CZHT2$QTf.Y~XpV7W0
~<(b2FxA59gDXW7V~=3pN8<ClG16=<JMG)5b~yQuSCTvWSUK9=0w<1_:]m^}..NJM0q=g.;/i|MnC(e+FbLI(Wv5VL{P=f>xh4c|$2lsBUfiH'|v1b0Yg~4KEFtz%Tlm'<f;6_*]BDi`DqV=9X.Z`s
k2dEy$To#udbl`yyed,.+%sb]QcJv8xS*hjlfO6k{UAb*DLr:)`d4`3!eR/k+qSUkJrq3!m26R*A?Pp')*PXI|n61~?;R5{c(l7Tek8Mi0/]}qidb>ufZkq#0r/0(V{ytNA0E*p:>5V!kk4r[cO?5o
OO?wGbFSx7F}5d1<NjW'AB.|5yNQaZ9S858P|Ga%%T{{Y}>vDg.`*I|nXqLHs*V~w)yE43Zr}.kIHH=}^>9Q/I`tIjClfORYoCm=A2#`5[]'3H)Kf[0q%dL8gEq`G;a_EJ~I*}(R;]^O$:_$ndmduf
ILM)1;~Q$gerK.bp0zPl4laB{R$=W*bci$LdER'QM0]L9L6+cLMS*{lnz7Ez,~1nDm{2!V<uBWR#:p&326Zk6D{?Zr5z*}7h6'X`mw>uQ|V#,jZuYB/u^wK$EZ(nlO>(z8N)i'b3Vfm.td2uD=NKKP
*Py=.2olci,VZ9gHCcjTtVP0;(B9hH78`D$^SqU<5hDsLQeTD$`{]?DL[spVa7g{uUtfQVkGSs/B/k8}&;gYq:Tv9a/Lkde,{Hs:o~I:YC&fZuFx|nCt>3fYhS(iQ1Le,NQOnAm9`,e&=s4MAMj,}E
*51!DgC^m}3)vrcgdPj.}a0'~I<<{sy4L5t&iB^|3`iu(+HN2|v8n:rD7IGBXU[wib!=>>#<mF_<Q)U}p_v)kyk'$S/mr!Z~C{^9Qud?(b16><q0Cb9XE>6#4p,s#q`.d4T}lZC/'MjjCWMHCO|9T4
wn+%3|?6VWLb0>Bj$jQd/8HoL|5ytQGIhas.[6_8:(|zeIqg?y^h)w~W&v6U^Ui2X+ac>a(*^RE:FwIqHCD<a|}?^a?U9*B[e1H=<]X17|=2m8I%3YG~jgAxdO67ySLJAhc|]1&vXzI;{83|dBHq/<
xWH)})?RjhBdgyC{g:2`FD=,L>u;mSlCT4v`QMBp.]](Tdm1C7txKfrY{CPQ0=&(2XNcQe5S~c9$=_=d;uK%,?7,/1.z;HR(OYh8*r8;sC6qC*[AFRf>vya0doE&l#VFL_WNfVL3XajE]CNW2N&(5]
9SUMW`:9F=0:r0]?m%|',eXE!hk<zLpy=3+vE<B3d=9.Ct?+[pCh|3&0]6!{meA]MCU<IDw5c%.=|kx[I/v+H*sDx`{Ax}CkNt^0;DD)_vXQy0u4T><{}:|i_>|<UD%Hw9t+Xo)sFl1g25*/HQ{ia]
tQ8x<JM)CBP>Ni*:4{aX^oDr`#/aqh.CPRnTR8(n5f>FY2F}Q*Y5/)RnR!)>D4+q3>r,*pDU+zV+,Ko`cD!4`1ra{m/Mehf?Fdy&P0R;4(fbh6LTst3~ta[HOi6Xt_jk%)>shiiUTo<LgPu)}G_;(<
F+Iz>^KMrFJ1r=#$xs[maf(jd)E5fy{E}_K>JtUgRfK>t`c.1aIS=ejlT>^SWRR0eJ/tef%A{yi!L2,UBxLws&}tV0*?gw{aLh_l[u|<v#]?;V.Gon{uwRkp&yew,3Ez'd~9{H>8n,qlEQLQ0E~&l4
hhPe9Q,8'0fw*Lu4?)y,d$r~Achj1b~Ow#8epoIk3#?cRZ^fBcBFQ|(g0pm`tX2hA6n,P;5o9eK4}idNi|J.t64NLc>+;>yPMwf80aLf,af3?HD^XXIrP3W^!m$2P!#{:*y+MO}^!zNMiDD(dT4&e~
Q#4`2^2I?#b9A0GrZ_#ve&ioanY&U.zf4JVn[pTp]~7h%]NLn.p4H`*Db[Vc~oD>ChlB87Vvj?j^dfy|z%ZPXtW'1Y)IwnFd,QV:,5v.RhriLEAEK6mL.()2(degF)AwzT/:b'Fz$e:{>(}{RgHJgY
k~TWfD+#dfTzi$sl}0Rv&pv5#'h}e=_V)5xnTYPw(5MMz^KEd%0w<.ySA'WMqhQV!#XN'Odx|lemKL||!wVS(lxK,V*8hIX=C^),Jj;;Rmo9|i=.Ms;4U|#7R~WbX(UOjbO:m'o[l/sUmzC2[`%Vi=
B+D':'9S>V_*Ni:.4lj)`,<&$DpH'2Wb6A/:uZq}W~FFy%WB:gnX|EseLbpma*/SA^R[nxH>{6U}ODy8(=.7x*J+g}&DB1m#Sbi740boF68s2rE3(y!hq`j&K}+>8aBu~G``X)Z9hNzE]iQnW;Pqfa
TN*HU$s=acq)$;!HIUWg{6..6;D+n?DJ]jT{SaeR8(+27Qe6_qo8##(E1!yn~0CLfHuwH7*I6>pIL>z{CRT9qH[y3JVLhK/*7xnd)cIN~8I}<VP~nPpN*VSVF,>K;yJ9ZG^Ye>PhxmzB=!a~<H?E,*
R`F13>u]<o6v*zkk~I_lp%`Crkf9a|*RnDG~Gq3V/97om}#dz9X1zq}Oc4$HJJM&YAbjB:}uGLF6FE8WpCyF=u4V#iru!lK2<t6!raRa1!c%1YM}AvAC6_si1&LMOXnLn^#bG)n^i+&'N};NNEf1%l
Jf}3!Gp!K`XQnm{e`4]||%OJ:sO)vz+S6i8*2C(2[T&Npmefaj')N/jzBqA!=qw3IqOT{j~ViS9,7sKaF&3gILyOTsjnum6nzX1.ud1O}I9?T]awt7Ak8!svFhp$%<RQ*~_0W98+xF7mE/tLz<{dhs
Uuhf!9{::LJG&LI$J}eQijXw24>2]oP_7_/K9nfeBjhd)X~K23KjKo:&!=/d^EC8XpgE%V#V%e{+6E2q3R?>r*wv7ht*}qm0l.W2_.q$e<].qt}cyOG$/WUG0O41!nCN#hC%}P+*Gq]?fnzK*9hv!3
6x'*Xcu?(_1e/!y%4NMS*?lE<~d[yfl]F<Ps$l/%_g{AN)GMPk~wch/h]3YBSyTfF_swK`TFwh99'HQf27doHa,/m4`n/D1^YemNOr9OOw5v5rpJ^Xv?h.'`i/QDhq$LJ=*1O]RXIF;=d$[bO~Gdi3
,K/ZOIILe5?_)/HI~LzN+4/djCknohwsr`<Z!(PdjkwJ9o*`Xg):5.J?r[,BDOShE3<cr{f7$Gy|G3T|4G$W#U9Ij^ubU28wV|}!.{AZuhotzQE9J0p)3),~`X,PrC++oGC$y]RqvJ5_r+M?j9T?d(
j{V6}Vyk</6nlNb|ofT.(!sXb)+[Y1noHhzpkwti}Z&#bi:~aR)Zl=h!f`Re(E>'GPk(/TjH(7ga^mCQlcBS<OEa&WIP4lkmf;!vwyBTWzt<QOX0(n?KjWL$>J}`.Rb]7#7.5_:DP(5r1g)VGHNC?<
V1oSy#TQK;sk~pvtCUjn<1tnDIy`Ii|BId9{9X2^M93,&G88!~Le#j?c_)6gL+7b#u5?lPq$9^)9N$!1N;M`RQYb?q&}R7q=w31Zu|r5D/iO?e1_#n;%RSpts:+Fr?K&L&AmF4:rmnunmN_fdB{|ho
zS%)2qn)n,?$viS]oUSW%b`{iOKwqAl(|xP:9){RJ2yP`Qm/3p?xHiR<x~e01$]bE>fm`JIx[,}WhQ$/hLWi(2yl{gFOoS|g)qjW$2'Nhi15P2a`a{aj(2!]^vCDA#iB&OX?ioClWr^wf[1B[Ep#L5
ptWaoCyR(9(Taxu&1scZ{_t0p+fP'{Wp*m_]x~%qvS)*.eFaH(%w]jD~[HP2GnUY_yI`kIGvC2!w3H%l9vE30MDcFl[RVonyPNd=qeuu!X#&pDf>5A/)aIpia``PzWu^hucY3!!j>yQKC7,=L|fO#~
9lZhV|1^>].KVp]|Os'YAo950I&gPLpd!cV^u!^T#jbNiLk=v'2RoSD(Y&v5#M*$_gvnCvO$M]gM$90X|1W9(~4KDh<P4=;O$!lE'&_/z+|sb)M20B}SVIY7k/Fxxy;ykbt0s#XLM;=4MBmZ{dE%f`
&f#7X?kbV,2ovDd6O(!3u32fzlK>RY:#8xI)eUuqQDJC|Ve]1iA^[6;5L9M4GL0%gt[3bpB:]FtLe|Ss}5B*wVk<J(Pum}`r2q_;##d8>zpww`6^u..d]rNJel5=GKY4g`eo}{0Ar4Ujmy,Y.s,92s
a2nCjp|.8ce.jlRo[{,Ai_J8)'1hz$vT5l){;v)3}%7k{GWUF9qs_qv5)[vYoQh`<hLR?]a1=`KWjF]p;m%~GWcY?q.yKE8X{4H2zGd49*<E,rg4B.Mu#'a,F{}B!/bVY/pDYB4;84$4ud:q_NI;[m
;J}ng<F}w91Y[#euHL_p%`+ES9iSuGW[t66Pl'et9UC?ym{x~8kNDQ#;Nb<8Nw|HBJs?_[Cc5#l7?;n4&#>5u+M)^61K5e6eFk$=NkLW01jU17O:%yF2W=ZlJDS6bTNu'8F;]NF?^apZJ&}4{}1*~q
U0RXp().fu%c*,B<O~kD?,Ff6ku{&?l'`o#e$emAgi[rg,vxP]f'7YzVGq5X;G*X}SUG`Od%wsDBsOmW$#}7Y'b5rvvaW33guD9XBrfN~g]1}JVU1t]GY?Nfg/,*Sv?BqV0HV$'N.:B<r^mIQs=Dfe
vx<_F+)kx?[AwJghe{>CiOOQmzrR0gow|^1$g,in*>x=rpss^LC|&g4I.g>pl?aqe/WcA)VU8xQtwh]t]TvG*21<2FB24V0WAt}|EwZ{u2fD=}&i;~k2THfjpMu]4bVxWY&x3;'{Z4s'u|veUM1bpJ
hQI4;Ow)A|)hz*[?'TmVB$EUGN(sA.7knQc'<g!ac=8B1$(gx#VViwIw2|fE*I^q*M(0?ynBwDz~iq)m0U]$*_dC'*PzXF]Hp,heskZegF|,!RVj`T#7NcedykVMG%v$ns>Le{]=*}]}DF(P)~lpps
CSI*Hmrc*J$N}L6p]6sd>c<PUX_mNDchF4Q+$,?hvj/ZNrn)bP,*=p|W,=#I0>|'%jTjwe2~Vjq3iwQK3M$!E_{8x.=woW,xeZuN0g&H[C:FVVEIlP>rRnJ9x2o?)7_(v=:_er`H$sL82_r8m4;$.P
u`8`bASb}B)kcZ3hL*aC}>/JuX}JIeS(]yHb`E;<!o^rkQrY<.U+`CYv*(GE2ZK5^DOGoyL=&xSCvka1w{c(%Dr!BDBQUh!Zs`x1UV+$xN4RDm}vFyO/}aJye}2;WW=;J?ZL3c=Nd'*j7*E{cwF$an
Z0XkP{3n:;wvWpd,WNsA}kG|kO|;YfN|MG}xH+#SkN9&V[qYCa_V+{qRfN94S{5/I7'/RC0YcyQ_Mc_LTTve=R`AoTCTmldwc*6:uXUp?q]O.pBqAQc;z45CP&!*uq1<VUmhazx=Y+O)z=y}d&xe/8
m?!kS(~1t18[:R}JK{L}+qtMHi!(OIhiH*DNTht7y?>y(;6[%2Stx$^{c`kFNkWtSQh~p$Fbmdy5Mq_fP<X:vZevo%.K*KAyU_p8fw%ACl!EejZy3iW*shn&|)U=C]C;kIY[Om%Xj+{~sW4{<9htH]
NmfS.]AOlSRiMXG}#^S)}o21tVDb{>{;Wxcn&jdNx7vY&CHFeq=y5)M>S~kWSC&CML/`|(qF:n3{$]R7o/^Y:k4S9GeKZZV'%d:od$[z9O>[YDf^2Gmhr:Q0kJS<f:U+,R/yIKeyTQh#B^.Fc;D*Dp
Z%1rDK]&:;#*ra*[9>WG_TgIgFNNQ4m4;s'E>w5>L7IlXqTg44Kf+H7m~Skz%$(v18YHIK3g%/k;!f/#=ioSbmNoEH#*;~ZCO.4p'd^eFJUn,=#g~?Ko'oFo$yb(7Vom(tmqwx?Q|HzJ/cY|]|JATd
[m[Ak)vL'R;*=xbGnZdHgn|)G,DqrWJ'~y||]Z5t2jO^ZNXj`jBYW63avOjCxmIkNl2#evWY$H|V};)vpo.9ea.50'>kFam0K8iZ?3`c+_{tNW_::hIql+XkzfL[ltBuGh4}#wiytk^5b:bUF/h#Y?
]'5L:f3xIip';xE2ya0l2$+`SUZCO|&k6L=3,'_ry7e=3'HYxJywCu|BTZaZk{wT:P,OFk$sJ%7miWqW=YT)/g,A0%BD{~.WWJHA.kaz|r)/k27tR`4*afl.ziQd+i~s$$z>}yB:*Nov{f'P0Gx{08
elHC=;:F;I?obk$)3{8ZI/$U}uQ#v8TsH9C0w0F{wzBjP!})Yi|;s`nzfAxHP_bEDov0Z9`B3jVFiCJuEVJWPh6J9sK)*E;V=Qx`o*^?&8Wg,H'9kwMz:fgfMY^&C4*xl=biXOr9{5'X[PLR5R,>(u
;I1MY.`+vmfeMemRw</a`e<yKI8y5he/=}.CogIUA8,Ip$v0J*V`Uo53Ii{W.{+PfILCaB]Csu&m#o^|<yraqp*IDnn`I0SE4AK!Vw(~p?/It~qYK0C,!Z?6(8hB1HkFZI2:bv=zmwGrz|'`%QDKB(
5J8iUGk=kY`m8ni!Y)HAbXU`fuFvVYW|bz=lewgWOubEX9MoKtHq1a{t_Gv*'c(Bu>)^NdPx~9uNJtX|qN<uiN9F:<w~sSdD^szk2Rlt|U3XDUcu0GwhVe^>[,u3B#sm{GNR.d?G*eB}Sf(!Izo$1w
[J#y`/)Wpk&u3~#gcRf7p<~rIfh{H:p8mqBh9tfj0#_R`};VLZ{2|x%fitNAzp$~Ky~$(6[t~FACAl$GW/<SDX'AqW%,({EPt|vW`|3r3L=oBm#s;G:d!DSs3NjB(}(e#0N=.`a}H3F|2;Por><JU'
rUV9bA.Wm6G.i~&N)NOs=:T0TyvnY<bHN5qKdGgn0*>eqa[4ikJ,<uYrE(2pD[Os8_BXo&sb*dP</`:kf%q%YPzO;V3bkvUL$zpg4&7n94GVU't2cV^4F6+&B<2ULhN:aOA':BAu[2:xXd1BFaACKW
D1)0E!F%&IgavrbT5jv!xn^=|`)c3gio>8.3)oD~C.cy%r_/?YX'<qP%TlS6N.P.1{k<NdbZrNO/`p)C.:V~3C?)`CmRc.C3J&R0u/4W)F0c'(j&RE_3k#8gOd#tg`ekbWl=C|eR#AmI#1xI*=uWpe
.$DsPt$&AM{u)'h/lIrvSnjG*TG[qj(F*zt[JI4eDDqXSg[aot)2!5H_Lx_h[x1;]$0Hm`GAoq=~jgHr/~Q'.=6w#*uvE'[YN_st#`]#SGPENR%p*np'nGT]YRm1+XzUxnW&%Mw%~N_Nez!1>tJ/zs
z,o$Y:Z,n[{JJ&ZhTd>5ze(}fY55*P~0|vsuX>)wPjW:h79U]J/FfFTZ7B8;Wy_X;3A<uk$018,]}n^JBj7(r76/hm6.*`8_8nGiAFJ^vV`Q]Jo!E)zH$/liX5/,yMU2=4FIK>)hk('GQNqg,Z!VAo
Rix4i5)Chi#C80o$a0lME_RbTz5^i&OUZ3&E1[HY>>6:g;EblJ_iz)|%>(GdnZ4fg_w;wWVW<^I_NkoKz|mCG]Dc7Lw(96Ez.dRevsc_yJ;#55ei!PZZ!&UXK&XJeI5<gmDy'~~0vvgnaF^$n]Zc<I
[uC1M<^i[!1F6$<Yxx](h4`k|HEKzL:CU+5l=yfQTP183/<8kmr~W'o$Fqy|olr:YO;*s,yJ1is'q7xyPXk9D[npx)^OG]GMccDW.T1W|*3`kYSKRA'(A>&pR/a?;kexMk7u')E+.w*EL.TnzYv'K)
$fRHCW{pdaGP{w5?dF}WJR'zV&93z+=s[PX!Du25L(Hh|XMnMF&~lQ)3%&|VkMuWz_8wHb4*KDyD*+)fno`>*hL'!?w4Z$$*/}qnFAg6B&i)UdH)Z>f3)W*2r4Y5.6~i0ZyiDAo*k,op['W'qzIYIK
2#*/'JGlir2[onUp2Q;v6Dq=9xsSWkaf:V~c$Rt]A?BQw8;S'h4mY50[a/l/ToH*vNbKFUkUM(fsG([fOC$GO?gX:es42'Xo/SRG6Su]Br9WW7uI#*;=b}KMX1T(Q3oa{vNry}.(9M1+6*bx={K9cO
)[/Mh#1X)0|2Lpr%N.IM>MrRvF>P^XePkM;jP,|Q!hJk6NSS'X7&n>J|G'K6Y~Zm!}6<v|{U8m6`Q;Ett6TL!,j5j}mJ`.`_LaFnz1hZ(TN]DFGfkN:$720!F|^!eu5A1+Mf[>z3RipSxei=lv|E<P
+&9GP_[n_7xn1'/enpP9l+(];3&8Z5=JguA0b7sOF%.|]GIme6dR>Cm`'Kw<p+T5ts%F]V+Q9UQ;&XAVm$tc>6&C7cF{dNlTWP]4dyvt'Kq=0q/}MYr'Z':Q[:3P;w8=Vm0Fww^ezUDjXqDQQx3PLC
$oPmkJSzk!]d2fspZup*:fQ*^%Rb$|s_`?a^26zq:JmNxvtSlx2hI(RbDgfi#91(xbKk9S*yj2*B&Fv'by5kBCuXp9C:H]a!eS!bjdR0X4!fx489j^b1l}INx5;+KSZ>fCHUS6YO]{m(R'[MwbY?nr
|CbTe*/2o:;#n$}#zdC#AyS2Lyxyh42Z01EXgxz4/:QK4ia`KG^IetZrj_p:$CF&C||wS+,RGzC3>qWZ*5JVX/IN8?G|,k0dTV=CzG4]`.0`I($4.zj$fS!G6fn4CRw`t#|E,?M>5GhIyw93?xJ*7B
L.f=i%_OK<'Q^T,9E3%k*:ML+29n9u.h|AJwx9z:,aLl6]:bH+kx.]Axr]B'{gi?`..`{Oe%DD2Yoct7s~6]&?a6<^VJ~dQYD~?v')9>#}Iq_o9{L5El''c`&5zh,WkSY9G>!H<9'NLUcMxO_RI(|9
Rerg*_cy24bp'AWlGWu3Ncc(5DYu_#DX:87Y,[<e%pA<IjL06IWJ{TnCvBoub6svG.ur)w(|nXM#(D^skx}>s;)9Y(5G2H^%vQTJWLU1$,^USE6AR86~j=pAQuEf7pwkjdN3J8n&E!<u!NEHR`ntpJ
3Cm`h||BBgNfs#v+~6ZB5rCJ4(6S9NdgUO&tsc4BDmocFGuB^jGY2a69z[uhF&HEf4$F(B__jDL/)tNHkwM_X7x`yD8<]z+d^,&Ver}fZ+sCw#*_yh0ANWth?daaNCo3St2d`uA!5MkO]%0u]l?]SV
19s2$a&Vu;yf3wE)OU6v0nyaDBO7`1*!3GJ*;}lpk#`h#(DujHFUtKa[POP7p8'`6)r/JFXy{Oc%$5nTj]K~NDd.<7y^goV[;OWJw%T.5y:<z!qnf;rJQjQ10NAJ:>oeuNz^C]%r[QSx]TCIH1(/{L
swH7Bca_c`6<{0(U}$`5$D1{mJp{eW]l>RDbFXK(VX0w7OXN,%+N,Wfm:IF[.OT88{w{d9`pZ%(N7/}ciur&N(7Atd<z/>ToOMIgKQI*~~3>P98:E~[3Wel_rbSbeMoy>hZ&D5S&(}WreDd8D`d~fO
2,13,td~Znp9rwK8C0M_j86Fn]`.MEbV`gg>iGF=ft.Ou7G.>*P6g$LE0swY~,;:'CGYvr&~x$8U.&Q41AGP5B=A&uE+Um*9tEJ6Zb4i)fvAeDkw:_;l~Wph8FB92maZi8Q4?.eH0b4n`tigdvNz`3
(H5tQ.?Q)MRY^EyZnu['maDw*ALh1IHkPcyPw9gy7[e<,>8`tNA`g/tj0qzCcnt%5+<$.]2b`l<e;jpH*:!1Y_UNTu9B_Is^]si^=d.%nmsl`m/1f{#J~R#s[`+!SBL7~cLv'XyjtORy<+hvnk{fNu
*Q22/:ed^IkM}9m`A>}U?U%wPm'OsYy{mfE4~8)P8hS{juz6_nZ62x#k4p{w5:5TOD$v7`eq$V]%yOh/DvU$~(=G~&`UrHShk7wH|jd]8|;E/{q8Ch<lK4i4T,sudK#5dR+wVs5TtuYQ/,L]fz<QY|
/r'=zg`Dtq!M:CN#)s%T%;Zx]^]]QOl629){j+me7XX*4xm|td?hdb2otQ3t1U`3viou5^H/gLCPHQ[5OcHCaV8}LEnH4YKU*&n3;&&&k#Fdx.QUk|pk~Ylf~GuNG(=ls{~3k[p#UV<zr+YA9,t]=q
{lW:o8Li|G=NLUC(C!Y4G29={(&%Ph4+O/3m.T<4K|ODqCq'BR(k]XOBKl0PEUbY4MmpaWAxmi!dPdk6ve.~j6t{e+7EFl;;<dE^LH'Sf4qZ`BV?K47n=yiIXR^w0&2E&Nup%7<8//6aeFywXqj:Ff
0y~dItX`{}:C>c|S#xMm_rpC:G^yXYmm[,^Bew>y8^0cGdC<ONbm.<xhsc^X.1Lh(x<H1&6(Uk~w|~#/#]$#_&.{DS'55.4h=aY.b)['#v0s*l1`[8`Z_yspBw~&yS~AHbK{NO$P!kh5LyGa+)p:{8
Vl}94Bm]B2SXPELlHwp_ih_6_{,X}H^LF:$t1[oeB6SQ>7Pz^H[&#eI=u!&[)soX`mwQ&'e5KY:)%lc*(Z]O|3iO_5Myl_Ks'*jU0N)WUk>)1dG<8fSZ'kx;YfER]CYk7ct_YZ<}q3(xJ;W?PJ_8#D
R2{WYO~+]XgALQ}[83Gr2dO8^O*~ufL1?iF*A(Wzh:4mF^'^UyzWwQYL~bgIWcOJY(IItiq[evn!.DWo9]zT;N')`<m}teG>8'j5f)Rap7cb+~lMR$2rh_UtuA*#=k|}INVQLW&n+dla4Uz~%O,z_C
ZzXkx>Jy4?3N=20158E#Zb;*nrq?cw:mh{O%)QXA'?>OIOfxE)yfd8t9_19R39O;;?q27z/wYO!1ZN>`Za^{}u,7F7N(j74|.Sqi}kwca/Zm^7nr.kOZ*Hr_bnQEQCedfKyR&cH?oF})6OI;o~aQt~
.#M%CRu[7[jz6R}|+%QsO4a.9Kg*[ZBm;f4nk=,+.wvct|u!246AsaH{5E&:05d^VBWSpQ{>1f/?=i0QP(24[o)iP]XYs`1~d28Cn9JHs7vX=/kvB,[^(Ewp|[j9vfck%7+GcEPKO:LknI2N:,GRFi
:?6_[`Pu}%)]QY}C6+stuoU$fgj^yjU7wdF'bMyc1{<Fx6Ti^:%'Q)g7sB4]KdYJY(FM9rVGa|z^J>.<|5Bqb]dOdrJ.}Uc`xn5;WgChH!Wdu!OCa]khQo]r3Gq`y]cMn'DaS_d*PXXpz$+)k*yFN8
_(V,)AQT4c%.%R;~rAc+]rX:#PWbm$kT<F&djIFxq=SNa#Db=Pj?q}?Bkk#lGDl|.$2{romUo7+sQ6[?&L1.QpOajV[;eB16S~40JJk)|Iz.w`M#+j99VM{Q<p^cH8S1#70#f?{S6NI{dpg$?'b1l8
FA~a#=p_6MP#UAlSG;Z0l3O4GfP_Y#MPj:)>}IoiYUwxoHg~zCTy%$kU3dqQ7{UoOu(;dW)tHXjhNySw=MPz>cmpaF[yx)vxd6'rbB|Ky$I28~]9U%VJ>e5=oeY7sylHJ[:Jt?Fn_LXW7`g`zs%y0p
3e{JAP9_6CjTAln^D,Do$ulflxK_mpgS~TUn/`%lV`PWWp$KfO:6FnHEQTn/633%Uvyr'0m3K3N4HCLJy+*F;`$gc7x4nHbd`k{#F)1w2'1/K]1fu.FL2JYyIzL*ni.AYzYTvWVC8!B7JkcV*aP2(W
x?J?joE'<xVD(>7b~o8txJVZVTx8~C#H#OUHEO|4$=$c8~e5B_Ko=1}?qx!Q1!yp[LTL'IAO*#q`$'y?N`?byr:'8PeCG53:[<Hlld;]620Rd4;Djq*b2<n![}U#NVh1=H9?D21>&E%=e;8Cv7g.?.
}1D;UF7Vi{`9Tm(BkeL{Px9E08ux7)Fj]+u')j2&S=Xbw<p]}}pXZQ40<VC5w<(!!q]*HoucsS8M)q~1|tE/eO.7/wNvj=o2;e,W6xGOq)'m)6R>7f'B{R&~EuHILSR%2Yb^,X4>;P_6sw(,(=;MW#
MLU=ZUit&g(+:S05>zqh?6=_C+7%_x`2p7M}2)>ptK/hqJE6w&Pug7zCa,Cx.07BE[dK~c*6t_See_$V?eu0xtD9wz8Nucz^DNWS*2aV6UeOLh&k1.'mVR,MF:xI20gpJGi4;`Z:pO3P#?Xw(<L`+Z
cfd]k,DA26C3/<.[`m%FC%Fst_M4zZU:*(52K?`w~R6dfr(HSfm>q#N9nY=^9pbBT4K/%,gNg#`5vHs}10q^pbLRUT5889,c3v,NE8hI~85JcV~P[#q4/*[]uzqQsQBe2=}W%Le&zi<zMzSdtG>'uz
VJ7:210iDjG6A;pWpkW8/6trHF8;EiKa3hD4ju50!'P0_E'U4#;Y#xlO5Hspz&W1xVl]MxB#=I{)pNrZo%xjcRGJ&c6!mo5C}fXP+$eXm<J(Rxo(ZZ(R]_Wsk]ER6DCj$2Y7Xx=}95{y;yz>TuF&oE
CyjJomg5iFwzvHY.hTs1UT`*k(saH37XP2<YZ27~'mMOJky'zB.YSWBR2~6%#))PHdO%&`9BK<RG0j|#D]{kAcf}Mp.kT];?a+f5H*WI[hfx'l=Ye3SQWAb(!B{%GU+LLNB:ef=q}.`R;})E3Yuse$
KIPzU6w9.[7lpArV^<tXW(ar.!a?x+,!_D8%k4(~#vDwvXgIAdvGE2z'qtz*K%cMu$5VJmBif93C7043oXj21>s>i}Z05soZ?,^+di3{LN}rb|v~/~c4Xc/Wei3~H5k%RYTEiRj5kt$]]U2re]vT]=
pfDthI_uhwA_ZN+TXyK|Qx>QsC$wnes~G|k;^{6wU'#>cuFonn9woBgJNNec(,J3F'ZZ!N9[X;2WKjO/gYLtzaDQBn.*I#m%4C`dTBLgF+x,uQP2~2)j5]C6V'F2[xEwA</M_{t]W/tQbG~iM3cX#W
lf</R.U&Q;[n2bfsnSnzTb9Di2UJ^8GLA&x=/4K6o.j<QG%=WP,>k((wgDO:81;$jA_0$=]]X>VG/So0fRwN=3bVQV.FT2nH..e4l9`!9jM=80WPc1ZCI2*y`MAW>[wWn)k<3'6[+)5Qm[Rwlxm4K8
cl:sTm<`J(Ttg+a0A>UJfhF[E?^fri]m=_3_$Mn94*|!6~nI);mltvp;Y4&/b+Q}8}^>t8R.TSM!W;dCOf~9.PEuON,&#`V>C0{{a')bqYQZ3|362)fPr60t`cJcj^.o2S=9g=N87|~_`KlnR$OuGX
Zy8</4UlLhPVtZpod;HZFu}Mrg)H5Oid(p1&a$S?p<.?hR!*DdmzRyNqGX>tK{(eHZhF4kn8d;iNwR]G+n6#4[3(L9wUHOi}KF%z?)ClBDi9unR9;`N0GT,'epr7=``L$aw<%3Sb{/FHN]LLJPDrV{
P$1E'|qv>io2mSaBj'&JBEr$SKpC(`utnaJIq{r<w&9c#bDYHp.:SZ,iH|Jp5..z8?:~/'|oawp8E.MHo*6y+=Zz|k^eB,NnskC7wWb9t$r&`Zyw/_`ed`u5pE%zsOF%{F4^oH]06~EOCb.4>2NhC$
NMtGF])zzL0S:a/pBqTlJ|G`aw,6e+hRiG</VQ,p6%RveclRWf,j*>ee.L=<`#fu]}A1Ib^lcus_,FGNSF:$wWtqC|cc_yadA4!7|DO.Q1Oq!d>}5PYH$2~#j2AI>b'>2Iz2TUi(oZKX_!I2f}K>7j
PguksdIyP9oJ[V6t~bS)?h_u,T<k)>$I&U&o}gucP7&&BoTG%C)(3uei?Q&%%04(q+o3?+qq}sw=s7YrA}:$;XVO8$5<B//xDI]dqg|G^e+)G`qiw_4?Z)00^OAy{*WiHcG{rhxFTtXKxH]]!tC`Ra
50P{'fh}_;6nR`p;+;Sq9<~TD~:&TU!7X&4C93$Y?X`_x{Dm:#e?<L>:,>1l>29+SCho)'#ymDUjtUjmL6$='$rG9QA!9BsY'pV8;NBdrfqK<PH+(5CVaw;E39C[JM=(<S&~yI.K_aQ/y(#Q(E=[P~
X{Rr.}d4LR76=#[GBu6E5<''_T~4lj[8`9>Y[DOUt0_ulLhCILn80rT''%z'eVND)H>B1Qlz=ZrRnkX,6wzJuvPXYdjgO7M4x~1#]ILe>Zf~M8;h{o#,um+!'D=#`wSy6<EbrMKddlGvxK<6CC0VKA
QLZ[Qu0MN1*b_H*]D(K0YKF)Jgz+!XWw*ATM|R/;+h%#b7n,:qREt>s8]<%36M`g2/B1U($S$]t!53cVI6o=p6VZ&M:nMZA|W5TsXxrv~=TLD7ewh9o~d2~O+<ER:en#QuV](5!_CK&k<kFc&R^*tm
(<U6Ht%V`;+8yg)}$vnFj*tT0Tx]`($4<AMtz;AG2PBZ3L7rOH=!y}N{||uz;EG8YM].Pgh6JS<9h%ldboR.g1,JjNM&U<:!n8cpN;0|iap`sT:X}(o9]JE+GDA]X]lX^YgP#J$j0BI*lur`g0fudW
y}^WRm]JM9V*iJR,[}R)g,!u~%5Y,CiqNi`''%',:synD6e`=)<*oD=0`jEgc7]WG4s4#SHKC0#jwB5N>Or{f1s(_o6v)n/bq/OV}?Y^M8%w]!6vEX4E7!%&nCX:AI08{EL|KE}HSzoF.B#)Fl/wVR
btpd&j6ja*c*Z6dg6Fz6K8bTz5(5HSU31j;R[D)5:?HwGF|^Wk|~`I!]J'F$+Kzg=5BAaf/}uIMFM3P8:lJTyByudKQ:;Pgv6l469l69)#_|>N60:Gh9_}+2n93?d!FNpaOkR[0yknFJdER/=}j.j'
7An#A/kdE=aP&y's#p{WC%w=^h7GfTX(6^Ljp/r],nhSu>kTp`+T~dc:2G!wYdXT;OV0=rCT1??}*[vIY$_jh~Q$uA42t7L?LYSCjSfP3uq|Q]I$o9|%Nb8B%>x,45<*$VTbZZgs8BpjyGNDXX4l24
~bdd$7x/5>Vf+tjaI#L{{RFLSzero}JegK,Be>Ld=O(8q}urq$uF8aGN6&Mf1foX6.aASoExsYXw1d#vshVSiqYs<5,w9e]cdZ^eMlAih'hfUT~bIys_=p8XeJCoCHcI=$nej,2fb?MED^nm]~kk>w
JjVrc_M<i42$,UXbj#0F'NCpb`2%+J,ozLU,5t;]J.)y;G^y_s)2`gMN2Y=?$qx+nKRAum!N}hEwv^Wo:kCHD%_GkhXMFNKG?H0[7D(mIJ/87YVPl;?(%pkD_o#6A3/,&6:jN}0L{*q^DTm=$7K`{a
X1$O:[]^!EdHRwSOU773d>0^dwV9&Wcp_J2Ks1eCtM(${mR`mO1W}i;egzUbL;#IQSVa{qO583auGXd~Y;^aqNbehhl<fT8Jsl9ZEp7N+oNR^f*T_?/heT,teEnU'pV'k[2&omQo!EhyD4Q?QQf3K_
v3~wN(32uSK&_T5lNP._(z60<%c}U7;mCFK|nB$lRtkuth{NCtN4e2Fqrw:e^N=x?D%ebrXa3<+.*:NQ.k<.wUG#<:zZQ?f]I5d=mfHk2EVj0Od_>:%b`eag07)>[RJ%72U7%{.OAq~+TXn:k]P].;
HN1.zYjA<QY*S5{hz|P^4%;5^IVnUVp3=3RHZ&~KtQ.inonT(;0UVfd_CD3<7C.0G#'ZKPASo0wfgj,o);no*8=D5`Jz8cz/kkHW+=AM%:{V/7OuFFQFMl{NQnH3<R<}~.T^x/|1MxtLzJJ.dkD`p:
Y^+sGt$C}&&,xmi3SL*QBtzbtFOfei*Xak]8BBf8.3DtW+|n0gY6RienH5}jXH_|.`09y[5(K:yiyMY59?2'EE]mlS_L#wp$o$XrQihs9`D.n*'DDF~Uk+GyVp'0e.m0skBqR9A`u=aA1+Aid?3kdj
A=wn]8!Y`s^,4H.aD/eW(`:~yL'TlIA`N}`fx'`Fe61c5K<t!OOk#+2ODaWzfBx!~t2GbD<)3eemO!ap?U0MS_0M^Rk*IunT?2Qs45>xJcy^ir;!s=TkN#K=la3|h|D4]'47pS4??cUH1![t%$M[40
0AYIA'ueJlds_]s0%Q_(Z3E8{?,}KpXwo;`hhI)5`0jm:a{[yMl!;_wP5Ju+Y.Nl;CzXp0}[FVaX(Mf4ltOd.GFU%M9d%Afm1uum2I%Wi_qG7*`r&|o1%uaAN*LWG;Be;lhB.bh#DUD.0<]YUX*7Uq
5PWyY%:fd$Q#dJ!yve*%4?A'~;HBsOjZz|n4^n[c3/pKwy'QGhaV<O&g0'43m<Y=%_4,z~(3/b8(c}h^ukl[8(N;FKYoqlcOG^;z^i8_SB,hz=B:!2R/kn;T89Od`!I{O,w}rI]6?8S0ld8u:g.s;R
9/VD<2!SaU9;m[rCjH5)+A!Njg4,pF|E8vA3NdzPg`t`F)W%+v0':]w4c[8?o;x^:b^%E_DMB1/M=,JT/guMOx%n&|8J]Xz]}4b{~8^`25t9]_#C:1y]9%4=waM5#Zewr*oAw!hA/k6N#TZMO!P'w]
/yGY6.YV^!j8xfkY^>c4#[d~bL(Y{i;w=0tt!!KR3&I.S[F/gI;Gl5f?E/7V:+f)?:BC]4<5YR+jP7*^m6xdfdPnwX,}59hFI,4MMgPvgSoP:w{iH&tf5]Mj5_YNe(LWx*D=aEVy.}j{{/Hv1&kTdr
c]rS}m.48GN,[(ND~9*l:3`h{<8wfn#YUj[gkIa_yilNLgJb^X98QO2]G*Q'OE3S|{o'%^QJ;Fp|4Tp+TPR+vQ~ru>3TLxJ(NAZzyVJTv+PHo<Y6o8/ZGs5#QY:S*f,9%JU!$bL_pGfQ*}[)N'&8&d
zYiwBUj)Z..7]fe|/&^5v).A!!?[~J8k2S%SKX,O_enL{0OcIW$Un1v8T,n{|KO0_.AnbZ2nGSjOj~KV{a0!=dSa!$?.A!8UBNMo,a9j!>(~$Yo9fJ5'.}A7;1IvWJ[#xU32_2w7)$`P!9z[sSPB:>
Er9Z7SO0&~?f9mTl$Rhi/|Qf[,+XPz(F#TC<|p92WBK`Uv|xVM3WL1O0_r&Pj5AXmy#Ma1(bl4eMN6;C&G6ajxCCt${CG*frc'OVV1Db^yj8mnf8aip&O37Y]X360.Zhi7|[bJo[<gTPgdAJ)ca!A$
x1^khwGm^Pie}nHc*gn;pmSuq>)=OjI#f]8Y+mJ?qH5N;idViTA8GEEmo?CS*0V~3WlQ_1{5(t_fXvNd=qWgPuk3']jMM{5^Y([2dwK:8];h]$[.U5Hs6+La/bGj3gM%;U,hL6DSKHrm`l0.9~|'A/
:={]+nb2gu!~/'x+)`!O^,RqsgY}$:bSYD^gCc5TV0z<HfK6s>TDf>JjsLL7o}5U!C~>db(,Ik!u}x{N[N|proe%#eV!}bYYYS4rF,&<Vo(7<K?V3<oj+q]+az+O}JyS2(j'r^(+&H45))f[%+JGIa
H.,DNsFz<CG#O4=r^z!ns<1{i!_$]mbhR*tOQ#rv$L)|RP:jn<|N&$BdJ'R[km<v&S>,q{lfmF^Jh,nKjM_A`D0~WHLZm.4WCbdspIm2WR)MjS=J?=OlpnLwf>lE3&7VC,)xRSm{Z<4{vazF~(2agp
v~g:Cqjnj$i38Y}dW{IV/cX!7g[tCzyh.]3M|nSB`3O{Y?`)|!E_x<'tQhCH{BUaV#2i8ODZ]GZbb:qa!gl5bKzAIKRyC8%V3Ap1r!%jXeOWpYpqH>IX]yM8SF[h:kUfoET~i+/Ze9mj:AW}4t[_XA
]u2o1f'fZE/9&OkO'.gj%[!:zAD$=HsoHW?e2Zr%.K~;w_,Jm{Kk)Q>#py{={/X#MXJ;pAKY/wuy|'X}%EYD,j^MV)=w6ysP)h'eqjAV'e^PrcV3lt&R8TUp|KN,Fx{4=2Lg~cn5l9w$G{9cSmLhis
H:8`K,]qLE2p0_r~/;,NWkXF{|tZ2B|?6xc{5AC!F(;)*{6<n}!>99#QjJ!uHaHsU.'u9Tu:]?^'rI$hQ*I[21BrmPg5o4yJ[,0}gPp~}2$5'DHIa:t{%gj~;h|2U<ZPB<42kDnz*[%;>VB/c+~F^W
Z1&!jr&.bdntr+1eZbE5{K~S,e;HL3Y7KN[6$v;f_0xqYaEiE*$XCn>v.rW2n3*ckr'TG40C2F]r,|D`],BE?H+hmaTg.(gy+RgAV#P^3#'yj!`o?U;!t,fL&Ktgqmi^=KA`ueC*+?Gr:)p:>8uE51
wW+{(NiM#ZXf<[$B.,TMM/?1pw_>ZDz%Tn]Ys8yt{O)nb[df2B'#<M$d_5IBz6QUI)1s)J8pgl{SUl<K9i?'fR[wR}[[o%:)WDbx3kejxX|H$|V}kQ(cuF0|[|0TA1#&i_h'!4_|2/A26r3Sxrwh6A
%Sp2|}sE_yn$3*DaF8/B[j/K:4*TFk84CA``w`#lR'1X}XAh~.{2mJW?CKRe3s37N:4K+'s:k/b]>)=zg<!E']xP=Zg/ccln{uFX$Vg9F]^qb.C4.~gokOy3;I)b4:*`kubl'=O,[TD<y6S%pC#h5Z
YR[^<7G|cllF&U/_~',UVPK&WSy=9m*?Y(20+2kPi.'e7X[3wX_:6s*<]L>QWe$Lr(_%k[k5pRKA3k7*p:E1I7g4nRkPC&:!,B'H.w^99s|NLN#[Lj=]~bwuB44*yp)[y:5bbIZ*514qoB+69[6sTy
5Cns([ld*qp!PSz884'=<#Fo?5/~wlIh9'r64gVr4|RF+:Zfc_/y135oa>uGaeHK2{pfTGE6I9BEOb;B.ra&']rm!gAdw~p#WZK0rMqmyLc(6kR+S)VLA#x#g3Vo6N0sRG{=,7:liQ3Y%;Cj5/r{VU
1w}M6_KzQ]V(}].T~9LKhR;/|,1xfZZo#A>s%.K[jK&j6XEqp[2H1f|BC_?1}7Ms;(DS7;'4_mI&D^`5qZymYUAGu*v/;Qck2nMA?zd=zDJmXuRmM!7M6<cgOP*!24v7f+qdT`2as;W''^46Zk>/L!
K;Q`_6U%6qNNKaAmVq8OK,e1s3,/l+nzdt9{9QVJhZiMdA.|Y7M.]'6cd;E<DLs.']k)c1,l6sslcq~DQQOYdi+Cu#|f2'~v.4jpW}^noyw[0*n2#I}qy/x{?'eD4B8YlLY68''$E/RA&q4n99xANs
eK{w.Ub=r0Ae((GHJ~I%(p_~5yFAD6`qB5U<2A(}j!IeJNeryvv#`X~ZcOQh%qc}e9/{?n[~kv~(|EYA9Snvg8[jyD(_VZW+t)d0Emh56+;4P3)0v&='HeR5XWXjE}p0nx`]W%M2e{M]Q^j2OR=s>)
rtGT56,1ZK?A#Ak)#ndl>#z[bHwc<z'4y?6'fqZQ9i'vV%i3c_Z*F6qX4&f:JQ1E1aI7/hG=r**O#`0v]x}^XYNK!rt[0pi$gf9{)LK~W'89I;i3B!n)~:TNM*tUn4jN>)GLv[uxO.(~O4&vsIX#R4
bmUrf[MMoF`g6$g)Birj}P](wmAYFDs8ZOp*5L>LpY'ehYSs1,z*~~D9rOH>1K]t53g_mJGvoE(}#'6xmnX:KTN~[Eu1{PBUwf$><=&+aJpTN~k]ij!cZ6/9|HWt~P;6,ZdoBWlX1]45D^s,`cX):J
zt&~zGKqm?|[2i~Mc=$Vu(Vh!w't)E:04}qJdf}{uTNN4g,pkh+_O_L,7$1/O$6$arP.s^#6rIR.R;$fS'm1Oe|86^JD[3Er/DQOnw`kM&Kduqc&D8/p%dy:YV{6C{)s6ZB]fc$(:;>q$5WHcjGtI>
<:SID5kz=X(B(A'uf1YT5VF#N^S]7UmJWj$l]iYX_Bh`56ebyn%FqJSZ)Eqc0Sn(Ei9lSJ<!Mgiq6YC]0ANz!5eFlWwx<D8P{SaU=1hQ`j$'L:+f_U`=Opr%=G9r9&N~:1#z2d44,~S'GoF}0jeP4Y
,lY3147Qfj7'z~'6|H/DN(pVa:$G4dX,_[2{H+`>9)aknRk2=5pxxqNLW373xPE4gX0cH*^go+de4~h`S8A>KC`11sl1?EeP{WM#[w+F?fy6JfFX#VA8`9%h}eAhfZ]dl#gfA#5j|Gl[I(B3'qnJ>W
IunRI3a`zHP^3_UL]FF&<%4&Bg20uWk+Qkz$]b65ig8V/PO=)ZW])%d<raO9wj1Mi*2_9tHv'Y{~FFA))c6Iy.'Tc7LLmTI'zU$SHX=HPZz1:Zlr^jJ/,yf?x%lkdBQM+jWLLaLzpfT}R2sR5!?z9,
n_nuAyeAE4':Dv)toqNzG/]x?QPiezkB6psZTnupP6CbX,lH0x7uR|4zV[udb,Fyh%(ORb^|I;^vrOiZm$C=69kSX4al',(O*Y].RvR^lBM`jHpXK6m9Q(ktqnV<?_ANV_f&i!wUp&k8#'N_Y[e+dG
CDWc5,o,cK=nfdPTDmzwzxVG=BEC7:5cX1~iJO>04!]RMO_T#N6fATF`=k0XmF:OBRw+!Oq*!G!vTsETVWSn?6|JmDHb)>uBDZrCFITT#5{IpQ|8{>+yV$&3xBuZ?jkZHlaXIDq=*VSl7OoZy_*<DL
W)kx~GMPV'ENf0AVEH?z*qArOhhMQ(u04qKuv87,`O4GRrS0m|H%*/{/,I.'oKL'X?7,%3*3<m)MU7e~nN.qy^?[*X'3oI!^Al_6Ggz(u/,3%C]aLUPRNkkqSMLC7~gGK5(:zlHF$`M>p5*<lae{l5
j)T*&yARm3w5M<jk&lKq6N&m0%wp2UxA=yXn7PT1$a^D&A)Tg~8G_7yqq%JB;AnTs80L{hwQM;e{3]s~14bo8aMYP|GA:w?aC+=?+Vs4`~8l68eKg(_lj.SfmqM*^0?l)zt?kdq,O{5L[i>b>KWwyn
=b*xbo9+F6N6V6B|$$MNP(B,{x9Je&fX3k'MG!3s78(O[tD:./*mQ>%cSP|{/#[Pvy+&7jeyf|f$+'2}vW}8)B#l_l.(FI$!d6PEJ({N6jY9pi(&&Xve0AT0|Y!iIE|G1h'|L]`+r'0jvMJPyYW*+W
QR4D?Q%goelsF|5%l9MhAm0wxk,<92)6nfu0v~d14LdVm[:[kn*ljySTq{&=|iEwGhE2V<O<b.&IsK?7FKTH~~i8=u[SY(,Z*ra!<?JGbfpzhL)bV+nKv7~AmcC&w}.8/#%NDua4~3*5I;bdF3AU3Z
#[CZ=:+x+xTs>~YVw1Jh<jyI2]hGFaNrxB`5D19><n|qYN)Ipy`Uvz^PyjK&Hmmc'LVf!xz>QywR2'uLxD3UJ&I*j)/>L{=*nqST1,g|:Rmg`YY8GUXD>,%|h$9Fa(EdrK^Q{$XwPs(>*f>/o,sX|k
h,7LR==:yrHUSY=b>^[CwP|IV6<%VIt$N%$HDat_XOz{vu.7t4&YA+m')XoB'P+1,{d4iNu~)+Q6z+jwLQVDdXMNJR&9C^XB^BcjdZ!F1_71fBYhHCI41.C+,gCzv?yp}zy?T9hmN)F>9L8*8]C$1T
aQZ^!HCiba6w4vz_Q,H*#jeEN3Ikp.%P+'De.#+sb:+!A![ovNl>91e2dGmCnH`%|eg,HA7rQ0Xs0(?{Al|.[+pcixU7J.;s2]P)QTRQ*3g{TyC>R[nrQ^srFw)(l3+TaN|npi>sLIUphHj>.=MS3&
Lav[9iyVc6!x;?F&,9g{C{zG3d,~IkU%{)Kni#7x]|4mLSDpOfAb$*;3#xic]}U:&?a]{3<`iw5ODX`'uE;4DNz}/rJc5zJW)Zg7]p0.pCjn)J>{$QxpT6f(5vd*HIJ#.Q%dpl7#q.dZAiy.S9:gzB
}C=tdW,7rL%xoa6AYdv,YR&wIbHcJ^Xa6D;V}V]?B[s'.g;yyQh>cw!#/lwKc/=J^6M,d6ogjB/bOj=ZIXOtRu_}6|x40F9ZFnJ_?Y^ghw+_/iBnLQV=Q+Fk37oYwqK71_bjX/<_Sk`^9PWZD8p:?T
Bou8~Ta!3o<m~sLrCU8F)}i$X;s]jXx1R}/KtLpb8`{KFzGe`{o%LlYr=A}(.w/hKa+ku37.=uwJ`&8!VmRFI9^>Gz!dM/qJ,d!MI=8X;wgJTKLob#oM#hq]y10L]gQgW1BE6t>4ZL,?s'!gkxA)IW
opGf*ua7p+V$e1cKrr:Byt2!..L1kzQc:|~[D,%dr.u`A{!bYqlb3D'c%Bt~H,rS:v]7~5T<&80I;5*To`K>5Nnc2uX{%Gg5<vSk.Lk^kS9DvNeCc4/2`<yaqJEC3U295ny*64ZX{:J|O'/](g+'N!
GdWEs>{7u:WdnguqEV%u:KGh~Ez=bXh)Ct+Q!qGb*C~`d^+MoE~}>u/%hANIs=76(G;m6M9NXj;Z}CPaw&x~qPb<NxnsQ`ZS14w$nszJ{|cuc/rjUO|,F,XV4!1pKe=`^P76&<aIwv8fWfl7>B3r/l
Bd'oDM'~ZORqPgcIE2HC/hF/?ek*pGq[qvhPOxY3$VUt>Q6FOS$T4^&{nh)u7df.A%Ih|L[Ki)*{yrQS#t_y~IJlt`s20gWV{>i0W3DJ.(?M^O&XBWj02V{WUl%Tp?vjjU'GA<8der2f7tQ)R8(a{(
sLHyh;1%JWc>Y~'g?i22)]Nw%Lo9c]F+Vt#,%'.6~6~C~RmaNUYZR{`mp3hTR[+}':|5!D9jHC)LIR>2zYE$^70;m1?(|<=O[a<Ycu`8lJevv.nptn;FdKe=0{tPy!5=gK)bjsyv6p=K%}7n;M5v]a
4_;sP'+gVaBn}yA/C'`1aj;_KPRyC=c7G1Kk6:q/wq}?.N*cE*/Mo#z1#:$%&9x78}#W?[<gZF.y)p}<1:o*T!N1,fTFY4NW8R1xBs|zP`1K'I74M/pfBw]Ah,94xE+oA;HjRoSRUFeI%Qi8`lV1n2
~t;._0y`4c(.X/J8Ma7NlrGIgDm;bT'UyJQp1q95CRs.#j4*pE*)w=sLQY4Toc`=Yn|_p.i_bi#n6,aPqPX1'KF?#%?g>Gxrb$Hhey3hete>Smwa4q9Sp&aoE.)&Z(LSk}X~J~)s*ku)p`v82^6<hk
3Pr,vuK4y`4MR8v=~l*65D(|`>{7,gse`>07:v{tcJP`YKp'~x[m2VsQA11KjyPU~X8O+RUh4y`G1O'*Zsdo1Gh(^k0t;(U*Qc?fpt/y~*dua}yeY3XBk6C;R&1s/B+Ua*TEf|J%%pS{^S2uiO%G</
Z(RG7lzXpgp=cn1Ycyhb:W,pX*U`eI+TNa<EVX#>4ig0V;Rmr}GW[+&/vrX&_R)l+hxv<su:/ZT(j5igKA^4kfjvp!P&5lJ0f,/PiKVZfC1w,W|M[?2&}NHaL=qNkDK=MMl!k'OR8IS6nZ*&s9p#rB
R=xjW$_ZE?tMJ1lE/NXR4>%Tq{1[pootf48DOQ_0s~I#2S7oZFW('Y9tK`7HjHjcpgxMqe(WRa5f'xQVhC}[d74lfbk#XPxDc7c&[k]hNYGpV2_>`v(ds$)u~emz='=wc`w1jr_LW>d8,d;PZ9cLf}
cJ/{$Q'#FAhapD4!&bCXO0IvKM~h&>?.b&v6QZvD!qF0I,8O5C}`[PA:YOa5u3lKb:eNk^aIK&`cdehK;A}B.es%a('dQ*IW]Ii!cH'_(GjaCOprf{cn6S^/%:liC$9j5%bNnMJFYV#7Ja<jxtX%''
5DqpMHafL:})KZd=0lIv3[y3E}.dW<f_m'*E|Ay%hmWaShLgnqX{9d7.(ILvjzEu9_(_q6S>MGfZO/UwKQ+&yz4{N:O;~+2kI}sOP%Zo^U>^R4+aX>C~5v0Tu>BIG76A|=Sd~:5?'*zNsWk3Pv'$4L
)M,l+i{M<)GU8q_(inqTHXIdmg>c{JZI![{nv,hb}Wa*Je[0K:>}(Cnekl]uM.^*&o31HOWd)|:E&eL=0LKg:64^*Po!B0~`&o#;8JWl/`TmYu>}Gam}H*_0:W%T6|<,]]!.o3o=MAM:8p#,dW*g+r
t*B{WJ)*Vbs,}eflIq]O(}5A?tpU{UKUqjYVB=WX8J/Pwsf%LGzgxPO~dUxo~zt44y*Q:ldo>GBk.xn,f)H;r.neu6S/~SrP>y65g7hjM%C|(oiGpG'E&bP_Xd;St&w)Y*FK.Qr^M~)j9rwp*e;a9C
T1pp6F[|iJ(X38//h()T&2iiq|l2I9q2j1]O%}Bzy{++Im>pFR4nkpmDmo%?iY^p#rOLcsNPCa7;XO#.^u(/f>cNivbB:xgzId6~U|5`DHtF<Ljkye.I`aDvuFl$LJ|s%#F47M^y{a+Dcu:*m7,Owy
!aQ72]L7?jP)FUrU3l,qOO}/[CxV/Y?q.&h._(gnjmk.Gs<T/adAiGfuzSN/wg'bwrCjknGbX*fBns9Npq1z7FgP%k%sf?p9{B9&7q]b7%wKK4`DDNvmKBQg4dM>4Tb3F9cadEkgw~FxPBcUtG8W=v
^%?aro3k7I5pf(3%swa?e~|ouac,/kKW6<p7}uXSx6YvWst20kYKp4zps^5%A'Bk9G;o,0DF#QUsYn'h1~f})4'f?T`s_#TF#6m_uvFL&2,JdMp$0[m02>2.VovhCrlgRa09={=iTwM~Y9AG1QwXNT
w7`nTvSkr`,r(s_}WnH;HK&r<`pQ=twp+gk0mGM=k;<`y36:#pt$<~lD8QTHClTn8?:.'H7Q/#vqD7>ME&3I%<%WyK.bmTMl<&Na'i57AY^${ev!$ncQMhL^Os/xS!Z:p|Xvvt/$*TK>fn)qn,p[{T
=BTSv*!wCnrHfbJGD8QtTIC#)S<Qh`[[!Cy,Nxcd>kK8#$89{u~mAR51&Tp8<ooy+;2c%+A.|SKhU$5bDd,^r(K$SW7yfbDfnC9&~rR=^tJqy('N1GSoF`RVKDB,('IP.[DU?kBjn'BUhHCpw^|4K;
4K42|^g|N]Xj4Q3$NQ+6[elCqB<$$Z5}~eM>p<H]r7HAC43CF`LObG4N/k6a.d{<DgC?I35D{o{ZUxPCRn2tQhN0!MakGWEhcEI7$4F6jxbGI<X%3b0xyc{`zni+bfm1?YoK$mZp1+*T;h|j>rGcos
:f#;Zhl5%dcLJ`lOe(Gg&R&D=%[*<!JB_,X#=Igm^)hO0*vI9F.w#~EaSDcVe.$lBRHL,2}Q>;za5iASp,8/E+BgKMo'PwzKYyn0!AcWK>dE}>oZ_+Ye|]6>|cbo#/i>#+N;.GE!ZmXaq9a35A,MM:
n/a2Ht7%ui~hi%EWkyaD[tOz4,l,kq;$z'pzl#AIY0H..8|IiUag=R/._,j?1{^&y0e:Zitt:'hC}~$U4yu2Dz(KmIcx23,)#gs8N`;a^1>sQT8vB9{Q`Q#QB'9vdI_r.2n#J?DL+pGC6j]9n}m[Bn
wtf[>erMqKHoR0EJ(b+Ifx]l0=`N$:!ur.5p.{v><uuN}AuHUuz?K<Kw%l>Y4WO`k^#7S|G5OK'0$fY7OYQ>0T%&}VqWZ`~p=Qqd`XHucV6=wq._c`d$X]m$PlS^6t2VW?;{&b=uldUr}l2N^DH%v&
BT:]Uk3jW6sylHEee$wYYL[>R0b}~Lf[oGW{PrWrE5u+IjMYf8E&p?bar3)DdZ&nP7pHRf;KN{Y#rP'_u.N/mlC#5&67~b7]6:dGLxce5&%2{m_aYSOo~4otHZFt2G)uxSQ!}juGUQttv74JXa<fy:
xIC]6_{dilCa:!{Vq1twxj0e|r)o/;_kosJQhOlotD'XJ?jN$jYLlQe1OQ]hoj3l~5T#E_vh}j#+RoC!NCEDuuW9|#p&TCvT`+9?+iqU[!4F+0ls+QeHcvV3:O$;34?)TCcS>io_kdM)RMs`1zfZ&9
h+}ZD2;S$XBy#3%'>V/$YIh]0j|pjx?s^pOh#6T0.pdC`7Td}R5WS(Dn5!!niHX;R[N%'Gi7i,.Kv~2nu8{Pi|5=f+L&W4PUGe^!aC%$D<ysU24VNXH+J#&}XhEu5_=h?5M~Ip#.JDd8~`#wH`P!!v
Fy<w+1wS~w,7MI4L*}+0mA,}2v0Blh_)eD!#N`AKAn>l>Na)jK|i6QL|buyczh?.v$4PjC>;[n(5%|#.)icK**66a8S1>W>5yPuZ2|fCVX^{RnoqQiTAF1~2T}ie&V:)MzQ+h|%sN)zu~L<l)dTj]5
KDpAX|G4*_[O+Z!.*~F5'516'gK$<hH;n5^Lk?f9DKErqorp!AT&tk/_|[ml/{lBL=1pyiN/*X=OZ{=L!Tan>'=L=Y>&RzGl}TpS#8mIMTBHBmr8GQkc4M04+F!#RKUeOKmodH3_q2>7tcsy:o2]<f
DJQvn5M6;CVtB=Qt(em8_PeSFN/9gG7XU#i}`cJ+pj21vS6}%61+9~P&79u{RP![WhwCx4#12S?6t<#2Kf_i[bHvNc[LogAUhi{w]{O~5xsn#&i8HABLT0O<9mpL~](QH2rotqFIjU0P,j2$:3IK].
FE~PEDvMi)&(r~bZA#34ZIrftQ{$ZBWXnwZd^?I,H!8U/h7X0ax^g$+9mwpRW~Mb)Vl~v][eizDOy7?v4WSGk&rf'o<L+J9x6l5UBsnHgSHCv4ZFhE)rR$ZZCW%Pq((b7H^6,^8PDwTZw/Z]x(tc}g
Gh4lGWkb9*8#?k;z&#G3_2r{ld{U:Jtls#xnBdXquOE#8esYs6=dWMjy2]S9Ew7G&4KK+Zr)V%qpe=;)Z>_+%C!f!z?>VJd($._MB'ZIc<9S+^`[zqF~^GPxa0iKV=!%v+!hwLbO]<5h({#D?IN+02
Z'g:YzeM#`kY`g!c~ZClcS=Rlw#R^D%j^Z=dd{Tn~gVRo{+J&2hX)Xty<0XoWAJ`RA6#H&SwD=NY7#gzX=[Z0I3WEQa.yyUHcaucwV5=pF*#LrPZ^jJ5,Y|+DJxTU*K;DV0=`4<g'z5LS:!m{W}G.C
mu}??1b=2i8wL{M<}pidZ*P1go%iVdr?Jr>d?OdMuqwA!i+Pw|Uwc./A0Lsg_pFE3UIE]z+dYF^Gct}bFJ}WE>K'm!/hsh4~:{Ze5'<BjGbU9p5wryLm$Bw$+VB3H9wJxZ4/#uOsgU.9Y[Ho5iTba1
PXk,,5uc6XU)#/jN!(vr3G&pp/,me'kAh'S:N})7[2Kchc+L)/w#q.Lon<Zxfq71TkIxg2jwTLNBaJj`b6q>~9US7?M`2f8`lRR*WxHKV%&)V,chMCId*P,_,6|Q'SnG.5Tb4Jc$;R0h:9_T&m/z9`
Nkko26l5EKmmK(MXonim+qTG:wwHCK]mQnVP^Q?EPG|i2!eC>(3j#f6[`*XeOt%!Q7MprYA5b9Zkbxe0Y8]:aip6ZFi6dTUYs9zpepFZR`fZ;p?#4CPwClrHdBl&l>EdRDOdF!:Ujh_%Odu.CV^~Qv
vbnugC:Q*+bR~2j%W,fUs>CPSqE,QM=`6K`ReF0]3~'.U>08r}2U$5xk|^)=/_k7R}!,Ihc<fAW(68C(3v2dQ&JOYSFUr;]6n9!A+s/26esE&S0:xb4+eCQXpWZj}^).c~]!0G6r!THbDle^elmpPa
;wYI|7Fq^0Od}yQ?%X!3#Mn]4Z>VMy7B6RQ/O;dv%>`Vw3[=w?/#[K,FK$.:e_x`o.!pGd|nm#YdoS0g^NDk<3!],l=u#gOnHQ40~'oWgaVf8q<^?]9Z!1+(`1^p/PsP2e~K$|=}]IUyjZR7WC[?U]
'Z#*d({LY?![h;Pj?|R{f4,UkR>^'Y/C4Wv^q^#1SOxvExW2&`;)nb6(Bxih{/qXRC^lBjjy:S*`7r!Rr,&n:G%b2`V}O|H2xA<^N_j0=>O^i#GnJg.e&Rxv1)~K$'t;hJTi#Gm{{'Tc+waU:Yq,*J
wpxOp8'`x}hMZSOQ$1O:.&GveTDB&uuZe_g:Q0SISh4y?SnMTngp>]=#ZU_(!{>iiYX`=Fh1H3GlYLg?B,QX.<.zqk%=<}b*0i0wfr<C_P2[oRU3_r~RS4`5f)C|k'n`y6Vry&mL~b1LsJEPO;:ZP%
U>?Oq9x*TPeg8T~>I*M)NG^n}t0pE`Fqx#0kgfjRR/mYT'0=}KRdUiUJbaZk[mm%ApqN$=m]|S0NY<UsGm+nQ=tn}k{~XEo2V+tJ>DNn':{U'b|`=M0BBWCE1KO4m8n7[B$Yr(CJF3FeX5|fw1N:gp
[mMc$%95~L_0SY'v|.&'ZFuL9Z!1%KR>x>Vn*9<*Lpi#0c]a5da23Te>zy;I4DTOhaG+S=rhJE#*nz1ka&#nQ#'9:&lSP!h=GCv47?uH;I&dlTR)kMe%c3bbT*^%I}dM>xLhL:9,W.x*losXkmT[5x
Bs$91}bdVBQ=O)Yq'TCLN[s(!pBEu=,4h<_xG+<tbm80G!QQqM#1`'8Ln:.2JM+7mSm[!z'EMmox:XF;MnW+m8X?us]7#KcP6q({WcaQjXEb7P9u#>C7Y'4,Yr5;efqB:Xc:`By?5RNZ&m4Gshg6ty
tE_+F<J)^X[t{!HZ*s&avXx<U<kg'ry/#MlB:T/y'%~|IR>K(LZIyQ<C^2B1:#A#04[B+Dn]Ylss;=T2[3?E;i%qI:0Hdc:<w}~m>yHwp[=Ab9Q9g'sW0v!Gl2Gv!R[?C4JF{J=~=4PxI:&POsa?r#
,9I!1e{Y{lf!$Yjw>;Xg%8o3*RY|B7D^jdca!b:ek0a`T&YDcB*5ol7`D;vAo`g}(!``ok,vU~`OM#HWriEz1*aU_(Cd$=zampb;.Ot}n0LT'n`KwZ`W`2xU:)g2r=/MB3c^J/oIWdHkX1Y^)k$_~H
.zHtA{7M>qFmdFI][moCz+t<Vz~+Do>Jg}:Vfa&|Uw)JN`4oRZw&A$]%u7$h4+^+$Iu/S`tbpgV;yxZKyF)Su8~{a+0~1/!bX^U^OY_o&^zLNC[*NT8Wk/NyO/vNS!9~(zYZvdd3x0#&Sx&,nZo!|D
BM>=g!JaRw:j&+iIajIbw6Z%Vqg$B9>G[GY|iqKWB6s;X1suG15<S4'bEc^khYJ`Fe*tK(0{gi]Z}L9jDZ9^R(LGSqFu%LY=eFcvJfPj]hy+X/DK!=dwFd$C<*^t'=zRf#Be2wmy+r?t5EB`+9?sbo
kpRgqf{9&!lbznP0k+bVl2SS6)%=B.tnTHg(56DDgo_y'h.p&Z6J`Y/y0z}_``6U=OVZ4FWVpnihlx~c/uf38gt)`b!`JAD7JWmS:R{Z]g`_]R2pXYLl,s'{+,yfqPj3u],_<WM7y=#!:[U=OHJ3ek
BLADFDK$nATf:Wo!RgkA|OhSGUr%s~?AVN/lzBM&z!fXwd1w}ENHS(sb$NdRXYBln*]6ky_3j*$jW&?OCKZel1%9F_<iPLGOmye>dVplDbjFm=&H?W;dDeqVzE;*Kwx|w,DixX1]~VPrx>Dz5doDzQ
D)d?(|7i2>F])MtQ<ewph'FY=OzQ9F#eFNnbt0Y%VV/PfZD<|Y_!J'VrWp8&~+aa#;r*}G%Jrk=n''>:NZsKv(a+&C.U[K?NiZU:O>k'bSb/`Hjw+U,R8FYe;JD?dMmCXaBrmW{v8{8sBgp7]*M!<{
LIpFUq85seo/katBN%XYdDN+1L{:Dv3e!+r*V%H9*S(%5]CP8z>BPX6Ctwo;zCt:NGpLZwB{Yt<``+ILq`?g?02J}Ly/%tT+pod80,#cBRxVvR{UxN:h8sjf3UC#PI4VCB{yyWSvo,/a+TYJ[NFqj6
4p.s*eeqj!W^2Pydxj;:%!D:hL:biG$zZ7zbT~BP5hwD;H:Df5K;7j|8SOZIL=D`|HiZ!g08M*?`2PAz=xEGxsQF[G0]1)J07cD{{9nnRdHIK'?Ln^Z#Fs=D`,:nZN2&2Vn&xYt=a=oMHqh21g(K!Z
tWo9ND%~T%c?F0Of^+1;)p(HwEHZ>gT(gNj*#:Y(_|VKK5zz7sU;D_9|B+*y?o&gAq>e<Z.LFH8xgGq<]g)LNh]D}>dIssCv4y1hl7xYbA<P[b)yot1K&ZzR'4ei1g#MC65U$U^c)?j20X^3h~/]!<
{_fG9=D&26WyAGYp'.WvfP;(p1{=+3$oICQq`G[qu+0]j/9n=&]e#cNq]b3_tiT*q.YEUAUL]SFQ>~}<SR$;m~'~0v9hhOK#_hj/$S~vww(8S.Ol5'4N5,Ldq:aRXl|d=UlpgC]N:%!A]X7A=>}d)`
~!t>|lLaphRQpJ#U]I/H#Y'$`6*NiSw.H:d86:<,hNGj*ufM{;cdA4D.sU44ghy}l!|3}<,!]}HV`#_n)0+z?k^DD2V^'QYEGa23`gZ3[L6N0maCdXd72?R<t{3=^Hjk/10)p[3{lL_E`~/5CrrXG+
Ds!DCv/]MPWj!dIB!O~G[I205{1ZS2PKi)/*u+#$[&,Q{yQN,n:^RlrpwIrr_=WC]7KMW!U,mx/5qU^vc'1CTv4sNcTE5#+9W*<n'*Irbn1UhO'`C0AYNGD(`p~0H>s<jRcP*39y.`c.e&&YM3PxXC
4E]8b*hA):LRWm6h}<usiM;$Fc?'3_`e$:Aw&&7C`|a[n;W13$eNOq'=lDWVXqnOXoYGB'G+K9AF[4aP*ce2Og,ZDHKPn8<;gB.Yq]Zbl,CTi,;L]$3W^w>U+|4*s+(MFso;+N!ZlF~$;PCArzZ^yQ
>dvmA^Kc^yU%!Rukz9E/InM4iK{Z3NFCIW61v}chtTJOwk&eA5!RSv}e(aQg9jJZ'}T,>RqkM%EC_*,Nf4fk9d6o]Dl<L{?U$8S90DUa;TtJxi9eoc1xy3+<;VxCv6b2>98KTTw7Y&i8F1Jnd!yh1W
&c8g,o:yqLs:U6f:(wtM_[148b2k:!ZgSbB2#%+ZuDKNezISm~XW>{t]KJyhpbUi9/za:ajOR`+1CWcaZ~Wn|^o.yb(LGA06(U*7k_Ln/b*f8^j&+]_SW/fubmpF%aPw`i)sxsvLuR#u+TEvi<;T{0
RV7%Z$jQB>+jBv]'f%(BkXqt.E.9(~.)fH2H[d^EerhOtm}KAumGp`*t#/>)dMP*^$+|BUC5j>N_52F~SCS/1hLcI&Nt?W~&Al1s)!_D&295NSQ51Nl3Tf1Uj]m$r~[4o)3yq>fLzqtGyN&m'P=,X7
)^_4&%ianZq/0I+F*uF)VCt!rRRhyG=!+V6oKSD_?y1Yy/7P:w+('J'~E0>qS%g`2*},qTTLMKuT&f<Yw5QqDo`ychCj5{#$RCf2~z88t<O,gtwg&G,5yK[qj^WUwxAe6jFG%U4Ad+&Ci=v^M]',L[
HjG9UhvIKuxHWYz?rP~xA5;<;_ZQxi!>(9a`kr.Kqi<_C):MFN;Y.3,Z3U&=1/gVd?GCVTtQ=TOl.3>*?k`SCUqipmrrGW>t>0(%vyEDj8A4G[,9q+PBU[]*4`]#%5w?z$MzX6Qz/,u&nJl7{[11n]
wx0xAn;KCh&Z;$U!Y]'!a$3HN5*<dDCi)FI`rP5NK[hoE0ZTF>T*n{pbzKT^((cBI</2%M:6ull)&Mw~!/oUz3gKvj5!p3)_c2q><]}>.7(//+*_!;N.NI|Kif^Wn+QrypId4<?+YMi7IMVa`#0/$a
zHO_q4tT~TWYl595/B(mA^vaa9xzC^xm]e5xrYO=mTX0jADLug&}k~YSS8c*o:DX6N'ZlcY2:5^O;dJx4^7LWAlN+HT5[)jnT:YhY7}8}WgLU5'&i+jJgobK0M]ks|MtVv>_IEtX5rjec0*1>VT/L:
&42<{LL*s]7{_Mni+8ni,qQB;R=dDIV#/T^n^=S/ibS?Tz2Lz|].9?$IY_)y=>/_kn8Wja^}[+j+|zzF<SuSOkuDy(Y=W,dcH68mc58q:v[0CaYE]o=jAgGprwHp#C;fo7nJ<b^6vl<J|/yvKVz'jY
aDv&NlqKOr_(DrBdyE8wN2G,0(cVagCZ(7SOhoFKh'Sd8|cLfHy(NQs](va*P_x#6]=G(X;w$_A*G~M#r!U/N3i=U4zfzq=$5CcGGP]?^gf}M3lU.[&G[v3Dx8W#{G#aXHA)Y[S?3Uu0:#q|$gQ2k.
jC#b%+>RlBG`WGiRaW9r00}A!WV[&B2ORBg)v|RTrh#[9`]Mupj6NYg?):H)IQwh7FtkC'B7=ND;7+Ua]xZ+hOM26w/9j}/ikOk|p?K_#1wt'+3'/6sBj/u,k7HmLgp<^~QYCw`{v=#9pXyVvyWZy`
F1F#D.(c&rM:P$9g!A',?Q|q'3.Cyn]gXat<K3gehGG*4Q,Bkv9uR1*i7XLoUHR4c^)*,<HdxWLE/XD;o;o6R[VOl8=N!z+{wB[p;I:ZA<s.t<p'hTGwqx?3FR>_I.kzvOu~bAy(C&3ABtiTjpT1]6
_5BeBt]uXgH3BEjyTt}U}cW`[z*9fz'.SJE2(O&c;cQ~ijt*1pe1Pal4:OBiCM';JvS8NpgJ'<[<(Msw)}Z/M)>7+oXqq_X>3;s9r_<2vmcdsbm|'j1Z<GP5Fy%b;ITya{n'Igt8W'y|<$Y9n&vHh`
W2/#+tUHz!GJ#^?OZtvauv(T3ur?a82v`<$?[(Y2ii3It2N,*_010b<d5MlO^6l6}5a~^;z?8Tm$/,QV38q#`%,EZv3l9,6bAyk;i#fx4oD$X9<3[dy{(`nq)RS%K$|>5b~40t(r*qCbmC.K998D^.
ImcXt(K<hQ*R.YTA}qtgqu=&a(W%NaWnPz9WNE;/n<BqsG$RS}|},h2qz95qH0$gmEIv;R}WoJk*j%[LTgP!f&sG_x;uuQjCs*x3!!m0Ara.=tU#SmbmNzbT`EpXW0mih;$`Q|ux:lv!I]ZS,kx>jW
4'Y/R;YeT4c!uwTN]CAB&{^hT7Xt$0qrZz$gc0OY{DAo~^~nT~pCSyEuiiy4smGuk8hJ6BFB8ox2,grxXzq%1L_$s>8U?(kzJLR5;29m>%BGB=h{O[D/ey_f)I~%e4`ll{o;rC#w8[7l$aaA!oN5I#
yR[]WB_&_>jyctcxH>,0mtlFinz8cc)~YU[Y?UoQ30<Mo{(|v'[|Or8]=|p!}/mBH]X8y%/5x<hW:xQSBAvU6G^|tyh5?NFa39|36zr*kr&kYRGtI4+N{w(c|x%ZYOcrIy`6`,*=m>{eq%{U}B8XAw
?wJPG4Jr4X`'D8[LrW%hLWuiaF'_udoVZAx7f+q8q?E;`qY7I*h[~E!wMtiOemJa>z}d&$/dI|54Vf&|n5ea;6ySUxRl78ROe#]^Iz!AFGq,a,vwPP__7%hM|SIzdAl8n>K.;cudDKr69g!%&rWSKG
J`6;)j^'0uQuT,Dp$5#dZ7`gdn]bc|Rm+{v#V+^*9W%j6U#~3ag|lwVb[5_E3l$;W&/8bG>uaSqFbwX1dN1}MO+#`0A5W:5d=OD[{XTbByysW{hUxs!Ca:~ZKOZN?dtYU^HD$M4wJWrs)~oyLM7w(t
;r4'G!12>+.U=F{0+_EqEcr)9l8+x~CoJ+VWu>NW`v9j<F)D&!<8`)EHHgpv;rWuf_`l`.P6j_Dr8S32lLBexp$A_q4O(1%kz~*|,a;bXBX#ka/`<%qv_%L}iF#R/en/}$DT6+(L~=b[I'?UA!A5G#
T>]'Ay[b|E:2/lVyrq2.p2[HPx'?G&`[1:Ghh!7<Ot,N|SR/hSM9'O4h,`<~kA=ceN>d9H1nAT]cA|5U27UgmQG<22w`4$nQ:6K|i.}}_2Goq'w~G%DLMVzhMOFH1o~o26v,Dr9#S>O,rLU/Rh%,u(
H;0,1g4.&+%0_1l~6WGJM>?r&PJ+d?V*j+?Vxz6!X/~WQLm,/WqQ]{xi:?VViX=?NvP3ZNz4d2.BUn6e+y$[^XLI.DO{`v>0Fc/dj/?Q}+dRFnOIG*'7B%~qPZeS43M$S9DDr~tY'[?t*y=Tl3]95Z
nDTSVnXLEQI,tBSw$!|6?3t]AhWWCFD,=nQ=>jF#+npEAwx~I=8B:$s>p|9urEYu<!vu]4A0Zw>(!(^AFo8:)pSmV#Y%(U$:vgyaNxj^=yy%4we8/^#_5=eU>xX_3[O;:jA/dfe'<kvz49)V}Ojh#^
Z6+z>eUMKI8wC6GyxrAY~=L,YWvWNrOcNo!d,>joOfTi=R$}u)l0/gxGH7Gg{<onvtTp?8lv=7u^x!3_?]c)>e:EBvPSWuR/KUq,Sxe5U`T*D]~qBMHYXv0:#i)Lj>8g;ByqVPHZ][[4A.asI6LDrp
<.%Or)u3RH4W^Qg/;i5d^o9l]=%3a8CW|c|?Kt!;/BKC`{5gnwHZ:'AqM^GwCi|*ZTyz+?$yC4%)p&j4o$dC4=n]tMrS:Im!4CGWnt%w78YQ$1QP^EeLwvVip#=z*?/Jw$q%jeH%SuYi]<4bXpv!}a
;1x=Qf9[{CSExU_M0FL=GD*)P_3r?&|'8gh1z:<<I4:KPF_6L_wn0BIi6I^s*&jTP!$jgK^D'BBFwx&17c_Y=Gu%e8fkH6.Kzle%{;l3juZlpAL<R0Wsrfu<`VvGwcp2oy>/BWg+I+1QR#;DtjfA:$
3}m#2^lT^lDf1|7M4H;'R$h<l]Abl4|v`9.H:I~P)HJ<_Y1J.xz~cs%f/B)A;#.Qkj'XLL0Hc&}JN'/jK/DHvJc,o$qgw&^L!u)&C3p`ot4:2*0`Cs*#Le!f8lPKf$+]bF.,:h$ZJ5i)spXJm%7;`p
.Kq3.}C$nQhe$Yrd[oARVY4Zs~8]*PYlk[X&YPN!NJR%xXY/F3'E>6mr$zfas9IO%h2vjO(qB[<%=M|W6vJ=e)V=pC$QwC;7B?R,V*I*<HmD,BnF5pnyf~IFDm$%Ol`'flm/gx}b_TL>|cTHHgo#Zt
<zzK#9P{vMFY5nLjJh4fQ8u:yRK5RLuWp.|F'oQWl^Z37,:_G%e`M+bT=P0?X.A<b*&RUm}g*zS*=k9yCan=&3H>'xBD{L=J{i_/?KM|+x3s.%em,?cF<;s=Zwssp!}a<RXVt%|h.?&IA9EfBp.EoX
4WFZgja<`TSZllrz1)7>IWIIc(d[i|ejFI9!1b(#wJzsOw&&!J7j(7HNt(v$mJ*te7$Zuoe(XjseGzu.y^5aA.s_o7Zz43<HK%&wSlx2JJ`Ts7IY:p$9%R1N`<u5n0e5g)mHfF=:?&lAy`yc}*p*$v
h(MkLw7*a~i,C9oc,>}c}IWE/CqZJj{7a~'vI,KDBC7s9~~vKqT?1nFiRX,$w|HpdeR#T?)J`|fKQbw$7K)+k#^i:/So3!=Jisgbw%<4nKz4UtA`3k}g]EZ~yu}m>I8vj:c<p{',G`|9adlZm^m'D.
%)8n]t?^zU#j.f3+W,0d}/c~V4egl&=lRo)V~,xVm/NbgYj!kCz8/2AkX^/UhD{kTWx4`YtWk/A3pnd/=J~Tw,3x>{{q!GbHsK%OL{k0+<p0AB>3RdR4zB6_]dLYZ{sli'0X'Vd)zJjYSJOfs#H6+C
gM5!x(OtM.iAu^ZAilMxNUMg|R%:,IYb?lMJGM&fi%W9oNB~`$3Z;NSqfC0SYEiKlxGlTm^j!RX;nerjHo{_wHX$5l9GytlMK3G>n%8t?Xx|B(GsDWS'U=loqEqND0}zzk/i5y(~BjqP[S0#B'7Qw{
*}h:d_y[HM0#<TRN9&u[({Uj|Oy&*.w4pl&>]l<XZ`Yn=eCnp72za=!1)&G,'7e<KLPIqIaZOF)h1v+{tqXVi}s5lW#]owG!+t^z%cPH<Z<N/g.g;Q.N%>3t{_#xaA)ay^gRi4XLgncbvP[{pU%6U$
F}|{tez94{l6Iq3;S6%[9V!!u=tO+K~d^N*Okt15Tbz0k=72kE|JqL~>`AA7);ZbI<NLKr}>uR()k9m3/R;'^gCR!bEk#mJr%iAHw+3Y.(Muz5^Du*O6X``5DH;uyyS7p}RmTMl&Fj4QB:Xg=noKmD
q[WTl*YlU6ou;ffW<xS_M'6Ff+#r6UMS?.][8}=}0=WF|=M+l^{zJ^KH|9v6ky:(Y69;?;ik;dE'j%E<LW,nwrQk;_vfknz^[:1t.1|^vuR&wpchI4[Y4fcm%cV#i=nGx?w}4ix[/dp:M]zP#|^B$d
_U>r+zmw~KIp`}Bayv']2g#fj~DO~70B$(w;'w^#(MrMETL513Eo^qocNMN[Z5'r_my$BVk)W2u2D>e.cG|48<DVxDaeH`#hfCR;v.{?6U}S$58;N1$y1r(Sg|XCf9^8,:';oS0]z*B;k:>(l!zTIm
5V?#td$,cer=1mHA?2N750Y)s(93[n2mT>y5QN={qMtu'bxkA?d9yX`JcS~JE4$ads#8TL#2?KcWC&gcQ+bwf!,[[nX/C_h2Qmv]*{1~T{)k%_Ty[`zOs=Ch}}t)mZAt.Q(gM^sS172TylU!6BI*uY
}=/f~V+VKd07h#%c&v/'mg(Z&EBfEnew[L)+?u#+,y%+6P0+NCVF%Um,_oonX0.+>*=vL1|g^MKEkt^&=)wEHsQ2_`nvjS8YHdibzb<AJV/s>]J`Cts6t_%(p[MD]^0<h>!`+)s*%=y:vLA[LSj<Nc
mquP4GAt>pZY.fP7QfE~:g}H<}})2h)=ZJvbema3pd10nH*8::yfmFqjpUxW?]WZ$dyre`o#EIA0_Z%=d?U:J&1Gec)|^$Aj85?#d!?J1)HflFZf9.2u}`|$Gyw<0{7OJ7EN?qDAYPoIgVB'ghg'!&
klMDJ$;4kUXO8T/,.o>px!LUhzBCa=t/O|V0>kBJV5;EKKhY:S4>Xh$!Y5J~O#>X^=H)M[Wv{LduqeNa0m=g>XWqK?.Cc*9cHRC+P0b4i>d0=f)?9xkR=Q;Sne~!.5'Ci_|LXA=GbDvB_&nn?b!l2^
?$#4.]g6Dar&{Ina>'8h(1cMU3D5/y2mEv/2MX/[2n#tjQb+qnW0:F{tvnz|&PP(_oP&KI6CnK;b]W3?/,{Nn;=*Jc'xPuQHUTl=9#^N;)s*xJOz7Dzn5x)FkQ^A5yhuB97E1Bi}g*6tZW'G8F;7BF
VAJ`E+$r4Oj^o^ACL|+=P[z{m:{Ps7|K?J0q`k>6V*N!f;b?G}8v;VZGM}eiRb5/%RX3PTJ/waiAm5X)ul:E09,kHjI#0T4q:0YSX>6a)c1L66Yeg,~4>:<<YE[o:8H]Bez4yT%*&A'/>i?UR(pFl_
|!',T`_g~./A=32iv=,3b]*iElZ#!A[oXIDmv!izHd:K/#+0lhOJ_LJ1s7Db9CQy~ePp:ORdmHQ1MqIxEl4G2QdmJs]MW,t>L^?aIxRlMK~e!!?+o%?=/9rCBCJ[fS2:rB3s2wTB{+j<F:v`v=I$1y
f#H]_j?82#^;ZP]hq7e|/?Tr4*?i1up<~?1HCXVW`MR?;+qDQa$K1_'[Xo&&RX),4Q}Yn'4Rr`cc'1H(cl8J+wV}TzC?6%}lTtjR~z/^:A`|gTfp|Xdb*OK2Sg)'OkqE;AXIQ((M0=+>&#u83dIDt,
f(qcBg~ung$rL%snlc)$vl]Li!^g9y>/0_1iU`8yCQ|nLjhk>~,5~3[Q_+oe>FP_Q}~F8`|pb!9Zr0`6O^q!sC|_=KO1]A_g1`!n$GhuuFY+dYK%G4l'AK)Uaw[%jifGwynj$MFWzB&2l{nkz=&Q;4
SO5TYqT%PpW;y(rSSF5K+GeA+r+Np`Iyfle#UJ'd!>WL'#9uT?$aU%3FycH6,TqKm?o+3vq;N(=JTlN>Z;9Bwxmfcm+Bz)RX#[!XOtZRc>>]FimUY]*_#I^0(sb3Ln_YkNh]bz*)>B_1#LZ6f]c~}[
dEOS[:mdm<.u'f*qPR47n1U3()$;!JRw|jn[A4Ge/3oOZ*?U;.)kdg3<!|<&}*GTh:k2,kP+f_d1`fS]H*rzaE#I0;>IfBN[*,=y(.kg)Sawy1n0InCHC><y{w`:;Z&l#:E4zes4/C`l93::|mo{1p
<#Wg]RYXxpJp~f6u;DuJ(_8iCOeR~zF~&IQV=TBZ<<O&v]Kv!Gm!t]^;Pb8B4KrA!'>LhBbQ9((&k!`p>Tm0g58Nku5[>pQqV;^%#SN!#;&Fi0#ld=M0!!'m_Jt3;&C)+Rt,?Ri?t/loyN(9*Hu2.?
bta1l,Oov1T;zv390ah`NzMqmGE}Ti|X$!<qd&aV5YREhm.cj9J,Q#Nwtv2;40`e0*BO*?x|#[RrcR'{!jDA3;w|;8AOXy%4=gtR*hkWo>[Trc./4cbtUn9aQ81.1||i8GGx7ceZ~,JtCvA0,vB(N1
*ZAB)DYDJf^,BtwltYiJMO_x2ysw1eRg%3EZN[T$!v|ibg4B'|fv]8pLs`BY83q9'~j0<H)?>/sP|%|rfmG&71j?n,1uEC]>Taf>ou70(iaD/W=J=l.;)m?hA!>EEfJNcC&bw,yrI5xO5(J5CNU?t]
S'+8=li=<wW%28en1dA2sK8k'1jx[kSsTGCf1p]i_vxWYQZmS0Ixov8T.k+74j#OFz68[=TOz72syMy;t?Q_irJo8}=IzxSts;N~HVQBGS34c^:S*q`iJ~lybB^O.wEo:19O7gw+Hk70l~'3ydmYdT
qnB(jU4gRl/uQkw0+e3fD]V=diX>VX48SYi1yIvWM1,/'Cttr+*cLdn2H|<RTW<X$iUUau=^IQn=u7|GvlGWFl=|uwuc_S!0UT+sNj#HJ}]iaqbow5=NQ609!1|fMbz?Nl8Nq*Hnz0xcWMU4*Vk,a+
<oPE1?Zz3N:NW]TCq>g<C.c!Eikxz<NWY{U3?Mf^Mj<Zt:ht#vXrI.ABTEXeh;lX)+$p/wITl{':>h&Q?8oOP2uc%W:~g!~pR?5K,ez'g(_5GhCALM(08])m1[0b&1,%RX)hS+SyN]~>aS%nR]r2a)
;N66]Hk0E3v.oD}(5,20[lzi87O!v*DPyT;`q8oZ<j;sh)AFQ}5%#RFK~46q~woFsp7bi>)c92y'/T'[5n)kT[O^y87'JT2a<'Fm2'OSOF(>nlPf^<7d>(EmuiPkw1B)[H63^o?0Eq>ZQsao?Q{Xi|
oMLgv;4Rp8YG.V<<_srORgd*1[mJG*Hd{GV,1vPHb.H9{9zxe|jY^7LYTTC:kb|V1s~~O;_8{WG]WUL&db60BGh(Ft^.[l/+XlB7BQ0O/jz<0:/kCx>sn:5oIUPg<EjI%//M$$cRzjaUC4E|WROO&p
b6yOH&Swn{~WNC+OU2n~*=cvG*i_rq_Xm,}6(3;inbifs?'clp'7X.Ts,k`ZBMHQiNdeif9ydp/jJ5Udr8>b.(^U~PpShu>6e]^&C$<|GrTGJEzSKX={O8LOs[FM_r'H^eys5fh_<O]3*%==p_dAYb
)c[?JfhL6iVHglC]hzOm,|Z9sc38|<T1$v!),0c2%LIQ;.J_<?:Vlu=+Q4nefpr;?8i9ip$[R:.%}K/eF>tW>d>^;>FQKe9,WI|w4('q^5})oHyv[*=?61w97i3?&lhf:4aIaqu<SpuPzGX~';SWw7
b}cf5V]S?#<J+Yv=)WYsh^fQcTV&O}!qKDU:c.{.U3K7`6^g:)&egohx)w,>XIZrEZ.2KWz7&4>(lfn4NuTv5t_Y#aA$K`tvxZvp#fGHN)]iB2r&yJrDepZ3'ze.k|,QX1M<^wSK8;CAyWN7]mvRoA
1d~=[Wd;'aZ)5g%crVOQ06$8.''U)Kfq}Fw;^WfRW(~>i'.0veLcR9?%oWJMp]V5Di[?DBf.Vy[zXA$|QUg(LUq38n4'&E)1,xnL`I!L(+ys)D/T^|`|T5!Gwi*t'fiO;<=M=p>21H>j5Tu%[WaJZ(
&,dF'c!m&jE*<Ws!!)lqPW}u$3#,Al7aAX0**>DJZj]bzE>CGJw30q%DI_oN38]3^X*n/B6zQB.nz/6BL+~z>DJGfO(R*EV%rlhcwy4~XZHR6{SQB?`Xnu*cl=QWwy_fb4l.+<qMU>8E{I.A{X%!Lz
'v`;j=JE,8M0vF~fwr:7yj5BK/8N/T!0!X++3vcOW}~}c#h+ea9iwqO2]dA/0HbC}FWN|[*5w7QgX~S;&U]LigmSHfnbj18iLn^kEgEhNM{5D:|4#G,EW_2G|.<>ykEkB1&^^!RkUNY&F+`15`(SZ<
I.8qELt4]hBb_5<}`SUR.J5F/O~6XF`0K}ldRmE3e&e~>mQb<}12!a/|C4OwCxHMK59Fti,1au,{sUCB&MTEoqM7$h0)Eo2'qs|P|2/y_1+r%E9H4BA/rV7G!BFI6OaEQE:%AUQmF{IeliO<te[|]J
o(yV72!qN4y1;CguT}lY^9xl0ep|{.zS}NSZL/T!Lc6[&BE?q!+[k,*k$3e1Xz+H.*_pXu1>iI(LGkQh2i86Bt3Hnooj?ImxtFoQrBTe9l=IMhK^1M>e0|t<)ksnB)wFZg1Ss{ywg2}/86N9S[A/]A
3;DSjfFfhEV,'02?{7un3sziVXyQqMR:/Yh%5s>CoIo`zBLXw{}0c<J)U1$!{4XI{In3F_$=x,<$9c,R(TPVYyGofxi}4p`apXMTRPM*cw$7F,3_HsH6k6/hIR5Z!r1&^%|oAJWzlPw[cg|}Btg1j9
BfFtnmtBoqB}J}Q$(<p~a%~ep2d'F!SPPDT3#VIBSfJ,q99sRK?|}EzubR`*?.VlB^0O[9Jzz!qMI/A#B8VX3,!aTE()F/~W4l>&/08r7V=|$CKz7yymD8K$%YIO{|~A|ggjoQ/XkNqaf4Q#v!kDOu
>M^4RB`6Q<M)5NLG`jT]xQa?+WAr<s]|LZ?)Vm#/J0)BY9.<z`2n77}bLEp*}OcBmx!7yJrG22:wJm~^krK^S8_]yKEecC[=RDGj*[CDv7^,x)k':3QiL]:>6xAE:ly/5c{/LrfQ8[)>o|pU^EOqjw
4yl<d1%Kum}ZC9/{)inmM!f:z,Z#&&rYVo]T5jwTnjcFZU[YZAa{XUc7Eo5w~|MYaWzH[l=tUo}%G*%%GBxa$&i^)rF3_fNHTPj1f]6_4s14b<V~8>0_RrkxNpt*C[U(<y6sjVJ/qX^wO]dQ{kiBbs
HsFS42a^WFdV'$UZp_~f<+u6c[=qcp<?[J,{H?oYH>(()[UEKT~DZ^]RI+0QoC0sP:4mHy/wWH>heSgn2H#0'<KJxnw+h($a`Nsiu!C^|FuMTdd_!uc`BWrGg%C}dJf/?1Pt:yX|1NTWGAnPB1<xj}
Bc6.{jwXr5j:[q+e0Uz~rg02jGtS}~aPw!y'6d5}MumZ0e[l|jG_t>xJfTFLO)7`8MCb'x^4|c)6t*N(mVVXffo{>^,bO&9MM6:C!GdmDZ9x$!8't8T*Z9,jFLxC&$(4dG,jKHS9=2el`KdZ'=L}zg
8}KqbYaJ(ACE1=0IMNJ/jN;yASXhJ15oA#4}g{94%|Z4+p{5bkCdF9w90BnW>92cE.KV]6A_FD82EB</{O8DAoZM$I2q,CUe0i6o5|u;7$]Nu[oLC[p$jwUBd$'5,Z81]Yn|wY}S6(NEA$x:SRo_y#
VjZhVciT0jBUzgHwpAGGTu0etm+fI1>TIsJ0z5cebBpj7#o?]O?b~jfZu[PUXaX6%ab^O:+0,lY*R:FbK8r_I!1w(;!M0DExZ~gW{S;vf,P769huDy0aE[I)b2wxI'US8&GKyG;N96/uL`Ipp[jr)'
^vI~vN6bGz~VDzB='a<D/9[cGB#Sq3U7fetEw:NuZuA;V!Lh^~y,8:pbIi}<V1Ue0|({x]NyCboQ?hj://$,>U9w:z+Lbse0?i6f#|MZ4B_7_9gX9a'&m>sX.Q:u0WGEznvv~j6RCuUEW)|TO~|=Gx
:bzzuv=KO^$RcB,]aDbx%hcO(dKBw=(7n&%H6J.FQXUFW~kFn#5$.7^w_=NTi<g&M{^vBQyCU[*?6A3CREG+pizKofN!Y#Qqolv26Rte1K}}16{}+&'~?mDlHEI_M$uuMMnE3T<0LD.x;j(+Re'*Nc
llI.Cz4v#ng82w:cTYtrXw[)J8H'_>JG+yLvo7J.ok%W{;r<S5Gf3Q$qRwH%ui]P9n!E0zpxw!F/VDjV=%[jB!acJtuccg<_&0GL~A.}DTU$tSYJ>HxQX4[JGOqStwB(p!Uy7`}&C9T,YZx!~j=A|w
D)(#ujPMsBZa%i.UJj}E?[jWEm}>bv8:4YxrMp]=6$!f1&48G<sl2,|ac^el%uS;N~OFz>PYmS.nnglRp6U'e%)||F>bm{X]WLGG$=|:YrjTkMK4Ac=2Wbh9Yw/j;AEk<H]6eg~p0k>}NW;/M?tN8B
)fSd2n*V(wM>wH^_8f<ipIDejJ!ZbS}:m=*5Q)C*$#+gCg_!vb3s]M<Zm[s%?]RD/k&vAt~qZd'R<2_(cBeLw|hENeoyqO>,|r1O>>:1=E!ll%`q;0MZg;raT~0Qe']v1fgQ=Nd;4u6dASG.aC.}I'
6>'t=BCk1:PO(YAc],;msIT+=]+QP]E,:,j/[],+(N}C_mbl=X&K8hzG{XtmMS4`+?S|^;aW$,m{D$%hx}Q_u$9[=E06XuSHs$RfDBjo2[0g]Qxm4,q*<e`YGo:6JBA%&z.NoxXs6cZ2Am[8L(Jd;+
n*L?Ux0$d#I+(x90XW[<D~Jr_Oy%;GOW(58zfg$s:*YxBNur#WWV;D*x{lKp2.$oPGehPKc$/uqaVkI,>yn`^a`L*^|I,BqQi%5y[wxM(KnYet+3f?|(>VFEFRc#[ys.20xVQ9fp>CPqb2F?qi7l=V
*Mw+Kl{]&r[/<5U|&VvTOB^v`_u.uG%,x)D2#Me5)pBg,)>N#B!l>RZ$D+Z'&Mh{`Zj3RLO8!3D*^_K6f.WA1s#[tq4bt;}k_(PanDD_!?P2_w2>p%uP=Q}z>'Q{c[^=(N^`nr'jiGlRn3rF%U[J3t
PT!mrcH'T]R==<T)N2*?%Y5cX1$.y^VSN~'%BMWBqBP6UzFd~Ql3s86;0xlyf(28%;$zCA1vE}+Qr^y`^g,2iL2lNlz&CorMsHQ!?$u/czpSuciqWg8w'MW:+6.Jvt8b7b7}4lF</v1!o'o%SKRSn/
.g/qkK,h'ik,{j.!7!JI$y1z5;UxM%O?J*3H~rxF0gL;a'o1;8YJ*MzA3Dqz::K;{+%$F2WcESgX})?y!&j0z/6A9B91`y=,u:TBL3l4ube2{c_VR_AhkxlAm~>Q{[8F]3^`GklD?=LTL*ezCf!^mx
f~!wliKk9>heB(9g!LYd/dAH)r#B;i99IeqD69|KbH'uMA6}&hK1VL,Pj9.zTB`_50ci8an227a=^?OZ)aV^8WL7bKM<iQ)DKNoN,?*b&pE&hAML(!y`{%_+f2zTTb2.R6u#!;tUMaMvElj8aAca?[
+,dUR2l16QHD>[.2(RU(JlxWX]syg+hYfl`1_&r=O3c8I}:J#Qy6G9s|qyXCxTo8EyF%nv=E$P+d~`LG5TCC/I09.gl*$k8v&|9c(0)XsH*J}C8>fC.gwSRYdso8I'(]E~6{XCu}YrFS,{3{KQFFBN
mGKkqUDCvS)u>E1.%E!m#%[mpSsM(<wdwz2Op^;,IYH2|T(!n/A2i+5!/[e*g](,9AsFJ2++w*n[$BFS'xGsl].Jv?y&C/,9h=#8IQhFjU^X:PTE8Exurtj{X8Hhv4L4~`xlv*k3t1iV_s{*vQQ/k?
xeEctOBDn`4;vZM{#iTh[$CHsr!BX5CmA5Ha[T1LHWr^<#WxN9<Ja{9Y)/'%3[iIXZ|i_~6pf6D;l5$AHNSC9YXv=Ka'CJ;Pj%6~m;+jN9|Dhe`za,4f7W<e4DMtdiq;8_wlaJd3^jP3EPvN({o5!_
'%lLN:Hfg$ldAC_n%u.Lf9AsIWaR,8AJu]=oU3R?+aP)/DE4f4J(AMR2+[0[30p*,!u1[ZvAo<cSTRX}u`eSVB]KG[:o5tm*?iepOL8M.vyT7}1ZwzW;gTp~ss.2=g&xoRmZU/=/b|KKU8)#uzMpb1
#~2'rz<U;N;/7E|&by0ZM_qDP,_dr=G]Hs;{>?*Cn#,[Y=G6^Tw%>m9lGWwGwf;:9N8,7W(ee,FBJJZGqt_hZ/?De``0;<gXm*(LbrGts4>f}LN?n9<V:j{8zZDRX<yf:q7dyAcV2^g?0ffo]R)'DE
azy8L/g=se>9MEc|e8sd=*Pdt%_9O7w>i#D;=f%QMeN{dV4_fXqg?JrCiY+nr{tU08%CLb64$Lp^:<WH+_;j78^V9k,XJF4oyh#L1;d2ZYTel[I!lgzY!ZX%GxL{ls6!8z[E[_S!nVL!_3p*t^{H+n
C__pYOdWq1:7SaiRE<t/KY9qb,=q|5s!yt{jDNtsLQu8N<j$+.n+]wyU;6#lH+h0[6B%}#]/oFZ>w&?,lE*#K.xCU<1/Aof0x+2LTu}hzp~aZ{iO:}7~U%:2O'mqN$|q%pbx*t+0)6Rw2v{vUMj']!
nqDKFsg|'M!mX/j3}Q2][X8v}%Hjq#oD4JgcoQJ7ll>mBWo]XXw*rr2mlRd+?!RJ^+6e_|Id^#r`6MKqpdoVHM4|i&`[,0uv7QN=>|eGxGOCiK7DS^hJH4ANI'yO'C#nJ:f0(:!BQ4wER$;l_q1L/8
yBRqswTr3yuY*R2Eg~dt4kz^d`~V.b$k]Pk>hoVgKK;:QKEXd[8irM|hGbjfR8UYbtv*g/r!%n:*FV`'p!r+H|4w,pr6BwG?xN^#*&ppYT:$6neC|<+jz&:KV+AP_^&^*`7b,3=WJB.JDz77tD,#a%
A/mO2^N;nkJKzC0L$d5Bqv,QS7#w5C8p}IEC#/Rvm{?[=aPbc/]b*/k+G0wf]pR?_j=8>n9Y5{_w2,7Qgw;{HzgI+]qzZ}SU>LQ!k4m`GOUQ:v#x,?[BW$?>9+)/h_v}v}$z!m1o0lW<6M!G+v]w7H
ZR&U%CuV1m~PYQP+SZ'hu;L4KgT&N[05jZeHQTZrmv(uR1BJ}gzn5L;oyVQBS6j?KBhxP4RPeXV#>jQ9xE~'xlgJkVlSl/32i;mvJrWJTD^Yf{E$U}0dMn<`UL^MVCmi<.<B0oCu<>R0*,C}A)f!Q%
F7R4d`=DMzDu'o{}BUkZN4GSd>zl7Q7JGl:py6N}t5wG7KkvaG~(H^zAKJ`+#gsrw}8K||m}N9ou4+SR$d^oIS'P2fH&*d)k%C}=ZD+Q4YZu/TN4c,F`pQ5&UOW<&,n7ru)Ge~XkhdJDZQERlj:|y~
$sm_8F9xl7bCW(HEj(V[cG[]5[Qiqs2n+5Cjvj&`!2[yG9yKHbU}dHWOOU/rj*rHLp{zTa&qrcHDFOc<G6.n/Z}ILSXQ4,d<Vo/Gc58ZI4=meCs}T%c6n]){o3|RM<(;$LS{b#[Y0V3z=<8uH]26+f
$55'v%FE2#QkP>hnY.E>|$zI9<RCv$pkyn^XzEjs]c:aES[fHT2r'&LC$nR59w$CItIFU&x>Wf+X%k/t6nLnQpa3P+qt:9^fRS+m]a>1%;#+Kc<d;j^?Nhs=q%`A3Ad1i#/UWU*x7E$9K%JKHLW'/(
pm:9o!)!N$SI&d$(CoF^.{VSNtvvz{P5aPlKUV#wz!8G4BUwi`K6//mkWr9'=vAH]C8~['</IGA{$Opc<#{TBdPe.b+?VZdN%D!s/xb?*)uh~<+onej$B~yR5TNn`lj0Iip/|LZF8=,<Z4swoZpK8m
{]#u:R:3Oz}tmW?y^Wp$atV1j}~,2clzvQOwO7n8^td1&j4MLeXnu$';Ah$Ld'}2Yz*8I#Z.npN0iCpjA1x44DX:Rf'/xBuD'=6/UbnVsmMS2+%vbN;KQW*^b4giwaT'|LDVn8r>&^{FOI8}ElEJ:5
.eNfeeI's#XKO$tm.f5{g_&<cXa9<D52TG96amr})Y]X]*l,HYLSL=APYoz=M^N6^Z~8`EQTgxck('hsUI9CnR6Q~.Y>&zZ<aoE.]O~.mE,vH$7.n+XtN8!;5;)JY+^6~LZ,0Hrl&:UFN,6a%*%;:A
mBd?OP6I5_:b&Fw)#A&*CaBOz^:tNE,UWIhp,,1FUVbiJfT61Tz_*(#:&*uVu!1bmA>]9RCF[urx7dGL2lP0xu^yM4nXxx<0qL(n]A[i>HJB=)ec`_Z!F!DGg$C{=jP+ya/qAMWdkCG'V&QK+FH$>z
llB`.7<w24z#Ly&>1lzmP=k,F)BuZ~5%,7rs&Y0;jBEJ#?3|G*]6x.wcNMn;pGXxd!s&C].eZ}|3&ti+vWICn)O6.yFgHlcntd_,33MCYGvu`Eki[FO7ljb4RdMD2)MVMWC+_qz!V{o7<Ef]Fw4G[0
%CNk<S3q)~~#p|X&w:uLBTp[9JGr/p(zu$O7sDvR_*ai{K}NI7U>F39juLVT?qmp.CTw1`A=nd|_.VVSI[nq0*Nt0d<|SBJsE?9p.QDt6c}?OE]u%_fZO%XJsqd3B)}S,z+%GV_.{mppv[paVVw,Yb
qYC[uoMrCq2`AsO602U>%?Nv5_ET$v9Qydsii_sj$x/33w0]3qzc_`(0bZVQ~%D4l%H=9lNoBu1s+r3aJD.mKcu3+WT#0uOopHT|x#!Zvq)>Px)}e)vAsK%{k~26'ZMe!oYB#~+K'CO4Q3*SO1fODv
US:US|!9~k:kA4Fi&2i*H3(ci&u4D^}AQ=4&2duA4{Cj4D[''znft~=x`of1L<Z.#AfjO&wamrT!30?i6O(t)'Tn$E,`l(JEa>N4RwvnQ952Rs+aw~W=?QQ.Pe[Utf=u;fvR}XcQe'aZVy=BufSu{)
~Ao[~WbJz)JkfE1Fvm)9~VYP1Oj|={f'*M,'<n5w/1PaEy4!:ek%k|>6`^rDp73A1iAB+G=7![&tR?L7P['&#;Yy?[odKkE?]x!L}_;aIS2;ru%g1!rV#d'Cq+OnI{z}}WDm$tS+'F1gPA>k)S?Wx3
4>=HNf6E`:BC/V!aM(N^(b?dzKd?v4h^<1GhY(H*Afzq:yWF#aXj`EPG`&Z&x}'9UB|wWn/y+]G1f:~B`,5'V*U;xfoU&Q|CG}l;Tco>emeEX|z;99o9'{?(V?'5s4g,!uvCD*'/<FqYNEyWH<UrN[
^3jKN/yo}uOW~:u9!MF(J8&/}157^_H|t5h6|`k#'5N,j8d24^x&#{XoJOcc)E`gq^6V=SPGF5zy>(PKwV9~FZwn0`:N[dWoMel}~xc*dq+zi6j6^,<_<h/?!y4js8FJo|y5H|p;^5P;14VLCHDHmC
WhqTrd'(?qdEc'?6o)X%SH!61`51k6s8?M4u07WE),.ZfF,(e=2<+FopB9gwR3g[[Tft{t4,]yPu.c{_{([s#b8N.:)=1e>H0~k;6zf#^`xoAt3LH/q{j/jyx'7[z%<HS~fEd9+O`>YMQ}(Vy{X.;D
!40{8gOqz5'WN}JNiOemb^v$v4*1:QwxEn0$JPr#I5+ki81^.B(]G#jvCKQbZ('eq:c&e1%s.S2]'?tF7hY(sb8n`o1T3mv$Y[1GC4T{jfb8.q>x&*}]=tzzDL:CvL/(~+fxlX=)p1kc|bv&u>87Fl
|$,IE/J_r+*bbOXgzP8&%}/0V/MH{wz#c!jBXrd{Q;bb1fgby*+EAm|(:NTo.#~]o>qu`VCvCYIl`$L^P]jb'_L&H%r?!5+4(py{bf|uh)gCrdv6/tUs$%#kd6]K%TCZ3{{_=yEX(%eK83Yp_.yZSV
G[4jTk5lH5nc={J#wN2*%PKb'WBTW2W.$tH2%'swT5Oy^Yy#6PGD~^e{*u9,tuYL`Ut#Zx,[_v4{ce=t=QWn7bNl>aB{Z3xD?[FU)I,X^18IU>SL=`KPB]GfEijS0bT<Q*y2=sDxCx/~#%p;t#zR>O
fPtBcR$=!,)UK|DlXu.PA'8D_WQvB~>lvxb|y#png<gBvqL2V*peV_+1m'12/zlKpzet0C;Zk=#m{B7>b[r[8kd<8c3`zH6}P|Wv1,7`:A37,8Y}?(z/Ro.s#kV}:[Bi{E6BU~:#Xsey!+V~}j+FQE
gR0pVT.3'{7Ddc]eS3GAnC'f.75yix.hIaHMjnXxgW;5BD%:]|SW9/):eHq{XWd.e,3ITn7mo?y%}BXB?cFuO48%Y&)Wugr0C/KFGOd;m]8T!I^,;zG)QxHZca93gY].r)'77amUwI&mF'PULbyzg|
{=+y,!#sad{9;({PFQE}w~YF(HgabI||hji8s(+!d)I+%tuxaLJ;}+kM(3bD!rtN0+d8I!EOZGB+mdSWq4#trVcZ3O6<`Lf/ApX:#[J./&pjwhhEZp+2JewLM?C/}IJn7Z)fEM`<pz9'I|Nh|vH2zz
Xy$?XBBa#)BVKsdA#=]w3xJmC9tU{tTNwa^6]pe$iPHRRtt7R%1E=$h0c~_11:2U4YC)ta<5FNJv?1=?j'w(Xd~%F9zXOLfek|l?<TCrd*OSc//0*;Sv![`/CUFKP9G,`4'g^)Zou*ia>QP#T0}!vG
.{z={BFl#)UyH<g^#8nA*23YA+V>YEK'DOqUQWr!#`|[qvmT43n}tSjKshMrWmEvr#j/R^}Wb3jQ^X}NG7;CgB?bTXdTzd~S%Zoc>YAt{*7:q8=9r[4,`K7#?gruyl2(<k6crjs2H!OcM_imErXWk3
xJVwjN/_>}Py#~rV)/li}Qn^l<ktj[I>`LT;QoW<!SBGfzPc~XkM#au/).%87ER94R7_$cB+5XXt]/i/d]&Xd{g9$7Y38c},dC'](gh9~~S%A,f9].la:]B'K$4P5.>8ZCd~<CF1_F[Gc2q]Vt83Hj
^|+2{2=GG$GGuU]MqIRwRvh(4'?Mmu$l%xpS1iCGxx,_RD_g~!4R:qP6</I?3[N'xJ.JoVU&hqpv8`Q*NrXO}1(~<Br[);DdsAYDs^4zG4$k10H!o^w3JeG3uO%9g)#v>Lp!VgSw#`,xSi#m:AzD|Z
hUj^9qz?t(1|+P5FA&sC=6)9kp=mV!H'nL!CK>4tpn|`k)NPX#~yVS}yj6[N#6)6jh[s40kSm*/7zJ9yxCPF~;T$%Z_:Z3LQ7!Z;OF$F9I/*!c1|X0ZW)*[KJC?LARUGJ%fKY}GkpgHp9:l$;jum'x
.Vnv8w.=5r5F9kY(;SoDm1SR8(,JDH/S%fhy|]_Ud8^+chc:2Tw5$wM)p3i?lG9>Fn]Dq;_OWG11}EH)[abZxCr%VS*`XGKLDViB%'g1a<z%kc6/&BEoJt|5gbt}t]~(2tqo+;EZ6GzE|]>vT4Sx`#
Q$}`3XF8dsI82bT;S9$M^yhxafZ6O6DFr3r3~2&M^GyO=K8u,m_':tO&3/c=?B4~QXH3HI)}+;u>#&GcWEKxWA6v7?;id)mymv}&%dJ2vc+d7d_%mYK8bg^:*sm('i(cYQ=`}050>3/x54r,C0kXUT
Vs1S//TEfy9`Kj3+E%.ZB..ON{5+vICO|5gG~J/y{PaOM5ouJ138/ZdaKk~+05NqWzx>B2G`~^lmtX!=s;%'47*L0GWGq*CM?Z&cK)^)%>9/$)Ca!c*J]Y4e;sE1//{q{Z+Y>RbzoW}mrkRjt{><L>
cV~VOKjP(rRu!/qr2^ZLP6,82Y?aNe!9:|r!Ls12bPW]BdN,Q&nvhJ{57<qDK6:y?{!wrNnHBX:c/?Sc_Vad%{6k53TzRzHX!~hI8G(rWJcG8bDmW)0hz(|`f4N)?.f?i_qE^SqFf/;~%'h(&H(~9Z
(Uf~RmOrdl}D$sOhsbq2p$?[rp7NPm~2G&G8(pt&pi^)(+|xU0l_?iJ#5b_Zj51/fod+|TtTUmAv3C.$`{=Q|[_SF~DVEJlUX`$EPxY9J+[(WPDg9>&~_2~7(i+,(&q:*e,{$?6`t6|F/Ef`5nk2G>
(Iz]n.S{MYw*c{Ab54p7(AP{P|Ia%{wHW{^rl&c/+3dUSNdLt!&[jQeE`1eUbi.S;b7`<JaIBQn|SfTLylPNks38Ao|sZ&(q`I{3E#oH<XY6QSV3zp^KerWYJ,h:/H#~QLH%a6Cd|4,bOd_,zffIi1
~_$|M>0PZz#`CMs}MQmiDe33Wwp}U}=C[Iirp]].?m+a.s8YAJ_N<*oeB.vCm6>jo=s]ZGSy2cuq`#+a$jg[?&'~nN>';_uWTqc44'thFmtL/6lF7]+T8'o+b?)R4,|=|Ep=[V^voiT14B<NX},qcA
qJDe!yo{x>Y.Z[qS{&BUbvkInAd3,,h3:k/G?B5H77K2xx$wFFPB{]Z<10'k(%Xg##IAY6Kq+IBO]t+(5|>z#`#o]CPL)RToGyPG*GVMYI33Ay)j0R{G^bwLSk9(CcA;!%ULSFSm|kgdxRuP=2.*c&
?f+/(fd1/}_H(w4A.Q0rl?,^s(C_83AYOYr4um'mimotw4x]B^Ae}*cinRl2Gu5ILEoWQb8x_E2tq;+[;dWu_>0Fm'RV*eO':EV7&9%f1*)hUn4*<6~YLp`_K1K2u7wiS;lEc6J,NAu2+|Uuoak.l(
vhBAx4[dzPHbnv>M.0jL42Hl*k;3*?~H16/{ABcYNBv}=R79!1<x3);VABW7cGGx6FoJ,&=]xgR[^I5jd'4'9KUE|C~sNx_o;GiP0ov9NF0_!L]o:wEONZ:*$&,2+WIs}`y+n}S]>4g1TI}[1_[VIF
BO}+.F;g9XP#!iweX!,'L![<f*S[P^ux<4*KG]>CRt0yy`+zsLi%=R<Va^JbbcLu3+qc`~U0S%2&c_uY..VE`I%*y2x*pI][7,Ynov$KJw>*0bA3X`x0^!vsy(3?ZyodmcvpeOU)!7aCl[L1%C28br
6t$f>vzhp&$T)}RNEHc^F0s*.,q%28x:r[qOMBrVKznjGUqWXzr5hj_i<8vPa!(a|M,Bq2aCj_WtVsR$H<G'*fR6Q$tZoN=+}eV:bM`|}mj?oAIW~9O}j6*OXoNGTw<`$B{y,Z]q45c4Jy.Yp5Zn$`
D&mPf;?6P{OBq$'YkmaHZzx^N3'_RU^Wp2T2bOK~zHI}'a'?{OIuh,nol>hM0T~9taT7ORXWQS8s*KFJD!/Sr|8shn0gFBI%:N*#%ZO''V;kw.&l|oCWNyq|);~~wtck%w9pRYv75tv#ck}7$py#xF
&7}~WVN3hV#7.2xw>J,T$EU']s!b]3{yOW1b_;kDHkM03{KVa%+gd40iaWeu.tZd,)7a`7l!Vlrh!bd)5;.+f6?!Zl>)M5lw5Qeci8H~ZdWZB,c)wv[f51kRHO>m^Nu#U}iPf3Y?=ub6'uLgLP%Y?3
g`X1Z]$JA/X|4)'53ci7Cw{,.fiWtm?bit{jnN7b_V./3liFK!w~~t'nmMbv9(_6gv/'Z1|wW<Iivl/f3G:%39hRUW6aN&uT,Rb<Y?~'nrhMC#T$+MjcYahCYaVP{!:?)9NjldOzt~$wa'6a/hLq['
(H02NLGzib_%nZn>hg;B};<=IS(MBsL8N3y*1PxdWX*lkF/#T[^GE^=]].VxwgMRnmlnC'|Xkcfd=ktw<'9?~.gK8)K6Mfpx.9}Vvxh!Md_$A~%x3+#|hiH{V<s76_C5=u/&ob/2gc&HU*EFf42sdl
Ztt&>D,$=01UfT/V9^<h'!3ePDm1/EPQd2e?2_WXmWPK('L*9rIFK1,63*xEWuU#Fgvf1UESC0<==a~p`e.{'Q4];&R}5f$}0FiU58ZBBv!E!ht$a`Sn^H;>Wq^t1'.HO'$=9Ol{2yhbR%`^IS29T?
gOb'kW%/<XCpK<A$ESS(gFrdV=4jg~TbXGNhS{Zv}iJ:rCyrE{B:e:$uL8eC/o>Q*X9+{7Eilak4'L.F1{ED*a?MEvKa1`AsywYJFXULeo9+a5E;RKVCBdk=d',{niTtJ,EaA5c|mCJr(>_6jb,*i?
URVahx`+6v^w).d~v]Pu[*2])c3FK<_d0}LZa&C${vuN`Ek]ZiBf&]C3eB[M{}9=+tvxn.7T]Q6O)hi_bZhjaM_HvROle3ytaJ,,Z^2Dx]`e}N^K(VBSop~+W0_,u{m2A&;X+syxM+XKxlv:6Uv5T_
R0yH!#T|T2{zpU8vq$+s6qHXj]Wv/)<+=+wQLHo.*y8GKh:6bGkgvdo&BN{)L5$%CENr^X0{D6L<WTs&BB9Vkox]u(OS#>tBXy=u]fM5m!pywd~|W7=9du89nProRQ9WxfWx7$7Aj<c!&QVQ+OhN6q
wpNH.04A.6RV[Y}`bS}I[U?Q,|Vzu(kWq`b:{~]/{=;GR:9G96`8Y&,V&yVpS*u3BSsf+LSjh^(Y]=flo:H[.~nMp3USj,msaIcXIuu&Zkd%{LMMJ^FB2*O[;STKs=h=VDdK=$%yp^;L`}Yg_([Iy,
VCKiU8yVi1RE;{[Cg_?PIpth59TB{=;$nc6!g?),ahg!*SE^a}C;JK+OscB:OzR0u?JT&)q1?BJYsq$!j(z9#]W|`$Z[^%V4g,1l*[YTPFkF}SG}g(,XXU$q,=04+^1P%k&]ka[4b#mEmfo!Cy$oa)
FPWWHv`0/|h=Og0RalR&(mVuCoYOub<=ETl'($u.Oq2RYqLExXaPC{#g5S$qYe_4/f`LDAc^T?=4&5%0)B]VFm>_WU9'4'UT27sEvQ>mSAZAefpiYCr9GHnL`U.Hr)Ne1N|9<jM:kWrN<?QtsUOJ&u
m(oAvq.+s8G`xG:3No#/1|(/BjRj4L3p{BBP]Ql:|DOp`a7+,[q9.m'9F>!1?ickb_$t;tbGDX2tHYG!Sx}ouV|9Mvu]e%9EiWD5jMC!AA1HPBY#09|n?U_F8Id&#l_'OhEtC%f3|^h&qjE!ye=!LG
MpI7T.haR>L.Yu,ryskx>sJ|rmfV0H=R?V7.aNdHfDv'||c/PyB)}dX1z~lp;YwD6![r_g<bk1RkW#oUM88{2:|;b'%2(V<{9*V/e/|],;L$/21ehPv18WKeD1dDYkw{cp,zIo<XWvMmDw_mMhw)/k
J8'IvJo`l+dSXl~mlZC{E?4.30[|'O3y#eq&0FRN:,iy~'!tes&G`QHp+Ty8EIW^R^TpMkS2<X^0).lMO.t}4+$c.'QA_:E;j!k_+1%4sBq^&y0cZIZ1'}e=)[SVYm,rb,4k3xzH(h>Fz)sC&.Vm8#
mfkY2LG5/u{OmHBzeHPh+iUVOg;#T2D6>G.%60sGPnKb&2Go.?`6pWt)UedLMInUKwDja7GwynpMg?`E1`BdZVB25;B3h)kFGJ,K=3{Md?=U7p8>1~cI82sXnNe..~3w~rgq>lTHqc.eM!y;^77OG}
'{)!~^_2K_pu%n?(~d$$eo_nb=_Ic,h9U=zm}>G[17u+:1_tT<?6A4v0g[`G%qlq*k/j,m;6e/L{D8!1^#D`?(HWXHl&7/9VPsR=_,o;%Pk?/Jx#qk<[zcaF)Na,338<DF;io0x8%8n(0N)tW(_~&'
:VsxEDSx<Fj>=Q$'t>.$CU?z?Qf8WasP<A,jj50VbJPb]/(juob5>DGwI;v(v<GMg|Zz3W'(c1+IxxSEkc>F3!p`eZFE|'6%It}u[EC#Zq`(T]FzKAo.S2scvV3JtdfFI/S<CNm4(u~!_]<!ryT`2o
BtBb3>6v,QhOjnrAAT?8],~S7#F]O>Qu]x>]|avnOSF^38Ym(3V:9+MRb01Eg<:?(1m0J,JC'/z$%DbIlv[9nD^i}9/=DAtR|UWG(8X[K}A{EgyYG9&(Bi>R=l`yq;/OqUmEx*_UmmQQVG.nZ3ytIK
tl_N0n:aP*#J)5|ML^0DuLK2;+H6;9KPg(zd07h<>vZbQ'yxuV)cj=Wwn&P,gA0P>2xSQVZ%U{Niu#C#MNcJ,7`,(|Yy$~uCwq%]Q7mV>2.o[RTHFzRh9p$iD!Cl{R#'+}la_W&k]J.Qz35IKnLVoj
qz#)3VJ>f#F(zNON}Y=1!_C^cLn_z.='O~]s7IA}s8yX~LbyF?~JYkic/4ACa|^01]X)|Zq:bNa5|IWUeL.N~A'HA63`_/HW#emEpwFKB^+hiS1USU;Rh;1J<.EClH'^+/Q|Ei8mo2cQEFMC>BSWw0
VYA/B~MHiuQ_eHH[}OJ|%Ut5:U?ovULNQzXIutb|q2uwpNAkJ{}Ue:&/4_G,g7^Q8%/mh6s:gdk:+JL<^_PJm~.K)/;p{zuQ2n[Rka^dH3ck1pu>nMKD<MAN2=49M2b;|B&tP2[[4YJ(?.w`?#RR/!
9_|:Y^MP^fsO:?PRCt*W3w|<0tu]1g0.3xu{RU~DShYK<sZ',K}BNT*]onkM(Z7'6a}+`Hs?kG{V#%zZi>m;NR)*a`#0S8;TGW*^sNj*.F$y4<hLv]AkopYq=fjf;#Ipgf_g$B5!~$w*St6oaMLdv^
7bf!95FN'7B/?lJm{T%H>{~&O;{kRQc[/9Bc>,DzAHMrbHJyt]v6;EN+NNS<LB4G+VvjIkBzQ5S1qe!i2]Gm'SA%E'j}!s!Y:HZ9fmeGoaMeES8{^]<Ns<`2M6/v&2,<^f6t%5yYQ<R7:miSF^$%k2
>,T_Kw4EYlY}.b(eX<R$6pKck`^Ai(gfmj9P.D;ij3$uNq<Ca.<p>$0kNcmkAP1QDgy2e]Iysu(cb<9*]PxP]Z(KkUp0InZS4D{Aafkf{k=F#M!V`%+G_)Aj]uUTC,GuU9GH!hsO`FRJk19']+O*kL
t.1`bCY*eU9SB(6X#]5_:.nc<0!zb>fQ|t*g5n&(Em~N<=1!i]P,~Oa[CGE*m}eVIDzA`2<M(=?&`i#]U]'r_nrp1?%S278]UgG7=!BwNykRx`!ws/G:5nTe~8H4V!kE4[|dM9KScwL>*0S4;Y|Z2J
4d3IFl..6e6fRC*^D|303#H#jGR]uai.fI+PpSKqTAJ[zrT=W7+0{{Z89b=Z!*L9PdVkM>i:766QlhMXYv!t/D=A(C^PY_TD_&mA0BXEN~JNHHx/S'S?G08QFVBti9>#%yyrPO,/<ymIg;2zVFScuy
=MA4`.{}geinax)ZOQI1yUHU:FNEuoL`N/eF0B%&8vepco1E6htK'k'~q'!J9sgp;=CM;M!Zp;h1Lz&kKE^t!,]0'y1h+WDV`H_7R)TH?5]_v[0!;AS,}|O!}|+E7XY{o_!5~w:mDZbf2R'^xk$;64
;Ny(qG]|,Uxi<|A+MJ:p^Sxip[axTx|fy`,Oh:7SN>?9iT0PuTr>0<3dwP.q91*J9~.ZndOm'g|Y;aJs:0R(OMs%&k3n3a>=O~d`!By;+:mdmg)>_sw7+YFLjQ/7Cmag}X4;}boTH0>#4D/2QJxp7G
t>/!]Dzo8=5g}vdicYo#),'#={BiM|2|cI5Pv=S3rH|D=1&~;xA&J'ty5>_`XMSZ>5ZJ}(|u'P|FI?^jFNuoetXI&9UZx4W:.;2)yU;ka1Rwr%yz<p2STd!BygXD[w'(U4L_~Q&oIv_ww5B(Q9%MA|
I[m[p:)`V{a{?`2SPMCSLRls.i#hDJ?}qP`ZBNn_7Qz6:%<(zaz{!DFEH/7cA/9[*2Wky>.]Luo*P3D3VmEq_=8u9eqa,eW}d{[qB='K/S`3%7qX>~M0Zlj%(89[ZcRH~CyyZE&v/kM5];y9h2~0l=
|3BDY1eob?p(zTEn<M]k+s)S8'aM3M:hQ[,_/I~(X*sEJJOnsIuZ6=*$veiM$y0&Q('!7C>rv(#4TZ'`/KkC7q8:edWWY:5:m1ZT6`(R61m5R}Ze(8$z<f^FhS~mm9D'/h^E<=8%4A{N1^OHy]h0'>
mfOUMcX:%V/3HTs#^g16.=>l*nffZHG(pC;QodF0ls!e?m/6x.dHQ2C`9]U{i&DueH(B[To6~{(R0CJ3{ko_yrj;{|/L~b1`%zIe_5y0v+^!>nIJf6oQxp^89OqY,a/!Ecz:}k7.3*F?GF6CkMy&r`
wd9NL`(rSCxV<u^Mxwy)5%^GiE4Fs7!'LY$VfwMkEJz,E0`0kO$91_#E._o,hVCpYCz}73E(y[h8b:kmI5f>]929zsS2xuhQVeeNI<s=i$w_66=F,bADUdVIC>1YS:x,HMBnrWuAHO~Jl|i$g#SE)R
bOGDbZh382n2:?iaxJMKsxj:`AJDq''<&HsGQ[qfxVBLD`jS/L.F~`J%MKDTv>/)D``Wj;ik}$|oWswm'}77~BP<3&'b1Auo}m2Y+.{R6Y}MEU+hJD]1J9vMV~D$O*14A.(TjdtMd`JxyQN;w%.osK
AH>)BSkwHByz.l<N<{9,kyJ^j}IFv4X3Hs!EjOn=Tk3(0t9^[BN4s68*ZS`DcSV*AZVowZ{w,rhQA4N(V)}<_FKc!Lo)*jW3(S)wcGI+w:)R/75[Zerwpf=t8Jfc;!O#6,S)3.1]_1cdBAE.pX*R6j
g]0KY8FgZ~BTkz;5nP>r'8eL8a0^^40WhoW<9(m?/*6G4CN!Rpkf<[ODQC%wFkiR{hc,#D#Q6=#y#J_:1&?b{+}C=coQ~Wnh|x1`8oHt*^H:_sL&_>Si^'mlV2qSM]2AnB$L,dZqhbH6O;kzzRe/51
i0%'zo&R6eyAI99Hiq&UclGQ_<ZXK`<5ZZ41gdZxm'%RSZy,Z/]^nz8mUmyngMp%7,I1sxM}:>A<m*a$KG8>HyT<qhXrN<cgIP#5lk#btCE3F2y}hWQr$CjB<N?$H:NHYn|Ry}]|.Jp.xck'ZDyK3S
X?NS_?b14;EZb6P^^k1s&kdup)?B{,.nH[J5*w{Y69S>83z%RX2=;6S}2~>2+Hb>asw7`|i8ylk]OrOJ2VF0,Rf+tvFIDNy1AKy5u(9Gh4m=B[cR*}:/7H3Ql2U0,cFb0zq<Qcyd1Gu2yCV(YWWYWo
{JA3]>T,MXqId1/x}%(?>70eVnm7CtF{*U.3i8u0kdV&DNPj:2#OQd.`S<>VWo>DJ})Ng{?SV4Nd;Ov|eDjp=>=/eL^hOM&sx)dt!Whdtm_DP<S6)[K?|YRH0$CvJ!s$llF*$<4BMo*SxrFQSL!s;E
$XT=e4f9*.O'!]RWMAH94Ih,TuKItV1tpko7}b%:7{m;Got'm5}+gX1gU44RTViID`?B#da^Sd~ZWaLJ_n>O8y05f}A552<Eq`0!(ShJS9:Z<4CA1egts)IBHeAjb+k6Jj''qg4,TycxP7YFEQiCQT
Zh{A`n0w&K'=4qD*mOJHG#)#MeQ!;&>ie)Jl2Ns.JNLXzY{ysgxF_vm|T=gTP4j>w#Ml(|E,%;pw.mJdKFFJWbLl#iS]?EP:h02S%FHnk'U2B){C.d%UaTJ7`Ka4{kxYPfv9=Ji{kC|gFk5vSg'Fi>
+t`_%U<bufS#F?^)s=,.)c!RP{k6D3wlKzoWR^$r];BESq|/G%>{Q(3i&p<Kld?iB!8mAU3E1hFTZ7;nFSSWqvNFXv?'wfS6YtS$m)a2N4wa|7A>Fq+=z)esS$C:rF1gO1gv^fd$ED.zbmo1EK|h0E
;*:iQryf4d+^my{zpw#vI%?We4+zq);s:+V,t9{1B*emkLUc]Y`dUAhMEDpgQ~f~._Wv]_s4dIq#iK3#Z+6ndHbj:x8FUMbDZytvaOzAKS]&8O'^BMirZkl4dG+UPa~Ny'a|R7,<QCtNYj[<s0_FE#
]^#!3!_/*12{[OQFG/;wKS>Om(=1gtaH'pbr``[bk=cyE~h*t>>~dgLx%={m.!1hE=~,6!5y+lY:<Yz{<,OKm%5Q4P}Rm|C2IN;,xCjVPxufkS4'SW,EBF2a]dRE^`Gkt~sdl3IIlz,l^4s?+3Rd01
Gl5x`89HRm}{.M7;_>}dcITzE,O}a!(ff{mCbhI%y&kOk!'mW%~y}hsuT)ZT9f_*Q#DjMa=2c*>c(8l^UwW9jOOryX/OJ.<h+UPhN'pWWz&vY)$,yEhY'?&yU(3_nrOEO0G;7q*EJE+vj/Dd78M9|B
A%3`9S3kYZsnV~Ue_P>QQa*7cVdN}NyJv<9DJ/sURz{/%6>]RhMa(5mDZE.Sc4r1blT!(}#Wo8B2sv8fEh4qg1+Pv_IAaxB6fq}2fi:.Oz6/vIvv:X(%8VsG&|rWM$3fiCDwtI2E^*x8wTg*%ej^S,
`6L#(4E|{qq1):9nVXlH?I=gJ$I6$Xkq(8&w|5G8Puqn}yM;~JsM1KvVpB$d]sC2Ls{)UU!O.$i;g7`&n|ILd7U!w^{pm^7_{J.gm+&?&JVx4Th:E>=p9:QQo>0YgFaz2ce]?;p.O<gU&_1mf#M+iM
[+J.B>INUoj'hlP6>*1M3q1h8]$0CW+$?$.H5W.aR`|g('%M'B9&c4Ej'dgmu+A`Y<reWyqTZ+YMtPd&3cpMc.hbHR[|zzi[wyEFQm5*+L_IWExe^qxML=PgVJ)zO2<^+/m/s)z;%v?B6X5ow(e?Ss
h<~|rd40#A(:>^Fm:z>lCr6}me(iq$qvQ>$e[3^#$<zyO!sQSF5!Q&HUa&r&Ec*~KgjRHaQ5xtz*^I]3l1Yx9vhJZvrHPFVv;qM;}LO<]m#2TvXTkmX%3G$9==u%E>V%X11kr&Dt?rZdYOO3ZY*1>}
,FHt#++;c}V]nv8GKU(*)2_zboR*DK#V/?i;)fy$*J'Pa<|Yeb/V[{2ry'~(Q~d/`<0?jgC/FzBe!F`)|Y)R[>If<4/zPj#ds6Dojv8~kcS?!k8av&bO1;EOy:F+s/+!z({GL:{IoEe~!o9$~vVsF&
28=3Z?({GN$H^%&r]&2vvxV+ah#)?2%jJ!9($vj=0~JwY`3|fwT2Q*F,Mot6628H?Ji#2)8oz/+_~;Ri69l&(Hq}gsK[gjq:m9Ytp^v`Q.=31*FrjzC!1CPPsg4YS#86(hYsnco%&:ie>|L.H(XEBT
XX9Z#FMh~{K~&k8k_FB05DWj+PViMWb$pl;;`U_s8!K'v;FiqR2v}T&*_#>SYFN:=WrHo&;.<ZK/I6mK7NGcY6:En=_U{8U.aHPG/qxJ^]Ub}[V|Qvfo,2errzw1&cij(4lIU~.M:cJI1v:8*Deb#?
z3{1tS^58)~Z;MZ>&l4EHvj5Au_1)E$3i04RIu^2ePW#=5C{Ce5m./3ts{I^Tw])DG3Rcenhpe=pX/cMrTiNn``l&S`T)mjum1o1uoF9xM)uvb9ss6hB|.s'QwW$qP855qr817!3j=b{jZ*cGf|'Of
bUto;CYU3m`Ek:yKD<=J8WD3^i|tN;%#'qc`z,=BS}'u7db)59&4?][<Ksn>Atx#d>gkC0#lXoxsjK.Brmo[o=n`]}AvU=?~*X4zrl.V?nOS5O%Q%,)ah*4yD62V6k2xv29CFUq#<|Vb*wnCOtLd6_
8N,}.esX[AtIDy^e%zJDW0SAu5&wgL:TnwZX/+Vkvvv+[Adv}OpqzE~ongeZPO/B?R~KzrP64CvOV7Ocv3L~Uv&Lbo|S3M2>p[`TKbfdTLbnr^q5PAHy1&Is2v[qw{tNK;##emk8^DB([BwiPJK!*i
],ah`nOe)Yg:BlbOYCqWw('eQ_)?EkXi2x*#rZ{'__?,Voo0U$ro6vmdVrQphfY3FA]u4(lDA#$&|0x{lzYb_O=sDW%(OC7oIm6#UrPsajO_^W,}~yimWFRDli+4(JQQ=GvfQ()ypyNrR:xd!CVLSc
UhEn2JnveXvCKA[RNlqw+F&_:bkj:dwsxw8jk?pY5p+TzZu|X+{cb1`r)UxTWg(Bof~/mD}?`u0`l+}io=:LrMVzede?DxZh}x<nebbB/)cu$LV_cd.>4#d;jh47I,2#:z(&}Q?82hi0sqdiuazX~|
Kc_~$y3,v,rwlzjRAL(MOT^<DH$Ha9s|$n^4NXw`ZIV0re8;vpKgEB0ed*HJERe9$+&)}&u}PW8w|>%<(!!vc|kIjGmg}n;S}A`.mS_*?Cvn;Q.,:CP<t(WC3,3LPyRxDv`o3^QRXeRNkg~Ffa^0&l
id%7<Jd%[%a*ME9zDYvzX~1]G(*.UL)RbI8rz<?%)M~Z3Gljn0D?lvhX{TheyPSOx^Bo6;!7w?8/o{p)qKW=3qZwU}Z1mjF<&3T7%'6JY/zd7+O.|#`hk&87U^h9T(qp#_o0:XI.8+=k]%NCbJArd^
`?2OwX4R|p$,lECZ^Q;KRC297w=h?VcE;:h8*wd`8fSb6srn&*rnqgDy#DUKzOxW4~z|aN3.k3Y6K1zGJ[~GTklY5(T!k9+/v)cYE:qE3lUrYQ7HV)(TuJ/8hb>Zsi+j.4TAB#i[[7#HYxTf%5RR=F
FZs*|VjF&^eLJm4`OMK5DQG|=5j8YC,%I3h#Jl3iV^35}3E`j'{Y[ykR<1n6Y3MxMZXR.~e(BidJ7un%L;D4WD^6NsT::e'f(>Q_g$3y&/!ieW/}OJw9A[9PcWd|dx9122|?`~yj`%S9o/C*sua.AG
tzLhx9DWknXNRu6;rP{9<$a{7Lt{C.yG+>`Oj`,_Kh^8S8q)Y)h4H:n81<dpZl1(XEyJ4C`;tM2PsN)pnMBi.^)nnvS8f&Zs_5=hxM`{Xi.Gsgtv>UpL|S?s}6Ptb/=UoJY]$mGQdZCxtH(/^wSGVO
KGdIkrAa;?Z4!Mq*^<xh4`+_wOXxCRiq#KCLqNn7VR'L|miwVIM(gBgagdx}rm0VN|P3PXN<ThE&+iUPvu*,Ek#g(W?5{iz83>wqx:8$4bi]a}gO,0&JV^`#nn>IseU$u~]6tcr$w=Hgt#09`xPE^h
<[?aef$2c5TE:!~%*3/Ij*^9m48(G<zf;zh7CJRNKt1PW<deC[%N't9:r4t0RmaZ[y#R22Nf*RZm`$tnYA>VCwY#WMLhA'rnle}bgl~(xp/Dek;2+r9+C8fdx9Lr&)dATMraEF.3)AM{jaxsK%(Bqh
{~aAw+{x4%aEBtRy^i8EvM~wf)h'HIja]:<%sY9(LW{AocRfU5&##n3EfW=/;hgvildcNHoFcxpDd9$}*LXGFTE(>/MUEkWsDAEr!%zeFr=0c[5g+0/b<hm+5Gh+w?7_oi}'}'N_KyISo?m?ed0HH$
o>=nB_BY|nEtU6gR.lzm*1og9>%`ym|U^{U#K+!6g5M7k(ON5DWIFm*%7m3ZiAmp3qiIT*Yp6eA/V.Q(BmOJ9Mhj:xL7|22kEBqOU#R0c|(EV#jQxKS(xPUk/<md,)XFo*Q%Y2,s~B*c=w0S9C>l7`
QE(w)a5:;YhHOFtp^'*ehd1rb:RaP)pl;Hu'Gd~6:jB~ZSyJO<ZKMoudYwR^y*m2l'jsr95&g:07B?>ZaporMY;=LxjC41L}CsQ1|(/i^=yV$qtC&[GZB8ZO#|tx)khcpfig/:2GC/v+M5EFu.)3r[
dY[*`<XF[Lhy1Dl]c/`EUaA33/A`7(&B<Jk&;?UfEDt|$_Vr>q<?XI&BJn%|naQ_UtqSlg'i0*37Kre=LHbb<06szm5.kepZV31zEt9jEk2M~8]_M7kT9'xb)Zz>ZY!C+}?LxG8zn3[sJ.==`gWA%L
0~F{![TRVq[>vzn=+3pd=`i]}iv;nxHfa#kf^!beE>uDJ_y~F$Eogez7m4Y|}exB36S/Lm|Oa|Y#mACVj=.atK*^/:6f%J)>a(hoF4f,>Fuw/t,:s}HI|5uZ7r$D#88|mzZ:I$09.9+x=/bdo,U4Zc
(eXn#x;dWO#'#0)!<|oj)^}i^Xs8&jR:IID!AQL5)$NNn])sq<#h7MHpv(9rN([e6/,%xb%$$_dT$fTX_Ij&}_G<1Gz):h#&mQ|$0:*v[gM7X3G}1<h4Na),(BPbync5H)[O4n93JuT$LV~)Sis$w$
fyP[U:4fjWR]j^kqiL^ds<0rlpxn7hD=Bbx`BSmAV*mp=si%!|K+e8=g>'HEMGF>~_`]jYZndO>xLVVIc=)xDh,];.*kO]~E//vpu()m$h2S`trDWH^uPQ$Z>[Sf)LIz~|fk(sH`C[fDN7%NGyDlho
#V!/:8kUS1AT.`jrzy+3U^jTT$>C4ATO*E>W25s#Kr;,)bmf$X;>:G!6<5k!wPwn:SVb*]r!fne;{j6te0nd':B1t{9PsiOppmrsigontbg5q~?%[+7my'*h4)I`R35{/jzZYq4)mj/y#*Uf/^1Ey%
TENIUtfI<KV&b<M=.y/n[f=`[*29uH0?MHLdv+'})&C68v8L.7c}S|mXugIGH2:.:3Zfn%CaL>b8`dLn*|7QIqnv_ePgLaD`i(Nx<11PsihFC,RVpJI9N(acn?l7t$ZyQ1VaL'_Y,aJy#WoA*Fx!^?
1YRS(mZSpX;Q_orQ>T4'NzYdL`C8Bl/^S;Dq/E,Sqm_30>hwv_V{}PgLHC$ahBUhhUyy:W65inKF4_/aVK5Eb91x%M2RP8TBUG/L?|slZcqVs+XW62:bNw'w:H#JACBQrNyNh5rSK3KV|_E5i_.vu~
J,I7bMNj0SgCFU?#L*'pErf[VhCP}7k^~#r,}[=50KsuJ*yskrEE^`6MGhnpE<qG:$_5xUp$`1,t$LuGv*BeAF#Qhlb&/k`~1bv32}xb]YV}OXjV5u6#c(x1%<1[.fO~QL~~Ci+v<nKgZ14Vk*,TGR
>TNYWc?pIL/OER7~4{:INCmW}6i}m.(Z9>mx|MN1.((7]KfJAWd6H.&6?Rsc0F'nA9gClIodwt^6A}$7|+x2J[2?OF!nw|p|>]DJvl0l46*=FW+Hdd*5Q}(UGp<_4,CC0{>Ctsf4._rD0{;/7;Ks<O
+^?L*.OJjaRvV[&}>bDjTrjd/NTf(}0S(J+uSpTMliHUn5f&ObL9Z,d7}Jb2_Uu9lNYkEaz~ODbX1R9Ss4yxGA&i=9/,?G0r}[MO9//:Zn8;Ju&7TyOYJ3D%^>*iE>a[t[IksMXX)_OPoIg]rrq6iS
tEqlukh5PVHP~?}lo7dkIB;p^p&|WJtnP%``{eY|sRM[h:ZFYx1p(BY.wP<b,YOg}S0)mqSBHVUp!j[,0yL1Jk}j7J{UJ<:lTLUtxQSRKb9WGjeN'y1d=&D,'i9E|Z{*ytoq.!B:WF!sQ9a3sY!NqU
nF%&buPVd.,|H+wC:4_J8_JB'WBY?hX3v~''k,_cb7=<KmDiCRDJDEkE{f]$A0R&;LtQ:6Zj%DI=|/hsRcA,7JmK;]nu_nlGR%F>JEvjEg%Q[*FTf8F%P73ek6#^{HC&HXEdN1Ue^1FJ%C$H9p)~n%
+Cz.sdY7gFAlnlX>`yS'*6m,oJPb}&2qd=x=qFG,96(WD2cUDVj)f>rWTp6JF7{ASR'(z[~(#6qLSO;s0AM!r34.&(7{W#*'f+fV;Kze!Lo..aAPP:yai=qEXnpKd.xT`7Ji{+3Akh0BSGh*A)X&T^
&U[da{Iity'NP^V)uwCorEn6:5J[i`Ldzq6EjuMuuFK_sQ)q&+z*'W^)Z])##4IYEyM`#p5S!`o>A;'<Pez#Qz;bByMkX!W>cn|_;%6y]_PVh7MC(FG7MB!^(,,rw6qbxQ9J6~qIEf:7Q(+[KFKQcT
oIu$.4C*R,Lf(p8'tK+BI:16h)TR/_BE9G'8z>t?IOg~Jl.=3&}rn!+uOQ{#&8o/eS2F.7!cUt**]j6IE{gV|gu%fNjFU4{?RK+x2n{J'$nAE!hdi7XoU{.1=K?$xC|gOwVUg>[!W,&7#<RP4K_OJt
Eb&0]DSu$ru6f`o~F/rH7|D+}~A'4d(IyC]#$JktKI1*Cp#Zw]#!VlzwzAr1LWafUJ>8_w68oHXxc*W|NB{st}=lfs+[AI$4ICUoAC5X]XfMB;Ev1LKcWJ;Lo(vS#hlK9b}01Tn=$d5/v1R{C`P/VI
C7&1.M=ZJUurFe~#!XA<?0s4q:p+[,Z!RG%]&^2Nz=u1'*M;jl04Waz}4FBvIx^cf}X?<{KQpX]LpxIK1GW3zCc$.Y^.0XhHy3(ezR)d*'T<cP{!%zR2nVy~/n%G#yQ:,R]38K*!BfT$)Sxu#'I]?9
0'v#+%~26ZHj'ey(:fs~&bxC?(Bi25oDB>6iH~pCWuU[=%)Mj>lyvA$#W2<c{Mcf*vJR/}lB:/uw!7kiqfz/aO/`bXl6:Sf^l,fykuY,N;c'.3#aHQ[bSdS7})^0A$[v/PZIy&!V<2Bzzjhl5V)3:>
T&;;YqvuQEzQp^}K+n1##?T*iPJgUG9K4x5S&(GbS|?|yI)Lg|3t>5#,`LhH#SLSa>Hcp)_/&y}Dd*!590%`;YI>+f!]LlNw{MjjY1!vP6C3qt%Dt6q=O~I=}O[p#/iI$!Nwd^*}Uh27T.[$c`r]Q|
!+:R:fA4(h/Hx0pA{op.0[(]D7TBFEu7K=iLvUQt,Q*'cod{;By!S.b4VKSR#3v{g2Jc*Xmp&n(fN37W^a1V_|r6>'u?j7z_~0QdAey{da#.BX?lTTZCg;Ws&/#;BrU;G_j]&`%B>*hh(BqY2a(R^H
9SCu{NYDRhK;wWuQxn!r3NQ2MqXZ9GlVmUv$C:kEra6.,93]fnZac|31pUw0_/4JjG<cPT<uj1#7d<P^>EDf'MTP9b!5{G?^~:Jew];wOpOGb81I&$/z7Xw^b=u.WWQ(l(9|SN2*=bF06*SQ==jyQ4
~rAjX#bjo/&38>w;A{hC9TBWVc;l#?22%*ti2PvsES[ZYY`sr5P:%d3+h'U:GPkdaGZg?R)?ouuP_$|judCCPqU]Ol`Y>s$=.Sp=Vb&`y=<2M{Ol4t_6OXwOW~Nis474cFe|Cu8Bc`=Zpn+84*iV$(
1!#].f_FyI|gnOZhRA}{4eP*}=8k*=!%m__88t}.+A[0$zi8D6H=>_1nY]l[U4JnyX+X]wj]qADCNAp854?2TP'v&/2*o30B%ik/o_/q7hUK&+<nQ}^_z}y*8gvF/Szmk6JH#$!}ieOA?e(pRtv%$S
5#OtV6|ATdnxkB+F5Kda9McIy_Aq5i9c6k&Nb<Ld5z}.5t(:Y4X$^C&&B`gV5nxE6W/waQ>/.<w#|0}C*8iD['^.|8kB+A>J#7N3&yd{O48:U*oaU8X;+]5Tj}67AGQyoC~E<r]rq2uh4tmtnGaSmb
,~Xu'6G>$x%.67u3;020}4yFKkKC_COq|Tt7KJMXXheElFdCLtn50m=`(PA#N(d0v)3[l]xaK$#8}iJ4Up{l,SPeuv=X!z5nq'^W]hC((|CKm8YCAQrAxMXFr,bkMr:pg>O`i_#R%}idhbQEtZ+]&R
Ogz%QP]B&bg3nj2Bt].E2J/Urp34=`$LyFF2uGXKHy%:VLCg|^z?n~K8K?4TJR:6X$sI7C/hI0$?FgEgAS'fuzEx5P''SLXyjuS!g(,/Z:+&;|(;heH7#^Sd_$1iJ%ntkIl|GkOz8=1P(V?+E'o(0i
I=M[z}%#D5^dEroRF+no]:E]`8';STE2a$N5.67lQ/pj/dF'Yo*(d/4t.uS([J|[kd2nX/ydDbg|`9!=uEQYgRRFmiEF/ocy0*Sss.^}ts|Yi>(`{W2mf}U_]/iWnq_ewY.9U6oRq?N+y`M^w9T49(
g;:&gM;*`bCCiJO'{qTR;4Va}mxX2lQro)u#fW3iHX$%,|AEiCu{6pPE;zt%+_40;S9]&aTE}^(bZiR8{^+K'DCl&;bA4W2#Rk_0N/TUuWH}jxR0;ITkb64,fLTSK'<{)r6bCD`PhlOf#*tgW|'*D7
/PkK)syU:UrWWt{9nF}$il>MsSpc6ong*MZIt=Mj|Ju/z's!GlhkMtly'&)S!x?z~~cT!)`Xi2<4xB7,{cOZ9+3Qj'>KG9cek>Dc<xPZu<%lT[x[54^LzBky(%5&oo;)|#/QbicJC5C:oUw+LZY4:3
A,&?pt2OFUhp_K`g'%SJlI*5w`MZ7]ct%v]S/vXXS;++NSfz^Z!fFg=4Bh3r8^_JITAH8}~FP<HCqU3TO{xXM?%)0w[~77Hh{WBTwHDs1vh}Q#[*&;]FNR!c^krqqKt.*&o:n!%KM3mJQ2&^G#Y&]{
$g6z<uq23/|.+g`3z_7p.Xwb_PGxAu{'wY}eEa16l`hyE)Eg`,6evUmpzPW{/j*#&_1U'5DfFC:pt5{gaC)s{>)bX6M4<!Z}s.*,U3yvTDpC+j4.wj,D^U$M0r.+w1Ui?MYu[?m+~0dy^FQ!eg?Gsi
3KhkZx9~^`P0ibt?JP1S<Ad^UaaqfRq0hCj:{h/L$X?1#e9ts;3Xt`4(X87mm$U`j0K#HJ)gWZhqi`NQD]f3Ex*:<6;1_t}4j#dCt0/#pr1hQ^JE'#e5^f*$mbALb?7qG+mDJS|=Gp:+3.M[RCm(&1
]Ycb_4YEh/w:8sgp:QJ(v(UM]f+SXt9fZ<MS9*gkRb,rC#0%!7tt;C>k20&pkti1/NI!qK5*q+Ic{TU>,d8]r1I~,Nxj&wcRjPEY/#]Y=p_DSnbK#w;B/7$FEAiUF0<O<9J+80v1.9!PCUj}+An~?2
sZb|KMzJ`SH8IU!ySfT?Z.PPcIzg9RsDfh.Gu33]{f=[k#RO]>1qZqdp}:y9LNmQ;!j];YIU8FTe9&#7(sTiUf$GU*',X16)*fxlcED0Tpxt~N|M+U|h+YCdHN|d~wnH>alr[L'IJP=n;!^'3g^w;P
)f()OGwBbt|G75o=6)/6Z'egqe{CsVk+oKV?JKsd~tfUu5!|&)V|wL!iE4Qt%GjuX,TLaBmGvPOpn.S(~XQEDh;%p(t=x<,HCbFQkpUx;e74</0F<nTvI8N}z20%P,cQd;2kwpaN98c&=DA9B>0}=i
<c$:=+yRQ)>*iVwfIm}3Y]cw8eZ4Ny?7]>6%cDdpY7dX9^&#HC!X!==>z3`m/P7+99I`Z0)<_lHGj;aH7`w>:CI?`xR8e]^!8l41B*?4nV]qzDpS+>X^HwicFEez^JvB:?`?ypZ[oSR5L^!1.<ot~y
?Xca=O,Z*^Md)HNw>04JymerVgm:UG2UWJ>k`N|&a>UL#Gq_;9YE40~L{':X~Cv.].W$2lH{8DAIr6|AiY(4:V`uKK[4^.|jFTJ#V*aq45{X+4UFluQnWpxZr}^Be,C!+v.<yBh{Q>?AwFxvk`MZ5l
3xXCjVHLFHzU:a8|!dF5V5e^!0zA[Cxr#}3Yzns%!ARym,Dhz8A1=TcDjc>[iOQ[fB)7gq&xXKNYAntNXMt1xk.x<n?=bxl2H{J[{t|i_8_|evYUBO<F2ZcZ%kg7t%_#pDi>'(9uhVkEYy*kQB}sm^
'Cz!Y=9I{1'yFbD|(J&>%OD.WotJ&ib4_4`a478uyS$fJx#GZwyKkm|e]0fgER8^Gx2m$CJ13XXM=uCXRtx,?hT_5/}iM0J^:Xn#E/gr]Fa^1}<;:Gs]`?Je'bi>.uqK]g4eC!xHB_*8erOYds`)PD
B>MR{O0'a?Qvk6$(ogIX=o$%dsGawU`!FyWPX:UaoC[#!SK;D]oK*m,FrV=&:6'v7hEd4Dk6hT>52bM{(z#B`vd([G'LWzqXkmGawp/0wCB809!aQGbpbHoFCZ_6Y=QZs{I#VjAPN1wf(36=wX/s]a
*xflWyErgP%hW!CvVbrmNwc[<cz|jB!b&>;fcHQu%VvXg=(+9LI}#2>hv1eYb5Nlq0y&#/8Ddq2rL>Zss9J6ZC,/co='+SD;JrG1[V7ml=lukDO#WJZd{|peMB0.;0Qz3$%gbj=sO[_#Db}]tGt&fA
Kpw:Kt*Uce(WO^wK!E~A+aGHa9]Q2N/1M&QEg<}fg%Q{NsnFz}/kOBY;9Bi6qDZLr`P7mE|CCUxUa|qH!+#c:Vr/wL=6;]dstmA<4}msk!Q:R:s^Xh*y*A*9_w9=$2mftJ/B|bTCZrj(oipu1wH_Tw
_(Rsql~]qXJ>Utd'G/djrMv|gWj./e}BO_#Ka_+0(n?SSP|MV!Lwy2:l=1DTwdP?Qa~A2y!K[6>F%~6lbv,gYdh<$ATipAdyDw>f`kyD.9r/8Y''QDBrp?o=QW+vcAL6f[Gp9RfZxgDI&cadH__3Mc
;eokXCy*x~H^72g}09Myy;Nj?0527}5p#;E,C>lgRZ%vu<&E>8ssFrcaa>Ri7j%2?{R2&Z*B5unA.Vd~[piX2;/OFUD^Isjz==uB]LvP{Boe^OWcN1w,3ZL7}))?I<ps^u>WKX[r_y5Ma,zMlb/Ncy
9h&}SOTIPNtTN|EL|1<xr!o_s0uqv(jIATwm3K%+1W}xT)5'urDe5*02fGw7k{[i_]|QGaloc1V%q_u|%b*2~AOO|{G%Q+sDBf^Xl]sq5G<(i3#B)#acJjl*K9pvUFBR5|qwcl5+zxi$5j[EB`}d!;
Zmz?:,M7*K(!Ix)`MK9Dgw81fzj9n<eFF+oMI3LG!!T%BT9KZ>O9PO&NBF3+=31%v*d]38AW^_:0X~<mZci4[G>5SQ:xA*<Mnj=Trtb^`*kIOiYV(w|AD^6updziC}?>~X^nG%io[6R+R,C4+1vv4A
vQ!$cl9_H[[YBy)`N8n?rtwNm>bD]U$>zM(w(GCQH,pD5{uqg&,EsTVvm^5cn}aM05BF+r&4i,p5(IccI3hTMb&1S.N.1'`'BODv'*`6DGfo?}if1y9>wxrj&*$8yJFWby{9E'=?4XCQs~}fm>p+$^
#r//P37*/,t}u&JyXv{pLBTYMml89;%4<xj97iQ[Fs/'ZDdgDgFrU5vq'vb1u<x)`;};%sMZ9D4h~T%uiT5X7~|?Y;On*xx+'8Bcaz>cj%isY=3fqQMDE'7{[0k!.0``[Rz3x'a*JB_:RXw*pd9W7X
u&Q?ocg?^!.ac`,S2!vYsq>[N.}G!p&vS|)&WCP$?C`m<y?3m612_/+4'HzTA;>zgzK9[[9g:h_o27QJ_Sa6HoRViGgpQZzmgIk}Qu4kc$[1$xJaD'|`uT6sw8~2]x]6D(6Z[qCyKEz9!J9L*UPRMp
)E{8aT)7BjP$i7yBedc~Ga^TM4LTk86WAl#2k}!&W`|#nhHZ$;U~cw5pNTle=WWV)l;cDux~6k3loO<v_u6]rr}#nDkA%%:G/,;+TsB!Ao_)dr|Ax~J}y25K4g'%ho`sCMUbr;U0`gM<d1|$9<NtNG
[Y{V*(fGE?0zLgbl^t}$lW.U6XQ?TBFh^r+6MUsY=ApeT_/X6_Dpxd)lW'lQ>+tL,;;Ib*>ygF%[`C{g%+I,fHtiFEOACoXu2.>::)HSx_rlK^G9LR[%rI.6r#?>}wHe4h,z()ZC#(rO,yDDnAE,p'
B:%B.rPO)HT6Ts;QW7Yo_.ty;B<*K`Ta|8pZuc8,xzAukY%4'd{bVd9P,JQ~fR4Zs_m<rw$3C9w4d06Az3'B{O#c5i!Ds}v&[WYq8p'f7O$^CDpRNh1Yf?.!]c|<CR0tdMgN]'Dc6U+[b[|U:=<shb
elI<z)0/+8nu*}q/Ag2w$:J~m5z}BQG=!BbW:vP$A`.D&bFfJ5)DC7;{|ByrN0XW6/I>PVo7V!+Sm5?TM%!5J6'_MWow%$wnHT]iQnu2w>zT5C/FdH&`hzZH%HVqB's_vU=4hrk=NA4#|/{D7yI'/`
q^Ykuse,N!/0P:0OinB5=Us3}s]bG0|q8q^10$1F=r;aAWSnxuw(>,JuB*JR1&,X7/}f!,C=mml9gnA<%/zz[KZ)9(<K101oNM|Oxx08>?l;ScMJ?L3SkoJJYeX;^J_x=4'463[E[A1_]=1zAK,*k<
U<tTHQPHiq+[<r.E%p8MQF1J?**W0qrza%|&Y9yUsIOz$4CX#3yZgoeC99>57b9iCq]!SD#%Y7DXqI[c#mE^ZkR4eU<({Pq.,Osl9tJ6)9FoXzE:nJ,SPYt~t$<NMMFahNZ1)$~|Ps}+'C'N/4mTiA
At[^&4CdnKI3xbn,MSkEAWMhCx+uOw?!zEpy}Ohm&f!}+c%&$QyH]BQrrH);hw63clRl`f#f=AMW+Pe3|4W)+Gh0qgwc%tiVaoef_.Ms)|<.[$U%8[Ad+GMhvHm2Gfe0BybNRf%:#R6Drs)23k?|w)
**zY6JP~O86([r?,DwcO{Ypc>}~R^]x91t18HB=tVa](ks3b+P?&UykctlU0td|rNB`U=k;e&hW>i:3[;oe?3wTAw+()WfMF#}EJ*;a'v%j4E7%(pBn&mW}M1VX8QLH4!{462Ray>{29SgJ>j~2UNm
I14dfH=`gPw4I{DEf2`%E]N++|YK,X,2Ldhwrw0`7,7XG7cI{[SiBM4Cf~T.U2`^53BdT,x&z>/e_cEx`w#PG!Xf7<R.z>8BL:Jkr%D]z/9b,6HsBxhyS+q,`RvL'p2v#^t[)R56NwDJ(sODh0u(&2
(&,160+Ct8*Xpx7MaN&SY!?uYNOFJE1maEo=_j0O5o5#]i~E.EIEXY/Qb%$gMct.Tr,+Ri'hS`ZoD/lu}<}/k+/H0|bw7>2t?kp10k['XlR)GQ{n#d=^tCHP$liwc[Dj&>L*A$z}XQPd,a+>o.Q{*(
5?4nN%<t+2oJHgFA0N9qE9.3ik/PaUJCsmvAL_>Sfl<1P33>SSN;5T4TYWt~c~4iajC!KB,Lw4kB^Np!#|xPMI*#Wi#lP{Sy'M^SZE^$acaBuw,?rnJ4P4[02Qzw`SoFh.4>RFIk.,aZkJ/D+!dpfZ
K_WP=q<:cn9BSNP=Wf%:z+LWmH6|)NRS~c!npcm18b7J&Ovo19lOBgUTdET*o7)RC]CHZOMl&1A}sI%_^!]CtLBbSj2||7&Z#v{`F:S'&1z+fDrxWPAJ|X|X0z3onA{</ZoP#cXimPMm(Yby<d>Cp&
g%9iK;#9u'e&C6L`5(EXA2ztQt}3:>`7r|R?i2c>`EAymN8T]F*8)8Inz65eL`3=|#Cos<?yC!m~+H2?ZLp7h_&|%]{[#3uoaTBErXXW0CnB!XbOeO'1=FXlZy[fr9j/c:y65vGiWC|$/DD?`{6f8C
)<l2pYDw;*%q'*V!;*5!#zH&R}r:eO_8yXx|L}.oJ|{hg`JN^f<NZCp~4}Zq9+rZb}w{*'M_Q0Cf$5:Pg:M!LRxnm5Loc;cbOIFDETI:ryBZekO`]UVR73hLwY2w$5bZtzom!aca*xAZBfQ6;2_!o~
+ZvTxo^A*Su^);(HY)O2K{Z>pPM#J%Pv]}V'XNaATs/>(s(Xici/%?<jd]I9zBe7a::&l/3(D&J}6KS_P,S(Dr:XsvU&a;Bmpsh~%/eL=.IHR7*IPRx&)0C3A4_!!fJ:z)E+r0bo~`M1X88Y!9(]a{
Hix7m`?bAcOQ03|sa(E2N!sl!YC3^1|fH[X^)!h#w5L5n^MHz*Qi]bb^V|JJk1?P'~Ll(u02kMH_h;Y7&x~Pp)leF*5bF&wL>w2wr!CljPY9w&3XH;^}O]QUtFHvhB[wf~c`q`(0X_V!6a0SG[X)fm
?oA)?2GP)[ioAAUCob:bG^6]a&$nyKoYB%s5x+zH|bCy^M6OQ.cz$`^GNqatbqm4vs=N]AOe0igIHZN+.LDGc#9sTPG3;h./W.tz1s|&(DBwW>CXxW&gs^J&n]4GtC}bC#yS3Bb4oJZ)s5Ds:MqB+Z
){d2s%B*(O?rwq;&=(Ol:sSYpd:d<RxA0XIx97syju?*M~n|6WCU{4?.QH!:PQV!=5{[_9;IZ#7<|^;>Ib{TzR{sZFzB%5)fLJ*b%.fI(L4Cfw0R!!D&Rl$2[`Nqh)EfO<UA7vJys4{n%Qk?7ZY!OW
oQbn^dlTycsaEw{:g!zZA[9*zx:ed_78ylp4B;WjG,Q(_MIh(M/y(QOT/Vi,Zmwi&L,nA&r{phFevBvZ*:Hlq'^b.z{4{SeA90nFaP|l1At+r(o{XHJ&L.MrJ50Z)gAjaL'=AJcYH^[a39wa=,MI_5
VfnGkw}kZsmRe&b.~z}:Gi/UJEM]&7JALdHZz6Bq^1/eE9n6:M`p+&UHw9Lrz9K?.#b~g&ieJsxD0J5h%+EPo,^5RAH,HJ^fOT)Mp1U]+k|4M6v5`82Ft>6M<T_ix$g9oU?o*yDB3I=By=}|CyUr!a
gQ]kt3pNFy'6!M<5F,48$'>$4pJ$U<7+rpRcjZP{8y<|}uEO?G#,q2G)R]_RH,n?%d/_BOcei5]`PN?g&(W95WH|8fI?UIJwHVRH&&1u5k&;5/U&|T9^lux::J0_gRUh<hfNxv*|A4>pm`qrN]8XMX
VCJx&&(o4L{t1(ObLs^?fm>4,W%e1Zr%5EW_u&U,T4='`c{_,n2TvPDvp{r%uO<!!KEJ_{``zV!BqD8/$Zt{+KW$yhq~GSQK:.W<t26zOLID5'eXRavYF[d_ycpZi{JbOD{&6mro1u|%dfj<zXM:#j
pX6w[peJ<dOX.lvsP(;JxMqI(|>v&9;+K>1,a3[#]E'=sgm!78^2f^?hjEm:TZ*OpJlH!A{kGn$]&Rmz{b{^?G^w3b?_xwfA>2+DgQW)DZcrj1J3F]wEU!*oH6#VuG?4obb=3kk0UdGB5$0b#n;Kb'
XUunXkxOlxlC0KSe+O?lizzmpN0o*3{q5{fDxI`9EkACQ}W?uSWF36M8T0dLT{O(x#t7CI?g5|tN!Q]]a{uCAHUJf7w%T%y=Fb1uNV(I1l9=3K!lC`:X|br)5tEo3)~67YK3q(2L86bMr3wYq:vO06
eU.>xd:VRk[KdKm3n4#yh;gV=,NUlFW|6crb(XYhLh8=WQ4KaS]$On'NO~Z`I=lLt806rDVi2J,_FW>>WfE(#B8Q5nT*WkLAfF$8Hh,R_!HXgM58Ck/e]XRuSZ's01Z!Hwi9xZ8i]nkz!Xzf!n/J,Z
&GRhGFjJ7{fk~<vJ/Wh4du`=KJatwPls:Rx/.dYjLe#vfA&]d)N%3eV6i19+Kkg$]rQoQ]SvX8if)vFnr7!=c);22s,H7doqBj_|i.)B/^v]s+dPmpG9]Eo8qLFVq:lm~dWM?s!o<fJuCNr&vzXT~(
m,Um}B'%*:3OZB#]^9bk<f9]lS6Gw,#>T2t=14tdi!W^LJ{I6vHQ=vu}qOhL$'u%y`9b,pcT[w9k^1=tF%:/YUC,A{A2/>;!=?q|b&Nmac>x0TrQLNc:{P7w|xKZ'x^nWVPc/?D,<P+EtRL#MqaBiF
6sUN$5ee~linAHv']pQE[?{EjIeRio9#`KQ(MYZzMSicwmT'=9:z{/<!tP|RMYTe,g3#JU'iY~0O3knX'&A>2vo/P)vJg]rVoplW,%h7zn0mqBmnrnQQ;Eev>'$68A[Dc8P>A5t!}{XM'fkE.=);vG
btr:_U&H~`gKfMH.*PGwGjtB`+bCi70hwAH[$E6xh6lCk~{~(`rqK~uu|r_#WylO:1Tvq7U8bRdOxe=Uhk5WlW7,6{|7RLP;5'ZN//Y4=?06bulJ[R#GK{,*[%D1apTKVmx3CPJ3YnNQQC?(oP#Ey_
E,Ttyae_~*yGw!}r1==Q&)%6x11<^#6Sv8TG}^.5PrsRsk`u0=&I=P>i_<uI:D.s[dJC:)|S;21M=:7k^&mR^#`8CV:<S_eC+G]4/3I:q'<W;!,)sDmFhl=]Zx*cZ1]6H#e5bMTaPQrAO%d_ef{Ac+
my.4=bD:qW):Es}a5+sUpLwFXFDQza;w88&(1O=V<0=i2AL5eQ<jG8a3.~Q}:sn`p:DOhV[Cj85tT;PLD$f_E?sxpU;6*Wgr:uUvsiyd~X*F+av!c>d0}AX_2RJj`k?O>lE)K'#?j{0n6YB$&8na^E
h,!C22Zg$x#n;VU)W]}Xe7gP?:>O~dD+*H!$o#U6y2&]v#KDD,qGsLLttM&39B6.4<0!<X6{O+2Wd#4E#|DP`Y$PssTLF:E.X)N?j`O;>}>AtiQ[unVWU**,FIar^H^AW%Mld08E$m(0$n`mhdl&`C
a&+/>)(xOxZsC5~kPm?n`06u3G29^?wCQW46>FPptemuElYQS5?y+HN1up$})<e4ugI{EeC:!Zqw;SV6%t|;Bu#CR$t|l<%ZXu|7ZQT*v6K+Z7XjOOc4E5Jz`,N']%v+vG40fVqU:O!&W<OvKie%(M
v];k<t`K2>vX/[(R>W0{*nvWr+75m516'ag4CEPmqeY64k!p+WFT~p=u?Vx[KLeXr;r_i]POvA[_nb|Ht=C2|thC~c!jU`'zWY036rFqkQ%E#W_lDRKgX.9.s45E4b&RpvF6&mN7wo%v0^UOAvEN2w
c)F4hw*4&Rz}fPhyQf%IM|y`9gvv1B}o8CNZR/t#!cO)#cTo}nfDPavpCNcZb5NH_&`<Z#SAJ2<NQs!#,&qjgJQqu1>+2wq}V5uIlDxRxJ>(_H5XEciqLwSUL|G{='rL+tfN^c2q6HVn)l2WtctlU0
6=|.9d/BQAvVdLLhxK,!.JLZ)fH^ufRk{<O,l4cO+slPa_oM9#P;/Z,`XUFT;h}`3>D(oqr6,eof}C7bQcpbIB$PiR6$>W)npgP1.}psAqFGn#gX0Rcu|oAT#kelrxu!VaR}k`GTNbp<H2pNe*i!u^
o1co;mPC?ZxO%s+Tbt;,$$dU(6sz/b$c:~<~vd6Qoi?%J%Q7~8?wXs&V$P>Nt.Pv1Yh1Pf3}LFBCzzbi8yb3`|?C5&HNbE1Vf{nFEV<U82QhnmLU/r~&=K=|=l^,y?TXe7]F2hSa&,VV|OdMG)Au_<
m'_]}#;pY;phvz?Sq'sK6tQ7PH|>g}}Y6$<9C+<y+mfZ3,f{ob!z>NC''JNRHv;R+;d.x<YbLFXQh5u+6sPONa,l#D|$8?XTGB<sHty*CGC:r.+/C~({*Z`!3QMO(NV+bBR$&j$Ki4J;T8r`zmnOA9
i`&~2%%^K8>BtvM:eFogrz_q[8X(sAJkfua3SLBFWeI]Nyv[:fJ`}[yPOo3U|Ey,|R2a^N*DRXW/]::prs]l$9fsG|$+zJDG9f}j*C?Ra1x]!h,BB<jZ}%yr?M=X+39[I}Ir;gXZ5t8~43U9(&_)EJ
`=+5k1/6cN~n:cLs`h}6m>q^NVyF(pPDU6WSD}m^lh}gIAAZAq>xrvk0(JXg<BrnL`]vU'%Td0O$='xrOFzCF#H]]6e5s0t7Co]+*7k>ppl`gDP&m'H2NL+1KF0Lhwkj+^ucp<D3~C>dYDGkS_q{W)
tQP}Q^Wy#*xU`WfI?:v47Btj5%)AIWW*TD=j}}y2n4hj&/.wc{(pnM2W?;Bzp2Ptl1ekoP=WE<_4|;0QskFNGuG!+7Q/)>!cZ{2KDO<pD2I0<GBVePB.,RPZr5Q2k$omLq_(ZSwZkeoqyEqmHSzLqa
sK+pd>%EGZp:8k7ol^XP80<)HH)Iw'$!;9J?p=4oLc.3oo{j|%#n**C'VsQlht&<=Iq%ED,e;o,E{+d3'bq?^%%:)HNv4ecUAi1fMLkpgZ:?7hp+0Ef6'Vsn!M(n+72UaSwJk?TP/stmN]Jk2iv{(]
cEXvl3}0w<$a>V82_Z)Jle4xTCsF_F0R1S?drS8I7Sw/%f%6`n<9qqhuhJ>VgkuCNJ)F/]I}hBcV8LWU2Mm9r6*=E4cbB#0D<fmV=qQjkOh}p*{NdR:8O+#p3mTFxs`]mxb.jh8N[^xwm.t4jtR<X=
Fc[i.Ye+4K)U(RoB5jolx_pCwXv*<}p=7Kb.^fN]I|;2JXJlS57XHEY7NOg$~OWz'te_0o<qIXcM0^ae#_[N.LGXJbqM3D*Hp'0_=>86i(XL,A9EY/pWLzj7HI'Q,RDjx^d,Et*?&cF:L+>`eVc/ed
0Or<Jym!yS{&5'vwyoeUZL#%g#0i!(LD#{,U1l8+/GUdhpoL[d#UrPK{k';k0s%jnySR4zxm<Y$|A4%|9n_DGTqH[bLX.9~go`IY_~I]>k3UleF~*;?zU5KU0~K4lXYr.k<0O]nK!#NyX*KTl07des
}b6<qAIo1!(Rgj:6tSf]qv{_g.*LLlpgVn6q#Eu|ECy=rT8}>129s'hVGCP+?jiYZ9ApQNy{6*p2g+LCR{#kYJr,NUl|FZ}MZuEP|#.V9d*~`1nl!}'4djPKptmy2fByL%N=2+7d~dov0+}uruRukl
'zHvILc$WQy)6{RpkrR9Wrc^U=nzx>/{j~Gx5Dh:]p#un*.t0+./:Hm61!1/z^LbK?,>`+$3,[5r0/D):'VE(')+^f1S/}]W,):^mS.l2U#rh{D}C587NT=Ye>a_>FHA<?:XD|q^&LL+fhtubo,J0|
+_}UA>93~HDH.`k^LsG1+0>C|IVI#lk/gb,jmGKt3{LZl!Akg~w5p0a($WTYtX~v=Xdjy]8e86>3R6I10zk99CZ}]6j684trAU=$+VD+__#L5_fKnjkFG]JvU2#y=a/=vwz]br/8`Y$Z6Y'o9yRytL
zf[3Mmu'']b44}_+d$H=N]vZ>r$1~y!J&}JZp*t2.%oDe1i;Yir=&ycA.R,.+Q2}kV4%`4HYnA_*3&b&(Cl*a;X9^bA&uSK`Q=fse<Y]?g=Y'd$Ylm7_ar#`uqfnxCABc7~Z?s){}yC_6~RY:W>J)K
O|f=T!%GZOuM]!)>+)roD.09%/C2P>hd|mI^Q*Y+E&H+Tdv#?!.=Cd+~s=Mj~|FY5Mb^'vG6EPU))%kI:v/v+'/F=6!_a8la6xWy0qh|.r_5{WE0ys'oyGXn=O96f_gw7=rP*V>ld#L$~{mpSE8ek_
],_nJdgz~suZf;SG2MK#Zg^'7)co1]0SM_dy6P{C55e?&(f63e!=S;?cht9QIs00G35gAKBF:2x6_zn<`*^fA'J,;H=mJD4B>)oo&(e&D%T>PK5<07`pENBGgA!*cSnGK,0WPUZhX6<O,%}<`+Is/Q
e)],.]+D0NA^5A3av6E1JLmJTCz}5=EV'/DTa=QCYe)=WL/I#3twx6nGE/1he((aBBslG`l*bY5Qlk:pFZ/Is/4[=&3MP_tr:;<{n~q,x|'e)vIPR.7~okY!>ckoPj;ORGvpG0V,)U;BwkMVf{2jPT
[RW0$8|?$1B}VJ%Vcq`z7&vsOjO6]>&q']p}$o82ecq6A<r'MLgC8}87,i6%,9oJ'sBm*3Wk$*2glaii^r1049]=v;Lo/1;o+J~egL89jFA.|yb}AB]HXk*B``q){B9jgCxhXTDgVdjO:$$h+Xq|q+
J,x%$:5DX'UL/Aff.8]X*`R(6AW~[9VDl</1h]tOLi0Ons9K,!#1j)$f4wp`CnuO?!)kEE8eJv,qfMcpv`3qQfN%0s8vllHEf?ROVXWBDM}TVSS6~cs;*DHquk;SuB)|^%OcO|cvhuya?_N&<Kg'wj
<Ej_*/nWN.7mM;*QnH;0D!c{P[>x3iq4J?IB^Tx(Kw*]{'|?+Oe|jQ'`X(QT4plu~hx&|5&/.U:eRy3S'f)mQjNBZ/DWI#m{!ZHT|0/ha>%*n$*,=:z*}BtcjO|J;#Cil.Xr>n&0oNt$~~N~Xl0Dc#
?C)4Yj~]LFDV+1=3(;BbOty)B).X8WLoiAZb7iy()q5eU!X?}kLB~TlJxoNhy!q_]VCC|7$H(5DXfkF*#!C6.Ax{eo,p&i#|/$butu0,[VCc^5[P!D#xXp*OVf(<!#2&qknK<0/<$pq;tl(.q8;;]q
y+czL8JR*DK=$vE?t[<$%W9r%Kb'g`M[8d1]yVq3]O2mhSk0Rn}s.SFrI4#U(NleUn;=]QGTp2}k22moYV|!4y_II^7]4+&!LBlzD&A%L;R!Gon/t~wB5vI~`Ja~{<'AP/Z>!BvPbep}vUKjaGt4mV
9#NQH1;X/UT|pUz{.khq.;Vu8mG4L`bZ.B;myF|t,}BIQH}kN<{Vp1zfQZKY8{zZ{70]!}RBNANBx!uo9U]dxCgZj]A2'PBv{Ew522#bWh$v?_T)V`e?Gb?s6wi;C}Y;DY(_oKVMtln'F7U5sWJEPQ
,&*R*%cGtlE4;Dpmp~/Dt:/CDr{ApHt3NY:*FsJGKjG6ZWsY't`JoWB7>k;H`*6h7o843)feg0dmPOmlqdex1.e%(eS%[d/R~~*o0H<<(gJfzR}E`pXN4mFBgY*37U)v#kfb|cQIYOP3LHi^mhI$Iz
(gf[B5GW]K8LlcW=jvhTTH+i>*YTf0#/}Sh}nqI|c#cRx_2FQ^wiirNd#x2zw&g|a>v$04Kx+O(4&`YXs'yVK6n[!o3DKXwQb$]Xtrb`W9!!+MX,0}^j9^#W]|5ew'.Z'QB)Ae7z}:Z7Ch|cVF>nt}
9F|SDd%+);sDkf{FQMC||4vexNwJ8`/XzQF%}+139Rl#5U,uH5s4Opf'(95F1cE2)fCaUA`)jw#KJ|LB(ZK13|h<t*Pvp6U}#'g}Z)E50,I_bq_Yv::];W[N!Nny=38F=}V>A:4}wBx3~aJQ%fe1tW
1J.zmf{.kC[lh/c$i]s671ghy'Qhu[_:F:;~_BA_CDhtq:2zO%Wk'ToS;Py5MeHM^_1cwZqFkoah^53%qlB:jR^R?n_)2O$?Gt.#T?T%5sx13^F4c261}E$X~r)+drDO0x8nB2QgHW:E]7P,57'4YJ
_!V'4sn^oh4#A80GG#2{J'+)q:ZDcOl{T>el:iCVI'Kq($_t]k(B=|99cOqj1H|}zV*pB`;26g.r1/2kKGi/RoehYFdL,''idH<A>9ykvK69IH<Wdg:7Ov6h#Y*:9GJH%^Iyy(x%}Ix?_Ymd}DxwI|
PKG,y:<tw&_O~.SK1)nQy_wEorMG5'EV#}e,;pk%'E/rN/3V#=qNGvh!6&X.IPFAsOQ8Y(tW1aH6/&W=qGDeer>+pHpiT%_2|sR9)?spKZ|+=R{77cPH#a]Q{MqcHVc?0I8q]sLFb*[DA{F^u{J~vX
f7TkQ)t!FI#cpB[r'(L'Fvp6GX;)hSpsr206L|U'CKbk$+R+}URVz2LIJA|0BRCCvL?CXR|OiKcA#dPd0539ikN'a7x9QjC]'&1^a+vIS9cf$$,6ey//%VS*skRuCE+B'QAajuW6a{TbOWUnn!gY/)
c1<4#|0c9fAE`VDEq%pnxw>y9%,#',=9jUTOy>eS4%Y3kh`v|POx`d(.GLUXei%x`*L(Rw9pBq,.b?dX:AeKg$2O0e2nps=B4|PwD2JVkv]rwW1D_Gv)9B/u`;VBh|cl6Ne?cq}AFlUNXbb,Jwa8Iz
A}o6=a?nduD8c0k=22G8<iorNs/FzqFbEM`^{+'H*41vq:L)#:0*[`:s/u_u]{w9nqd^oO}{<sBC*0<]^}S^v8oz4+up*P8`f'D>*5?Ft)Cp3}W'z4VT5)el~Rsdn1_{y/lBg#I$[2s(8`l`kh/11o
w7Sn:hWjKe5YL9Mc27Od:/6n5soj3YtaQnv1(d9?yQKTwQ??q9#4}/7|~v*Ugr8kT:'$!~Zg8($P9PBEQZLmxY8.nY$`[{+ZGe*UxBU]#>(nopqa5qDn#IQ7.o&D9U6S=p&H^Kq?a><QGjoHYdki8&
I0FURc7DSpzgTTWkc8eqZUr$Q+Co;'ax.Y.}?sS5mj8eGn}C&HADV%)Ys28sJ33(n<G>4?[x$ZPH(Os}LaA8w|l$d;MF:?GS;k=R/#G:P#C5aYo>zN}[YkGb^?kT[T<Xn,Ld1s;c$e{>%!;s^=)WB3
X62m_,6_z5M)'QF}zRhy']qQp=TpK.30IX2N=)IybjjvG6HI1?H(L=Q6ol(+p+zQVlL|o6Y5FjEZ]JtGV7<ft[$O/1t;,lVGEyHpAo5$c#k8kvnE`m,u+wrWzc5TeCv|{kHXg&5B9xl!'[T#O]QdL>
+n=Dy|0#P=VEd/M[A;Zq4|%M]bz+sYxwr;)[#HS{Ky2axd.(s2Uu:dag9r%|Y=)'u_vNnQuAuJ704k#oJmy!/FJL`m*(kGz!H'[%A)XC2TDSZ>8]ETA/T7;<=p`gt`xeXvjW}Aa/VjV`$OPSWT*>~`
XW>Eu.lu|/}NMF'Yy<Z$_9<ZU{tfv[6})87z_UN)#/Dh8*)3.XxZYl#JZc6|ym2(+bG#(Y%'bub;Qk'^}`z]k=k<)B&=ppK~_)azL$+1}S(jGCnGt466T_l1!v],o5e0Hrf+<W8tFxY9'#R3,.m6G'
;bLp0JF)'4K/1mrA=&}Snw!G4>1=0jD`fBihTi=6|%5/3T^E;b02`%p/3s4tEVF!,4#X2F6CZPWcOc_0}ka[?c|PM}|C[Y4IqL`rLo/1CbX19#eQ9dIsBE^YE9;JrgP0~%?{sDp~tX=:Am0oEAd7Sf
CRP[pp1WnRC>fo(&<QG{TfMmOC0yc?ik}E0PG2hG5;Eo}qUELfBXhVCXERqeH!l)F6E=kq/Bv3o;!GG&k^ptveSDm/fL8sd1gQv{U})Fgsko7qWBbiz7`8RBRNjHL?v+^29})<C7x/FT*d+htc2iVg
EhY39:!eEM]4&_4vdl.6(JdOm]**v^t_Na0p;A,jX8},9n)MvvE4FXShgg6TG%9}EBX?B!'AXdAiLJrS%pd:>`_JZF#7l}EB^=w^B]hsH)Cf|ezC{]ztR`{!bAu;J+?tZOktiO|`2h1!vi9}%[$+Vp
iJqveYJ6;3$4NCjE(A:eIwYSN^D:lbGTm8[;tB|g?>VkD$cNDe.fh4TF7V6(iAM8QHN)KHT&Cyh#Qr0}QAxg<S[IYd;FUR`EPl^Mlg#J6N&J$h5qaqB#j+b[p!m{|#r1L}JE0QJN.>%fG8'Hp~Qe)O
^CT[pX/BjHl6;fJs5Ap%2DXmOEazXUKNv~'xkX(j>(RlDvw#WV<xVHm_!OPPjcCWguOQHmL{?Rg_u=U*e:3$NoFV&ro{'&,Z57>5#Hi&^RtFTsKZX]y?(1Vr.`#{B52:{J^J|'lQbO/zY8w,_mN=4f
.`Zv$$ze9VA8&,4E4;`;QB'o9wXN}dFpI#vsz^g2)N/fCsuuhU2Htgo0ji)F^VRo;.E#q$;kPB]r1rj_0]Pa,S?C#E6eN;#5RB/nN.cq6*PQ%(+rBeh>b]^RQ4:C7bI]RScoKSEslqcw23ZxZ9UY$!
#?GRRN4>qHtxyb;Urmi,`)1wv^X!_mVDRXglk6BccjYaax$32<earN;OvVg?aSrY7LL0Cnu1|D0QKCH>jl0K[Pgg3T;*d>20;?H=6#$OHJ9l%O6la9ECTY`8.<2[,GjC#$lX}=laB[wlzf>McxeK'|
s:H;a^zQ/[RAA1^y/2d`1bChi4)(l3Q_zRLpBid*p{/nW<^oNrE^1j!v)9/H//h|S>ZlF,]|vva]a_9aE%/wK8hJrrS}0Fy0I1P0^EqEILU`'eaMwr]bjj>z9o>aJ}XnijuZmAI1/zvLXjD#Y!2]w5
}]Fn<c9'yJVEpn?ILuBuCZ^CjKurrzDUR^U{|c|(E0X9#Ib&#gJ'>H,]_5z)m3Di3Zc5i&?*uY%`7,Ahm*.c,&cc`FeYA1qs71z|mM)Rc#8z{ifG;V~'Tar}bM2?,F|8k_O;sxF?#<9f.|}~39+8ui
?/}&GbWP^8Y]|M+XIxsW4~6p,e*39>!P&=z2f0$/1.Z:LmRa7ngE<J#$E=g29E'fnNFMe|3*sT2~pPh]vcfu:94Hu6#?r0Ky[MtgK~Ri=+WeJGW}zTci#xonQ}/^y|U,+/t&p93db!++lg6^+lrY%h
7F;lS_zh/Y[z5a''B8#bISHmfPkeyFBd0(OYC7;&2s%^.9EV=//~?!WSH=0m[FM?(s}z;_(Zv3!lqjOXe}cc>_7fi6rBn^Ytitm9.F=DfuRObtYjFaWL4D},2[S9~y6k=BXrriv&Km^3gf|=?a'M4B
]QA<|o'/e>ozG'91&K]=Eu(W]&49iw/o(g]Hk^.2puxjHsqe/:%_>EYQ!<qOpc?lF.mxO`23|xN_jsztcVrC^%a4tY$s)__UwE(^EAjHK]V){![.3qPUw^QkfUx!PY.cqDi{/aNk)CTiwz%O'FfzLv
4B3umi+>:O?<!G=zK:wE}*yA7kZ;WO`EuE.p9G!As.a3k>!~UlA/H_>1?o)y+b|%MNN'(4My|g(yk/6'uo6n6eC>NV6/G/_=.UO~RmBkH1&BB(L,bQPW5Ai(r.23cI';}%U}}s]oyctue/%Ncq7~o{
A3|VDFXp:n/GKIQ]00Tj;c;eb+X2_158hQY`&^]_ho>9Vb(.z5{nX9{cy*yEp5N}t*>YyFyVzpHoOx9r=C7;5R~B);K'yJSBJA16yjQ!t08!Qdv0xWuB>NLhRz3Nz+>PY4_ob$%|X*>)``tCE'qVmX
&veON%}yXf`P7n4ak3?B9tuW)oO>UDT`emEpF~B#^6PN#QTvB]m#'MxosL1HC;Ph#faupe5&4wd+xh|.1GN#YKLY`pw2(XI'mpU'h[33b^B|{_?iQ9'aV5NwjQ7#[Be^h4+#Y(OZDJ~`3FS5QL%WAu
.Tk3/DX1WdErOnyM7'(4T(?OINI_ybOTX#ReM{Bm!Tb6{B.pK$Luh,v;0/~yzQj1xN*%X[VC{*#&QIWaXb}VsyRKTs_5CMvVLH&ocI=OR:^H6wmRS'8tmL/u>n)r3#zzbxF(VtlS4G|()]`{!5qJ'k
;9Y((CaQ^ChCn5FYNH:}PttH1P12[0~]|fF03II_^>[,BPkRJ&,14+p%#8d0KvnYMqHF//4AfnC{+9|?w=9,T&WXxqMt!u~YVKx>z)<f#laDpI,lR=6s(eNTCpBvZEChx*plVRkxKt(4.PU=*;T.P;
Ze.[[`]oo<tj86ppkaG58M{j_,0j[;h#^~^':fnh7*bB,p^cSTAuyW7Fa>:;&V`dlA/wQCb0C9zZ|y'S;9pLw#,9Gx/~OFk9[OhI93Uq/j1yz21+,]ws~N?*Vetdt8=70PCsQ26GenODo)2XFn0O<C
Tx+F,H6?P0j2Ow68Y|)h4.|9L_gxZrqp5)PP]4ZkOUBmT#:3=J`5u!wZ)p=:&LEBDo:({(I1.x|Oy^d.T^{WmG&uyDVbV{e^Q.{:Zy?l)Lh?&Frl<YznnV.[||)&$7`wvx2rH9s$NzV<T`_:h3K=MX
BIa(lUxX/s>wz;$1L!KAJsQFR67BoXXtmZAuB4~$XeA{H7tU;,o&oc|$i;i~WYv'9bCJ~'0D::F=;.2u/sm)TzW,eS_M%1h+W|wp>2AN$N;&3V#inza7Xk]$)#(E}[~7ksL1MTF0r|<(5LppxkBOi8
)n]/5jW{eCxHjCC5z~V=D9m.G|oI?7;og*FkvDR7v`TzGU`deQ_y5wFFvfI?a+HzwBM]E9WPG&8v=Wyig:X'GH[$+M]PmkDe|9z^LK|O)R,skoqxWpZEX2Dsc_?ohPA}kFv?~Ioc#5N#?$]]h$P4<K
RiJCN1$oZ[`[fdl*zPC?n2yrhv/{7sM7}N2z<j_D~F/6KE;B!^=4X38{<H[,/W.CyAF>_T_fOm&gq$bWxw.kp$k'}fKsF$6*vv]So5xt`*iewC!Sq%A;kY*a'dGBcD+3[xP};Q0pRqyV.l_a?]_1n.
zIGJdKm385ZF|,??L/ZLYtl.(Y`4LNGEsWYZ&a/*Y#4Oj_vKpp9L3a?TB]5l'>%w6Io12`]=!Wom0C9]4OJ`]4i?lqbs7d*e[&h)Co?m;2'5c{1ICt):H~FOboZHliCFLlj^2&Wd/ZpGG^|~c`]o7U
17DH+Uj+bNHVkcI,{A6^WN#2|BAor$v^,]UByM7X6#c!e#X~GtI_+;oQF0mNu>aNRb,$R~lw4&km]EA>~yu.J)63lP=Jk{8TyR{2tx]J/j>c=rM=dmYvNZ<SXm5LK+PFlJuK|:o_oO|i~]D*>]I3Ju
9IwX$/~9#73r00{S]dU%%U<E}0P|/vL<:>G*q8;>'~p$dQI]n!UB2GIpM[IBteI8I`;?.y;6B<Jiq,#lTsz~J[k|<]6~aN?u=XC'3pbKz:kfoK.5Dm=[{~B]Ufhkt~N9dz)^a.q>Gk%_g(9+4cx&Ax
WB#`#/[~>FHiCszAi$(mDew5L08O,ZdJGv31~1qbXf)>51A&PQR;e#?,2T+3V1u7fhLTs87~&&OxsWsVV:(5AY{=vbW^;5,<s=xvko''7lB%EvdELdN`$]B,gR:GHC8vt+!T<y4ha7{L2?1D[s$$Bq
P<I98>}xXH=qfS93PkhS5]~rY?56,vke!1uz;`nM1'H!N!L5[D>XTT+.:1.0U6Z7'(v!/wY6c'CEPaGe&8r`5EnLt=m6}bAcZz8=b!a>cN^hXHYbkYaMjZH07fdjoT[[2|;e.)Gzq1}H{C*}rl&I!9
mCx+>by??_qX7%LuRo1='emLg:6C]esp5}6'}p6{r7FiE9iyhks(8.#_gSN!5C#dH%|>:kr5pyCS711x_sTM58cGIDfa5Q#!VKM|hnrpekrjp/{m]cS!(U^zanDTC3id6.$pUL.I'sLP967X%0bO5A
ec+CbGdAl,s9sy,`9c:$h=5C&c7nV.h^1UZsWh6c|JL($>feR4jXt^wk2>g*<UkGNdYkHmr'KQ.h`|!5z=61WxbReZ+R{Pc8%H3zQr5l}>x1..O|PTtOj7lfDep24P{O66%H$M'(tF%!%]9FdT_d6=
<]dW]*w7Ww8MGNL^sGO`59*:SIz#Ka8TFS,<GF~zhA;?NRzZ.Ec~{ueg)#a(nt:_S2awidHq_U;POY`_h:4Vs{VB%jJNj_g&W`xF^OZ_Vdq}<fWY7|L^%..W:3+_{HRv,rp(?{2i$Iu2]5f)$mvu2B
35bR;X.oGlGjiAjWjJF]Vgy+h.8;th.Bb]R;I;qtGgp{}(.n}R>xlkSh2U;UT=7Go'bX,MO$17s2'`9np9hBBLNkFA<DyY65a}=<?M>B',*Ec]I<LBL'u,PU,S%xt&:p;I5Ae$J2tiqA&YKw,TUl1W
5|`ZApsb!kjPRf`[5F0g<=0>,$~}t$Ir4MZs=o5x]O]![AUBn)O*>w[5m:*R:Bn~zG0&4+rsPJ%mM9d1!DcAtxj7|I~r1'e*l3}&(9)QV>jCQJH._ljKv4WF't;}|OBKkXR|6G?;A}z6p$u+:DuQ$`
xw[;gE9lQyp(8f#]N|xV1|meP5;t+U;3[%heGn7%$!SY^.wn'hX3w,E~Ws+Nx6?yGWcs&z2HJ<f0bo2#iA~VOnLE=:+6vv7^?=_TWmOR+EyMLUEN8zc5?ZD^5nDpSRF63]WDANd_=w1,e9ubqbdAD8
/$DU27IaImR5}LDZ0:#D=cl}*'6B9vCrymcQM#e|O^ZU])_ahJWw)LF,&f>+,vz(9pq9y$'FjdL;Idj60,50r%Z^2pKB=2g?}o.DVq2/T?v:o'Xmdw{JJALHKvCQ0c:<N,{VX)f,B<~BRf2]K2+Xk[
}T{`W+w.=J+JbkP,7vHM9|&~6<ct:l>?tgZ:Bn.3v))_G<:%Mjd8wBN>632m_Dq?N3R!j{dcQ}.&[{kdb|M1%b<l>76T*DRkeK};wM.JTy'BWfa/:2l6Tjld]&F{Tb?Hdk3?k!'H2g6.Rmn92p)A;i
{fMgfS$dkk?)U0!o4*.TG&4xv=Iodtq+wYH`!Ks4/b(EunX~.9'aAo2N&tFs6a4sK/#d?4<fNK+&<vzv[?zIkoyx[OIZ~my_:[`;jITyeY3]ZUoxM2*]:M2/o}!I~p9d($I^QO+i;`//4MQMB.,gsX
xkT*(wqEQlTnk_nT.iHJ#At{lD1x$R*nNE~(R+(tjw6I]6nURzMlYdOvRj}]sZIx0jT,crAqVn5ie.0er9Fq#X|ThOUyt2_U!}[H_.cDE'o$#8~B4|e{Rs(qhhX[J8J_(Am:=Bl=~FF$YhpXAd5v*|
8>nGt4x!1#7;`]F#>p6]v`9T8W|yWPO~o:D}kld)]4(~]d_u!oUZx;>Aa<>Ls~oCMKv}y9jDGoWz+o)F;B%2[b%)jocLm_4CxQvWX,GwuRmS+{n3tgMWZDncNtskd{=;<y9PuhCVSDPF|edbGc[d7a
swgt]|VZ?4Vc=!tmfKb0SVF+$v&`Fx8y}#L~}6iXEI!Wc'.XN/6b8~]hq1Ic5g6cVO|uUzO=|g{Q($ZQ6g8x=dz[?#pz,P{QozG%:*8$65*ZQ*<R=afng)6'35CKKi+)8`M^rS|NM8#svbRM}R_>j{
DjUo&E`SCt<]fMa^q]KiufF?+:ystH'{&aXBl5w~==xqvbY5&XmmV_Dt|8C+GoZSnnOy&^3RN^C.3Z/%BdFUaHxfoX^VI)MW/z1{vZA,supv{t?5QRLA]sd3DPnVE1YW>joz0aDn'Zi8uF|zj*v5jr
toU!wb6D=R0$(DfFm`5gO__d`&1Wk4kfX3A:Kt_?)y+ZO]5bT2cAa%XdL;K:>{{3Tt]3O+Sa/HvaD^o<6,YxwwzkLOkHmQ$Nx.B]/R[iTae,~,`$|*oO^AR/Tn_/FERf9II`pTw?Jex$$n0|}ggC/O
R]p|ce8=]2<q,KmKI9w$wW'l:6P|;(j4Edco7]z/:?OU~gM^k1%A76_A}B6'%8T?BfxJ6RdlN$mjO0H]4,{kX.ghxft&gyHu(Pb(bnJ^cDLnoGv;^gV1CWgx,xi%.<WF8Nq*f*qN]NV{Z:XGV>N/sB
*;2%!?1HjSr=_%Vx9_5zCR|jY_JiJD6(:scF|J<sAo+|`**}Udz74J9goYo82V>4fomBS~1Bl9}IeQS]=#HI=Op>XQ9b/^b_>?oULr,PM#E=FwDGS^S(Qp=Q/CC1YSr`NDaWI1IA0?dRl%{.L'zbcM
~)%P*<igt_8fU>5Hl_QVW.#]Qs&7Rovp98=<IA439f!qV%qG,hW~He6$)a]i1t2tQrq06AW3mTApXyKuG4]gKFBs`]kKTaZp.8`3(z/ZktfpxR>'42DwDas^!6c!!beMj+3<OlDF?Wt=!_,r``L1ml
u/XM;F6dL`#XfsaS~36N.nY.^$Y_?k1+PP]Nz<j^[<`'mH_2Ak;Z`Ki|ug`vb(wrUoKBsB3x6]929Nn}5x^0OI*!R7fZ=p|>_3H460V$_G6r[>;HjbU0Eka4)MO0}|zcI<pRhdV%t~0<tdL*f3Z*M&
eEKIEw_xs'G>~r7!(?5Q!_:C11o0&:6?&)}D%FN]0tKD_$O`o!;#l%KpKFG,v:N[{HoHkp9v#Y7}I(JuSAPuu6Z#qVI8Gvb)fytZZyN1Unv'?UWwp=dNfZ|6O(RQK9D`BSu|9N3ikC~:bhB>]L6=fz
&^`9|Za(F5'+S7&4_,1uj_JlBgG4H|$]RFm{fB`dh)Z}'g2c8BM*E2eP=hOk];iB.Fs8ouN.yotOWrI6bRRJC7yz=JviBKk'2:JnCiZCd&K&fi)uKtBSNV:5L]]B9O.^U(,2vst|KGx]KuCPy:puHr
(?i)%$!{V[HE),)a=W3[<pEkxrv=8?2`TE:>ir!3o&+w'dMQ^W|B+_>_0IM7VK0,To?,JOCh({+Eq6?OaFDq(&m+28)wRke.qs)`6[`e[w{d~ZOYCf}`xr.<E^X|YDaNo&}NfTpY8%R)Vm9D=8'fZl
G=BG:zd$QC#}q#YdYutSI?~I<qY,:dYikqjAJ&Y^c%aayx5O47/JR#|LEHZh)L9rLnZ6Uf0|XkBaM7OM^R|PA}zz>tssx2tpbGP'5a>T]AD*EqSQC)kvvL|+:&E/|d$10_v/[s?r>To`YuNj:1E6QS
[7I#z56'V9$y3HRw]&Id#BZ:Ml))U!AVEM^i&G?#&2&j6eW.l9*|W/lQzY^eIB4K=p#/>U7$[U3(^Jurb,z)FCL$N#n~[MJEP1o$Z:l&1)HjA<w*L8nC4Y!c5j}D].^p6csgmSD;Sp>ol;0wj0Llm}
P)^AJNi=8]~sV+[eRrxz5n>xQ,UJGz^EV7Hu:s]'?09UowyUR8uxQCCxn(6b#HdbP/s'qed(^9<6h||=I/8_h|g9.V:E5]Z:gO8o;cLt$wN^;*^<#VBd^YAK~#A/.{EA`jDjUt.Bw+Gp7='>9A0?,'
_%~uoTfF/c;ZB!eU_WT`N#{Q6aPItT$][JUb$F`C+XJFt(1f1~hfk0=`YhM?UK}7TMs5eQH~:=.!*?*`hN9wGmnuU[03u?i=<<NN8<qH0{=gO%,zQTSJ5|v3Vo0daqhccY6h#(gw:1gAF5C+lZeHVF
CBD)P%hkyrU+1p.6>o8h{cT9=A)=$=cJaxlW6#wep[[1u>VSE+=3{Ro**3L;c`n!L`$O`XwIDzRvW>lB}F7mm?3s<D4jZmj$57`Zo/3z?%DO~3C5_s4ML}fWH}SXeKRK!rcg{pc;^v;0+oK&y(*{R]
3Y%X.N'S;ImZK6gT7X^59m]zHoGx'U&7qGC.~_a$~~F0IZ7Ga+)z^*!A,$mj08>$q.}Dd$I}!>}93.EE8pwBpdDibFl0XzoXA+x9<'0lfv0nyEm%^_rk)Ost~($dD`kQb6w%~#dp4KEJ5)dHgzCI=T
<WW<Q49hvVGQWu#$v53CByIciOxm]Q8bbo!$bz?5$7`||Ohiq=B~gVtza/Q!^%D'N|(J/Kpm'>mSL.vS}8vv_%h(&)sz|'s=yo$N/<f?DEHA;8Sr<85TygYm}1itQTp)SL8k/yh:8kMqf[pIT8Zw78
18%64ZVDfWq:4z7w?,HVP)DlY&>cb/;2(~^`C]VlLJ:OcAx55d#Z!Uu97`[s6Se|EHsJeeNrA[>fhjeC%('i&CPfuC%/w0jWG<U%tly>P]n3pH3DLnH>Dgi=9Et|2Psvrk~Wlq4>>fkd^`,8kXqj]o
&3EY&UnEWk(=?Gp7,'p'mme2A{qcaoc4^9;I%^96a?kL)zh1>KTtF~05z+ULYld?#$Xwuf<.e]p1y2_jfz+1f!idWAJ2PrfmFIp'As<4y*<h8!]B~U|'N];hgIkF2LWR+TxSSx~XBUYx]VkQ*R?+1)
}Iu*U>_A0%p|LxLAPOi#kpHAtZyVz?!TY|ygb?AFI,_N0#w<<(EO{wr;<Sw4$l3$,n^LTsAExiJkPQxuZMc^p6e?TjuJpw4'oD4.&k;LcM[QC#8S1{$5PyjQ&w#LD,+]v4I>xb^|P|KTCS~6k=cPHM
+2h%RdgH0hPX,+K_hprM*bG4A*%tYNk_f;Z<uJX31MbkZ6X,B<oScsTDT`6szm*Rp`y6P[/xA6X)>kG;8hs_:lNKIpvY/[q~m#({oC/sMiBWP5nZrpzv0iTV{&oH0ElPC.^Fy9gK8!v,x=E{T=%OXH
gA}3nq;Umb%VmWPif]4>~2s}ii>WAH$qCW~xBP;4?5^Kk.3Hb9Q%:msRrF,ZoSUZl$;z6sA)ySb>Q]:{X`H1+>ZvO~UGV'X$)i=X[9L}5.b~P3DgOLA&!ad;OoGdGeK0[7Cf_x#C0]]m$tTpo9:&,{
&!rIR'A.dF,$N376#rK,S2CD9TMuymiN#U9`:%*|z57|ZS'.O%+6=Q$'rl;:6#YyduWS3ZMd)MNYZF[{d;J7;n(,Z1qynhU!v2$Tx;{ZpIYQQ3h]HDh8l2+Gc6Pp2rZcgM`u~k8<Aaojdl/<s);5~>
D7IBGrUbb?9U+F5o(fnpdUO#JUuvd}WSYL<jD{lv>a{>p!M4:I9Dr0f:L?~|}MFtlj?,Yn5G*~_w0cP0];'5XK'2#pA={1;Ix*j>1e6oE}BGN:{v*RB')urV>+u[3SAiZ<(<(GWf6~Ze]S7Y$B|IB6
uupJ8*HT$lIBsHue7Dno]BJFJF>[498qmr3*YYBrv):x}>_KvdlPh_c%tx[0SZ`OM$dIpqOO:HO7n(.j:'U<1mFn|Dt8OXM8J|Nh&vCB*/z=R1sL.LZbL`zrX>lsDE{7s[tSs7+y3fe7~>:k{sy<)M
pYSUz)7_v]8ogLp#,t=YV5b!`Q6aDGK6ai(DeR=H~)E&,TWQQHP|[Eefv`dm_dM]+TtzV,=SYjVR]X`/S|i%B!'LVo6kzP/%=f/a#>W]&DYpCfGpquB=g5^Zc+HNB;H^u+n!BM[0Px,wc6('Y{[}~4
QDpUe*.D)H][%wowom$c;L.n2,]ZGN_9ly&MxQ6eH|Y#jBm.crd|x97e6Fpb/qEKKjhhFm;[#D'JfqQQZ[1wVRUMD[gQQpe)S)9dKEsFpv;+UrlkNREwe]D`8&b.bYG}t>f.JCL;;9FhjR0&6?PaIY
*LD4=`<lO[h52d`r[!]evbDl}X&f.ZZIAwBr9*5R[##>cHfZ,IyySug.i5<,l3xfd+9lVbobByn|69qu'w'Fal<jluo6B4snjc[G'c*1wsaY*I{=DqJurLTNqp9uDQ&8V{)J^<eL5Se!d'OzEc$C~_
~WmZHP7&E?ya;YSw4P{~LVNIPQjKk~0Lp3L3*hSe|;+p~Q1i^[^<jxCj55KUj$fc7;.Vx]a2ATTh0(UefF=^oAw`XV/+Tx/?_p#iJ#M(GobgKj/?>Z:nuexzqON=<04}eLM5H1ktCbm*xVAb#5_j*s
gJBq,,wXuHE=Ehc'LQ1F^o5xeqyP>+DY1)eop:MWe4<>jNh/vtalGmD^Qj{_.#x<ycK;L7,_D]UeC4>N9AetKzMz];|#tb#rf;=<`O15Z;%AK3uhE:GVM)3#)~x>~fy}YY~kxfsQNBXzsFD|Ukp]][
pR]eI`anOi`cW'.mabIy,Q=F}A~w8'&*H'{Lha%eLaNVEIaR$6vPl6~,${eiohri<fR8rQVIsEVEHa|Y$Mfq`nqb.$SVgH3~N7IYF&5GH~O>B8k4{<*eG`&n3YOPowCAG19>2&6:NQL<208}NCSnz<
m3Zy;*3$g{M]L6_{8,ug;%Qu/ofh;:o4f{>#2XX,HWWTvyzk6WJP_ltR$MkeGtlfn!}]RVHnsS8(<C:CFhTvAp(2U?,295NvHPW;|*#5~`EN#<Ff|#]Q0^tN33'=b`Z3xN7~.wl[q;]hkS56y'#zj,
J.>wlNTC)9s:c=^{YUcE$WHaC_gLiWAt;4?^w6er}ks~FGX2xd.iK~9`e3V8Mrtg+)Fyr[WesYIV|V!r[Ank&)hBI]f~ZY<)(>F?HhhH!=duYbh)D=z{.En;P{:&FygsH4C3)<Pe5z=qc}1_=I<s{0
kQf5vrM:)o#%dbMx_zH8Sa~(Iw`KrTLQ'qVl$6N~}AE06n3]W/#z_Oa,GaOj$;2^6E?rMYI&?x/9x<?w$Zt}C99iQKpO3[Q*X3{JqF8J/_Qs*9?+X3?d&!yl20U(dD;[RRdIGAY8Ln%9!1BA^XL<ux
IS`i;Mu==8;sz2}=*z%4OK40J;CuY2Wkufk~S/r!^>Z,Gbsb,q,T0{^Yx{Q53(K'^TjnAG?v/*Su!fQ9#f:V8w:_'Tg+?j[wXSam>[/cIlH_{vY1:DTc?hdNa]|u`<gX{'Fk9]prI:E;]8$}7uEhp,
$zz<Ms!]Wuq]W]:|>KBR,>Xgv4iRpLb})pP69J8gJM>*tnSl5V$7SHmEgMV3LBX2Rht~qFF[6F'2S*bDUn.g|gCnZ_.%t.l.vso'3g/]&Tb!Qud#9W|]:9((R,iQ'N!Yw^H5DLGCLSf$2LBE<E{CA[
8(mPs{d<X}C*GNC)fFL>9,M&/r|AzFi/H1sT9|&k}wxFV2xuSpENuIn<XI?i'&%&Lno;#`SHk^LQ6jP[|X+3V<jYgs&R~:ls?fRKQKU/c7)5aj`,B``I6J'K>dIGMvG+6~_HUfh$w?TZ|fKJ'bfwZb
cSgryre=}3.1/+(<kpws#woZ8,c[hwe{d;W9gXc7X#ln=`0dx~k8p>X#^I6yO1Q=q?'y]H%/W7[qzA$z|!:3Lm5.Zge[mY+e<K}/4{3l*aXE~X{<g[NVWM1h]GhY&jgeS6D{<`Dwgp&tmG[C],J:}R
E'x']><u{gO`%_<#?Hcl$,.*FpaNdv)^eM,y[G,x*?_;>hR>JL2pW+7&myeknf$uL`F1.;58FPI^Fh#9{CW5$,jk$L0:.,XM{B?{L110!IeE{_;_;{B3hoh}bi8+29>Y;>]rq.qHkrBKDB[%vbwf!S
;`wd*8U5gp6k7`rgE:d.2>sY?!l:/e>gL7Z{v!c^=J[ny<cjv)Cw2BeKY3gpt`}oUEw,nd(fdMo$3gB7{M^<>a9??X>:(w[G/&n'zN~eC>hMjv5!t+EG,;ww?~uGG?W1[!'Pq_+ZWlX!AwJ!wNPuul
fge+3.CksN><M40fI=|iJspD)!>~=V%+dLRAD[K0J&=zRrz:?rf_|#PeTL<Wy,xq;zuPzQv5pC;lh1=t6f&'KDv[,{|/I/9$X|g&FJ*06UTS,Gbgj4uHbjyx*llcd9a1q&<NRvE?Ky5pYOjF/]&Z4j
#^48FXO%y`{c[j[.tA_raUITr>]7k>4atW06i$NjD8Xyk?_g6kM^.D?/6N0~.i<~+>}EF:,CEV[rDBv=uW?9`WZsQiak6:HQUqoIg^fED.cS.)}eKlOl^+mky[g*SCL*Ot<J;|n~})bm3yQ&><Z?.y
|z^,cv=%9v4Yql}h`QzCrBq$T3/o904pU};~FHCiGrk+wG:8nA96bf]B[17D/M<k`IEAu7g`x~JkU/$GVot0M1Z(H_7%VDq3U/m9J}C2Axe^/JrvS.X^z8m$aQG+ZjGQYFz>X{g_'3$P86AGtL{p>J
Q<'1)f]wy#8YDp+F^1A`r.O=#~7QXeD[!Wt]qEW&,ubVtiQ'GKYt/m7Z.2fk~8<y>>g>N^eYgG!V~?l:6:f_LtHE2+8MHK^eumk=!+Xj'+r2qo&AvOe5w~pGl!rMaqK1oZ]2R1Z)B:,Jn[A=^_ddIq
zbcGJcwF`$!s/Dbg[#*%pjCL(X~~*_y#o`Z$[!)&B+TA$}Z3In?kQu^9j}AE|N51'd_w*FkoH'X!A*rP?1CeERq}Zqe;v(3^vJ'I(*pd,#|w{YC2J,.eWuWY}jgyU$%Cf3$}[*WEj&T<u9MHotjziT
wkb0Sakx>#vVSLdx:~x?N~tf)G%zZgpc1b+B!?(n)M<~%+CiIzlF22}U]6vkpr|G*Rey0kIFcggp,XBk0N`mXJ=?{QC^I(&;<W0#$uDk^v0?UA~?5N#<GlOd>,lfB7]CM/}(L7!dDQu5[;_7LZ!pfJ
~ytvL~gxQ$Uya&Stm+<klY%n{#lXT^,I>EdXj`X<K+73_X2]nU%5Dld/`P%2#4xuZ[c<is5IuXKyZtUJfo=cpq4M3*qM92]Fbj'{OD7+KXJpSdM(Lsm<K8`QSNM|8O`XaQ*wsn4SGH<q_J42q=i.Vn
5.ZD{)1/97h`u|21hkV9<153j2+P.N+Y*suUtNB{*XH<EYOilO*1)=q`}+i8&2G<xU:!^Vkci62liy$xnN[>V#ZopzI'it_W9[;W1vFas=,81TA[6<'J#b(Pv:mJ0!iF{pPJKZg>`}n)8GzUgMB82b
MlX&eBe7sZO~ix!QjdVj/:O]2z~z|C(0tQP%ywl9&PJ._lxpab'8J`C|F$pfa<Pjzph6:HN]=KH(~ost>tdqKZt9hhHIsm+0$6]O)*#8_C2'}/rr4[%|)L%)QW0/j(%>C'cF`ny|4^;EaPKYe1N.Lr
oL0#(]sjNlC26.[UA!J6p^4&8Q/v5,=Hi%D[yk._7ssdvOVt'2JpX&~KtCh+yrTKz][d+)T!9'AAwgQR'COMxX,LA3#=b:5o?rI^15M[B}wyE>O:4yAytJwnEN/>lKzOeJp<mi0#Y_;;q+[}l%sDCQ
pJ_mmrG{F4Gj6y7tZ|QTyO=bbWH6js+wa_GA0e#dirqx7~4&u?N0sD*5Z%PpXU8F[<0Bo6oY9NH`QHKGXTT1)]u{zoccl^aN^F.U*yzQl#AH(uAyHqwQ3QThqv4O=Z^uuOI.G4f{f3Mkg?_l:gtq<U
2~pca>,7|;=kgR&toG}^R>R*p{J]'bmhA%xs9eJwZ.d:T.i&^>kY1c?URW6rwO~vAm1`]vK2[B}p#=d!?I%jHD.K4~r!=_9{Gw.}''B*Y~QYMw(D{FCkLWpNub7rH9ed}R)r*e6s?xmP*9fB*RaD`Y
Ks]<)~C%+Ao0ovuIXXW|QZjEUaaM(]G=XxBnGmrL`sFn^UQ%fl*sZ5L4OEHP:*2tiB`Jr<djb`u]P.JQ8Z&?~<)g45`oo>$32FD#2%hJl&GK1w)Wh`Tv&13:HHHT3l1E=KySV3KA4zw7Q`=R*~*;Yl
_*|HC!'^0'0y;Ww#}Q;C^jKa*OS,7X<EF4[{d:zUq(}FnRG]o':sA;VYP5#zd0(U$5ex^k}Dzd{J+1lY}*KFo!5q.x1Qzh0|cG*&}.'92XxQyX7}0dd%wq;}9QJKac29WlkGh`Ctv=sqHu!E*c2g[w
Ln}6)TnEvrcJ3$d#!)BP=u]`;=_M!RQ;ZdEXzE'_#aQvhO~*,L0k*|N0(qVN<q);S^+tVS^d,=NWA5)sXOfr[lf:`mJCaQJQ9:7z>8~},{]|2z}V~;*<<(a.o;&40DQl%05m(<v*9^_P<){iV?5b}Q
H7M<tusw^*Te^K~2n]&hKELM79Xjf~x+kp^%=x[VZS]`0f[xUPmq|c+T>i6tvqb5GseQ8,|339v<BkNDGXYiFI<Q.U*OQ]Yz2xMFfqii.APN7R31f]D}2|}*GnfD.^^,.nFpv>1FFIfT}0<Rt}WGZ`
A8;T&C(]K1AL_kB)h.,EYg&:Os,F+!>2ufH;{2?=rI3P;~|6O,aq8Qo/BB}KuN]l~oKaP(73V8)&.H{8KMk$w8PKY~Cf_j'Tya?]fARE<c,?)KPfRw:[J,OE]LpEh+ju$6o:]MN<9SQv*RBU3%R|*H
x;>_;O+El5gJq4~1OMvTn&#uPhPsb1N&auCKx,6}yd:NREa(qSO$T|ZIAGP7W{fkoCBI]%H*|^.TtQS`#w6=^Tw|G?(7$)10Xc4s:_z*`OItD;>Fs+t{A}hhJ~s>N0Dkb0h%.$408Q(6s:q_bn&e^d
(Fv.50wis22M?c2n%.#g;[u=glzC<TT[<8_q8b{X9bT(3Rs:;ukF:TgOg~Bg8JahM>HXppK!l(8Mx:p5lDG<>)X#8y$ZTu{yNEAn'p6(`HNF$K>c{pRxx#U|DTx:_2:j2fA8=H6UE)5)Z;hsG6f/`>
7!$Flx7O]Pod5ECf;?ZbXZDc6tpoC&:()/u%toi5gjZqmD;S.%aa99v6S(a05[e)>1l:OecS;)EjAd9m/PrW[i?$0WY(0,?csbQJ5f:G.r!S~n!pFqKkVAv8[RC1:JrX6l}!FYuTlKmD]z9T2Y'Tbz
2)zKiNmg/)HTKu+`H8]cS)?0(<lIWKtMO!^r.%/v.B3L<EblJwkO;*iS7?HEwX=w<te4P%.EZoT:Zp5pij'Uvoi'GJ9r)(d00E?|]KphLYuP&Z:7(j4Oq'aJk1f+34Y<Os1dgH_RqP7<+8wtfQud(N
BW|oSv{eBt}(?0d#'T&3F+US2W#&*6lK?ZUycyUvB_$v]^wl>m+f{$~acX9o'z+KZ!*g`/l)usJ9J'(1AuxQjQ~].EH*q>fZM)TvKcZZ>{P+)rH[d2agFGFp$Pt/,.J=H:qk3+g;6&',~=cn<RY$Mq
83PFL/8'Ov2LYkw.2u6}!oiG5F;B#wmq&o[8?81xO_xXrL3Dz*z)*R3(5V4h$aB9P&~E%}uS&>_=G:gBB[Jh)9CjJQ*JyFFq{?u>aPQq8;&zq>*m%#ci]ZCZOHXJZ(joh,qY%PDS9Is8;})VmKq1!e
l{r>_Gk>00D;'k}dhQoYD&<+ooA#(UrF>IPrpc3tDl~9%gXj&Z;_MiLq/=M:<KSA.bv]yf5=[F$:GucKSqFi*qScDEFKF?U+ZSz=.Vsaacu:?eXzc*H'QC<`K<=ucy?hhoD4tJb*!`BczhY|P+ta.W
kVtt%G^'WmS`nUw/5MA=$#%GeRr)1L&>G65}qTM]*Ku]z|JeWc0JrJ1*nWe^BX>65J)L8M,cp(_S`?=5UbXdg+N[;f}zg{U:dxGKE/$&5ofH%0GrVEQ71f2Oo9+jSzQUEMe[x%CfXlV4o2Cf9=rcwf
o/:WO+^vUD|WKlJz7&%5iK=(i^i~p!&0W&G_mxZ'11Q!#=]xLXszAl`wa3=kS>O~7+Gto&im4gw)yVV3,C3[DnC|E,qy$NjdpLb*PD.a'yp6I;VN4e)A4ED5:vH9zo58Ki'brZ)YDp^(xmM;HTP!bH
flkIVwt<4N$q2;3k2K=8p*(Kg<[Gv4y&^`}(_YEI,^C,3`%|GB|Ocdj~>a(wImwZ<&B~uqV.ODlJtA/FPAVM;rZ]~#ZReCRFyIsgU3.]O/n(h]9c~T47v]daGsw/MxWTYw}30UtsCA~q`o&s8+FseX
QD+}X$j$>1W:l~tx/N+>F(jgdHg?L>IWvPOk6XzG=OY*rD<__V`cfw3atYKJ,.e{:!y9us*h<p,bJ;xbSos+(,C*OlJZ+4[DoV?AL3M1[,t#U^}6qf?7(pbhEN<w5r^CzrO~88g=sp/,Q4r7l5OeLP
}<*J[t7~V0lavmK[s:mEwDklc_K$QxBLU,m?zagilyTO}+WdQ!pQ_;EkK1e1mHDd/.UK2W:Y;nXe=LAZ]f/ol%[';th+7A1?)&J,]PyhJsMaa$Q{6D`iwc2LS^{Vi`p~)0},bonKTkOG9oGb$Ivzvj
?_o')Jb3<QY/ZKiZ`ct7m5;3^I'kPe>CC(9_.KK7`%;7{,%5T6{<55<NVkw}bS'==cn>eq[aS4RyPy+J#30,kt9S=P]?ZUl|p=VkumUe56)[QBR`bUp4bJ!qG#8A?4TtclK=s+yAlu9bRCv'9;xG>2
;7tcE9g(Y2>NvAK/qmJya|*kMb.515*V}a:=<``nOA!A*/;,ILAIt6LX53KsV{Uib.Bg59$QUpdN{wXdx9*xN,ej7!h7|({N3a_>eR;,QLU+E1oLNM5ukgrXrA#m+:T:U}6}a&2PfTcN{G%i__s6lR
.[$=m&8N#rLrAKnC19Br]U~jX{CI?FgqV~(*3r&5CkApS1+$gq~pJQ~3EqcJ#t^mTNg1sC8Sx'6hp.X2$l1h`/y%8;%dkK+`'Vg#';k=9~RenwpMi}_.w[Es]Ven>IIGtD>]qN'q5darE*W9b+03PG
/?=/o;S.AyKFt[10#l#2=WS(bWFil{7U.2F'65l.M0nxG`usjw64ra=BY%WSYd<}Yxs{YF7m'yUV4'Tvds!?:buQ{)IqGN^R~{?veklLdU3WQ0]?e0ddaV8HA90v)=Py[$F7db$/ppI4Z5Occ2FvJN
|x{XFftKeA1cbvY+HE5X`cN$p<q~,JR&K7vmg9r53MB4%K(NS6R|SZyMl;IEGV;Un]lA=I^EdwRajav9<^MZ':0b2`IWDU<H1~|3f}~~j;M`Ix7N_`VEx<$Mg2dyIau684!/bebted31gdKPx%Fh&q
ti9!{%AF*_ST0rT&M;'LB[e9U)T01zU^O+g>tFta/]|f4Yg?0y0p9&>a|4.1qTj#IVS6YwD4IM'fj{SkIqmoy)j9p.1]L}'E}0J3^U6sWTprDL`zo9b;`l{4n}Wd<abl,&YRWnCg78A+7a[l<sXctR
Pj%*8y}5*V1>evjR]P;^+((>bX4Jm?lbTO29KxGNms:t,*Qb>H%xe0r,(f7G}];bSZ:S*|a~CMA*R*'{QjO~v5<0Q+LsD:z!P(<_&bYQ<M=9g1GN$;H0ivQ]MG#fQAWjQX2zKlyVl+xqa13qkgB#_J
~gQb7,$1Y/sig&p}~3$D}>m%MvIaD>9!J>qH1?d::R7OW_vZd7Zkuw/avcw}t|T;w5g1PRSo*2_'zz)7?jVGnu!<hYv^4by.i`KNQ1cKD,'*n{QkaKG6p=/$x6]hF&,>o_pcphR6J:DmhwU(^>=816
t;S>$S~|.2I<ln,K^y4N,&*;Hj$Y<LB=BCj7E<:Yz^F;_8~*UjeAf=)LY#m7e._,fB>e~_?oy:VNMMqqWi&CDXxt14`fpkE?>LIJL$a*219*U0y<MYY<!v#V>D*(`,:=C*ab>d6=|v#31]&Cc%FiQJ
4[:5pin2/IlfTTwsi#&Ml)%I$hY%4b7]I1Q7rBTq8TXVpq~^eS+p$,rgG{L$JUyWMs/>z^8Dg9(SqM6]i#CGA)2=!SdVnm;$hB7O!(MA(T,G_f=Jt#*U}Q+XcK{x~5Ts8owu1Zf7K&3J5$30:oQ<Un
J`8BmR<M0#kbK^~AXnr8k;j3qE603+P?p)ML,u)}QLiNe1;DZOa(>LU<EA&kMOwDp}x~{b[<p3XtKUp`e|?(?G_mY0aqq{bi(>d[%0Yw}=={%Cd:6!2f~!|DmvXhiro`*V/C9+cI[sJMCcGcSFfU{n
pl)PU3w[|&danIckN&CkHc~twT#[WtwC=*pfs|o&/>gMz/KO,{tup9.L]Yua0n*)iC'?Ihzve[&Y(4^Q/r[`:ZDPI8&ArlofE8^GPP:|e3ZP_t,vL.=s{gF<,Gs6G3I`vccv?K`Q1E#.U$S=_PIU6'
f_WEs22o2!umaaLz[!i)`.U2]N?C5HCU$z{'}CzzDj][|*t#X#9mAq(X,;zy*m:,UKW<Q:F/R)[L,jwqduJ^K9i5/V#m/C:hp%%w%Qlyvcn&5aOAnKWU3MHd;vcmGKmGZDg#EAG^)_D3+))j<Jsn?'
2(f0n_M2O~D^N?AQ>oMr$Y`I%`X_rij9JCKU?#vYeP}6[x|!iGdUT$g&Cbx7Xr(&mB,;S&fW1_T[b}KFuE#Q:jgrPYL%[v'Sk5Y[s^P,4&lPA_^P0E)YIH+TH=Bthj7[#;:Tn8hg+j%b4#4MT_f/5k
ky[M8DW/#&gn+kl~K2IQSd;5DFL`ww6K|T}*z)f)jbABS|In:D,c/EuIEsKl.4q?UsK1Y/wX9FVY[+%5`kbYWN.OdiD&5dz96Ot0(k|P]pLVQJVl$+B6_21cXiIBbH(dr{5N3'%1ME9I.G|uS'=f9T
,YrLqU$i6f/jk'?{q|aOk_rBxuPn^2Jd59S_;b&d0y}>AviFVQ)ILBo`ez#)FIyR7YwJeOv%u%W)#9Q(jG'n:D(2.RcHi$f;`b$oa2uJ9UZ^rf1`G!4ri|ON1g)NnMhV+`Q.ly^E8w>Z{$tQ$>.c)]
9~O6C!L,cT&1N)R:8.T]MZpCtZ84Y4e}LC0ySDC8trp3vQ_:jB~K4[Kg;GJ8OfEG/^`z+1UAnjq(>'^1=TM.N<I,s|w:7G/Pz[yB/?+2AL,No_L86RcPWu?i0,J8HWYhd+>_H).]Bkr.4lZ}/v5<?L
qof7;DWq{1E!Z2F$ws%}z/e#eaRD,DI+8bFwZE8w!iq!]'O+~BK2:~lHS|N#A?P*FSYFh~TJvc+~1/hvPGHo|!5`9'Cd*?B>hAMNqJJq;fSh^UZfJY9IWH!#hOI*&x<t]2d.a}u(]a8{)'G6CGLkwk
A!I~GzqMYb,ZrIG`M>p)Z,il2tO2Fm?CFBu1ulhs>=pP<bKVVJ1%lZ,35l~'y~|WXd3ku={QFHg;t%la?cYq;;72M5_8GaYBvZid$q$=[]CP6yTw^+DeyF,828XV9(E(d6S2x%58{sFVSdE]*`s6AC
*vvR(Q>uc,}&f;E.x4P9hr^fOKq$]VN2uy'g){a}(mh<e>d&cunk6!H`_n{:FRSb(4,^j8~()..&AcYyqW,*Uhy.p$5zn_podzr*36Y#Pqn0M;]ICh~[z0l]Rrh(bq&u;;6]_bx%k(OwFlYD*v_NeN
0M?0EqN3R?<L;'/cN)=7Gw}K}K5BpoH47gQ?Ru=e3`K:oOIp41IF,EI/|e^qc4e]xQEJ%74=0>>H|hHvlAb[Oer,<&nHWTx%5;1pVHjv4kzy%1><rwdwP({h3eH*+0&u)+}2z>+N/RA>t.$*A0/q3f
KueU,eHSNhoZZdD`S{ZWS?2~cPjXzTogI%I>O&d+a+{[Ug%_0>P%}/TiM/{Rd(4<IY=}Vn45($X)f~eZe>TZq09/Gzz%W|^qT3&O'ZXzx`iI>`fXrjQ7HuEsTZy,U|+#Oe0(!K2xkT1'*7u}uMbPxX
wz1(7*As7spM?c1/%FAkSMET0XPe6L$7Un#_t:fmR[lHT`;9V4$[20d9eI&!=y0f%X]H=K28vV^noDtNVYz[[Dq2H>!<Sn!/t[3eW?Rq4/wM8SHW1#<i5uFvDr[$JUh{Kkd/r(bBYxJgbPH#AbsNRL
'b}PO%WZrS9?p$AsQ&$ELy0Fj$[Z_#8NX}4c%Y)Vbf~]IwB_hn_%]U05$,0Wt,5V;[%QPjsxe!p?qy)6`EwA]Nz(HJL/[8lGEP41/R:0=G).23|5]Ei(%6rJ7*gh)7Nc%1`x!mwI7x{i;*e.]l:}1N
/E[?U7Iif'clm[VDi)c=ozR>GJiMy=]h_h?l%}`9gKZ<=w}~.%~aSklQN,B&WGE]!Y=5'8*hoFcM&g7cQyOK(+=Dp#NAH&#];HB~C)dy$zZeGD6&N)o1XUD/|C:SkF3hLnc/N5>dYB%/.Tb{HM*UC$
TGReQ&oiam#TxFv~ia>R%6bu)c;fu?~^uqES3om$PV36>GvG}m|i~bbPJrl7t1~$q1zaubHH]Ozk,EwzKmg^a|ac]]#)A8v%QHWrn)T5dqT0iNnih}h^/v>SjgUWA!;C;]W>`{f];Om91'GX0=nRXB
Qke70E.93j1'zh'jjETU42A2hTY=OknIrJ2$#TAA+XX{]jnAZk0<&.kVV61w4~FQS41/6F?fE%.xs!&Gf_.9jRkotCL5`[A4[FvD20gusVL_Ci.0ra4D2'I?c=:weZQBCswWwlhi#|E$OU'~gP5sG;
%L]FT;jOMZDC>}}b>UN{CN3|87yq0=TC<4d7oQCEu)9TGY?;XK`{BYmd}ITVgAJNI`T9SvN2gif:kT^G,~*J#0pX`;8`uP5pYDT,{j%BKr}=^xsxErmm/*8!eljh>'|YxC*9oQC$re))_#6!a4gwj5
xIB[NGZ$Fa;(#.1N(j%?)b2~6W)0mgUj&krYgAw[sO`BmlidJ!IL_dqQdHymKM&^t1E&Sn>+.Gr/nO*o%$Aho+P(Ip3dZf'o>DY{=0~0KO`5B?zu}8cNOoLH+?(q?t{$SO]B_[8F]PLnE322%oc4Lu
Ww<|3K=D}~tbUC6$)6}L*:1kkHMHB8SmG!5z,7`#}T4c8=!`:Iq_t_(/xP#>bt!ak}NOGBiq`9Sg)AGM+Nyf9o/Ye5Im$6J%FF7;B[5g|8Tf.|,xNlK_V(kgCGg4cmuvB_g03VjTi/rdI'k0_D7ygS
_Dqs,^7RlHT*9pU1~uTSq=6U05pC09*:qhYuIrIr'ciszOnV=;!UGF=BayPLNGdSsi/z]<2!EvSv6H0z`7!O/TK%DCD`qO7%n;V}P4o[+N<5X/$%LNih|OY5VzQb?VE{jxf)ZNI0~w:v1KI%R_`A#a
(Vs=J|j=Z$_>Sm'kx~e4Fmpi~}e)J'qy_}#8$;b{,>i</pZYoNJ=h{<=o|MqRQ/Ro&ukh[ZxM~kU>l=QREcrN~5<x,f+v*+|5s&0KJK}1cb${3Xd[[(DB=cf>Mi*#f&'$5$Ar}r~8I^{;^dfu!65ZL
u0tK3J(=LPhe&?4QkvwJ,XAtcWU;Rc!xt&]Z)>8r|&m:A`^W%SR;u$PWd492G*CAhKS{jMm'O'MUM>%,P!dJ|OtN*MJUMCs}S&!N4+J5|T=dP.2g#rfW2!AH{+qT(6OccLI(qHRLFN1]>H|n$e#>;y
Y!F4E,(0fIl=,~l$rgvcg$'SY)<;2wPUA_G23lB<fwbGHr`4bG/HDxk<'i*/ll<93IfJ=h_Hg^:cG%R!1qm#R~Q|xeM<?5RU}U;*nC|ZN}mziuS,xm>}Uin$z`oxrMz+J{~=b9qM8I%8*'_aHfBFGP
Gl;HM$ZFYD(t![+$#;LL%W.q..f]+?'_wl:88**hat#0tCe:~piQj`qxqnI}/H{q?<)bSSQ&6{lxg6vDzJdPu%+h5wKI3Z1kks`Horg.+2{!+T?B#!Zq!<~hVUc)HXq?>IQqK(pFjB%Mh~;B*nzyMP
!vQy>Sbg{#1Ro;}=7QPY!P3aOW#U~?yuJZV$gRTQES}(kgNYNVeC12hu3};Zks=VVi%wA`ea'z|Db?1k<[y/}Ow||HBW`[I;G$=vPxKQFmh>yfLig+S9C:`^G;PK+g|TWlhh{BKYDnrlzK{K(s((:m
b`}joarW`?HU=%3X$Sh<i:510`F5VBKH~$;d.C2s&XJ]kkmeeeV`Lxsv5<ImBsy<%S98Pi5vOtLC+GNw5=/i#T}!&S|)bsv~EsBxg3d<[clXqM;<;5z1~o310OHKf;EU>QJ_d)o1t<OQ,;?>g6(,`;
N**t^G0#3V*whMX'DUl%_i0~krpwXE|3$!'B?>*DF0K'9YzjF|}ZYRJhp~U.xvd=rTvXO&[1;o+3C6+FelftIDK}scW?$>E~3WJF+58MW}}YRhhSA0qX`OfL)!!$`S;NM7FRPQuY(gVXVp&/G^q935
[?[kIYXiB?FEGLlk?v(.b0]eu|B29ir~d1=w<_#H#~mk2q`VHL2:X1XSf{>FzqQJTD^v8dr31Wq8,1$J1/FDzVNv{eP]8S<B4H.)bLGNRYi#'!.5>1h~vFN:0UsqL('>p|Ls(GFhvD_Ct5tdK4gdpw
[[OFytgpm*|m%c$Q+1x/^X:Du]I^d!CZZxMah=i9gz$G<tIpFG4;Irx)cbH!KEAM|'Uh]>TS5?q~`*,0+p$L[;TBQ]sH(RG;T=EKyb$9W4Ksn>MP8nLk_=`HIGx1x0=LR3Q}U#$5$`c.~X!JlN~b|`
5/Jg]6*^.joe$q:vkpt_B0HC0h%I:%u$R!>*u_87&ET*X5Cc{[da3`OvpN|Vj71J$ha%ng`BNJPExJK8|b!M]KAuTfFS$oDDr?CS(m7CDUs'D*Q0E,Gvu5M$bCEiHf7rsr%fk{BUXhL=f&BJ_xed?^
+meuU<,HGLDDv96jll&0w)!~rpvit1Eo+R_Z'6?'k[caTxb2%xfaK|tDkZd9?[XmXa~A%XTY4oYYib+l]JKG:D<g~<:sBXU'i16K,Q7zRCxXV1!dNb|}Fg93kKGn/Jh&`[i[YObjB[:'{j:>4hYe9O
z_3MOiW+xlFl5GbA)(;<Ta|rO+Cx+b}{P'a~:G=O7/J/v1)Ro05!n:jh47K+M+2^MMRng;iAkZLIrK+BENdl%T2$8h1qj[U|oAqMCb}wn*16j`%|%X.(srB?QI[mE/!855BKU|;`4%`[CH8+txr,NN
'.YJjE_|xtz`xZcfKHJCwbD<:eByPJrgV+X:;nrk~f}t}{Ef_:Otv~/K$Y|nVg|R?'$4y7I%o]g?sC#adS5tT,.}ZNvE7)_C#18>Y7:[!>>$eN=9<]zUK~6[kE<j_{,D#0KPI=MMj(.8vk~Z;FzlAX
STE.oO^NG#]{/8%~H:Pn1_{_))*BHkZ<44irSl;H+[OEZEwpD5;1Zq$q/9W`ydv]ZjFd%f{Kum8~'a*um^2Dh0'RoNsiIWZ09C)D&.1V%}6fWs/iYWR4pp>tV2k{HD|L`o,&LM*G3!}2;Z%kY3qvLD
Y*h+<;IXXx&7Oxaxz2SC!^[$%.>XVHyKR$[}]s)h'lp!gK#XMKH*p9f%&t0^_0qs[255V&F6WLEC;ndmNsN&P4mF+HgSYX>Fo5JK%!euB!>{4Euf%1TrTUe{o0giAPfq+Og1T}8Fa1V+qte82!#o8Y
;uk8$miE^E|bIO/f%kYe=q'*XxTk+:B*B;R[CGO80ewy?KkF,SgzAY}|!Zt,8saYW7PgOCNB*E[0qMPPQ)`3Xl;UM4b/%X_Dl?:RSv#Rsiccw5!br!Oq?&<tU{M9d7!=jKX:4HAb7fX)]!OG>&QP]q
}&_|wV$RG>{0lo3Ew;YCp~?qDi+~xw#4VJ:Htx.rFNOD5mVi3<bM6WUPW0qu)i~GHL|(]}xP_[$$I$2JSvuja%XR`=>p;u:WR6$W1s[>n+NFUF6o;P[tIyK;lwmv|/<5/7YU>'tk[ajaX92EC]tE%m
?X'R;X|e<p`X!#XwnU;TXm/oF:ds%dR<8||CSVRC]9TZBgn*&/n3_)t1&UL>QHhi3:&8PbbT<Q;+tW}VwrSmld~;qP[B9}YlG04Hs_*]YtFFQV$ZXEJH81watT{*I<nS=zs_nukHOA3b#KWkp6ITfP
ls,Ayh}T>F3p~~:l`_.v9Y!TlB9/EKSjE#Go:<e]25saNU_?^)rQGAmhKu}3c~s](9)wf{~H|b0B}&J,h_X9R%(EUo:BN^mUC{E#5F{$EX4+n4lmV!';=dk;_]&(YD%&>g(lfsH/DsO9ZHEOuSR&%G
)g+~TAc4kh$nE0,T){|5Yj*QP5[q<jwtP?p]r8EzL8nImRn];x(Qf~Nh=C<yV(MuJtOVm7B#Eq$E<4<C6^#PQWFjFI`L)s6)^dFKlOkD5%N>^2z}hsD<rbW<:H~11M53gfs[G$a:A6=kt4p/VddX&v
)LcHi}*YUBiKe_I4[.hM%}G:02/6`4ACCPp_}|LXR}Ifc}?ch}O%8Wv3A67rS^_$dSWjpN'38W=oEBz[e#_($6(#K)EJR'YU=PX;Cj23x:<mN7I1'D0[*;!AyY/Lcmn^ys8!c4rphGBYF%!_=?,Vy`
iDSZ)=ai[{}.y`y/5N*itZAMVR?/e!D[j6973ZW'%R[ii>tA]eSq3{{UU|Lqf(/{=<i,NO/Q}LV'V[gS<>orC_G$D%4(q,v^hMQ=#k;h,Kp[mj[JiQ)|y:Fi*!w}0fW]s9WmWoGgCq^z0vyd$0~nCd
.m0ZKfQ^$PXRT&*tdQ/OO|<>v&F+:34:/EKXXcSgw(24cL}%7h3#X}6usxK!m1=/[k7h;[3r}SJf7g8DP;6aQO*rcv_98dc'%NC5XfY8u^vm[X|Hheq$zH5=B,FwyW!'N,5stqz[HV3hRPWpuVuR[?
8uTamI,##}{V)}Kj3kFeCc^5+_CW4Es7/StRY_y;S,Be++jgsnZC/M){w]J4dYE2MAHKw%pq$W>#U:ulp~T&F:=Ih_U?8Yf<FdQ1c=%q|omY01~BB7FMN&{3i+;ydZk#GCoQRXkf9E<Hz&AH9%067y
C)aR{k>It>3ofM9Ir<C]8^0fd78LifsP_lgQUN(=YD`Z^M~7U+GwbF_F}K,g:QL<qeNf'Ptp'q.RG{ks`Y(zH/P/t44sjn6^,F2.:x1I$mI}_O89fNGu'W1OyA`At,=;Dh_5*`+6z/3U7q`S$+ST9G
C?mz}mQ}a83gu9=8*T(wttyU>c*QC(n0|a(kj6b~:&FHgi'n&%{M9f<,QyT`am|SrR{vuah_$~F9ydDkL791)q(lnEb.39I)qdB9ipYa=(R8A`zo2qJ.IpcVEMd&mQT,3Lf'yn<w).B85Fg]U$N8^U
u8jh(^iq$z9,,ZR4l<jozbpu9f!K0mpKx$xXPJ*nNqw:^~T#(OlMF#s=4CbLLL=>G&^]2lL&donD+DF}Rz7)^EVT2R;0GN|{'KA~JRhX$8b_+9Lp:.7QCrz3|xQ/fo;o9U8}*s6wwTQ1n8nyWx{I/Q
(cyK::WiyGB9Gwb[%O&<;oR3eT6BjJLCsj{.a]A;OjF6Ct>>Z3,Noxui_7LmipDoCg!H5[DG)_QnA|W`#Poo$bZ%JNXCHO[4ro&wQ9yv9~rY8g[h+84{=>>nfVTdSWLz8Ns0>#YyKiL`lS6coM6d&U
=iB}O$)&c'}a16TU0/VHlP_kzH7!OpE)HD]saF9}qP4};c2a:4iJH$AkKfhV|0U>vI0+8#>dHa[wDnSsW{=BH]6:#t?BVUW}a05EFs8Usi;<fH~M{`Kyser8:{r|tA[foM<P5qLpfye'}Mv4CA)Q!N
b6;5WGmj1pk7://5=Pa6e.6`e+ME]$E0?|[~EvG,N_Q:4fT5[M2_caNmI95VLGrF.oUp(ZuL}enAI}cNS:fzO>#C3v~d%,.t[4Viq#:Bf]{f2`iMjhve<QFjOJFYd4hB|8.T:[,A37b*JJ2Gml*kfH
G&26G7l=hK;JaROA{`eOR{fFL&<JlT]auXx24RDG>;W,^bo{XWmzPv8#&dy'Lv%2fD/zq_/Cs.NP&>/sZC]a~|(|p[SG?GHO3rJHyWE/`lWC3TwQi,,<qp|m%fC:*x$j$B[*I`J+!_Gv,!Yk#,iJha
/8_|~5_%9XhSrDV^gl1[P`ZR,$gooRJV9EP[rkbsQulK*_}nabEa.1pZ++C!t=CB{bl5n!<30y6#zR!T60.gm*j(P=V(JL<*h:B&UX:!>m2O?|T`L'ajuV})VM_0(L.N}rF]!k_)N<(|'n{Z:s;GH%
M.n+G7Fjq8>,TL<'qzSAUPA<EQ_nA1%~OpNsS#yTE'+z'!<iHz=06^K*(EAaZNyxui/`}`[{qS,afL[u$FEOO?SUoy#af]O99~j%wJ='3X9{%?*(xdk5+;O5~,9!Z,A4`UQp`>tP(Lf6PZblIF&4jj
DXw/]O>$shuxf#Vnq%b7rV32BXAV%G4ilu)`Jw]MISD33)t3xL38[]E766aQt(nL?gF}5Y[t7E7~%>1cV4+JK.}>pz5<C&Yb:%b(8lAS'qywR{)$>&P}=Lx{m(cfDW(pnTFaR+=r~awpsJ#93~}~Bu
9`Sbo$L_!(kS&mvz^T!J*{)I2<>K5;ONxKB4QOmBBuP2_bE.J{:{WPZQ5{j}jC<;[9XI%0mcKGf^=3*Mb:rcNtKMh&<371p4TXN<JkvCG+R=/G:C:4`MM'>%(,dMG!XG:Uagz20Om1^;~uj138Ed`e
'coY&Ss`<BLu6(;J4Y'pB_rP/*;pq_+%7c&%=G{G_F#$HTQALE1Nu*my0};B)ZqH>L>F+UNo0_s_.:MW/]t9>!f3p{$DN72s|:5LA+^7{J*7VwO{;#xqwj.3aHG:]MpW/ty=VFEUzLGYa8[KLECdYt
Jsao|N{caa{H8g$SE6YS)j2:SdHHz+0Um}R0)o)!>_w[2In%JM**uQ?=r~f<ZLbV~rzAW48RJ3dtmE1ZHn.Ek<SBEW8iQ2n(,5&7Wp/a4Xs>obcD|6ZWg%.8J;vfINYGBJj]MU.%>kSI7._H`Y8Hqr
~~]R[d|Pr|(t62cgRv)_nRp;/VUtei3Qv2a(0;N5/Gi97.=^Cw,,qeUzn1Ev.>1r[2v;~>/~#ZBcxj%y|r08+Ijx#2Q*6r;V2WdN)U9>fH]4jIDkl#?NNukwP|zFBb)8}R?OczzsY>5KTNlGwYQd;g
thB6KSp>&:K>,x9?Ya}9jox'X*zLiEn/I{5FCVj{5fF|BFR4batiuHCzi?;Bwwq,{celd>Q:Ks7[We|2[uM}u:$DP#|`,[ddAk_U.zNM[XN2aGVJK_;th;<q|ROwh3hjI[O%3+K~_hqPM?7L35kDF!
+viD]q(~D1|WYWdZS}[G{6^}XX<Y{Fj%RsCpG6>p~_K*dtn)[**&mgF+q5%W*[?>{10V_zb{`9qiVWkt84OWBfs(Ng)>6nwO9RHi(6%k;|azAFtR,_/J_#pf_!p%^CT5_F'1~ePuoE<vL7KU5S_8rU
Lg2YWuvJ^}//U6xBOwVg^'Xe%vA7#Y&M/qNsH^PZJH{saK3ohd,M<)jB&s_ZjMr!r8j0RZfxQWiG[J}oNXwzFo9P/t;IZPQTqE;tI:<Z_QQ>dZ4:D%$6#+0DSD/.)'#u]o|P(ElEK0jJddy6;V;F5^
CzzH`!_Y.^Ifjs^;b&z(`Xc{l17BlekPZ)Xs~uEv&>7icjY))c/s7,5BK)>NjQ#;y5ctiY.c^KL]xvb`J7r4)fEEf(u}^v2[6;Fux^$Xw{{TpIU~Li0;oJ_>v#mFWUl,2~oU$P]9y~]D/sy4I^DJfc
e**0~|eg3~.KE~u3erlcHxocmWvz}z3QkBT;OG,d~UGCw}kK{v8fG,C=gh60]&9)D)Sp$?L5P'PKMf$iM'b=7{{8kkEDLwz~NYD8ebtS=4?[?.WyrHD10][5*e'V$p{AArqhyT_M.7JR>Gw$qld+uO
ku^/=>gLj_1OGbmP)^7+5=TP.!F[|LvpO|X[g3<<jC+,&G6[V]!INC+(6q<Z*kK]Ct$tn}/+uHPM#t20F6X&Zz?BEQkQ74XKi!Zb5cyvuCKEr>]|n~$iX1uLl2k.WkY1t!?T6zPveqsK.WMSVb.j(r
Cd?VSU+VPK>ep+race+8`5LgR?>P{cn)FjGabhPS`i9[tTHkmal5>u.3Pi?N`LK'|ix)K'E1dy|gKV5cVyNj,b/455$dj<6_+W[t/.zNhtmz5VYL$HH=Y{4}hH2CC&f`&^t[hC[.n:wuY5~NLE'{vq
Yw5]6N1C0l9+dr<o'B6:{#&99OK2aRjrQ{!=epuE{Vv'HBblEY^17#Wc8N3qX~`8%]r&]Y!uE*%nTeM,q)#TE7]D*<yRoHn=#MIw#ho_q7e`X{c'TNVVp~]0W:'*1L%;`V~Jk2Y5scsNpwf*+J(R|D
us:V)F;^]PW^0+R469aWCo:zN.3^UGpBuT{WxULRvL}bqA<3P6Z+$+J2kkduy=5)tVL,rgHU+D:^G+;igDI&s&lMFtEm269yuD&0%o51|JVpKRFD{[YDXC4MA/S;ORu^Ny{~P<jh)~r8fc!xvKc}E'
WB&tT{2#+UzlA9MUl9cXTebZu$qzCk(a:fXPA$<>c=^~O#EGco+S8h:GLnc#8=r$|1425TdP6B~Sm9jttM!Xu]}nl`N'~H8>cCwaR?P`l]'{.`LtdwS,>I,&w#5_=6Q7%iA'!]2R*GF9,EoB&kT2k#
']oGPlQtT~45T2dQ.2xyM1ZX0rc)|IQhGmnz2gksPz,~mSNUUz,FH,ypHJo'!a=k+BZ9uHvc7#w(gR9SWYkJhP:u8!t5O~Cp4~&{$><%3#/V+<$*bu0Ta+TdRL*dOC8YBW<eLb_#+Fa_OnvFC8CfHi
]`WX!G,nt)s4u;&FGZ)f~Ju#eI<1dwu[duc8ZiWO2AoRa64La)qZ;Gov57EoY'_K*q{tm9/bg/_^;]P2o`riITTgCF|xg`HO3N>#z[t=`[~,!A~QN.;Ejz[e*rdy.fU<{&|FQs7':#v#P1I5M2uBSS
IonNs,F;]]v(5M,G>U%9J98ahOe|P5rlWL3t|3+48NPlS~LrI{GbjlQ]S.~Qf4^~c2o<Q;Sxs/#>8%WFKo[4D3aa~?}GNmf:yVkdB)9N'/p#Hp`1=[R{,L?2;6[3`,,VtFY*29fQEL{4`0;rhW][4h
BhBFjr/UEK!A+1vzNB2%4CL=}?r%#C1{pzTUWLN]y'cD4NY<9;r%tDnHrn|[a#%)~Ua$+i~;*A70;d'B3#DGhdQ!<IZ}W3M5{?8^sEYbUMa^~3H4UX.UuBp|AJg}}s0|//r07*x($&M=c`KYhn<4=n
ad3L>&bAkw5?0Wm|:NnAkd+ODh`a70J<~'Z]w6'>ecMf&CaRi|VX>_zwFKwBJj(f<!C#!yPb1b84Z0T7$Hz[h%Ccmb)p?P3sgU+_|{]T~S>iqmF(P,/Y!h&<iiqx/+8+nWtgD),'N^Ni4r[fre;g|r
7UD?IG^[{<D>t<tx{J`+#Lg_0EiE=Bk/cU8w`[s4]EMV)_fqiX=]!C<I^__9#]wF'aC[9<561J|*9!zXFRit1pIJba)ZqBM!FJDs$m:a,,+[az5B[C%DbRAnT_SFY_;;dxWc8cFsHY*W'O1mYYjx`+
o+c>6z5?O?t2UlbC35c&p/,ctMdK2ud>5gZu?%GFX*)QW5Wc.9wh1Gu/R{5%<U{#J|`'Bgo^J!,Z?+1a)gq)Hs>5G.tu:>E*I7r&c*T33uV`5LznW9AmuwPBK)9>%}.gGID^;lW[TRFHy^O~oTy/:8
8BJVto^~zE<lYk2Vaib!24%2L0/'j_Z&%$O~~v!'6^%6HGmBC|t}#g+j{)1FLqv2mU%m;JCGU{WX2v%4t36VX&xf,P8f}~um&0BU0NHS'Ou7.bVp8K#5FRibmQ.B5,T(8vb,Q{OYW7%q!w[xr#L'VT
oZlN0DN'8$(7T4!6i0($]K?pN:>dBh43bE<bYX?Q#gfM+eF6(U_8ui?eN8Q9#2M%fic^sz1KdefS_gccYG9<$/keNJp++db/dD:rc112J0nvY}t_559CUQa`AcjKJsVBQY*Vi?neJ^ho04$SB<%DC,
~}*A2s%M915zH%k4+/noLSY1}&wXF'O,p%Gy+o%JS]=:%K*qI&<,&T[Mo_z$l#%.R#'F<2QS^q/Pz}9HNSH,N#qdg7p['E]a5j'#3)q4/U=Pjz!i^r_*+1VZHdt#6[`!>sA_'y|js.Nf^HF(mBW1+b
tFO%'y`V0>ed|.`a2.}c0ke|)I0_g4sQqhk:nwe(m&#Xk62Q[HQqQ#F>TEt&A6|Q$mlA#^,CaTurCf>h;GA:fq;?L3^EPq9r|#rv?+I9Zx9}y9VnS17`iCewGtC#bxj$ROvh{.*jF/16i),5OK?[xp
)A_3n9]nJ=q{PQ_&=VvaB1:LYbC6NkxO|K=$KBu1&_UGmqs^deE!mb3?YlNeq{PmJdq<^}O*+b3cRHIdE!eRBvi?h`kg7?>7[#jHQ?|E3LW3aqUCo`c#oc9~5!Y5=oAx<F##:,_2v7,q,lb$FMLp7P
/,w%hqOTghP>AM~'9QWs_],<h9f)RYjS78w,wrm<O|?]4G$~vb0FIUeJgj]!6jLz)]Mb}*SMEPzfyTe)*n~grqlXJ~!H[1NC(%J3N+eEM:NYX^crH$QW0~u2t9dz+NiFwvrsUYP8}on~D[VFKl[Gas
)2{='|YN_1U~]LWZ3hUAW0`1!LwTu02:4Zw[svi;?%kK:'J5/NnhQbkMMr37M#)gTgGDtQ(V.o):a[r(ru%]QUFSCV5J9}SI>:H;aViGg4gOrZdY`CAT:>m0$}O.v)j?g=yU,.*vrA6ci%ww;A$m+'
(Vl%d#}2L#yY.}VvKaTzR^&ys>KUJ(iV=eN,mS?)~Q{tgi'9}]o/>c5j>/N`%#N.WpFEBWLPaIS121Wp|q,aZiSR%6B0l9Xh$Q,JG|QY^+<&saQ?8wEG/uRP>OlSafL>VT[;^UHaTns_MXPPwT0j4o
1|s?Y0GWd(RnPX8SM8[TaWZbkP|zYo!rImAiVp{g2,KPdYHQ/^zjJc6?aI(DG!MJC.=CfkYQ$nBh&NsHyM9o)/3x/cu62qK`7IY7HM~T?'29]`T='#k|b]CH+7TQHpDKHJV,uim4uZwIRaSK1&wGi!
cuorK2E6DzR.KGu|LfdY{&UqI$ZbFFG0Z?5.Kz!$DBe>&Di4)<Q+WNPP70|}3+dCE1F8(NY/0pW=/;d`Ak*.#jMVp#of|DH^3N|~yL^cmA#4/6Rt~mHoTyTo$yDn;GzU~!'W~!rS:,xk?K7PL}3QVs
'e>o8uv=r0MW?aq0BpPid=5Nhgv/(l9#BZV30^`7`V4`Ey%:87ZoqjHBsGg2{ei?k1l'U/b>k6dpt9/Gj/xK#vKCw^n=VX&*68*8:$BZeZJBp,jdR>.iNS3CD>)qT+uX0L[^MS4]`ISMl!tW91[~]a
Fg%*jbK}4][T>/kz.*3=4MUOQnK{r6u'Jr0bH83)n1>XAZ7b2%xTnYzHTB}qEF#&)e[vH_V1*0}L<<8H`)k#IY^O$;c}FAO]`[5Tb`r;^('3{f[#kEi]G8N}Ok=CnPV/zT=/;#*_Nns<C;7bJ2U=.)
[qzyZ+?*+=9bTqb=.r{p.RnaEa|~'Gy:3K.EQkH}sTRO(9!B4{2mJ2mgRWF|pcvDndSWw6]eH64/HL:qawwC]3G1QgC^!'&dLU?*5w}PD?Saj4`JV<em3'qrT%q6edzr'hWx3q&ltBScoO.i'=?|v<
Lh%gtn^af^>[IPoq[dq49=&*)>Z]Ju#8W875XLA6?FF==[i**7YclW'_8gU*8UVE6`8[W{|^:EvYI(Msy8f?=;u>5}&iZeGS&YMdS*!9vi9<y4h0fp943nHJ6Uv,G}.`LXD:=#4+t'?f<FH/GjC8T<
:'kx{kCF{n_w~eb{<w_E4i62[`Vw<5FoLtbm[dDDj+;8daJ(PuE4dxgtXqFo<jcPUl4910vBd?7NMue6Bu|:YR2rQeEeT]U11>Al/5bVbQ'#$|GBJ*Ag2Oq:Cv.b,DWh]i#|6pJ1x*i8blhYC#=A?V
yxwFczaG_fy;b{V[&#WY/|=V{?,sU{25rTwyv|_xY(q2>/di2#!P&Pczsp!pfc17WJ>$$LbKi<r}X/Xc;`/|FS8lrxys6Q~xVN%x%ohbpHJG&}/>u%Avec'T*;&6,aQ6i<DGSBW!0eX{7I+,B~HQ[1
7u24$FBA:9MoQ`aqWaBv$f8jRq9.}biE#U[hVr&h1Ul7AeVxA83J[>AN54&`%x(f`<+qToe3lLK!IUjKJ5fF<[qj=OoR)1Z(H{Lnc9J8~hTJZl4V]Ag`]($>GFl3=zh)!gTJ!}?aXNfoq>=IlJ|/U.
[(39Xn&Ex<Xu&7^aF`!6W1iY/)ML}P9a^m$wz8cY9K)ATp:%D1S>:<{OGVO+v*fXt%Q[kpPNZuCc?lZ)zxw[>>KqmrwMpMpssTCT_x6F{W>#m4/<b=,u1+QG{XCqmF#g2<^Slb0dah4l}kunFy;F|_
H*F9/Kh+TDHLK(v0zc0>L]`U?t(=R)|8{q_=6tA{!:_|V#!aB24hviAfz%W)H65GpD<Ba=JL$Qc+RO%#HuZ#`Z}}1__mQ733Nna<NNz+.<B+Lw.ys>,G?)fY/NT;mp_%Y*aG1PZTfSdYIq+/wW.0QS
r_O/&1K^2QrpAtJ}+x/o,.e=cWAUeWiW%%d6iJND[|m}?=73l^oUy#(2CLh705Ke$FJob=Des):PBQ(Q<V2C,|U7(/'Ae$t|N+1Jz<{LRCSgL(0MKt3Y]>|q]A|!ehR3~=0c*|nevkFgcfYoqrr6zW
)aovFdWyuq`J7:!!ekP0HL/8`V*Vr|pgpTl.)<4$3c!B^_4YtbU{:3[eA(JjNIX9d6gW0wHiHrG:<J}e0k?9L;UbIm$=I;=A$[G9:/.z.<Fv|jJ_:fSE^qnvsGIF=/Tlomb(peDPkJRoMeTO9gb$tH
5]%~ji~Luj/1*>w_RR8E<nCRP'>WX$((;1%p;74!*~ug}gE~;)tgatW5#Aq8x&;r72IuKUD7(iHSHHO=kMxDwvE8MMnA2G?.0R.SsLt>TnP~3JK)/qv3x3UqDz^$W=I5&cQI#?.bN_OCcU,yB%<8Z%
1o]9H|RXx0E5l)PG9]lz<+p5C<d9{czXP=2uEeiVoeFe^cm8Fht3S$Nl6h[_^+GekB1g]L[aq>~Z}>HRdzk{PRUQR>?<gw!gNu8gtGln2mPIKY[+z,`Fi?C]SI|,QL;.(b(/$w4HtzU1KoiIn,7o0N
`Wf&6JC2;+UeE`/|B2PG~s`9h4P$S{mkDBL=JpNIADpig+{%F+Hs{'2p9(o*dZV/BhO9/E#>Ub1eOgC=1ygOs9u96RqOL;XOq,(hFcT{Fw+F'4^uUN0|q%U6L}Zk7zImHnn|eoEF6Zp]/[1|B=Fo3O
Nq:C'9H5XLKf=z7&;_3{13y2~7I%?jhj[!Is<$*;xrv/fnc+;qv>Bk,6fp?Wo)cl<:~YFRyU'(05zOq1mFLsQpF4Tp+pSx2C#aEnSX|CM{Y'E}g>G>6}fA<$B~sF{tT7_b6jAS&}g0iUVoNR:9F#w3
nj}ofz(9YIo=X.)NLk]^F1Qf=/z<[iw2YbO>Jl=(pA3K+bUTNax^Cc,O9EW;jalp[?P3'~TnOc~;I3qH&Yn0/R<qI>)sv3SsiZ3sVYJSwYMh5p$&.?$_#1TqoQ?fA}aULL83`z+OM;U~IVw,*Ost=/
wRqARM7j=bGJIou<%RyIJ&L<MM1O{NzOM.<(Q0Fn.&z%K4[?K~p<UBZ|tjc}b4Q8U(LoKT0aB'C4%^A1>#PoQty:(aN6q1[/s:v5ya5Wgda,dU#Q$,5DM{%>fMIfh<`po9=u?ouq6DeKMM$Uz$zf[R
B*d],Yw,Zx]W[&s{e$NbK}gp|HL!Je43N0v6h7bgdN)}2pN)WT(6xQH]e<:E]ZJWa|/}h}WucW}&kAHiPa7Az?QP0B}u`x&BYWJw(5wnrqUCZ.FrMpxnPsC+];/9d9{U6#i!Uqct_526gZT`f8M!'%
!}9=$$s&)'a^`BIv8SosFia;2%~jCasc0`m7sluP]TAAMcsV7LCnnub,g55*v1'H}zS2W52G)j%ZoC^HjHhe]~c+5hyom4~RX:z>*Xx`_l0H}$^rU15ncE|8iO_[E3C&!b<NfmuFuu[d'C,Nb*#~,R
`>uVn0]9C8~VQbuFr#vL3YfacJ(zd,fnwu[OBCYH|Cpi+9M6%HZ{vX{YMDPw4sHH)FA_hwN!1>oJXtoUPci>l%P#i%&McKU0t7R>U2y;:1I1Y>2dI#5JU9P9%|N`TfQ9Jp2mEC%1.KhpjTb9Z(b'yR
?'$Tm~Z9+imH7Tl{BJvIz}JOmlKP{Oli`yK:JGF>v`xwsreDEm7O6y^H6mft<'of,FqT=!_c*+|F8XvQG2yJqmLUdiSzD,=N>d7[[Lt>=P>ZBL.ZuqZC922Tf``bCZ|P06KZd%&<VtxL(i/$2.{]!z
<1^VPCEpdYVHF+`5B6KIw6jl~P2sHtH}N~lK~D?,a*T<,y=tIj|!+SPHO8&w;Ii[)ok!34=akrF'kt%_9VVVFw[t$2BFJH[ve0eClR!Kb9LDV)>jOBQjp+EDx(|e?4O,{,mwHyz#:s`gSFMo`cvA.y
Mho1*GmQk'Roh'=7*]41[|cj!fR!*#sIM<ks>IC'M.<?.0j.`8{A35u2cF)3D>Y}:_pe)+NhQR0SOQL)1!?FT$q<0$c]?2fi88$r}`.;#~wRg{<qF2a?#mKG$y*O,OL:idPfm|ZT19rT8Ty<w/4T3y
&[wAY36tv//4_`&aQX_5UW<m_n5.TJ]+,ROa?*dZuaV&*f^Jj.k1ComoU>U$z_!D;pE_UqpRCl.$=)eL;]|mj2Zw9G^FkQ>mdLj*[s9>xmYF'[~;9ExfQ!igt[Wd$php6C%F^syz8%YS2rjy$HV=1:
Y3pel+#~M`>rmj%=t;$yW|,(KvC!Z:}X,qqw%xR}vJb>[R`boX)=_;+>W)k1up(YjBoJm:WtllD>pueBS7pc<;4OU3g{9q=X((0'.S2}coGkfO^{&L<JwPbL<MXd_(p}[DfGke`;<0B7NR9~81PEq.
Lc4^(<2u/H|+03W>q|9ad{HU6lM66;{;OP|;R>G0V%9Y4ty7qR]:}c9T%:X9eI_+_<W%fV]c0K%Ct=Ba%^tx(XQO*v}h=bCu&KE%H*h`1=K10s~zu)}WpNQ2jq<q5~A,3%5X3fqb;/X/<w9#</N#'X
#q93I_?tgt&CR*iUX[)l.8S8IICa2o2CQ$ZnJIUHY,TtQcg[<?xKy=6gHO0s;nIq4}i,MK|uG>%qzh5KNCZnS3|6?QY2=GY%~smqgWFT*o(oLqB~#CLi{sne:sxc5Gvr8<anI^akryL4:Ls:yi/<7M
N7?mBEW&Ypu(bN~KJsgVbQS'AMa[u%k|;I{U^Fd73lL7Txise^x92:}uQJ5BX^o,57V(S>a?2{Vnf;z[09A]D_vjVRzDMtNw_.1;Dq7vB#(O~DlQg7)SGj+h~B~pj]/OUTq+.Z=PsO4CyQ>:'?;EtP
?|i>G9Lhf4j5bSs8M,?(#hRE}hrbEaqgu<`kn9qcX6u^{iji.uC{90:xFp3,CXP^{+7fMY25tkJljosu^R:u*I$*!?'cI4u7:*~C(O927Q={W>u4[0RJ/FIF.R2dsd|qiQWo`BWlI0)wDZx[J<6;s$
e#TH/!rm{h_9n+<Hq10pWCL3[Yt1D);FYx%`16NGvT}|Ywd|1m7T&BFx9?L5x)SzxP[e'Q}4kbkPS9>_H(&+D,h]~Tktz82&3SeS!)U1tKIK]3a/H2JsE4[2.5P[w}UVlQdZqzKHf3}]Hd7)p`'EXj
.%Yh]C9>:!O6LKKi608+{kX;R/,%U5qH6#S&gA5f8rTqOj,AO{4oE=4|+^W]z,7g<kJFtT9EH$b_%AJI$.Z2/9.of.o5B`RD[3(y3Nw~kp*<EMJu}&#&O,J<$TK%b}4.fH8pcy{bteFhz{+Rl,Rg(.
4fH>9a,nqxp,}6g/kX8!U^X,rY[i{rL0X>0|[u|A^qI}R]XI0]&%/FLfMz]hF'>|p2_l>{mcU1}Wzk.)hvsj}O7n9z5z[$NmJ4dqe{rJpd|<q'u{^s^)`gNf}aXKO%p(fXOAOY>$)8b8aStf{gAg,F
Ml'o.^fo'}e1%19/N9S^jtaf']Of~V7~3Ef>6E^/qST$lKiJ)l2ur622bq/<yjP!R;]#mG4ydgNL+%e.;:io6yWXl},dv7Ga)~gT;#00eZ*3a6#5)>!|iR2Z>P0te:;(?ZcpfFE1qq:vr`lCBM1u9!
x}je0o$OqrEq`AM#>$s[{&;jVwq4{DT`d2'xX?gXl({Ho/YmK&&!Kt/+jl.!J~=fCw?aq&sEvlWRu7KATj1R<}!V5QPx6[+xKnKh2^5f:YUy93.tDw$!2<W{uh#:F~4:`pem*4K642l(D)N`]/+>py
#p9mT&TnfjOlRV]80?$hrTzg~0'P!uzs*$n*!zVip?n,kgX>s?|Wc>kTEXBompO;_`?l$JSu=n,HOU`^rK|?~n<yrGzdXPiLK|4aDPq4!B6l^>p,;6[?sXK`{V)BkD^A}11W7qiv4+`LI2P&T((kFU
gzFT9Q:>GO&JTiF95nU^`!YvEJ<QUv3X`3Lo6B5K,SF`%AWZda:g.I?$bU,uA|g5Yp^+.=<THk}):4$bT3a<Ei4r=l&R_R5I:b/$>Z<`QWb|}gE+SvY1/hc%5Hc]_~ML:mer<<*H$>](YzR64qWp1g
bN;:m*NjF?dv#X?H>40b%'#]1A>2Oj6y=97rk,P4wz[MBQtNsoCWoOZb[P}D4[GPo)=CUE~GtX#3`$|d)iTW9d<SE2YY3nS:uCxH~#)WNvG9g)y_Zw.%JMp.a{$qp4tka3y.]O123Q_pPzg2V*p694
`N*j_^6zn]]?%G2T[d43z%AL(`C?mP7RJnH=%g_oG'cTECn^6$}8(%t1BA>n9kq'*7}?rU^}}Qn%?F3c;yA%?[<K8<&:p=~y)hB4`ASUVRDv0y:e_/JkI4LYUC=wA4K4Wk,`s%!|nJc(/sVn2NZv4}
fJ$mGVPs;Rd+=f/gc;5EaZfU#<OMQnn0RCUtR/}p0GEnuzgDdNnj?74J*eJOM`nC:W(]m]z,SI8TzR`V:r=,DOR,1i%4Ptln!Je`n$;5+{>g^NTJdZPpdY#s`SY1(pB|52e)=C;HdH3R^zNw{/o((f
OaH}O5?9se=%Qh,GCdkH$><WZg<AA,2B6pY>fo&51hUCE`_kQr`+)%PyI`J:%^,cUSrf>Aiv7yJ2m#j0ld^)2t]YSd!+:ta!eayMppZ4WGD*oR=X]n=f98piIF1uNK{T>?lr}q;!Cw'ZKNepG_Nn/+
phXVN}xGJ`=d+w=qsu?>jvD$B*EL?3uTJK~w7q%c3JK:/;2x}c.a2gY2_KqUkxRXTe[u[CZjC>y{K#%0afJwztuic#PgJ,s}Z`Rk`liUUduDy)$q)%{CE<vhA`q~o!pTAd'*R|7rZO7LDX>s2X}Pq7
oBQj<4NjagMZ`b[Mt6jwHJ&9BRU&]{##f3177{#HB>B[cN{Fh?>g`Ege%ghwxBf$f)qG3eOoJ3vL~=NgeuS6d3IG=XhFk)D];VAC[fqP]_$]K3fa|#!){P.D#U`WXt``D!<yRbt5l%6>n;:H0pxQ:D
zMM].R(d+M/s_4;:HU'meo!wS9Iw|4;PcrL}jQ|0!OT9+M?,+`o>Q<pW&#yy9Cn_6C3bW~y;RPd.?IeqID5Ipq7`*OUjdYVC'fLbJ&2e<,+?4$EK_KG1w4dUF{lxqo+6M/wb;t{*1A,^>bvi&Y{V3S
MA'G'pOrbj*[ff!zL:(:gQ0(vSb1cL1xhUN9C!~,(Y.cVT*{ziTEOo!bsr'5P.[0>R$.(aDsfw`e<vb/k<A/0^*_^cvzrlN9x:K}Ls2<(qGwl?=0zgBbpaNi+fycMpDzH)7UbSWceOb$m3%6K)h[zZ
^O0fD1^u>'j>5S)LDrE0f1w?KHORk8]iH^EVspAxK'e!R!LFj`d''e>dz4M$x?]`xXn!ZIev)kAKzM}=!lF7`{aIXVHUv<GHl68`zOp[Tb0TOFHziY,o3``$1;9FhxjVuju}E!w8opW=%/=nW3BA|8
,d#>'=_;|YCGU]2DFWU8=}PHtOS4bHq?L#Rd9sL=l2Ecox!Ajv[pz`Kc#<91O#{VLS6z5pi8=DLj)YiEHFA?NeX+EYD+iK+9&:Mq4IZte50{N$q[%%/^BdnytRw$JZ+j'35l?wa$KPTIO&,*}!Bu]5
zGFRdd6;/PI:S=2|0d]_yEc!~7Xx!s7&iJaPAZbH0A!L4Glenla&H~o<&Ibr#7sgpajbF`[j'u9svGhS`2QGjO#kiV6hC|S%Q/kHswew9KKH%rKM^T*JFRwu.k??]hZt4tW]ID;T]XYE,|^44_CRs'
==o,IxqvN^*2!0kcg~3D)7pX(lSNq:Ck])!&x|k6ik1vhHc?rrVDf+(qu)*&]O2Qbs1p?tC}v':T+>|CG[owI;}oL7AbKP~qr7e]Tc7ncE<gifgF&[*DR<AQSh=Ti`WjI;U:YVH%?/tkIE5Nt=amM?
M7s'6g3&DC!#}h,yDEUML9#^Yxl!045;gV]EH[4'e&&)}b<R`n4vl7&i]v~dY##uuX#x#VYs)Y{?}:nIdN3R%gM=?ehXdL)2WH4Icb+=0_`'Lw%z0cjEsJ.j<xd9K)+aOS<r|cQ'BaM)pe(IU*|Z0O
KTUYXbL89K#fu<<1TX,4a_g~J/H]3W9A*[_V!$[p&AD[]q&Ln3Ir(={mz6`A&4715Zr,pfu=o'S;*}CqAb73dPW$S[An]F(~|B'L~hc?REmch$~{Rh?S+}Z!<x4a3It=w^%}3t+81i0!$fO*6YZGcD
:ZT,[n%iUBAK`Cv.]90[Y``wvomU.5&*/wKpB~~{sgWJyvbx]C)*SPZKJ6vbd,G%6%vPSafc?lQEr&zNAl7yw$!G1sCezh<yb#Xvny<z;Ld=kisT^Vtx77IS{F%z3d#UL$f/7r=kemAy}}6).RHPO;
p(2t3HO]phbg{n=n<MgcP[7IGI0{0Tb7zvZ[n|]oSiZ2q=/Xe6n6oV;]'?Y3e.i:kb]&<Kh*nPu[6KOv!ek:SBNicMR^O!vPc*If4#y+!+OmZ*o0n5]UxL6Q/HH>[7tv];vrbvRSMZ'WZ6.#U/QO$5
P`M/#wb;p3tQq^_T82Kwto?%+(57GMVix1^?Z{)ZV%srr#H[w|L^)RraaicylE5Tv>ir#MVUp4LpA;Dyt_[hE'^*Td1j?nd/6qVmdC&Bn?K#Y(wljX[bwxzAGfyeUQh9:|cQ*nS:zBDIv~Dq1uX8fu
aDC!2e0CT~lk=P_5Bqu)n2FICR0|_ra4tvFi;<MH<YxN#*(gsj*jU]cI2[&G%j'g`*Suj;E]F/*K7Fkd|b]Ad*`HpAQ#V(sx3FM:zKV&cRflyX5hZzWlU.+G{oiMUVfbxf]mcE9WLQ,7omCIrVRs}`
|7=LJ0oEY46r{zE5;sB4O_#<5xF69mV93ZTX1D04L9'7TmM=H`0PU'{19~yDQ7>m}{{x}Y$hu3IWzt9%JU?DXun.VT}Ba*Jgv(21BB5FH7bi%oZ}EePvOb`.[x<^pG,<Na1~9<6.DTbpcG]fL[[{6R
,,LjHpd.^ttrqt?ny:g*+q[*JH4%vcB$a+Q%0dP{#7Ic;wH..=lImfL`NTd1HF|kM{Q82|F,InFPnG_m^U^Xn2*OSx^9BO6EWYs%V,Mu;[Jbc;i{D4c=X8%)XMbq,bI;xi7P2#,Pqy;D>3a3:Z]&g3
/h~D_:9)']O*x5.eQ]+M0c1FKr#a<:4Shd~a%%U6KGUrMDN+=X.J,Nx|A!xB,jkp7|;(?h;x>[_=.2x+=h]U(_!^dl3*|^2:<:sq]O'I+bFuGd5krP;(r/au2'7Csp8XPiPggqRsW'u;kSLYm!o0iX
0dK]Ehvc!Rb!F;^eFn?9^E6Dir/B~_O]MY7a>gxm<=!+`+xfKe5QrVrqE7gZsC!'Dy`R9/O8I{%`.FnsQT^{%^$K3r6`LZfdUyj{%:O9tiTK/[YPCvH|IYjase+SA5O>LNN(])4MtjQQ?^$.>5?]&U
W~juMG.1[J,Aut2m7q4[h>Vv5Kw>TjJ.Vm?Q[s*fs9*Vf0u)N9L.rAN{cr)l)1m*tmI,Mh~ftF(qW_Hn|#_n6]>#]H_Oc#6pv}*1YUj8Bh1ZKuVQykkmY9}3t1GDB%HE]_}8(i>*gLq.;|</GplS&a
p1BLyt~mpez9/2zs4N!2,ehSA$jyn.er.g!##!kv^9>ApQrV{DcxFy*^k}?rFQ}d;g9u%q0g1<cwq?JK|GLiXD8C0]7kJwyLlYk:+R(0b[WxWr^<~A.=+Vk|Spb(.(lE!CKd1Hch)uHqmg~zBE?xif
&QE+p%Rr$O.bXzr<jI/:owbC}WRl[w.0ta!0c*$~A*!~G4[+AErRGT[]K7[9RU6Mw8Vlc%<tjzKTOd3c3ZHAre[[n!x6R0n[uA7K(vXi,FYmY+P0OfRb4Vr_I]}kTajRDj9aW|V}j+C[zD]{us4Vzw
Ee,J8CL!Vt?6LlzS^bjC&`oH{f^S/ri0_'iWxBnk^P<w%,T+:,>5Zey3[V4Cb2qdE_`.cR5beR|=DBRIRonn.x2e9z*^H&zl4G,slg&F<42wp.;DU5?(]$]1u3kJ,u>0au[pY&/t`UPiRSu+D)ATmT
Th=#(nG0(lPk0VE6aOwR!AId+9#%Ui}dYx;P;.E3+~QU'!=Y+?nnlCz1mpG4'o8blEu9'D?U>|/(kltDJ/3%NZo$m>h'if{`S$9*7/>Ev=G%ly=7W9_*(cM8PJO/w+d/#;|3i4lgJ/ktYDW+(hK#|s
,Rb%G0p~/I{z<?H1ES60qzK(se7&WHihc&mUOmf{+|;'gC4.OGWZ{jWW+~!NHkX#]bJK6r'YEF$ftS2uVJbN}_6XgRfoQxmz754UqGO,Wih~ZbZ,]{X+zD47Cc[qv#F*FPZOCP4c&`vW?b]o?hCJac
7GS5=y|OslRZCF.%u!&l(dTf&!s6##Z;rn5`aG?JHeCYwX|E>t#*UH;e7)Y#5?uD$1#5iM|2'_Rd1MIcrhNW=A!7Jw'g$#;i|)LB9I58}#GRrML*4HXRh]ykhuKL#|d<cDo$d<w^g,t)pJ;|*ri?Hp
.Agm:`vG~']_M)5Ufq{*w%wKFMtNtYzk!htgYl:ZS]SB'VEFJs{qqAY/!;k]4P~RkOKF[j|C2ru1.?xQjjED7VixpC~H;.~{=x1<ZZr~<Mw7a80?|htmhu;P^dPq$y2:xikGbPq2kCfZha,Xm!tOD]
%G+Is+wK7OZ>P6xm%NPRam]|98QISmA*NA'%d:I+#=d|+ZN%%#W0Bi[W(K(E!LA>`gHf7'WJ3Z=1g,P$d%E,$xCUOI7I<%5QY4{cve)?=&85!WjxjnUr}r>G8~u5#_^=?q<)gxgo]~;6++L9GMH?0`
B6JZ#~#KH1K*uj&yDHcy$5#&Ml)&=A:mjtH[Ydd:XhaAAdjm^b}36N$]0Ej(5YafCYU}#d=2Kl`9t;]r=6[<f7FSe5?X7'7p:0J/0Wz.QUDfA]_7fX{]qp#Mfu}k6#22cTPtElol%i}|!7rGZ&[L;7
URwKqNoU$,otxwDL%.}eguBE}3e/bkGV<n*#wC8U?]>E`b9L/*SMsY&S)IW0{8IN3,H/]B8U)O]:g^;iYu`&b/n5`$<2aEDQ9Ot#f%oP!SnfSI=o:]|2r?^ZQ*VP^=ER~dJHD$_aE(2GBmNRWXRF'}
%~#qVs<;zVJxX6E7p,z*=.R4aopmwJzaj?Wx0|+)ong3KId&claRz)w6{{}iT)!|(sggBoxH;(6H0Vc71Sy_0mU<+Gd^g#yD;+HhN8QnWxqRj5mvDBMNgnA9WWi72Rg%^RLUP>B:LT?e%k<F2!$/oH
}|ao?^xBz%SC4kXSM!{TN}wLZ!h$6wCzq^~m4ijCX1}RnY>{($8rm4Hm`<f1Dn*ct|=}f3:o|V&7xGT~Yp|0m&J6sSrp>gGokzU6hFnpoqcj3rUF#|NW^=1pbSp5&FB3Vnk)]+[n3/'Tp'i|sv(.#P
>+!b8NWbdj0p|KE/P.cq$(zUPC&M?IIBih(cAXKmX9(g0.<yV3tVMXv_DaTWSs<k)QWQB5z2HV12K?:rOFdQhQWAFZJIwgc]mskzvJtqC1t2*LWsN7~E2K{6c[};de1moP?P:#(%(RP/kqif*!{709
E*lN_pGqLy}C`3MX3W0^'n~sQu0g]i0#P*4H2JNwk7.l#N+47u7?QCx6A&gI(FV#lE[dki>G[S21SxUmTy~R~Kje5NG<,]6sD*`K=Bl9Bo+L'HuzL+E8}Rmr0T4:=k(+.{!rR27:f{FFOa<mst:D2h
iUEu!wuV>VzGNjyM5R5<RiM9jGn*{vUx2Ll}v]4tM&Ko{9>u_A=LM^l<CR;]*AN0NXYjbDo(!pB]a^T{Fr1_|C|ijZnwD0uO~OrkSQK/P{x{;p4$$bbR%?E^dE[<YNmJ[Lz.'sqD3:xSk~,3>}n({S
4akrV2K5#ftT4$r0[)puS~R=3q2mUM*S}Z]**I)3k{P6h(CNP*+r>C*_Y`]kA54d5_'>:A=7ljR~ygS~VJI9Z+!;L+,qdXR4?qF%+/s6~[.K7a#L]nL&KSfnM:N4<.^DRI~+:^F+0}EKJg0%lf/IVq
jV^CA*04?!Tv?a!lM[aUPkMVc&cRMVkgJ<juVP_QeCF>5H?FU`^rb{635W<)[5yZ'Ig76Cle,WRY/8rP4I+C2B<+B0b7].ShE#M(H`46|eKMWkWTkYX=h36KEZzcS/6pd+M~)#r!SU$l4Wf[Jhf^R<
7ucV1VWe/4jxMclqbW4]e?Moa$i&&qs,J)+3D}DJ=M]'ycS4lVOCU=mk.HaE$G7NQUI<$n~#/l$6|QmiiA_`bphDX.0|Z!r(U>h{u`o(_R|qB:kVS6Or.uvh==H`F+TEdoa$wDAG;ZBfj/81QQf/S_
9cF8n2+fSc>unta~Z,b<5R10aD?nxPQDxu%.HhHP#MlG}Ds~_'q(W1iM9i&&tx(zU~ZUA.OdrC4VL(g?RdS^3rp:9k'6U8:=bDaPs2'[eablI{qe)b!wVTOb_S)?k0%!HH4.sBm/gB0GAI_]C5.`UM
u>c!{w*_Pd6B9u1*~[/IVLWb01hhz$Vu.|{vjgWfDqsJRJC^C,%K,H5M`*_s/BSF6:~Ynrl4W]W0<^*6xo&BfBS]D7~6H4p?`w/jLb1bl;4>1ck5Z/]b54MRgieic.B?#.dik,~]gJ;I~q*knj.?Bk
obGIS5'/]C3KG81`~{'nI_G(c?9P|]oBv'2Q}.>x4tO81;ULYONSTzi*hv>ke<#g%{%r1)6~J2;{z,M+J~l'o(Nb%W_*0B.CW]q$2I<lAgi3D$C8BD?W,6Fxy)ydLE|_(Cuu<S1lF!o[Dj/u:En/V<
wcras,uSsU%MOXn|QT*~vaU86CQB}WXp.`;hDe'F5kT!&KisyY;?[a/#&J4}kui.*54)%|W4^?(f6=D{,j.[,30{lkVW7tTej+aIr4Ih/s;Mev(hRlI.UWIT&d]Ft(Cl3]I!w%No0KT3;Kx59fD!2~
g&uc/{>UI)3m$zdDf!gVG3<<%!CD6&6PtP,K;FK!wJ~/#vFT+WbRVc7fYVdQamVTu5l3[=gO:ia;`t{tK/4CLr'TnNAY%}:K70:>[[6A_8)INL>TOKBd#ilp6J%5Q0wZv2XZRvn38.o~_LG4J1,o+X
tTyfC75*]/}|8E_!^X8;ye*SQeh[odt]dMe5~>xBm6t^3A:~Xk'Ns$jl?:&XcNmoF%_.uV5UqWTfm?oQ8[eG^757_/vRvTaI5#i4[41DZKkI&MmGqyoimG^IQS{rk9=abquE}2sIAX0X/Jx'Ru5K3_
}eCt7H2J_Pu!7UqKwr;J$:^>;qB<!*>TH&,c/0v6*r:_*H8J43`Ui78/>,n{i+L(Y}qe|`oCqHz$)F4P`o/obKCnK|.J&2u[c~*kb22ow<Z0'#E>D2Imj6B8:[VVZeMN1'%{Q~iJAkskag>9L,4Z1^
e~HNk|M0dlH{b&0!6hbwwW}evoR?72%T]tx]P,8n9LlV'maW16W1ePBxpeYGKT/eGLf}h'sH+/F9RfqGDYf3K5;~)zB5!y2y'D`btPc.{djZQo#Zn,q^.MMS~NHh<o&Vc<$)rGGA);&VN^u|<IH<um
)$*SkE0_fGE~)0dp6vwG6a.mb.37#,hDyefd^;AE5mAxn(q8J<>GQ?]Hkpc!>aHG(`Qz5ib#x4e^_$'E(9vAsHI0)cRO;Ug~P{}=A0.un~#d/hCm%OLz%hS,[eUze%5$6'xX{'Z/Dl00)NuRy]g?>J
F`joo12'QF~M%3utC]Z/zi/.PMu1Uqy0k^0'{rgm|~NCZy+=i,!N08$SXUUH{fH0f[CI8jr4[13D`t(y'crPTBjJsA9l(NIeHaD%=ub_Bk;G9h]r{6mBV>93w]SGoB)Dp__n:_^5VIXin{5o^u`$Ay
JAkbO$I:=VB2xpFMff[m2cp4ZQo:R<&Aap0ORHY`a'1i}3S36}>NX$JClvL5!xd8|pT]$a~olX'8Z^}c9'_`A(?Z}O/OR~NO2uF<X;zlIN',.{(td{o;6nEocY|qkc$zLn[_|w_kc&LQ5oN~=be:mo
bnF_[aN.:0C!=8#4cp]+$B5r28FBK~YLDMcI5[[R57{YEy=MVY|NA06*:?..>eE70iX_>IK31H+f*%#dzpDjPg,tF09j7)lQl0#%R`V5+:E.zS~2i.wD~P?0g'd2t#<j6+x2)aovuFoE5A'd'NOj*Q
H$P^5A8jZ}u7Vv%5|vw|]!X;a1X5/d:yIV}IOPhK%J(UU1y03I'Q!},IP?`RK4:s,8dHc)v,SN[m4wN.eIo.0o}FFcqKe)lL2rw:}EXc1l40EPn;gDiS|%t.t1Mj/Zc6I}G[N{^xLaVTqZ)Q|H.6['
C,Jc9fw0Mx$<eW!b.8xO|u&Gz]5y]&:D8ba4(4R$2i<x4D1s`ofr,`4pq%*a2f.wUUhXDPec+;b3GmN6fM8NY}y2e`i2{AS8.<B.f7[%s1*l,UFJyoTijf.dVEo+^Oi^T)eRrPd8cIoP6QY*I5csX,
U;v>?uikJQm/Td5#Tj!Z+~<y=&qu?0p5YLw6h$^tZN=l}p(zLxQ`J{Ss):FOOYptC$K_IN&%5v&1J1#:Z/),WeUR8T2~ksd|HLZ&bo(Grz4(;cP%pI%tW'dosrJ5(5vW*rPUJ:BQa})Loj,spw$kbV
wm_uHQ9`/Sr}KDa`8H8)Sz#<G=QQ*X3t4Fa.yuK~+8QmYmSJpyIpU%eK+6J^j!>WzTllgvea(5cPrb`x80uXfQ'5V:%8h7i|[B5lc1vHaXx%&A~v=nAUraOzPPsLRb5,)P>/?IA(.R.TS6Ne6%xUS<
oWDQXSmCx(~Cu,(h6SejSKat,>N+{7w~k*6IPAAV)L^o9qT9'dpX.6fCbe?0sfK]Y>1.GsPhc<nU)aM4Z0$T1D+z[S5^`8[cT%HAl;yJPGU(%X]kU;yiW,H=[=hT7SK.h$A+Z0ut4|I4F>Zece?,sb
{Et$fvVEv.>Ay41tU#]Bf|gf|o5W7BjA`j,c:agvg>r`x9L^NEp|e)bK%5.<n{Sb[[kQPvDiGIeSbsQ`U<4fSo9LQ_m]%Q~hiBhQh+4o4.)2c[&!jB3c^Z({NSNIV_F.&:rX/#ZTS><HOvP97;_Qo=
9sUW>tZDMElVN:;R<z8phC6=R0S>f/ighTV$jkd=9KDkX6VS82SO4mwNW#;JP~HX`Bks&<rTV~`'Hu2yK;`1#EkT%m9y<t'PJE87DLlIQ~mbLBYEgQUORM*.w&?E+Z#9y(2c)up!_Bg2?tK$FGOq{`
Jo.5>;C`l){sj6ESh$?)Qy2>qa~1+yj>ylWnGl*v~7jVP*I3S)4&J?vg?E<vZ;+BsE+BcFAF/z&9Hxk_R:<S)UWdCKHSHpq/ds5L_Xc0i#T)mGli;u3=0bME>v_=CzSx^&U*Ftp)+>oKlhte[;qwFp
.6)$^e7c{xAqk]3*ZxgmCO4{33J$Ltvhw6{v?XzSJevPKP#r[<sy%,$nZRMHbieSL~u,_Od+8AYnP4e5IO*;C7l|Wy/tg'g}DhLtk;|?Mta~ly[|O3HHVlC30D+Xe}bJ`mCAs=lG:C:ZZ+^!t2*x8n
?h=vRQ%GI<VI$X%i59EW,n,[A|Q{Bm:7g>Mc^I~8ep7ONski3a6eaDBt/Gn*3>q(+)/=VtdZOz.27{`Yht(b13N?n]RKhQIwSE^CK~`UxP'knzw!hw)}n'9Cuoqi_4m}4Q0u:[B!Z={hA7k/E9P8j5
7t+S&}(Q);,m9B02Rf28cREuA*&Pqg|f|+`1Xgt.|ed;~`<F1BS8GAiCDp,J&e5hKB`)1?7H4E![}2;Faf;8NUXjzWV'yOxL/==^I?0qKBiL3iMx:y&(}ECZmI3Bm]*FxC+Bp>^f?hd;$tCZ|5?jNo
>rrV_},BZa'mxrFG+0'62zA|qRDmGR62gMKELc1Di9IJMszt+slAK|70w!9Ip!!DnbuEP&:+Th'=L=lUP5RV+4I6nLcUeLowh<CVuCoQ3q_gbCp>u=z53^C&%W>%gczCo#.Gr~bHHLC&f_M4Wa<V3/
]/c'<4uRX&#HJWM1{)O+,]j!|tdrS}Dz7;!o$rov0sD8>2xGAib%J$IJt$^nMqZz';er/3yCb3sIb!u$]W8:hwwT8>.uZck$SGxBy[FfkuTz}ey?.R;uBu)Xz$EA/vouaD!SQ2(9iTo*?vv0kt}l1#
$]sO&KA?UM(}k5xvunO`5<v]W||0r*wD=`n06VE??`^o*2/9xy9=qmxou6m8Ke^,c&6B(`k#nY?YrBZEa})rq)t1D0jY*|LEtVzE?W!)xqQi|^(9x+6KJs[KBFa`wFb/#]k&!Z6vmrc[pY}jI6qY]J
JRzJ~C:q/^G>s8{&Rx*DwP?pBtWxqyp|oYu'OTmi%#n/c'U<,):DqI)/{9/[0(zpegZH%ZtdBxN;1U_$4CQn)w8fH|m:9;+.bl^_(YpA]5O:,Xbve;>Tf}apIdPBr'|4i[G`B/(`]/ToKRi>#Q#/%L
sr.Zi(<PV3)EuuFZ7#;>ih)myD}QiC.;RC]|L2p6:~<2H`Kd*:c;lx{[6;c,HfnXN+1Vu8Q2^Zc=d)^`QqU=k5fvR1&Jj:R(TZShfy[i3[C|UW*3cEZnsnOWY2XAKvBQ_n5^1'?:oF>YQ]e+$^;^[J
mdo+V<w:ET3eSj}x/oS3]GEu<8+yohtn6fEh!c?Npb}~x#mU(meijW(k,%EQK$H&$]EMyF>Gkv;Ytk|&hL|z%tMIN2Ok*i=jTj&n_f/jRJ0VbZRy}erD|b?8hz#=7i|0$_l^K_b!='^lo7QD6qff9O
::l,H<(l6f|(gHDUZLlO;v'QWQ#KiEyRH9Kcn,R0C&9+a#sfA1Pw;H.*?36jf3k5nq/WA[(bBjSdq/lWay<i9)#a[%j(H|z;1_BelgRtU:KYxKh4POX8EoJP;%TgF%8&7_2Y.pNqw5VJ96S2jZn[BJ
ch{DX+RUL*L|oTqw=]Mj/0(jwTf$<)u7.[>zx$F/nRVK&PhS;[Uh<wfS,%MY.,${B[AJ_&/N.RIH|f'W<'Z5{]uU)^).+mvaw/A>5*=Fz]]]J!|s'EZ.`uTEgD26nF(UPrys>$|PIa1nB.$TJ(3d%h
WN*N80=bC_bctF~VTI+D=U2e8<NiyQ.$(P=Fo'Jyd)?G32__/)(z6z7.vZX]Dy|<0KD9a?'(vZL}/mdx:5xG(yRVDYmwArVFcZt5<=xx]Mjp&DNq'|bleKOoFu[LnwNg3!%{IN5Ve7F5eFJ%nT7C?4
x5oD&{eRwfwuP]Q6.<0eu,kJ>'Z'aW05^4}|:&^|,6=<C!Js6MCDL'x'kOZ`+lA7V2Ql<*AlK,tc]nD^v/lI(['/Mo*_^tzXdT4~rU}giBs[1E{(KvvFv&'3b?nU._ox[DVLV1*Wk*[v/i'ngG7qIm
~#HP`Ef<tw^L|wLMc?Sn,AwN$el|HO#f:z3N^iF`u|z0oF!13tplF8*~:8eu]J3aVc1AWN)&F6j+C{6FG3Sr+Cc?t1dzHaS}rOx701m:v[E0zm$L1,/VFZ]s|0Lr0_S`Imd0|+>e3O$(qQr[R2B?}y
^Z=04%a6]R|u6'cwK2#/1H{jwQQN(FFFSbUruw:wfl'K=G0_8NB1lafIoRz/jNBOh`{JD]3wrij2Fa/;cU1k?Xj+!46#qHn}~ZNu3o:RZ{PwE]mvarKgX2[s_x_#J:mwCaaPDvFS6]y*_X+GYv+_4%
?lxMy_V[)M#>cjR?awUpjEs2YUH/^|VL(Xag+X9r;eZm{7z*(;un7jLHTvoH{BLM]c$3+y8Acmt5|nJI`My5+|oh1S1i]32A1#pqHXIz;w>Cz8,vymGu<)N0K6p~)^r?|Wqt|_}^PD!;KRl+:,|nod
CCnj.gZ53F1vzxh55d,1$3*if^mCoYS]d$Y+ccA#{fAI:(yV!V3c(rMu+x?,HVSNI[Qlyffr;g>j3mwfwC:/W8NqtT8eg0Gw3Mf6ywBV)_Ae9?>V(<z!X2_(I6+V(#4xR[Yv]d^O}RrAc1ViUs$V^!
X&+_NH9y'xORrl[wCZ~_`ZC:C6ao/#/iF4#[cUBi!^v%86*i,'!gja]f*cgumeMgG:(d[KKdm2C7=ke*u!,stXL_%q/SYqBe>g5ClB_dD/u*o~$;7R*?`49u8]'_;Sj7,$=>05PE%39~|Xa*^MJXAQ
d_g21kyPFwf_yC8I1;NTL7$].TC2gTTDfz_:`Zlq/P^RS*pybO[i^uW;g^.$t!*Y.l^aN~[0YpS>I))WQTI;>_OmT>:iu~?aDO01Mv?HAK?qrt](zutVSR~8MWo=32hL&Xj*BjtU,uclv4+}CoiXvh
L/?%ZCDg4q8|bdJ+E|Lj'5$);8<4jyne5;6bhzOltVdZ%~K4F8EKg[l[bgTiJm`tR,D(Bm;:SN7M;K,`g/EN>fDLXOC/frMEpS}4$'LS[?yonN,9[O.c]6_G7ajS[96OD]&1cV>N>4k>N?Pa7{g16B
0.1HVByS'n^e5S]$U7G{^}kS=tZ?$e;87}G&H;8RZ#sOC6qjoSz>%Hq=O3l_!ZPE!(?D]Z..eaT[XiZo2uYYU6_V;q];sspSU.$EUbh8ActfBX1.V52)p5.Z4^yp9e4B'6Y=vT+(5#f=cj3q_3JZN)
k.2]*z}7[:Jt!,g6WT[/eep|7PXyRBY_)b`!v(8XR,DYMWrC5HWSR&xdf%F)Y[p}Py^IYFAV}+?|D{8yEx^T$cn11!u0/)fb{;#!+:51EL;BVmVBYq.+J;Kz&8ZBiTs&a_nO|Es;r*K~0y$73+'yHl
hMxVddR|i^>#+3BegWdtX,o><Kl*og20C6!h]V>az%9SfU#TtWcI*>(0U`N!,]{>.+PZhTb`C=M_CQaF*I_W1b`%XXSomk<y.)2Q+G2%^SG*Jy~:}.hj6Hp]X|w&WCJJC|5NS2)`q5Jb*GNf'1y7Da
o(mS:xV0l`j>]Tr9?:X0(36s)X;~A/tTR{Ni8wgLjQ.WoVTlcK+Ri;9_:rp'|Dr;PSW09(auY&Wyyd$e5<lvdacJeY..q1WPzcj=1mM:*m)Rz%&vE8$tZQ?~8Qv&P<zIfKn8W1d:/Ss0bU:LTpHwP,
ku?_jl^,lO2{yE&:C;9V'[6We<Opr*=P>4QsSc~Q~?>{ohm[+wM^EL0(t!!)kVGs8ahrpmc~_K:~mdGimtk,oYE=M(^|14NMD,vSrlP7xM]f40nK1=+=se#VHW^c+HSH;Fx3V2}]lO?%0EC/rGE<.k
g5e$K!M{t8e,~.pK>>R_I[MuaLgx]cf9tsuc8$sK:23GFvLE[Q_5#Aav<*!fw!OSI9v_%5Pru(l#sa.181|wYn;}w'6[U=&<uvbW'^+$E2(rzK2c+o.kgR[[F#XBl6k]C~*a<c+,s,9*Jd/Q]B;`u2
0,|[U:yXS$.DqL/C8g67O3^'1?K*$7|.(F$!i$|D+kz[U=kaK9:D/Qdg,8)']/4>)4J|~Ea0cSIatz<&:?P/CK;hN>yJTy?=5>OVS1;g]Oulu$AUgG1AMS/V,U;Pe=8GUJc_8T{%aRn(Lb0IFX<ASf
$EAHdpsn9*l1opYGSj2#H;M^A.Drqn?lA9Vrc*q[;%%o6By($2/7xKF:'2/S2H}&R._PZT~_^rd[?7[',/2;{V:6PZEBk#7lE{0G|t6b}Gpz~cp)aBp[&R9a{0&_r!gCOXIE_]'gjPoL*{ycnG>;KU
>87Q,IWSQe^O)MBt83lSR~1z=RTbsY3<8]EqH?'~/9OuaO'>BU!K2LI%>LLpWP2mDzNSE^}+]Em53`uNG/row5jy~mu9B/YAj`O0`*JD?5uR(#Rq*o'zHG*9X9:C10n&/>nWrhj<J.2uKQfz<|{Jqz
0<T5/K{xf~B&_*OccMvLBwIAFMh<ik~{7B.`5n8D52=og>2WO}_0nj#Kc%n$I`<){qZE%ah=}o5+1f>Y*(EkS>FB/DVyx^k/8am:q.#iRn^.<4WXt7/Rq%8z^f]Kfl3YXV&pCy`[;Ifi${~V+8wCw[
TckAq=bp7*lv)#x'cSXuS63~&._rH=Lb##Rs7Gf^DTw?ibM||#G2'p$M^(d#SWZ8C1tFXb|YI=$u4w'tNuLdp*W<`,e}G>&N?OrqzS7xn5l9^QOfWpDFTrTIrA*<#GpTsC2cKHAeE[y9]GX!a=j=L6
/e;oU<5EvId!8bB}2zmBVAZ]$L=y'x1gBJL#rZ2I1I$!SwUMF9nSO68kJzoW.sR!O^J?cw+'/$h<4iq#2<WgU$xLvhJ+>pp!9u{BhL#34=IBe]*aHVNIZ;%yp8q*U!z=M%`eMpBaVQTLY6JaR^hLb6
nSyIXmdQM>~Lz9+4Hb$4j=Kn4H]va37Ffo|U!Ns%pK!UBlrpF,J^=iYM>Nobqv?;~ne`[6[dTnEKY3}V7^rJ7OM.iQH)<)im%C]xsN7r^:noJ6w!hd0qT%_:_?lkQ3{xvIO#^hDv!R3;gmUT!g1Y)*
.jMdd*Bchvy?F/*2$RRcY5Kg(eZG~<N.3h|=tiNMxiub1a`^+VDiYT[?VvajGwSEfu>:gk[*a#'momwMRRlD.Lv4GNCc:Jx%Ky3'CT%Ay?b$PU)p[fW}.y&wO7mz9:zQA/n.+LSe)mrHExDBI3df)!
znilm~_7w}G'n{X.r.]X#=#7guZx~'SvaBJPt0Dzk[doD%YpW?F!zF75sXotU5wAJPaGgc&(:YMN;=J/&KMQTq$ge9&0>a^chU0(w#L)#d(9l73*N;jB~/?B)zqLE|6B$S7:g.kXL}DpRA.rYiF+pp
Oy/!Tox;^0]YVv!MT}A/P4a+v[<mi8TI6hAq4L!9qXZ!C%*R[dV':d%XK^Aa[qR/?YHlIU==ljbq#'0ox&^{/oDM784`~x*%e>vs2k2=D`;GW}?K~TMkBNTIJkgJ(2qo*phiQh8%1p&:=[!Gviub/C
[WV[Zo;t;Tj#+mM^=dx7bt)oN(uxTj;E|wJM.V<?nyqS2t>E~0vPZC{{4C(t$h]8;z;+a)z~,8C{x*ZmZzPivcv~j^Lv%Z'h#t.mF{]B>$ZO)uP)tJU)|wPMtb0q+d%eqnH_`0Nl'hGX!lfItC|+E2
~Zs=bW>CK.,t86_Y<Cw)yQ$k/f>Q_j4(BJkxq2q0+(':}_xq?aSI;|;N/.((O{[bQhV_?=I[qJ`8/#sx)n7}?n_vo/KDJgHmsZTp&~DTJg<S*m+,?DR9:gZ=#*V!FjH<f_KM)_ujZay{m0*rBF3Q!]
}!YZd5_dhk/h,Pm<{mw5V^nFEI1YHp_7Z[AT>hKq|4!aRs6|=V$zeF`r+:*Wynn:I&![r44u,ISd/~p8cgTUMiQY8F.0|yf};J2TrK~vU!cUmEM6#l<LEoY,&NS)z_u')uy>N0`62RK,I?Gz|zfqtc
M3*5`^;Wh!E](?|q.H(;2!W)t;|_`R95:wc&s7|c[V1HDWFfjb>usB{=tM(kWa0^]p*iI0SHnMtLZfJs/g~I!j11DXCD;4!U&JjRF)Ll/sk`FxxE>d?]JrUs9^P?YS!E3GoSoa6|b$?,;F*<ddNxP|
,r6;Kmg#BU}wRf'$bbBGdz=n/iomIro;*4,+l?`2iBIEfTXt1}MJu>ddY%t}QA!X/BwczL#HsAf;<_G(U+n,y5K3cAn:{`hr*1Ku[p~)s<GSS/V`BKjO47tT9#3ng`Rg0jbIlj[ufH[|#8QXZkJ:`z
1&$Cb!p?#*$2hK:,M3rv6XS58x+saY4ujx!3{uC'<$*6v/7^S5DJn]~.GS^3FqjuWE7:*cZ]EM/(Z269IaL9k[D0)?JzT:%9^~R8^<=eJHbXF}|lW8,m'FIWHW{>MFxuRpn17EpE7trmK?{JUv.%'2
*4iYvnL3|`|^c0)GtKrY6V)~nBy!0}awVl~Z6ILnt:4%!9vUHXOB>0F~*R6}`Zz4Yu3ZR[*[z3m`]i^w8j8rNfTz+}~Im=|g'_/lib'8D5Qu%1rB+.$ZoX5a%w$I7aZ7u.C#<1r'A(CtmCoBprZr1N
/])t;B|MgddZdorQ2HeR5<#(wCYx4G`<ejTvyk``=uGsormgMQ(3#5uV1cXlP+m5A2+UqBGmIZ[F.d.Vsq6t4;Yrv'b:qkuF$pCQ&gjm2up`/2!4:EkbHan(,y4GfTff~w{]hyX6l8BL'j2NlXH{S,
JVi![E}(2$zU=3t'V!=Tg&~(JC6^<`Ia$N2sK]aXq0u#n'GhNdy*IfEfoB`jRMvM77.a$=zKXN</O7s3Mk^j|:,Ef'P+b]R3DhpZZr4ry]aGVwbz?ZTk)?2$U7~&W:k{Lda56r)VbNLjo;/l`_Fmq.
]tmaN!scWOO97L[WZ9p^&lm3p=<TcWv^&a&gT7^!y2iqd?s*f(dn}]O^0$Gs0Erp#BkZ5IBQK)C%37oV)g[ULrM72?kP[0G#bW|o`kGT|(H|cyr?]lT[aNvDwKh/rbZl[)e;my=7nTkTDQT1:B3$>1
IT0_L&l|S]!Mlp,/FMjAwxx1NXuGTU%n%q.Vk5(c;gU)bKn+Uf%`g9FoQZ|/W|sv2Fj(}%o_'v${Gqgd$jS'xZQ?de%?Nf{YU7O*2e>6v0ZGxza?dfm+UC~u.V`T;mmcyCB%k;ie4~s|]&._k0!#V&
{9nZd%5^itfuHZO`n^[6v/yJzoS[iD5CN27!G:yy0M|8JEx;QG2^}Gl45Xy~zT$oP1)|'LB`0|rtVpNJO#,bO2+,MSF60tGaI'mMLnHFtkqaHV<6^uFfB]zI}aHDmv3r;;'w}6I5t)~dU.y{sJ9~,d
MeY'r,N,<qQB6;E*Hy;0!h=B8.LWRQU6cc!iO#ZMc,fg[e]Il>0:;WHI/pZv{ZK1yE4iQ;5[&+cSVbI/<qdaM,hMj8V8hyTM9}$sDq(;;y!BLtA.Zfjb1u?`;1>CD?Gip*FhmbOy$_v`d_*/G)c$Z/
PfqXfPS!B;W0)&)oAb*UrCD|Y(OH26zFmo!q1].nC]Fv%e5Ciui6x,UlTxB4[]sl<:~0v|[Ti$c'6VV*=u2JsPP&t47F|%/Zy:4D;4RBm.WT&xN!tF24dIGs+swjHgJ'O,,ODjo4u*5?>ZRXy0F8LP
[)QWi{sQ~2?WXz'Zit=n2)]Zje]x+e[u7JWVXrLO}+RSu'wtQ4k/}4sTtS_aI:=3])sZrApp?1Oh{bEKPyjQ?DAgl`:On6eC$obG2aU7b?shDCuwLkS+9g%q`>K!KGFGOv({G7F=8OA`;&dm|`m^qJ
$UAeh{!O:JF[v^~NJh<=ucTKy8):s077'EtcJdb%9hjYGgI8v*lJlZPyp#w|'VQ<k(W*p7Dyz*mR1ayDLs|~SKXain$(}Dgb*QzhnQm'F6m%DzPHkA,Qvn[I^n?nY('Y3ZELW+9<$5>rf<H;?Yrvqw
_(8DY6ld2v:CBdpaX'0UBkU.VsTUVB1ra{c&.26SzSf$(>ubbi,7{xfl,](]O=7xUJs!7GA4v+FSqQ{$1yeFh/)2C`pJ=IFl.Zlofi=5v.h9o^HZRSdkC6P4Q3rF|(RCp%%Taxw,u#yt=oHQr)sxm[
xMm_}al&id_r[X)*{p!AfUt[Ki$q'~N$1A/E>1!,LaZE^=vxrdb(5B)P<kep_]R{V]sY1kINpU.QYQum22+:05$!)mZUFu^9Fu99aCazBQNha+DC]`tEMKIH2'<[v$$nS$qAkYixkaj}i_~GvnR,yQ
S8[kNx00};=&nn0^``9)SgQ4qX0Yn*kd/akB^.AM!sZ~qK(k`,}Ws8xdpxy:5kJx:`yu3(&Lz8ynO>[A*9Umeq$q5Wv$|r<ChYzTWTh~d4Y$/MfY/a:8+,6e|>N75B*`m3!C!~Y1*HJXIv(CNiLAxq
?~E9Ly$JEb1|:/WksdJTf4.8lzjWhW=?%(~R3#G,YA,LdY9Xo8sl,,ZBro3_~t8*$SOISu)_hR:/M+iOa.'4D6tmZ41))=p73(%,|7u;oGrxwA`8aCbr7[X1xjZfu~891+Alme_U}iatN5Y(Er#An3
MV(F&Z:rf_N*;4AP!}apO|WDb6}AKHKnzvusWreivQ$;b2iQ}bSmPXDj:ipA*O)xGnELPI0NyGumVx)bkt7OMmxL$4x,p|FOQ}G$h?!o!&39a`[Z&Ti%jTLR;2umuwYywmU[v!f*3:vSm0k~6,mNl;
(wKq]g<J4l*9Cu=tNRv&NZATe3CY}gq.=6vg?P:g~IYI]4joiL.g/X(o,EN8mpMK*y*{f<bTq}u|4VFik>I]m5KEB.S3JDU=dYuk#!GXE<;EGHFn!`P+C:Ji58eO'tFSDIi+BWuQoU<%}0.vuc|GKf
K}59Ff]Q((*tQS!sZ29Q>&DnoMO2D+::i%6r<,NIMhK|?kICQSY2p`RTGacp39;2MoJo;[q[XD1j~~a++nowpR2iR'8rX~!L/#`f+rBaRs1Xq&j)]^7;bRaQVV;|0]$&tWQU<u:hswjt3?}1;tI538
)J#%xk`>G0n&h7`:nJ)2J_?%+J<T8t^7VBK;V/wyEz>z[bkCUdLB)'kRVC:W=+d.SFz^'9=C;~C!)ZbIv75Fo_IoVgcyz|]H/<<U)tXN$c:_h7IEkv3q3+!7Hulq7g5M*z#E&O(#hW#.)Y.^xCpFb}
}MYrT,1*d_]5!U[3m+NK5&WsPp/41k=KED#}$CnFfka21glzIVJpTrq4KDAWuXJZ{Kj!S+e/9Ke|0kD(I*z%2M&oG7C4I[?p+!!!!!!!!!!!!!!#08P)t%a4<_M+tE[9Rm{>m]VjA/~>i3Mh]<cwZQ
Bb1!4oea3cVtlw$f!o`oVe?,[Dp3,z=T~En48D&E?o2Ky4L<,oBJFhy&3/*b_<b}l&eqf6uC53Ap7q'Xus+OQJ!4d{c{E>[B<G??y^9_qs6q1|_10{K?e=n+!qj^kF82]<vtB!cdc+Y^8*XWIinZEl
[[3jqf9JDWs?LZUM1{=BDnZYqmAmeOcyG40`be+beASUHIslrcAUo?]v?^.G>Tm2'}b.OhzDw=x5+bQeE{$D/B[#{Jm`y{fsmA)|QFplMS|a8TkT+~O)*,.d4L|G<eP2l+DV/BPG%;R0)3UJ=kP]8W
(,P,AqISu0fDOCx^^1ZBy=_G+O>55&`$4EL{N?)^]5J[8c'vFN;#vWmZ8/K)TY&3d|NBmM5p+kf9E~#pNKix|$>NU#_enMwwADudO'5gef^QguBvcSI0C}0l+F,9F?`}eE8%H_%:n~VrB&A_AsN&W{
RwL75yfBzbuhh.WN$Gr6#Xua>1goCd'!6a|Xm%Zqu}Z2r;N9s}7ZW|t*2XH%,h#[0<9?aiUz^l`rKznRmj_Xlg'L8`pDZW7/M|$0tS}KcyTx';9JXVm[9)j/wpz/.I8<R+VpQ2^p`qF2?gZy|ifTQH
q_QRbF=_ZH:|yb>ljru&^{]/!!!!!!!!!!!!!!.LAJ{2=;(Nw(Bg7_(5UibxsqZMQxPt*#:|p2ZeC78G`px/5=Ph)a.H]/PG1um/7KHi:)y2jlAf2h#Q0}T1YjL.3MZ7k'8]MA1zs6Mvg83PXflNlR
j${WJ+he27?o}|4kEBBGkWAj?F!d!0f=Rx0i/.E/Fy^$2I/'c;xg>w}*1I'X#|+]rh%R|[8u$m(79g#U(w5iMrSBq&Ed_f'ASY3Bl=qKL<M:#lkvD3r&OLzc0?psUu~.]As|Zf|2}JrcxRMHx1cUkW
02:R>LSm)[e1~LMTp62=8[0=nV%0PgCsgol+2|BXSIX=_>Gv~C[a4IULG*8`!f'$4sJ(b=IZu1We'dThRZS`Tb>klcI[ekTT,eTIo^kW_fqdg>n>a1b=EJgdBgnj<{up5q<okN&X`Vr*oqvUnG'is3
nEZ29%EUvNB%APZW}&X[y{8pI843e{La%`L#]fgJY'2uM%l;qeuGr$:(6e.K|_^^?,JE,[p2&P(,':%mVo{r&S.uLR#M0.S<6/^pJE1Fxq+5:v:|6Q'>+LLCpndW2FLO2VvdjWnK%M?%n`mq,oDKLy
$]kZt?2_U]%#/UT#L`=O?<P>b}%S2)kroExD}cKn`&;+cEA+QrfyK/DO_/6sm!S(cW*%QKDZ=B>%dNKC^~yBP4^kWd:O4VK2c6~E9=28![/uZ8dZF=Q)Z;pco1WSzeantK'SJ*]T`dR~s&kf({mqQS
EsQ{Vx%_2?>p8lUV)eBv</7V)/.{b%dq`1=TjI<x;(_r28PQV.Q8~Wr:O<c_+uf%>M~jVklw`{<sBy4zv/tVLap<FT?eTwhTv:8VXfsKBQBikoCA;rRvXQD*.57aO.2:a9JPz0SR'd}n%WbKW'Q;Lj
&0)IML.Xbab5$MK$o#,Q}tcR{yw!dU]X<^qZH?9PVN<:)q,#m+lB{KXkp[fsq!Icblyel!(}yh7K$}4BlnV^760Pl7aI7.6>aP7Csdl.9EKQ:;[Ozcc*`cn$M[WN85_zqwSLiUJ!Gz_v}%2nSsX`,u
K*jj~Z1v5!6Nf=*0O6p>9vp7d+.L#`hPbtB[2O&'tFFR~k7D|LAP/T0j#SDX:4U2ujPEzXDyI9Te)Z}Rh(f)(2,dl[UyX~C!y!oSsRzgd[OFBUjZRFxm[~:rcA657E!CW,/>:wKVIK8dcb][gs39p0
#Ox/Q[;(+I6?KvQk<T2/K*pRRLy5:K(9`0%xXVY#qu46)+uwML}.gN.BViv!4Z+!%J16_LRox8YT>1]%%|2P$Sx4YowbM4]s]4>i0/R7A7hz!^Nf$5G>fp`MY=x:nJ_gWk(b2(]r{d7ajD1i*CHgOw
WtpS;FZ&!Q&S8E$j{*E/HIlMDEhJ6n0mdGEe3(Nlff(~=n5S>GTBf6/~#y#fnuV9mPA</p6S+UO&ju/Gq?_FYgl9EPI/$rj~C;MX^T%Y:Gs^`d0okRy:0e[u4Z1U$dDGf8E6Jo{X|YR:jl++(flHa+
2e3%D2lLX50YW&?#[C;{2j`AG3bk}[6lpwL%PfuF.w)tfz#/_=fd`WaZ*:sBbsW_C^ZE;XGX3$Iz6Y)qf?;l$Fa7z7Gm+VdP&)J5O?WH=dBf2Td1B/%zc*UhQ98+Ir,:&b0`KaW:AZK=KQ3(=tzy2y
89KdpI4*rL]<DY_.|O7.LzSp>&r8i]C'Ah:l:$g!HXxI_ii^kNIP:Ly{$Wn4m&~o`XkIO^>u!o:&rB^s.RDMqb]0G}03$!ZGpg4f>'[#cEZ>AS.^_*%/Jk=y8bD>C$4>nr8~r|UFvSZZ8{_2KdgVG$
ltOq]<$ZV)_^VZw!^X~Ee`Kq:!}*gtmXbz0$J.,ms13G}rTG^~5|a6YRb)jEPrzEN/P^H6S|HFQy[xKvw~u.i4XM7!iM|`kZe<,<1KatU?b.6MED'db:l_nN4447Bhtz<Q!rDAtdx)(N+FkTSu9%Uy
.JCYZWxU:tY[N,YG$x4QMN%y.`~o(06Jwz]1YRqA|s+3*FseZo}/0)[/sO{0M8~w$5pqv|TEqUJ*w^2qKw_jKck')6rv6SgiG,%|2THMFxINdw}KzAi8bqg&>}}Gt1Po9cPZ/]}x*Lk_W=.S;tKk)K
1(<B;P`W(AIbJ|'_*oswV_>.?4NlAK1lK0SZXfVjF*1mdB1gbB<iN6EIDjr2:Q:4T'(4C+Vfs5t'7X!*,;Iv'xUY$vVj$$c}7zVB6'2w1:4_{n>BlS&$WeMJC*x}sh6]?[jDcyo8`Pz<KGG|kn1Vrt
YpXt<d28R7({1ZHupv]z~UGfkJ!#iTkNU{y98kh'xPdD}cK+[#GmM)hiz`vex<47$oIi*<2r~ltZQ`uWSGh>,Mi;wu]L5u#/|&DepF}>6gLm%p^Sd.ima52?jTyb1Ute`z7NUGr?ewrP[o[P,ZXAPM
tCyQ91je<[}[`bIM,Cf?Da,AFdVR72nXImaU5m&8R>dkxjOAMh!Rc04};8Xu;N19lZQ>NBN=Wb!M#TK1y*JSW*YjF28K3jK55l1oFKoS5wtqR8Q7tHQt|!De}p|GE8O4r//m0}y!#+:+b4!d(<gh*'
Bi(rtgjaFM}_Q99iw>?F%?PjgqOiv~'0nV/t2k#ow,guFPb)<kcG<N]|{T%o}7rjcZvEx$:'bx.oPWp!v8~|j/SEjw8kkPGG],|!TSvy#*wLURX}s0Ec'9R?w;X9~;,[LAT2m`3>A^7Wod7gbJ,&~&
x^(owmp6K3533fq(=M2GeG:3*Yn8MDEOjI]$N%+I*Chazoyf'ODnwK,A[`1SIftAtg_k]q[YF[>vLbhh3x0Ogh8V!E#NStk~IFqi_c92SG)w.#gPUZWCxC_Hi1Ow,qE~(UvdyZNS4E?cps~BbGYy,z
#,C/2Uv{!W`Y>7k<,c#P9M]5Z)Rhayx;:+w6'I9<&:c/'p+S7_i&N^QfDjQDHi,|?)qko9Bbj+x~m0ftiP&Xb|'fL1!rZ~^{<Ltu]?P>=!16]~5I3`_An2Z.Q{32p[Fzod]$XSF^$snFJU&B3?$Z|d
3o1}Fb$/7)G}pKQ+T>=))H'6:zuP{[~Qz7CL6*~RK3zuqR{T%p4k;P0Vq,7tI1_yY$chzTpP2JjCKM||<|%Ofgv!4[v79`o[7pt{H*XCn2^Ssg'n2zd~)c8BO`Gp%Yv`(gtz_*4yAYH=Vjr`BO(%(#
x7|Xyd)gPIw%Vs./c)`B%X(_w9eu$Q{E,st<|9Ci.'PK$`{]VLd^O#H+0v#2*5,=Oe1fZL.mX(U?Rw9v9!7`3K=i6^TjQK|k12Ud<KHcyzbW$a8s=6+%}^MDX.hKBZ0mhe:AY3;{3_cOjCw2SiQ=o(
72]:pDz?P*T'XCA;x!6V{[KLR/u:nX^o$F`b[!8gV=)7PAVyNE$YMO5>fY:Rlc0.&1)ftDD>1cPYClqXN&FF_3/,z;LU0p<r#%nI~TMB$3F*m,(B+Pj./MJ480_EZW+&P8WW6`Iv9<'KoZ7KP){2,b
(ZdnE~6dE`lR7!t**T]:[otXqT(YeeR&T>mJ_#1ky(d/3dyc,)7;$.BH4()Jg[V3AENr))g0,l??L[&ZX!3v2W!)`I*uAd6TQX`.jT>]TU^4ekjjr'Ay93=w/hHuJ.{1S}+F0PnE|Rt%0b&(d&.M]t
YPiV2av'3!)b;znNOjP#ag;l:_v%!:EPgaotUmi=Ivi8y/*W)>!]dog{fpr?fM#Z'oE+2fS/=9g_2~X.}'O&p9AxK{x4ViPNtiu?`VBLBQ5D8ewCBK2!6zSoABTYmTg5O$)^&A_F&erT:}OnmF9bO5
{DdU&HNwZ6XiJ$xD$9JNzY%$65RXRC1~+x6gJo^=9tuQ!IxBR7/4pMj{Mo~0F8mBA6H}~vp6K?BJ1}YY_a5H+o4dPJbc5GJ4`/}#,J,#X<$yx3[5<eGEE|J0j2vdqVI<(n&Due]eY4MR8?brl|yTGW
9$+N~Ao%jMZ$O|:x<#/9[M:SEwA~Nxz,ONy3#sYA]*h%plG/?)wv/C$L%h)tv>4LC`e#Fn)B$)fWsA7]0?=A}6]`>|>ZTwMg_P&|#n2A{Ac[c=$|z=~kQ<GpB8+&=socCDp.>+tAyB*z^$Z;,K#|AS
`KXVapS(Gld'5*(88f=2xLpnNyo5L<F2cFH*7&NdZ{S%{%y9g2wa=Of(Tn(h^dRFA^.hb.%#MUJ;2B,(:.lLZ^(=C]>1.m0IL1swxR/^X&G95|'8B`X.)ro;h9k't(_DhjW(3,N/1iN(*$Ek,Zj~^u
re>6W?of*);U?*GO.'`$,9{0~&*[cff1L8Fm6HSuiSAe})Y7P;<G*nGwk9y0jV/ezRC~$')z4QA%g)QbS{EotJT7~b+Ifam]/}JbntH&q'<_w*1:6,ZwH?yS+Y*vG]&poV_,x]Wk.1:iE<&7kT,+y5
9xH#8.xelJuUsY~RH+e/;~DhTHg~D0P]TXge2}B|~6YWrei)ooNu(*Cv~=adPCIImOJ65430s(u&r'x({X>0zpXrhqsqht>u81DXkq+yuZY)E_!F{!{e]oH'r{w!xfe:i)2+/gn#~D#y;|3pfy]o0i
j8HTzS1U=~GPdJ)ftUQ),/hG3:=r#q8.QcSwwZ]%J}Nf1^S~=Adm=&AmT%`|'2~{s=QLRQ8DnT`&'+|/aR:`};{gJp<`~`0WCR&K6wE/BRAUQq*khG)*8j(!OQ=.c(guW(Uv,[+k?fw%?4_J$}c;Zi
9[nv2xv$TQ$;&]:'NU+CaE(AK}v||HR4?NN+2rJ]4gsCr5:KTh/7s23<&(ys1.f)[FZ^BJIX7g0d`HG,5png*(y*q8Ui'[:pSQHT9NDc#F#'?E>ll],hn_!>z<uU+%RsRojak{+[Q,%ZS7:,Pm/kBQ
/:/,gM8,n=y;'3zZij:,6LPyel9,[(4_}${)m0sPZWR6Esw'R3IA:p6x^+2o_8M2bw:[m.<U6<^nS!kb%/SU*~q52IWyXA_T3,{X(BzIGj<rx3W7g_kZ67p'[2O#VR]w>Dn#QIwRz}6.ly+k#//rhM
ydxdgC<yHlYgCLr4qE%AXHKFzo8j5,ZGT/(vR3i.>s!oj:VoOCji=&t>O~{i38qi30q8rzu4J{Z$jY#BiL#L;8P=X$}Z8&ck~F^rA9b%2<&HhSAg:pSx(S[0c<{g]sFJsKU7g:W;[03JuT.Uh7C9=x
J9:d'B&9F!FX6Ch*U*ndLLT7Yq{fB[Fj_`5L&6IxqB~c8U;~D$,OAi{.:1H?Y^ZuJj4?5)M'*#SNvi`OCTFl}%;'?VZEd,}Yhr;*y6?[~ZTA1[9I)`oJvHbY,*dPbsN?e{!qe3c9|e'RT#:BN^)5uA
MSEyKVW;U(S|+DoeJo'['Y~nqN#%noi+L&cE6Y'{,$nE.P[$;#Ay3LEq%w|jV$uw,RdO'9Gog~mfCwhlKeBMapG2;_|^Lw4wl8'WEx!|4e1rB+7x_<P(SWX.4*&6z3'b19[386C4h&:5.#ZG_khK}o
[]S?/p0q?ODjZv8S=N)XW(TdIku+MuBC0lE=Kb*z}fChf*^ya!t}JCH2n~|ZO[ux;[k)P^lChhz~8kg`'~b_RqjsGvXcag[F>_cJcsqD4riJMt'3C%en~=!RpsIfwp.kfrz15H*Vu,oR6<D&szd~q&
b0SN61OiziHyR9*0)BQXaEwnawjl$xr'Ia|i~N,7;hPN'CDfmsQ.$!Zca2[P{_?25z8!Iz',r,u{rp!vgeL]!,'&QCyp+`jJK?|]^Uev!r=B8V]g*1uFtB0LtAS/cltX9#E,Yv!]%].&l!V#j+;iBT
qoTbRN]=B]'$RE{A>(wpRJtZv~VG,I`H7=#TUXklL$5:l{:ROssxyXYQQ)`9DwI;kX)8*kp!L|T!UxYUA%0n6^o;:!ElLey3nLY`DBD;8&kgz6pAlA/=EA;JWwL5wV)m6g]k%v/GzKEnNfDhZ5EOps
;cAfTH#aI.2^cLW0./OJkcA:eTs'D'2tH'$G!SV$b$a}_jwO~sv<nGLX~<^}2<Mo>J>Xw)T[:/2OWT$[4_e<MZxY$<p1+z[sT^RW:1YD])z(_[y7[J5Na[Dmcg1^S(D3,2jN=0!~=ny![T8hF.^|{F
79~P}vz5V=i.p3xoow>Bo2qD;2iQ[S+,?gpoK7Nc:f/x?uo'$dW+1!~<*KeD*2]:Y3EfGkAfUaod+;'Q3n~r*z,o89;|UM;:r`Yk=]OID%nZD?TnT7?sX,^S}|]kPl58,R<smrRZEI1'sN`JsCKv?!
}rjF{m/39ObYWHl~tK31,Au%c:JU[q/l>|q/4RXUDN|N_5OOz<qzM05.(V`J(F(h!;BK:OGXOS+,%?Yxl?5}|t~<z#*rh5:hVr~I)M3c=3(EioNN|/9DZ]K{`69yQ,n,cAam_N/ek+{ilI2cJ{1Yap
`,2$b6*+sn5UkZnExC1flny#V%>%6vzSBx%}3CC98ot|D[uOD=T!DHCY^zb$yLI/O(l,G1w`O7|>Ff#7dTruyZrAL*|i^sEECUZ&:,q_:R>=i(i1`XK{D'(CWSXq8X!3I<C.VqG7gkj|'HcJS;Ea/j
|V~Q%]r=x;hLJdy(6s6WvTL0cQ*{z*D`.9t5SO=U'LP8<*m{4a?'jaM8Af#uzWO[<[&|_waRY?Rd.U4ui<~fyjQ`/l'I+lgAnl]`k*+tv|k(ALg.%.#{<H'^~e{%$SA*zx%<=i=S{+7Gn}#'.}[daR
ZZ=2Sw!`1j%Df=7zuqOnSBzaUuz'8+ZA?EkMkB,O3*A^$uz8(gXlq;iM+8y%vD}no0tw}uuV(Un_Q,5d_Yi!vlhVi%?,T&ALml[,P<v]gI4gg[JZ|7zK9<F^VLHWZt?k,E!D+$vPY#bcv3wS,2EMLa
A7ImWe4}UaY_$cPk(z%obJo5}C>U~!Rh#>;|myD0S#Kxg</S?1%>]f#Mw%0Hl]'lL}6(GgeXZjPJPMD#xrK[V{t;pSce'i~~22xmE7IGQ3?M3fU=APB&eInD>Y3LvqYg#mC__*LL<z+>R%Hc(A=ME<
z9]~yknp>u~^GoIPMnYFEb4}oV>.qn#'w}&lgNh~c++fvs/TKqvBL^nd05jZMirD6OSJ?onnKc9Pn,f%K|%XV!}fecyD^%z2g<[Oy05?wght{2;Da%$m2q?li~}P+kV]1`E_gGLd`;_N06f!{u^V,u
W7]>+q1LM%~;fvj_Vit%2Cp!+r%!;(+Y_:dyhX9BIUu(`CI(P5(TZG~_v80B^pV^<_2Ft|gb%3,0*C>yj;wp,3kH734?ac]kHctapqyFRjh4Qj]zy([>/~..Hoe,?`h}PK>Ieqiq+BstvMP.9MF6mk
]ho1EplEfO)Cfuup}msy9Y%]A.aV)7Hg7mHs,t6v^[k[PU6><rlqS_eJcR`a*%}'JfNx!>{C%rfx?>71mfn*Xn>v$1znBW:q(3P}LA0L8dmOGn80AA+T>A7}b,].+W{FXX4z&z9S9Dg1_D^wS1Op|K
)lLh3HNg|~ln49>'nG[Vj4>9}+ge06F'zw`SRo%Zr(JT7eX7}a2CdO!UMqzDJPJ5ULVj7.V:]=iKemd7pp4YQ6y(*`ILZF08sf!F;l(O7%~`>5&tI>L']hdKCLD#(q484HV%lMI3Cm!Q+lxrY'k|Z2
V6Jh?*n>sTebn,)0c|?xvYCft=mY*3!NIQmxMW|bbQwaT,ztg)%Q>l/dp,^xsVGt7#hku6[e5`BJ<$~`dAds&wE05Rjo?+[KH]$zCO)x5hmR.NgKcCfAS+:R4y<U(A8s1ff:>FmP:JF/aXUh&H&i%E
|.=B.&!YMw67JD9PM~jfhJVXdv1C8bIT/60P2u9I+_,U(|j%s'9VX(eNVYFsPPiUv_lk%4vc.WZ0dD3TWipT}_]3..$s'?GudVJCx&qixno3R2h~toPG~FRhwsJ<e0/)[QCEA|QJMaRg4Uj=g^Kkh[
d'CESl(ByHu~7hR0+iLew|Bu:TPW.n.VHD</%TTe:0|}p<EkFPG?)%MY8A&z!5d9Lk$}ll$lDD+B]RmTD3br)YUJAOc<T26(2Y{R`[^EmX`K.E$$x1_e*(M0r9)|}=]A!#pb^33R?}P,s$dhE:?<6M
JBvNISOb9YS??XMTOe^F2];L$Yce1%6{{)ZZCj9G/f{L2sdBlV;VrgQ~:cD}Q5<Zd/VwX{DaiJ/I!,{:U=fsAyHI#FN2bYV^Wt4aa7=[YY12MJWqxm>L,e_w[[7ZXw|xl2'`A`c<p8+'du,eIly[R~
KQjBHI%_kY#,`7=h($4|214x:86e.WLLQ.I/^n^X/.B(OBCrEZ5UI|S9si|D>YA8c!tHGWk4qW7h3|K3?nA[p|n&kPx}$SsmBoq%v*dl15W[Dyk0U6K3hh|GcXBJ=b*q,x1m79`0'IYi$Q'YC/yJ7i
}Mq7+^ZfEcu>z3X(V7?^=VqVN+!X$OoFX}bJTJ~8SFSXm~t&EqAZRG>QM#~m)Mt$ZJUG^I2Pp$Sl)nJR2Jr1vUQ>%Q!+HF[%u'^J!V{78A_gy>^nXG}#A<_G|;w>M%$'A{!H.OL#GyQ&WrEm?/?0TT
M8PeKiuXh~*|e6g](JQ|7Hw(8;O9:pbT}KHDh?SknAy1%aoqx7~_6/L^+A<?*i|_f;CxkwMp=r1U010A~:;_0X>FVkGl[ZjgRl`JdrZ,Zo;;%'^]4`i5a'^Z$y+2GqeP9id%mf!T6G2PuN6Q;)Qa*S
)yYVPHr*0Ct.fuJOf5U()3$<]6A.s{{;{':VHUza0~5J<E7`2[EuC_YfPL1`LAU9w<yORFg8j%s|ahtqo2y1xfSY?spmToP{UlU5#kl71Ke:Cw4(Mv2Pl<Z*;i_7JmtQ2XSCp!.1[,]9,0qM>(bjt}
U|#ze}UufUUizz1uA.1iX>`aBnHgU&c|i~.7SE,b?r~R4?PYOnV8T,>V9.*=2OF,YV?Vmvh!I,I10Ul,Uy+A;=`gcBN0Y~{zvmDe'O2^G;,JfFqU,,wGa7.}/3qHX5ap'Nle5?s]GNxa)D.fk<1o:|
(ZC<rz5iEpw<I|fl0K$0v;_&!Q/{)wGvFPkcnc,79f~Q9,6.T,,:>Gr=5P1NBM~C{:pmFEKA$q_?{.4*XF|HDhkSdOAk9Ci!'vzpf*.0M+h'k4<Xqxo#UZ=3p34/fO_MULq?Wv3L<BS!lK<*hFiT:/
N31$Pn`?+^q~~6L`Z>U>$&!.e'|C0$SRLDx0OP:oV+I8msCKym9Dt$:hL:J~jCUht&K6BalyygZ&$A]1pb6YeURs[&~9I6x%.)y{3Hg:BxKaXx3?P^7tdwW:bMb:P$~uQt1Ncb8:y<p][Xs8L/9Sh(
?*cdG}/!}ia'n:#8>vSYOGhe1=2=1ndezp&1s{a;*[[XEmoEY%#Ypzhl>hvM[dH3j88]QD,:o+SGX{ThaH]sN]jx6#yDBZ2fvw5R_t$_SP|*U.]t!o{3I}mJV~K0_#I>;Mqje363EGwK9'C%!H>mei
~ZPfk#.fP*P3rO4}5/PY['[>j/P7cyKk!9~<5mWTMWWblep*Mr^[cU6W7H^O&n#fwzq.{!I,;GY*g?v.+x(=C=)&7mmln]fz$iA?21dn6G%NH?4)FEK,,l1$psyj'b?#>qXV53[,0aE$jl8i+F'HR1
,ye/~X>*2XIPY+odkiVyE'=77d#tEPrN1)<'?B8_*><iE0a^6P`1r2w1X`]i.AA]$3%Pr!Ms8uriqQU3.my52WTU[]K)wKeh:1HikWiTFLWL_F{LSqaf<^EKCW;,UrY*xtzr5bq~k+nB(Vkx<&G%No
1*#Nxz&LTn_`Lnxp`[{^L(#gg^8=~m](]imuoTbQ;9PHgk+r7T$!OkOx:P2Tn|%SgI5+I]f*8sSk8)!Fk]%s:7[E^<Qy(etzN?G>MUmP%K{G]pH1B>Z;5d}?0rl10qEMlJ+,x>^gG)nd;,x!bQIa'W
4z^/^M}f04,ja9H(CGKt6]3/82MVD~Vuncz),4tEXY5yY2qy4wDr;k(zH$nHt:.%)bHnMF6Duj}S+R0.6NtZ{5>iN,DI+~~5<e_:||w]zB7o'Jlw=X'I>jGESI;xc%QWx_+YcV)6y~dSmo|WsEicng
tnf[1G78KfZ8}d9=Lb?F1_f!|7l1'8}l%qlIYM%<;6_]lWRC8yf4}(i.L.D*13tr?jM8YPe&duV1'|+%cr:e%9JJtN8]QB5vp8F&4vL=hN03tfdT^Gj1F_c0bn9^hMU4rVYVTaoM~hf%?h#S}ys|x1
;ooNO[jUr0FTTA?BZ$o4$b:/;b475&>+VmkshHwof92J_akn1rk,~9Lcy#%)+&CN?Epdb_T^iEC'9f_B2IYs$wG8CN7MXx}J=f]rC9W;<LQTJW1}tJ%6{wj'syVC8^Z5$FIg.+alDdkh<Okd]MWuzA
uoC?2Su`):8k$qy[=[b#uU(nO.vIeL=HVlUM}9A61T<Na+OrZvy+(E,CwH!G*/hD0rZ8fb~3c/_B:cq92rFIB'(./lnaC.BJEWD[w)B0B>0,,/s'=WCC'$}M>O4CzAD!v:7hSeB$6n2[7I$oli*10K
T]#mS~Wd;7:Ze!76T+f[;cwwA#<h$>)KyhA;b^q$Y1OGg#PI&fgN3g^w>=I[p{UUd55`'~i'#|TpmtC5HLi1V]dWt>YGAO]>xU,Wuj>_$Q0+d8,N6q2*gORC;DQ#UWz2q*<FPK7cu4T+YO3IDE:V^p
)1ozF'KUGLQ<Mo0cjms4gUOH<5GXg?vQE8d/dfDH_Ye_a3jJWAS}.}*H31IA7Ge#Jt{!bIqpWha~JC3U|^5[UlmoUCn_%i0SiBHPd<]UCnii1Dl3_:GWx.F!l0CXos]Yt61Tru0azrVy9;{bwo;gSD
^gQ+%V`#Ea.0M#b(7cC`}H'9OG'lOzpK`G/||S'+3A/MUJU||Kw$(Gp}3ZK%2%$FhcqQZc+|=cA+qomT[bUo5yY41`%n.E<V7[#e;.al&{mR5&e=fB<$_'*ULAuJ~Rj'JZP.}0^:tm`fT9qw8sd8S`
0)(Y']Nje&=;g?_I30xYJ_e/W*oZCa$b~vUFKF;6Wp4!_S(QzJwj3uni<prWosYDP]PC_LMoqZ!8CRsyE*8cK7D3/(g`#6)84T4'$RFe[.EMl/6/G+TcHrU=UF&A*YQFu.TkNytL]zW>^70X'Z{h|s
X=E]a]l*d$<<18n4N!S|N#!ktS*vmGNLx9^tE~IU|I_aQ?t<]dKQzcGFT,{w.nTqay_W+n!L/:5(;7zq))J'e)H.v1M/_GChf=kLkPv3TVHt2gY_5gufb.NIY'TwPT~H$ywU~,K*3iqKR+Q]e8J#o&
uuDN2}EYQ|EZw1<*ed>_/A]gE5+1(P1Rv3|smrhm0HCj]D/gU8ZOnSZT&|I}VqU=`?czg8OL;0s+Q=r)U%Ya#qmw^{>))&)j!iGk`Fr*Js^I6uP#,sFZsRZ.DTyI)!!/;[bz;IWWv1`J'yfgF5~T15
6P#'w:tPu;;Ct7+<C8V$,1fyHll3,[ZdEtmYMz_n[)=Id[<3=!Z??E<!(4tyW?k0T8+?X}!RvxK(Y|=rZVnXoh4ux0D6+fWqc'0vEqMJW4~{RyW+n)A[gdYvb.}ly[DIzEe3eLn):39^4Ok0p]6Eer
A/25(45~d&qTaz,NNdG2brs]2Y}4rI$af4Nr[*'osptk'=7N=Ol?AP53Y5#aG|(3^tIq./{s4.)GKSJ6Pf;FU1Zi]u?~B_ax(hJUcrjbN</yPeiCGunOpe!XM%21_w~|9zKuKAT%,z}OhA`7i=(quF
EmrLl>E=l[u<(xTl$){4,y*g=/bcgfosS}kh*+8P^4?UU1|,WM9OJisFA&~#0P%4kqg5'K<jbAKFE=e,;2sQW8#8txEgTEW{{uXfO7Zi%c0=r2&iuU~,Sdv4om6f/jag2`8U[g3}:Z:c;$&X:o/guD
BxGSM#(>jNV5rON`Fce%PGeUiy#Va{8>LlVk^mMV[j6OP,~wnaikoS5jtCMAU.]Cb/Q`#UI+&*8mT&cT2X2RT/:yGUq;xODI?6c_U(43vEeZZ<.nNsF[|7/){AS$,D=Zo5{U0*36<i'H^A?0Nl+O6O
NpNY|y3wJFJ^x/NUBNWWvl&1^w&76ms)UI]J(B>xO49/?un1Py_hBc$5X&usLWm31Ll+>4A%Rn67Nv$B+qnx|P#2Br5V|S~KDSYG{}:]aRY1cxbn,/~ThTtxm1Zu%WWci%#WzDaRVOTpAoYuX[>Mj6
}ekU#;.T!aYjPk%Q2CTS)XD^}{j0==!a*[(Z{.$i``<Cy+P=4!J^q<Z|JZ~4<_.,G&%Zd7NnPg}:j*QEzh,?bm$'M=U]+u4r~{8:Vw%IP4%OoRmdo%7GRP.=z(Y`f%6G/4c^EC(_TOerbgmW$}4u8h
y9>sQIrDsT`a7r$=NZEFcbULZO4e/$B|.CYSn{6j|V*#A#D6:S~&dAu$<UaF<A1d3i`kHW3Em}.4tzeg`O=<`k&KAtt_m!?PCnD`g1uX8&,/EI35rs`kPW&DzWZs=XB~i?Q*0rlo*4!;fc*_oPF`sf
y_qyWLP:<G/^m[ba5RkO5?eG}Du=2jfs`h2/.h_NygAB3odH{o^$M^xe0(LM<]V=:}9A/qQHq73ga6hV!&]eqd5BS&*JJ]IS`nIHcq)S/#tOc$$^E5jc4QokM{k`c[m1[aLxQo;c},Iw#UODpRM33p
Fn!%SN#e9`j`|3eCh)v91_cxur#s^me?V:+9s78=AAK?:K&sthviXIC2Qem>RT48T|xZ`VwITOS~*(j=k;eXL`$<ne|eYp52PgP_6`u[s*!{BT`yu2Mqrav~4PJ5UXz.]t?piMU%urM_bT3td:]t!z
|645n/4z]Efb$*p7/Ny?v&5B~wpE*~?R~;o5?CquFqtD>*<n[[%PE+JbBQ2Y9<='&hLRFa^8p!V:taiy8CdM>7n2)zgz~y=6>bLxl)HZP$NqS~)?jvnO^d0UgD~iQ3ck%MD3R4INuc1_c2]>6po/e<
pRcX=}2gAim7iu><3EW3Bf3]*[m|?+LS>JQ#n[K3?'xF6/W#63BHf:GIu~fZ3A5^|X^FuyD}>2PC)DQ0q>ILzi!40iQt{7T>p{,rIfr,G6S+M5#U<(+f:~~jjT_khLm}gQ$5;8%os!XcVF96H'U)V~
xK7S+,I?0'd<$E:%}Sk2?=$o<tFvU7n8R0(W]FkTXGvL93u$*Ugi{z!eov8YEb}lAS*}GEsf`Zys.z25#Rm4<w%K$`=5fn]s!/?>bHowxEsNnD8qs](tMP3?KKNco{[${]:z=XE2r1^(jaNtOF$'i)
UbrK7xp|5qUs)ivbpU]UZDNqQ1vJpRm8W(7OY)fa),b.tGg%'LfZz9&!gC;tnv#9p1X]QnT#!aB702U`*F8+loa#g_i;9?wQLSn~VvN5!RFy=~~^?YUW`24%E5q%9X34bWmubz?^HN|k4!??8OoN.<
14Co?UN&q`!qvzM]41/umJm3U00Ewu'9qkZmX%}sn|DxrdE{s`^c4]=oNPt/%C$87J/iv1~&r/nOcazl'q+IJ]Ol:N}|g529*fb>J>KC^1,$#?HLR='xEhc3H_&,8HM%(B%;D&{elblvi&!Kva'fU<
uvvrTD#&I<(p]r9AhY',{jmnG6<:Lc<*4fi9O9n*54r43Zz_xA|mq|udC;D{>H&D'CJOrS%X8Q=I4#CGRwM|X_%ud>1~IGp?#xuE,jWv6U,ia.iY`AHrUe!Wi40f7d,moGm1:(?knaH_EFa/Dgt/pW
?r|)Vi<z=*?QYo:tK,,ifvK(:5YI>K='j3SEJFS+LQdJ;8VzE!`Xc.+S9H={+g={5'nb|}C]`S+lb`c%N{'I`'&.|`_mcoZtMo[R*2(kWMKTwld)(vA[ke_s);Vq:%L__7}sq4F+O>J=J(/>7y*5?J
`en^Kehqbm(4;+PclwNSnw&e;f^.^ER]_he{$q:G$8CC6pZ&pDPd6]~FZ+)sy(CWH^XH3CB;C!OJUzh+O3##dOGzjOmi!>kckd&J&JUH%uF%;52$5,zT)&/g[qau0E{/=]'!*_#ohn|!;27=2a`^Sf
.8Bmw(vo)/T{89.8s/n`:[<7'EUM}VW47'?ehVIR=?$#z;4c477Q`3Go9ELSL%S)(I#{IO0P#<28}b`p%o%2&&7s&YC`yZx^YpX[74_&;:0]0c[7!GETj_B:`uXQ/bYBw=cB$h6'h#|HLh!!RwVlz6
viOq/J/1CBsa:oUpH1J819b*:uwVCXd.o2&ja_svsj]^TyXSd$udcY_IrLi<Ri3843ZIZ8jD,S'L&ui.#b5Nr>#Pz+'430k/{N|Zo*}2&,j)>v9Gd'k1eNKO[fh'LltM;)p6cM'7_[6~iJ`<AV':e*
WU%{8hLP=,htYQ8>)EEQd:!|F?K]|4%V0Pw7uo&Tx1Vqm6ZWT:e(IEeLEx.^CWEp{.Nva/F&zsukh4MLo:'S+'g)]`%Q:OSFFuT&[4w03$)TinpK(i(,F3MI|bl$+K27P:syPHB>d8?2bv':Dj1|.L
OXKG!!:/5tKG:l_[T=?|29gD1ZT~)^yVUob.upU(pSVT!4!=gF_W|<PM#CBSR_i8akp?q?{`=i+dbcRN$/y|u>%g.sH4$6k;NJ5ye,{Qs(#8{j?txI,g%>[LT}:6V6r!wIck?]8<}}FQdZLHx`#U1>
/wwv9yBQjdaP85]r_+z?F%P.h7uAuVWwIezAr6(bG>offQ0KENU~~BKPAR][2cGy&{.OX350Tl;47iFQ4[JS?S.Y(WJexC`~N<:36abbpL[U6_|IOqErdVMi3]|Jv!R+!6$X:<!=m>BDiNRtadl]lh
iyco'B)EH_mNW,^mt`*uChYj~zkArKU)VD(}v>urJ<=evRM')y5tW&N<fJB!9X/W,s=l|e9w{R'FZA>`]N]Oy!EI;$E^vR1F5<6%K_Fo84Zy:&!7>0(z;Kpko{X[?T=TZQx%z#:!:UAX/j<N90Nrz0
%x<^1AF=K6t[qfA9Y>w^_5r!qEV|:P,=VvuT7LqR,eUk[3cb%DV^d/woY1JYbW)y_5!T=Y[^<W?M+Y<YXk6D},[R+u5:^U7uZl0N8K}=/4]3U8&36U$&Xj4WJztl70Zg_AX0{5bKG=)unfuNMnSRW#
R|'16`i6/5SP>kfYkJe],N}%(dRdFJ*`P#Q3Y{apivA!WMR{1>a*)Lkr];,a`kHdoyQj7b%2S$zLiJk*<Mb&rg/9qabJk9y#OBarx%G]|$>({_m53hzSTHZ~,8(IV_Y#lVXMLwE!q$AD1FX!tcA2$#
`T|XQRL?j+.SvH*$JMw5:8J%cw>|Kpf`cL2?b.in30XBm5bsH^dIR3ZmoLCf6b}2|n/ESJTw1;7Dwh.}}0%FI`IsU0WB_;30&U$$67J0r_e(c>CuGN[nI}4'1f)4l~xXiMtjH*G%$'*JHMWHwKP,3S
.7Gtt,bZ?^bGK)y)4SACt~ohR(T:&e~LH][/dp=UiWoVp7&<o/?`UX3DRn0gWmJzX:?*Gn)?sA?fNG||hd=8Q.?:NNLxoW:^'0CYh{YV3Ahjrms}DYL}htQyTTyxH]2eFS),_~2vT^WKk+L8bu3BLG
G8LkRi=O`8?D_$HEgRa$~QghL`ZVb5>|Kcr5r&yX4Q1w(U7:k,87[I3($g><pO32f&(VV)td6x+hr+I*o;Ks+u[JC,E5A(>qTPs7/;d~30]&?WIKrn/`n>U*A+4_.D<TW8h}L*,em=,1Q9)T_L$,B;
nif/Ff>Ee:D2U(9JjMT'ua6Pw=H0^Yfuw70iSye$Zs2R9gBH17eOph[bz>PCX9/)LNAb7Yr5!t4VihO77I&as&ANa_Z{wP1=!>x3LudF]{qE[xytdPqg<eGp45Xyk=e((~:P<yN,mu^C|jA&U9CB1y
wW3q./WR}Ow!/w^N3aAYk^a|aw1BEaoBB|K#D/T3r$i]9{1xHI2)S&ov'qsZ$*N&*P&FM.es#3VwxCZs$>q%+Ns1:c2S+.FPXp9.dQLb(fKnI:2k+}%YU{JkK)~;s[fW=XeP2U$g)rTK;+Au{^<tvu
s{z7xMq[&iwgih)l7t7=8:3`Rtb7tPL0|[mJ6~N_MYvp8$XpJx%6~mPBDF;~gj52W2%#Z`Wir=HXxv{oUtg.2BZ|_G{_b:AMKmo`+a)UW]9g'FTe'<f2tjn&8:A#8]qw8$FMI~yG&2?[r>#O$Ntrm6
JWdJ15xsgI3ZV.q;|HtdsHbztMM%A?;%zj:SFs4xbz[0Dm{^Zg#T~[:''|mj[vUDvT:A'H'.B0%t3t`O99RE3#?[Y;IpO4a2=YP}Q~[}c?eNC#pP~g0hJ`8]euI'zKQ;^NV`;I/AY%I2,:cML=X^?x
Hc^F(+/}n`Rs>!)1'c2D,9v!:3<|]]hq<9Md5&;;khVYPQFh6pO)R32,hpWbHs*s/Fwnj;FnjT|8}W5lNn<sH/pj]R+>f5qJo[f,n!7.=9O*dz_fRr;?{'eLv+:s'NTCRr4k<#LO~D%w=R.8Av}FMX
W^}!0;Hs)_kgUEIr)3gW<HIcW5Z5HWZR667f^n$IX(BhVp5z,<%E}0VN/2^jd7kwe%4w7W~c9T6c`f]VYk`A)j?+y`ZoMqQqbW1)KyG.((2D;w3SVIJYuk`H[3{A7c%VTR}i0N|Z^*%*M]5Ctm,eX`
5}r=bj.+(KK%cT+Y)19:E]N`k)8ns58LAOZ:z,./Gn$[t7x(,ep;GCk,lgnCbx?7FzyapmAk^#9#FlRK='_9uVO#'+RZD(X$aKy,xV]PJp4NYcO}0*+k*$,}g$&]Ee<vsAz8P3mJT{p_7v+7([2V[+
3>&w$Zx:(tx+?;_=;?:qF(HNm8Y_L?M[%B+xP;t'JFISSN)8AIY|sxCkc|j;x&1`?:4FzPy:x9xh$(J<F^`4!'[W}qm=2g*wzUj^:,1Tvn>]=cA8<ufC]&*15f,EEZ`r';TOPk*|ZcbIZx]M^>?u8[
]9j+/?uLl>9ci84ZY{ldvyH?k+Hqd_~M?*'xFGA?Qd>kzl)j*3|2)=ps0F,4gK]>6;p.DzJ&X3iD7Mz!ENLr2er?<~5H1nbP$}BXZN93',{FLYjy!{[||9yez|hl8$y)BbFZA$X8W/<1VTSrW/4BHF
r9>J(Yhx}^XXykp1G2hM=bKo2PCKOqI/jkx{;S*zhMNJJk`qdB^hh9daeeB&V'Tjv^C~J$f'ax,MBMk#50Ogs:m'F8>1#oM<%FFT/GwA_7P`o6,gc<cv[GIc_L24sY#)n1vrMuAM)8+9]4Doq=vb0f
|5Ryy^9nY[}30ywB#vW#17Xdw{IF&gvYKd+wlWY/&:a}>9h%;*(/(pjI*V:uopsI(HPXl;%nj5{A#D5|{ch7YgI9kpi.=(1zLW*6[X+mHH;fJHgqJa>CClV[H3k}=nS$Q#maaHq5xJ5?h?1q:sr3,[
d_S$`~2+[][9y9d<`g^q%_'PQ>7EgKL;8L;'R^En:ZPM}wZy=5]]V_(LLz4H[=NV?uZ?3?r}]Wsyt1#YhLv=[,xm:<E7N5ey7fXmNjdN^F&9b'P~buh,ub%/,*?E8J`)Asz=~f'KvpLx~nMn2':=^U
B;c3X]E!=7p4jz~0'|Ha2=pi8GY|]gns&q=,qpJU4t(6>jKDZ276CfE}8z:a':1S)31?jvaxbrQTXdB2d~n:gK%]:Dj$i&R4p<#.7c|$CN/S.k9$X/]?[$lM6^g}wc1xAQHaM.B[VM<WFz]|)0c*+$
tHC)rfZoi#A<JR$My.'RLN,OJRSkD#Ch`o;dbRCN6D?[D%GQr39(Ol[jsE>Kmx}nb$^_F4$#wk/kTH}ByGb1Q4vlx.eDkxi5aK,ZHC#q+]}XSce[!Yn??ph6,.R]:3WO,SRQx1^72hi1nN?Y>61wJ5
u28^Nhv0HkjIDpIER3vEDM4hs'a]jDa*BefUDtdk_1ZDT|$YfS45o,A|pY''t`w%ZRzTRAWwZ_Hxd3NU17D];/WIHo{>Hnz[eQcK*)(Bj`j5vK#68y'A9F#r~2^0bMn`C4]YlYk2Aiu/Y[Y1cvTP;+
yX#WbQt?%e%hNi(tEqYq9(#]l:FV1%oEv&j:X|rLRqGAY1?E*%>~e>rnIx?YMfzH$5'qn+JF]NlCfTBIFUh&dLzTN?5;t6d#EKy|R2me*+%FUI|2.f*p;{2^!&9W|7Xs/!>R9!Tg,yjFvqFr+!7!(c
8|*P)UXUvU{5UNE(2kkrw;y1!U/JOSzD%|Jac`6h+I5QApm)Iw&`s,HKEkep3M't]YD0MDVC3!t/>!I|/|mibHaWY^<`O<p.2YmD2cBOl}{8zGZ_x^yg[(5=u*?2QC.<N3}wc6[sc$$5OpR3NfkJcR
PTV1vtKE!^A{sm}%L!{[{L&}Git05Q2suI;bP(u16r9~U2s]8>b^m$4S+=s>zIJqCeMA~D,_Nhk8eCoQ[*16FRuY>p(yPJYTeU0PS'U{,p^iYXu[6Rh6pWBB'1g<r,(TSX8m2,v38*dJYTQP]{j}Cz
dvfsML;E<>_(bfy%g&l`:y%^6[b2+1Y8Ut$Lhj_E<c9l5MS[/s8URF,;}LOB]4b!s606Bne8iRdzcPZ'DRQPbrhXjF%QN9H4Ln=OWN8S'5#{M$5?=zn1d3{D(A}lo>oB|s5Y4O5Ad=PfubmtajfdZT
ih7v.?W?Yaq~GeTR*<+i^Vu&jjR=?*w_Xl?a7^WY:nGWv/6]7$8h~!hMYkJ0<OeABwQ0(nj[,`{*oYBaX{K!5%Yc7HL3``m3h+Ha(LJ+xMlr6$H#5i^6>^>d*bp(v~WasSNj0Y.I#ZSs(n!6ox?)N0
uG0v:zOK?02X/UH1=YN(|t<2A`rGmuG#M&JyoT#9q?;;JckqUE&^J!u7/E.<(Si$Qcw$7(`N%=IN&{D])_A424Lz]cAICFuBw|_W!M3H_ek5Y`wh&*<gV2kPD`Nh]Zcah4h[&:~f4!A8QRG21Cs`VP
4dej?Id%&3NA/S'|r}TYIaZt%Tcf+Fa*~hr^Y$TFt}D>I5YHc_M;ao04B2PFp9uH=n,_f3MUZo[tdutv4e(N'u'EN%:zgCO?##jOwe/zB5[/w76>#<rgoYDOyW_#)$mN]BPii/koQ#`epZUngM%ljs
NKYhG?e7o4hh:I6eg7j4(cjGLvZk*|lcM$IxXWdq.*I6%p[yk5:uI.Q5^a63Xjp_!a~bai6/SW;5Y:I;hyJLXtQ&0dXf~3jUE*;{x7m*z(K)a*znQ:4MJWPoh.p%F$fme9!Cj2z_LazkvRv7p`yJSZ
C*p30[m29d8:E8DznH>Ly<5MQ:{mup{HyQEuS7,?ZVs[uieqQ'=_xSKi2kSO6(BkZ(J<J!_n]72nU*8t;z.lng)Yny6fTFS|Sgs3e`~#w?YQC'2Jg;`nj5H)Q6?x|+c?xD[6fgwvWw_t_QS7VxE5j9
BAQ'PEHzY{[EM8$e*J;Z]={hMsmlq'hS26.ciKXE5`?J&8g#e6uWi~5Jy|]TW,L?Mlz(oc}uOvKuxNtB4J;Js|oZU]e#T8jV[m`=,pfuBR7ZiquN$8]zKK.heN&oIhUgVCyx>Pf)vXN5RgdP+|,X|P
g7sRS77*q^k=<>D(r'a7J'p'^d^dL$sIYo*~_JfrA}<X!Gc'56t4`z,v_/=I_cw0f{Pc*0t#Jmxx?)GnBGJ0/5!6W(f<=~)n2(02ju>re0LQLZ=7*7(dQD*KN4ZBEqw!&qlrDS7>+num[|*N1(9C+.
7m%sYe&jb$|fm;8|l%K:I1nv8vV!gh:;aWOfBk=Q*uedzCVG$PL*.U7hx%6mpHhc+eJ]}pk/ebI[}rj5N|~vMF.?weg);21mx9({gRyab:oW[Okc;J%k(^61a8ej72'VcqfZ;Goz~`Ao#Qf~kwlpN$
e%*~Fj]_Cz9N|HMV|hei%C5t[<yA%P~s.8Q(S088#3wG$ePNbAk_dJuPl5AB$e`Wya9kk4WmZumd5N)ws2S3w_Z`{vpoIu;jzzMZ'#DOCLfZTI~M%81$=EF3C<z9k1*;Plvt_=?O7`/%9BAx<(<|E'
:/Hxw?^'6z=CsBH0oc:NxkJ1R#+ncghe]I}FXQ,3hF_3!tb<il6[*u'1Szq*WV`#Gt!kD9&O.YD~(;p$QGBTQC>^pD6ZUjbdQdW(~V3:fDzfy2bMXY(NxSs`RF`QyH?niO#>MH6]q?B?+.3VmJ:#>q
Wnr}ZzJSZ:Jy#;?D>iH~?YR4*.?p0p&8X<2|$jjYQ~d(SRgo/}=6X#?=%V;GPTX`A`cC:|NYh,F^&1zMKEpuJk7^B4f`UG$GPbgmd_,:D2Uscm]E6_)Mj'F3rIgx9bnq~4<8/rm&y719KarLCjCZRI
4RsNx0ykJo}03zPR7V$}wV)n)rF4MrjY*ggE6k!5_+mN>jU;?fE'1w:,9)ek|]4}8g<IleYCoOT$&=hSy_{=o*EPrU((VtX:l$)3T*X9WdE~SS`kPz,&kgILR?H7<Anf%R16Undc`6ju<=xC[v]dzD
p<D14c1}8x{mGQ?O^>DF[L;%b|~{Y&1ccVyrBjg>|ckvTmvPJ%D;Aq*3TRg3%0Pw[DTvFNq7o^1|vA<=)^u;6%;w<bzU?WcRx7!AD}B0R#F'{O^?HzoY!Q0n3=V]JR(('G?e8O#o/MPe]g7Ci+,,[S
[v&t>/PQn2x$KN<Hf3YmT}{wj|c7WrV7vKTp$;EM`&Wvxn;I^#tZBQ.QkJ!n~p}![A'W#5#j>hl,'O2+'J9nu97qO428H{_e:pS^Sk`Oy6DFA%$SEC5LuY{=ULHe*sdnE[FGHkprmFf~&+5dMWCr1c
q>KVWPZ7=m<K?VqxyUBV88!jOqOu:VU}IY`[6NGEA#|T+*u4859Y!s_i8+'D.Ordnk&jtI_safP6&+Xv^p]%HC6H0dB2fSS~:>rnj)N1mP]iE[`U+Nni#B3VdJ7UsOP]B3P,t,;Ue4G84jxqFHf6#2
Z)eiUoCk_aJX9e~)d}nzMY{5ITe9i_CxO#km1fqxtV/X.g7e/3kB|*Ah6q0dE84r+9A>5U_HeMxqR$[_M_^B<4:fZ|E?gkqic)*^wg2&|NXn5l&Ov82}VF34&0t;:77RvWB=s=$Qe0+($W<!=nN%m2
WifkFXW;;0+0~*y;~o6:XP0?}%yB#?e^4zL0>yn31EyxW;t`q>0Uz9u:)&]bTF~hfnPi2|4#M]tz35|)oSsw{[T=xGX_(*%W2?|v|usaSP7Ucbl&#m:DsJdxz:C/$#gY,wHsMt5MDZa(lJrn3PzSFu
.IOF}l<!Akp?etscnf!:6E?sFCLqvvig0ngL'%`:wnHOXRjQ|?*Ck3D:Wx=:#coH~COS3?k'vv3Y$Ykt]La&4N)dTI[Go>bCD/nqL(Ad+!Y53p1*Ox'D</[~,+7&|m.u^|{DQiwjNu}+7wLSgWcUgx
R;CvlR3X?8P=nDm0{+~]:}U]pWW^FuOm}F^%^mUZbc3O[B/msE{Wp0aTUKwd^Y82%lvq$I.})'Vf:I|VhbLA9f5lG4vF1Q8v;,UwTi/ozK,u*8k]Z$3L8?8;4g#s~CDd*W?Gpk{F1OC*#!k/5N9`H?
~EY)5F2&'[;7oZz(o$Q]FZWG[d~K=n)oYOL,$7HK:7Dd$~C;=^h?^?r1.)>0STW40X8KR2yN/|E6;^$yb6sU9&j'?;BpnHRSeens%L'`#u6{{|ph9wst5:)e$mvn~S__Wau*qhbQN<hpQCGPb=h=;/
J=DsF2^^+QH_#altr$>:_!ds&bE{?KJI~yf.Cb_m=,<i+V7x0W&C2L,aMs!5&O~E5E=Nm7Ut<I^FRzBcCx}Dn5iBtFLAQ]8QGVhFBl6$x75DhcXY4U0&2l+EGFv+v>ZzUtk^i|IA8c)19}]n*;fVdt
S!wq`fhtW0DNZ1]JYwjZZXG~L4`abQ{udNiKs+vr*i~mhJIpEb)QH&&=r{zPDBS1%`|+L(){&f:]~b4EV'51JNm_&Qxftvvp06lcna|PP)|YGVKxg!}jON.9X}rttVsMn|%'Q4'B?dgv(IjL;^X^U!
+~s4Njd%31U'4[u7'4]X&Nl}X;xkj`9ahktB>9vH/^fM2PM?iRVCWV#:u.C8:)Q#'w+1]7'ql<805S!L+/K]<>7;~TO=dSNnZ7fErv~mYVV3^:W#'MUVN<ASLmCtPm)5lQ2YDq;#cT3v`&?sF^}?OX
+XJia{9`,^(~h9k+pPC=<8c.aigvACiCh82B0:O%'4?ECT<=~{]_XU2)I|6fT`EI[)&}S`'A67:2tpyt!N2THE0}{)f>XambkRh&(_suLc4(~~[:27d]8g/[>`6`p`)M;O/#F[.d]L%*]FWVEn<BTX
qIIY7{FAYgjQoPv[JP|Y2&*D|1j7Ld~`9xd=<VIrq`}+q[`>5S'5A65WM6Gft2~:i1t?&Jw)F,!42QCmTS#},fLw|P&l'h}i4IDRGM`'W2b8a0Zo%;260s!R~<Rt{.0X0N:.Ry|6am$H3`26Q^O0nF
'5E}U$k'M}DUgh^]tPR3hMISIc8xI6Dbk}A:EbS>JF>T__,/sGFU:To4Gf&ud,9^F`_8]C2/fH|$=~JNsWwW]W$qjN/>)W`(x>5[C]!$f/|40I,7zYJ#e7dhA|,G?0C%(%#E{P<&ah|X&on]iYzeaE
7Ejc)1qlm`2LX?nSj5XS~6[){IYhZtLi/H5{'v&4!yU`S9nrwdx6R`I&Q|zL^[4lttv5XDnjwrg]ai2wcv9%xCXi%+`?&eBzlS#qFO(&IE+|EzA,K$N}Ga$ozHh^eg3Dc{__~1R!fJh5Esd9L)4>Th
5_TivBkR4<*|PJaG1u8S+{zsvnes~(~n(F]U.)A,Gt2NfxE^i4Es.2A'Be63CJ#d*(_T9:cx0'}j;eM<JRy[nIzc9v$98.LO30is/gx>e7}Q1g=g)5$~G&F7/`+&k8Q/Z;`BD49c$Hr9^r9px*kIhe
]okF3NGfuA`g:f3sfk_|Jc5r|csuN)*V$7H5Vle5%2$gV9[US8CPCQIZ.9m[Gx&8DyRrN8Nt3HU,%)u3_x4*ii~EUSnX>.KkWA9mt.yiHD+oHL]+g;`w^e9!|F*.}87Y;$gww#rfr/JsyQ7E*.5=Yt
Jg.]L9z'/gG(*m]KF:<13gosx<~B={9?s,:Z=scQ00Yc2?Ju14|?2KiJ#FCvcie(lc|5Sf'lVW{89D^$i~SI4jI`]_ZeSp~BkEW.J7P)(X_..W%x9;^m1A^6|N$VGDSb6{^))^H4g*uk+%TJoBk=A+
H,3fF;^c`U3AqNA;ApHBMV9,`cJ]L(L'sIcVW_n:f?}^R?A[i!f.!Y*J.SXW>`6o.heg7xO,_zc##0TJ2)yQ2Q$XABb_8K%S<<a_;eEZ4a2Of|*<8,qAx>5We[E2jhHcu&B!Q!)RIn/6$f5gIa,Aql
YXpJ<,'iOX/#X3Fru|>g$bAR*u4402j~rtcr|_M.F=)>&?ueu}N6(oo_MR%a2#:J4;gK*(]4D:nyGU#h9gyM13|'1_5SK3[>zG),2(,+NcQg#mQkr{]4($Y'OiwUV3D*K#`9IQ7gp{Qh:^%k3uFt(v
:GRBEx3e_76M%:;6CHtjC&;TQv8}om%17$Jjwdq+;36c1,z).|[E(~}J53N,f2cb25!,y6JG%Yly&VBR3;fRpO:G_nu_u:U+Y>*TaeaUN?O/vL7d]7]7['`z|fAWcfOIsv]|,l4LyUk_njGV2XFa/K
q{PSyRPK=E3Qjaw6LueElpZz[B!ckw+?Yk,{iv=o9r3k+87XuYZ]iqZ888W1oANO#~if>tpSLV04%~0;+0g76Tr_FIa7<0&D<d}83gO2$r~Tx*OjE`;JLV|?]F{dXd!(cg{|)3TP&&[C,VXHTA&o6f
(spKm{;ICbfx[D?%;kDDiY&~hwIipW;<Xb{]]1uz*t4#Dx|VvfJ3})j>UOS+d,]t;~9qyOAN?hcMY3b0%juZ6_#TpG,<{y(Nl4>T!1+.>*='xU~Kcae9_(h)1Ho.=!iq|}d/0xqD%!dJm=!vLJpoKa
zN!?mp+.V~n|k`KfMnDihwIjwPn2%V;VY6F.&2~b/6v[G^(.uJv97t]v?T0z46eRZL0+$ag3Gg,pqTahMUh{%]=}k!XPmOTR,I%;xFJh}tLPmV<i;WC/$Gznf)m=aJdo$23`PW4e*El]nu|(E.6n%b
)?^k}IDSbxQG1GP_TL.^$C$>h<{Ns<yn#DD8ilPlbKJr[hOJlt>3N[]>A9J_k;{u%%[d<+0pEuvo`ozlsZu<o0s0TRc}nmDD(Tz>gk2;2.:YFcB$1d6cv1HGxP!BBgogg^2+8O!bG#b7U]j|A)1aJ|
(nR=OO8RQ*,mlTw=NuDR7fHKH,9l)Z8ltO~OqnUK)tGW#]dBYz*uX4g`o}RnAwawpsRZVX>#.h,=.sUMTOnt41Q+jC/o134iu>/C_KXKLd6`Y[tpU{?}A,Me%Gi$wajm'6%q}C#Z?n!FZ{3/%hz7a3
^t%H2{/7^5LM<$.T6w`onZq6N)L3I%XEz:eKd.cgB7p1FyV{Uy{XX}:iF=}8;i4XE%t8bQchbFu`88MD{821fgw`O][:3A46H$wC6u68UQ)y0zfT3/*>ze.h%Z01M~gu0l(f9WjZx}$g}lTDDQlf'B
=K+(<xF{QZkZBmRC|#i>!Rq'fSYc*$iciY5]*;]:U4w0Qux;`e8z:T4^8%:A3H=$YjRGuHDv+2mjzeY8'*F}d:J?fFtudF3;(+_vh'./w&Q;/H'Kl5+)NLbcwDLHs}8p5!'4NE4{a0Wz==3bT|JWJo
Y_~7<P{=Z5pD[sHBT`fn0J&YxWg_/PFgciPWbk4q1(,hU.3%kKITM{xD!jbc/;m&soxS7NA!PK,4*rLo/=}V#lT8c;mIM}%76`{02Ub=lNp6#$Y&#Mygckk82581q&*NOh+R#E'h'+e2<oYH#&F&6o
?{=:,Fvb4&s/SCix3T_F7R`07kL^|pZjwqT1;m<?;h<&%7'2TbqOm/032b[Q8(}GUb7_n7{HVf?omfn>ItbYlLeZ0Ml8}c]Q>1yxX_0IyT;Ft6;lNCgC'ugqYzea,1z>Gqv+jbCCRbs%'m<O9(V,oB
J_e_fRp}J&x]e,>'TWlQ[Svixlk3|%gfI*uULNvID6mf%iQQLN2.Yw/5*mSUH~Ia6y/#(s_:`4RW#^&F~!Ik~r&.VMadNMi/Jsi[.de4^]n'aRz!k.hcuT0)uxvc[!.;X}'O|.$m{O*wWj8J83a^$=
`ts,Xx/PQWD6z<68n;C6~?~wep$(J$ttTyUh:1X}FY)2jEK4yOt}UW{Etq(gMZj8`F'vjK!7cT8|z1}co8vBd1,c#J,^F5B=PM3|!<(YMan[#ot!%_%}uxE1aB+2W]1al7So2R6x5Ez9jSE&82H0Dd
=s]W;ZFJ2~T<X4Q;7HQYAPBS.f52D/S^f/2JA<x[?guR$'b3l|,*qob(lS<.zjr47=EdNqc]Ck+N!H9V%Fd&a.9WL&3+Uv3gLl|(,Fc6L=~??LpmHu{xr{$cbF=(v%y%c7C3hzzV6_Q92Qpb.u%A)5
Q$e}n[^[h^k9Z$%|gHP1%_2<XorPr(.mxIfAAf_XM>u_F)^}GCcEyvFnY'O8wFF*jaVp~P3TL[&FVCBi_~f3X:TqoWliUtFBgv[hy_=~/DNn)4hFLq4s:9(s$|jy?Fav=4%,/exCz5p!c7oumdu7G+
2/yBLap2PCI;e`W<]T0>vy^*chN'&co#Mz:JipkUE1=#^0h/JO[bPoa&k;U,N7,MHc(&#;YDDeVR>T#N8ROTXe6F]a'.3*}k5/:'Ko(/Bsu#Bx!=o2cS_H}%%D'5<7B6Gp~I}4MnPoaxGb?Ss;WNq0
bnB.GV1[TKn=l}?_?SEW>2/5ahclOW~fGBlb<DZvvThp$:},=3)8^L>CJ9+*$_)l!P!}#Ki!64:$`U0>%[u#>W,n>98mGg0B;1~q$>*7/&QWl9v[/+|]};p7zAD+%tCi,&KiNN0Ka$:w.iFT%Bv+^J
UK/>q2S5Fr$1YQ9NzIww9QvrcYe'wr.SeZzai2jc#/yV]7:C=(M'C{bFUbhw3+yfl.Y4+JDb7G*:OIy=H)n<0Nu=u~?(EloOSE,''HjIAJ]AI>P.Wj*#;B=U7{Z,w|)01leI&^xN)w)w88%DEx:C5i
[=K{Fj{Y?MxE<wuA#Il/[DIW?)5q#7^MojS7xE(*NE:!X*`5q1O+<[yH8+4{J'v15;*|M/5I|ri(J6'^I45)+X8lO,ZPIA)xE2H]m39V8i8LKxd>PC!jN|c!oT,B{oUgnBLoz4]MuG2f`OQC{?QBs$
TINW;L=~52;,HC3gcSn?<_5N!MhN06vlE5&ok}+;I32P+a!n{so1`z>.2`CU:S^Le7R$>rjMxOGF!bf/e.u|xrnuh}9I6~ZHan6[in$H$$t(GorBdyn/B+o&qJYQ[AMZ*9;CR<&oJbG%]C,2I8BUB~
N?]NV~)T<Y]SR9xFz<&9*=D?.q4I>&A$:iSH?q$93ck$Er(NM{FPT?a=BM3BzdaIaS:,83iqmc#mokER#I}+<,}SI9'[gh?Q,U=#5:j7n6R&1ne,;RKlfEx0J87jXNo1EjGNe$|w1w1Dv:wXAVJt;&
xiJIWe2liuV=hL}Ou^5)`9ho!6%EHN7VBq?uO;?v>{wkZ<Eq,K{t&o8MT#Oxb86x`gvc43m>}gII)|U{%x0ulHmCle+E$%'7e$arBXu='/Bw{ZqK/+NsGww$x%h?ik9GfwVYeky^V0MWQPlF#&~UbA
3*P9MlY.8'xbDc<:Thcw;)twM]l.>s3wupHYl4/0)w#d,Ycs.NZlQjzz.&1u5=SS5o7vr(~;L>9t7q2/P5%zYRx}l%loHXYNxa{WJAHDj2Pv`%_vWvqR8**6Za+[rhrV>c#^G*n.:xXT|Rx~{'$0m_
z|afE.=n$QE/n#^:GT*!#+C;)B(lmJ3Ha5></R23)zbEWzQ%'kFkZ}OIuzgI.ck4)JMq|N;^%W,[jQT>O]h/!K/hrk|wwZ^%s;Xpv[0m_P/ek#U~Y,xG?`(F?cQy;m6T^gjlyE|o)^p3DQAwqydJq[
+:>gvRhLS[Pws$JvFqE~ckHnn8)s[/jmFchk8=,roper|urtTgE<Qh4r82iLacP2>)8F4{/.Cny%BNMi{Tj+X,20qY|<Erk8&f&F:qn+(+ZB[lLt4}>i$j$]=mBbd;wkx1I(7vMTZtigtRD)mXEd^a
'>7Vy5oyk>8792#`DL<k.BDw**9N/0Y%an{LJk$%}ueR{1~T7aWB3_s[Dv``W(Op^F%])pvRUJI|G$SFQdoTu*Qo<4F<!enZG<tq.Wn<5h`('KuJqN#S[`${*NQvA_%<_lAx$*J5YiuIl1KcZ$Tci{
i&'Vh<.N6{TBa0f3x[l?[$1y0,nIq2eo^:_'u5MJzaXO[Lgz5?Ikk|8PFWNNaJ3U){Sn[R)uB:`bx5=w`{>|y8v*+U^cAw32~LH0|q;las#[]GGRn,(p>_wM.mhe1t8t_bqQZ04Fb2,^KtwwQQ$KRJ
L'd|EbFK=f#!z4jBIr`aZ2Cyu}82/pz0'V=)^,d<$0n%:{NJ(Cr5VR)_`7{3>rLAs3oBJsNKv[t};rtQk0.{Eu/YAU.BOUbf9:soGek)DTEQ;chZ6)(C4VA2hs/K,z/*d'{mwa*14;?G1QV+=&DK(C
#R&jq<!+9&E$(_c&gLpJ#0OB8~0s&HqhUp+Gw/9gO,Np%;3zZd,^pgDPtAAdXHEo!2UM]};ZHpDNFGpWj.xVcna&dymM$g:FTxK7uIuU}T'NuK51QT?X`6m}2nOc%/)fvW:Z&v<KG1)%I3QXHTI#TX
D>Rc6RYP8j}EfZ!ic`Pfl?Wv/+Vrp./REpAp=*,)^'tpK5etQIhV,*SJ!k[Ln6NiNt]_4'L~~+0hyO?K`MK_~D!|oS[eaD1fr:16d#m;Ag9L.7htb4*4${wC^CWp2V[Z5XROoTGMp(|Fv0;T_uC?R.
,5tQ~<_nE<R>8$c,OMjwr0p:6Di<j[8&;&x|5gwUV9NzH7o_#Q7o(29+J%'_Xo4$:&HmWki;Fe*_:QOi7_DT|CY#Khi=g&]VL4CkL_+|r19EEriie,K^>%Vts)BlA];CHk<d.<0z}.f|Aq.0i!VZf=
Hj+Bg$e#`;WSxDlALlQDR#kRW3lwF{;M<9.SR5/9zbmuXMD3PB%daI=t'jWyIN}>4qw>pkE12_!E?L8KZ5o6kW<TwdQ$5rn8wADb~jboPz%(!hz4YJi6<?~Y7x<cd^{Hr6Lf;$(TrO=H><w3fV7*B*
O?3{4b/|4R)e/?x?YUrK?9LxbV4lv~2y2SDk|NQVAonbW&RaLFds'JoGh1Ts39LM,g^s6nJ6?B~P:8p+?ENmIONfG<b_Qu=Cqc=z0cI=bigwS]H,,=E+P;mU7VWo75fE|TRw%k7&s=#wX|;:|[yRuD
$dw&F0M*:B7Q~<)/3WR>VGxQ53/+RxfX&Wu`T.4l~Hg[ux(0al'xPjlzPWPa,d7$c'tL4I^HPe1j+&qKa_T<Xg|`qU7mvT`VFB>UlgNvi/8aAz~:mP]d?{qzKah6L,q<;L[N}R{k)$xDFSs>ncXzo*
e_VhMLsgm$>|D/l?7pV*(asnT+_*:I1F3|'XhFR}suR%sUJq)}Xe[FXtZ<fZW=$zw&F|+`F6V=p_xR~%dKglh!a9a3vM>2w+$]egbq{6l%kY7.w^6]npO+mfhiotyGMxs!XL;Zjij~N*YDg:^T0kO`
I|s15p/Kp0'Td9TCt?p}[GCMFsFnDzd_1_^DMqt[7wh}4D!!Fhh2V;qdDDys1!Cs9CZI3]!>yzAVOi9t.`E~(7<+tYSR9oXdE58Rj%1!F`#RHkiIW$lNUwM35kL8Yob^Z$|m?+hMLi*[0&/[Gc3><i
Yw0;G5Q1|g=H~MdNVnLimr0'=>?POSE[c9)'Tv3l|&u.(I]`U?<Pjx7/^>4qcL~bqu[)&+WZ:GD1[TToc/Dim3('H~{}!0}bLTYRoW~nnlxGG$y_r5!nFeS^Zd2i6*IEn?]:(uGKRt53kfi9FVrYO2
)wUxh5??E_06KJTV8<2PmyJo{g=.}^gXW)d9RA&=~`c$$7hj8~iC31%sq;hStA_FA.?|!0j+7}Le*X%M|p'x68Tk8{EKAHD)(0`zY8dFzviosp/CW[qQ2$rA0q0*`9gMO$5'+4lO8&*49C|eD,iM`|
8LjG*`(5wS1+AnDsT4N?:|EpU6c5DiV&*tk#))~0N.)c!3``cRsiPh.s?%C_wLm8I8x|z>0xD}q<5^*.QgJLbsAg]8:`)m%:Or.i`vDIghhS!;EsaqaUr0zQ`E/k=tP[f#`//v<^W$37~}3RGrzZZq
L|Lie2&t/?+$.X|xa=XF^](iB3Qg)Q&}.3W!*hiI&e/%nJ`zV:TJhPg8D's4RhE;>sW?,Wc|J?3&UAHA{4LAz*pSk{`=e*sJ?`D,7vJ.ZMQZaH20r8a#Be:{rGVz~&qjx>ppe|ZcBM4zzkYi`51n,!
_)M&;cMRI#?}{(3H<H$KpL;?(J'ivMJ[yG%*eUF[]_a8.`z~v;A(Kne0$Kler}#x_3~/bHeWPy(i[A~b$dM/8ewokZAPEbb+50[$ITIRVz:PkHf7C+OrAshSH)*Q.=M<o~`.T532UHC0p/k)+v6S=!
`8F8ViGWhg|`b!vQ)gO3*x'$4O{Mqu]=jZA[q1(SfC!w|Nv#IPWh>.)hfXSLYK`Ap[B(o}h)v!aB3E!NTE6h(IL[pl*.B]k<1~YXD}fq^Kx3kui1`)Ot<q0d,pNp>h/BLtXMRm&F5nx9M:Va[G=LPH
c5{o2[UGc&UKcf21`)J`X[*(spxvXF&vKbh6o(^aX<9Xz;rvO#(fZ#75C=Nl):A%CZt_QIiT6;3.?Sm1J}c,ao2+wM_2Zx&^s#oUdLwd8|jhd^8rV)JZ#$Jo`Qg,yBnn!/V5*!I|xz&MhwEO06A+Vp
d:;Z3}+V>&$;VB{TTC:Yns4n(C#mEv5t8U<aYaRG{%iTz[^+l.)=s3uXLw}aivGj&;%2nPNGjVz;6l|''p!s`oIQE96K2`.7opI!^'^rj,rQBOT[#kW;/,e[;lz9TAcN*Oet|F[8W%PCQQ?Ctyk,$P
Sc#9vU%W,Fihzvb[^+fa&|QYy#>jRPiBfx[$l=~DpspH_&ttZ9,mvlL/Yk,3Ou'^}hmjPT5kRaQ5Fp2O0ncUSwhzY(MCLV.dxvEqtRx;aQ;(k.K8pn0f~groey){3Q~%DVrPfWw0^)s:]hDGB)%PU6
}(0H5`THz!CU_%lNXwg^B<6g^C63($7mp3K[8ZiOZLRL^Fg*b10>A]PrP4sM#.ah|>~8*^s]<!Sj,ZA,6YK^j=qDLr2TMB&8/ft!NSGqWInM=J&B0kqm7{4qEdJ`DDdL(XK&^GX?f}!hr&|1%Qs4L9
tdj;ArN/JiL`&Ja?yS}uumyE_kulya0:H!6Yqep{wWRDJ};Er<2t&'YhQFp>A3I;2`cP'84C33SLphyG<):hj{1c>)qUjSUScUztbA$itOG54.wmojV<B,D(0Q__zz!:}/mhgvUvLs`t*SMK*;CNWL
+y^<T1K}X:{GR/E6,MW`cKn82o'P,c/h1[Y,sPl.KyqKj&%p{O3bEMOyl.*sc'xo+ItI=ZAZuu;QTf%/f;>gw;b~2DL~4fwL4o|}Hg*~l}C#NG2LpvUkpl:Z0;nfa9U]rj'i`k0!+n*8_.V3#Kd~f;
r.<mC|B~+K;Jc&#.4d0M>/J;xc>%Vj&n<irx*s_T%|vmD7{o,y[p/HW!;MJ7'iRR~'p<sZ[sTIt}G5'`hG=6yeR=,p:cD~*DD2`mH*2?.k/]n,gYk(8R#4p*Oh#I1`eL|+OHDrXa`AaUaC>eF:ZZa(
ar|s$op$U$:WFAHOqzimloi`wl*^}B9Ujr`toZ1X7,QNmpeMGVX/EaLnN)OzbPOBIX*H(oc'.~%~,JD6O~Z%[6!]v[rG(gfz{#n=ueKO]u,,$L7ioEyB!GD{sM1RV;Ot[fzCX<E1V`;5G>/o&_M%<?
6KL*<iTJ%Vn5+62et?hE`4VtlXWDl[*Z(#55ce`[9WXW'j1LY{~(EK(F]|xu7G2iZ3JWZ]X/w=V#(_>c|}v'Q?oVWNP8bwb{^,+97l_JQ*$mSx|yGY&p>:TsmO+Ij0s`Q+rS#H=&ySVky9,dt,P^}M
9I>oH'M]J+[+U*FT#4&[185D0T)7adOk;H~35W35c|^qv&5~Qyo^9s?Eep5Ev+]M^tM`.R?26f;:$PqF6u*$7XRHxEWu~gYzHC|RM=`%,fk!`T'q)7>^rkVKSaYWW+s,xLN;em,g5:DK)vd]MbZBNZ
S}t.Htp'KpBMI)(zc=`$c'isjuZ(mBF2F8%x`5UR5%ghb!Ss|F~%$,+P6=sL!!!!!!!!!!!!!!!$:^Z2B9]Key!!!!!!!!!!!!!lA~JhVFQ1TwHr|*UlrwNZp7I>H(l11cLVjm!:g%.^j%V{]/yDiG
Jt?nMy^?^S#XJ:>.b.HF.fioN|vVLQ;t)<CHvTo[{/6')nbTj1%(emq~Cpec&tyKq'NBbk4Xv:7bf<}*.}lpqb`sCDNzMkLkp,`!yJyP$C*e^kM81J^0u=V#)NkZv1.KtO;^CuhB{mQAWy6lOHPWGe
~m9oPjcp/].m;|GP.oJpPBA=Fd]AFM:$PrX!Gqm,af+bq;^O;liM{E6gOhBV^b#n?t)ba_TZ9_<5W'D$?72L0)Aa[#?%Jx#^x:edb;JvIV>StOT4[QIF]9M;'k;!n32~|ZbLpvXj6w88x>8#!S4TCZ
8y.Y&61Y4qL(Tp[wv)i}_6i+l%4N{1B:u=EtjpUJal{ws9pXp0jq`MEh7[vkpItf=w*F[NW^q8VDfYwz*2>$:x(peEc3i.:^JCydet2Y0oy;=smuDxZod{atf}hX_Y7];)ALBoC/WvQ8!i;{0vL49Y
l2K/*kqQ2x/]d2lkSQpT+9zy,T2b#:r>SKS0Q<}Y`tiL!M,5#z>50P6j0+U|uLis7V:8i[9(acvqUkJ![h~`r:gZ#jm$*]IKsmHp`R{B|8;vo$um>d|WM37{'K%a%o<OQAcp2:jr2J8gf0*Vkc3H>}
vVMbk0QRoC(Lq'IeFM2Z_`m`wtCmFGR'iqA(_L>[a_rO[s%(Ivips?rP=v)w8q]=XgGWR1X9LV5:j.0cvDwGo,A9A6aU870h{h&tMU^6:HXad3a#xsg%WXSQSKpxI.9yN&m3Beh9%kvv*_F((LeOoN
m1*`C!`L_)fQqQZ_u[Suej.fFY2k)W|fD2<Gm#$bxr~.6%kh~b^N[oslV&buVQb=zBUEl&PKbtB'>WNHK!SS4i|SkKJ]$DoY_z9rHREVmn]nYF*AE)L5$z]Sw)g]Fh)1y/`6fq>*z.P(4cCH}j!Tiv
JIq<2C4`HG+VVoPd7r2[(YO[0N;ZAJ3:Ikf3C.Nc0*'Y>FJ,WG/75yNNhrLDN#4BFcCOS:7[.W~%tw}8O'U(o'x^DlcyAOw2f)K=t0mCRv_Supm07;V5:1^JRPV0(i~!U(`Ylp'xsHUyoBESi`H2cu
^#B/aQL]&nwC[MS|oTy`0C|!O+=7[J%hiQ>AB4juyB,2{GXUFg:|Qv^>&:Q#Ao5a*c=L>M`d4(HW$#Et{hh3av<d9^h(jSfnP5IQ}wXcMVVlgn}:XE!c4[,iHV2dzy82X5](s1?Y'*=YOrY!^7cE<A
Fltn.G2v2<TxwBNzxEP?u*C7E2#KT(Rr&h8fsFJ;tMU7&MEtsb7SNTIO/VJ|HBh`<c}?!bAk:0#(>6$u;i8`0?eu`Hq/aq0Zs#ll[fW9j9EF.8ym$D#+WD#//;ZT?QhTFF)x%YS=}f:e3*zFIhIS;B
l7Ki?Kbt$d+>&UkSj}doc3<s5/|kF7X_%i{kR6gpM480sc,pa^ziw[Myk&ZK^D4:py7Yu:O5Oce8AU{;X=#i8CB!65RxpwaA,|O.]D1Oo6iD&,}{~myVqTT#Hk:Cu&>aD2&/7*w`ht92vgbKNq+;AZ
s';,u/;pD#VH0K|FNm5by|<_q9dp/ec;lZ1C1rY|=Juf(SwvcR;}FAe=W]}`#][VuX*{=EZVC1MULjeP&{~]h|gJl4b64:o4yyq:7n8=scvvTF7,TA`GC>DL.3yKB<Qf4!~]P6A.}Yp7Pg*66k6iYI
gV~LguYMD;H;CMNlxI5qOy`TZK#)TtrX,d,;2Gh/E,J`KlY&%i2:h,O/if0O{v$<448|va<DUhoTC'g{VeIGV_dECG_Sj//?~Gny&Q7+};+G_d=;|VwC?22_/_&2h,zN0ojYd%3MNFvQ>Fm7_)cK|7
8z*#ke0{=QWvmIdz'kUC48P{H1.[ZP;VBSp#|g?:'s,K&.8{(h*`CiG~+kg)Y<,b!o=VAcroi#z.6(%FpwK{TIl08~iP:R^ZNDFtYrNnj(N+/NLvkfW2(>'s%kq,K*OyJ5u's+!ntBjpz!J,;{VT+_
L**O{ky=_zk1>xU`Lyw9wugS~{+RF27ek0c$s|dZKBXsrVdQ1qZ$2<B;5IB8M[pJunlMGi=bsO}M3:Tr:6yr2Q8U3{K$l6mJ6>~]=pOjFHGkj5(i|1}kcemX}f66EP?Wi8B#7kF(uX3{R<2?.z#aS$
b!Q,AgjMjVE>8b}O&PTbaQ)hF054^Ny?E#bYraPR20.B3(apeik&LUp;_|k]&DEvGT$6Q)$:cf?s3DMxKmFqnzF#G?j2gz499,zQ5eg&:o`!PR^Ds<~zD!MBumsPHCaY_fa|UYMTH8SL}f]&imb*?h
s|Kl4H?k^S6B4|zcC{,,l<(%3a}drPO>S=MOBHkN?ZEz&j=7h}z?|1RXo!?K:.cQB*A$*/uOx4eftoQ$wWg5gYXWDkQt]2AtV_IvQ;J(bezQ/E1?{l?7m.&BqBR4y>Y.FTLS(WV#ya:jv{z%dvY.4P
WCp?3i;6;oy%v}JxS2CJRl(Sa%sq~y#U6J{='VK}px($^S0i8zXvjy7(xfGCL!va0o^2jiVb>cdM58JTmY6u9sZ<2FO%tVe8`6P!O5]r8FJd*kWC>Ttea4g%Q4H4*dz2>*mHEs'_2S{ph'[u?nzM}$
l8kR>XuEm7KhmU=M9_4%|W6Uf8{G[[V4#q)T;S!&GW*w$kvz8T%}q3WlAhl|vD2hnL%:'#ViP7+;BUpF;R`Mg5<)36547Wmss)ZP]k&.LK0}(=G_v!WLqQEgw/'Nc^<OOd!!OL_vYxh*3({PN2xUsf
}jha^g?Y:^xfB{Qw[3tgNbo)44|26:oQS'm{4n(UVHA!DA;8QJSaQgZBZSPGQgUnoQS9#PlxZp|m;3A|4oJu=U*u4bsb1.tqZ7h9,J[5].M18sE/=.0W?=G`{oJX?^pufKwhWw6Vq+MC&4&%gjWo9r
t4<AV[`yFn%>KN'^R|WGg_Q|E6Qdd#x$=Z6xiY?,$3bU!bMD<)d$|BUP/N$k~4);uJe/FVnTSQ1/[YBaQ?~?*nv:XWeO(Hoh=rmpOxO7l,^C*oy%TJ.H_!KcWPk14E8<YV]ddY#)?)|juxIt6Pv/{K
j3n}K2X10(n.{&#W3X'q9Q8n%V,;AqT0+$4p=p[.G(?i*]k6RPhoY6uQzoq?2N?y;IZ7'/x/5so16Bwh7gE(m#gDd{vg93TRfdhyqk::C7'I/ph_j}Kqo0}u=aDe!I*tn#fMr7kZ?R%~?`(&XKR7[L
~E*ZoY%8xSQ[f=&c*XJD`!>t(UDF*N*m8I=FW]&zIu;J.mOGH8zW|Tt*%4Y?1~LWs?<%GMhp7zy~)*=]~WG=eO_,$oBY^*G'b/|a.9%'Ec82on>4HQ{'4!`'?DlA&<+UiTU=_s&oPM525kV.T6}{2j
)vaW<TwT0S}/p$RiUVP'e=gISk+#},/,S}qa/~5MjZHDMvZeNtpMAY_k+7c*}Cb{/*ARy>CM}AH7V+/9/XvTTnBOMoKT_M0O!~)k8{y#PbR}D}!L#`,QC<T^aD#{F;uxsd_#+&!8[(OJM>Q(9f)$&v
0TYXCXuLD.$brh][8ks{%pz1c`lWqWEg^)Y2o<OG;{R>c1v148kLrz#bOl>I2~L_5oNPMcYL:d;/uMOl(>v/WKl*7Vx!}=~87t^vmK7dX<OQCI'RQ]tj9EXTnGjdwru1FB$oYTwwP{xsw*&Kvz+dGL
o7|f9dH27#DaT~N;['TZIE#Zjn>z&MRf(dQy>27i80b,T}#{zXR40nt)4q;IWJ/ZAw|C%L2]rbL)A65_q3F(O/Hegz*$=ADFCjdJ4'HE%GIiz)]M_'$e+a(&OzT{ivf/&>Y;o<(0HSzQIkqX7u?tN`
&0glNqhTKNH>~x,?]^mqCOOn`/qO)ajD!a(XCQ?d=$xs=E&TNBB}qg*hLRUFybmo:'3]*8JBD8aG2^7H*VCMSac[Pz%OIWRMZ#32!;o_llX2+LMsY`yuKKo0CLl9m9S%Z[jy:Q9b[`=/TKR.]/mDJy
0`t~),Aw:Z5_ULWNzjG2mpF(vWk83cF#=9RMi9*^0J4AtDZ}xS`jwq'L+{`/19N|bgEFsc?{HMrYKc56q1>S.30.v|%nqvMW]FMb^6d^v_k7[:a!<ADqXt.18(1<vL=,(u9Df7YZ|p,O|8)2%bI[(u
[_K0.Jw$81t0|j1/gu`9rU?zqJ[}1zPY4%n:Nm:)(XZ}A.):Z'#w$0E;pD,X4i:v~gMg4IvpD>D+9cE=).C0`Zlf,$1zmaRIy)`DJ[4hQ}<qWE<2ZqEnD?c!qOR3IHk9r!&}e{=aC~cWUo`VRik^4k
ZJ^FS,xkhr,&n~{kJu^H,^+]^)W]$,d',R[Gt?7SV^iQ^lctc6i&pAiGB*;1u#e#v=1qQr;`SSG)E?1BClfW,#Le[+s#.QR,wGCiNPT/H1I`YOXe,mG5sA<eHZ0%rC'rB|{LQB,moPRl1S{)Ap=fyD
<,L/hDU9x(g&a?Afa<X3d1RP/a3qdWVl/Z{{[hvb{Fa!<+Uc;N$EuYONkpOg`7_~v9L9WQ*GISs2}8WZ?|qT^^xZdu6BtwcfSolhJ0[E:,cP^c&.2&xZ$`3]gt$f$bBnC0y|ekan[xL}1/]rL{lO7M
gB5al[>wq$|bhuw[lD_.c3+{7cS+Cy)Y,d}{}z.2r`>6P^^Eq[A)~3M37*WaymT;!D>YP)2'~uh2#(d0mFb'wZVlk0H9UBJISTUk<xupjt>Ir,c$rGs'<Wjb0ysmUo:,+)m+>]|Ui&<%>!M+FC)fH^
d0F?#*XuF>j5aH==iWqI|tC}44FT=[K^JJ)1d[.T9r5*_IA=E`[?MQGu9_vF{~|8:Yq$TFYma2Eo/V?0T*f#[bKFcB*Pf0S365SElhr:>O5},m$|{%a9RQR'5|;WW%M6}(!CJDs:c,/7%p>(tNVvr~
0Gz|=&(K?Q<(q3,#KSF2U:rFk)2^YvHSDyye0*NVqxqT7;b],u+_a|>%YF+K8`:JtFjb!$G,c{G)hJDejQmMub]b1bz/*XdV^vZJEYpS>K8V29b~&l3i}krf'VGgXTLDjJyLV3=,tEg_KAsYvq1{mB
*i;i)>{*z61E!:3Xs3>^p=Rwjv>Q/%oJnxP?^7/4Sk*Y?OZvCe}OFA^0%|H6B4lVw]?dm_5HIA0>i}$;5/wtm&SOF:9eJ:ty^vzNujZWHL8HiNo7b4^ty5k8f=;q|ybFj2OwGuVRX%s6St5!zBcV]9
/R>6HgsPVqf<UA;!FLyK=ZY;?2if#~fIA[{`qK31,waHhfHTl[Vj*!/AymwHuJc6}Z;(T(EIigW?<>DPtWs9*M^>.&8:6x7gVOh`xB~U)kXIL?ZraJpQg|i]o^%oE!OpwkVcS0J0BAerY1&7yvsI^]
Bltjn+6B`8=E8XWP(Ty.l.i4C:)T'//=_lLs=|9]oAj~bK:3=cqO$=O3LZ03DYw;Vqkr`d5R}dq^OwA((Gg;!Hf7`)cEM1*U2H6Li5/I3!/:x1QKjDa,[Div`3q=uR!3UTLF0fqe<,kCIIBf,e4ibo
yZ{GB[F]':lBtQz0].wZ5W`p&{s8Npi#S%zj%?5qW{1Pxf}'LI':dbx+F'VO1V:RR>A4LbDBhPJ[B2)BFS0zR8=O5uf2F#8yIPSb0KpKTC&gWB4:AgDqj&{O^Sm7ZB)8lcbPU~?tDgd]3jT*?nwWd:
%+R^wh#_1v3wJU3!N]f6?$7e?0<Q2:1S8KLOA~^^:6_=Dw/!8Wz.K'45>n,PF)cXl|;LtLu#W5wbCuATx(5Dd8E2E#kQ*5Z>GDl%^{By6d!?E_vwu6u`%w(V2*Q5%d?09[z>0&u3Wfkm?C?W0{`:~e
.?s64O>Hwa>F/{DE{nwE2eORg|I!v5o0MUb#221:6#'`6(xjl;$>Gzap!XH[g]yV&%!G)2lRKi&lt!yWiCH~a]|oQ[ZZzzrN}+S^=*WJqXxy~:d8^gRA.S5ATQ/1KqtV6FL})}FW(/MWr6JHz)aUb!
#mg)NZ,xq'dK^Dg1{6_Mf*m,yUUgjw='cc5b!OMO24sX0HS,'*19L[s,sf'*=]$oY%PvYc`/a7BuWjZW+u7hx?}kdbK[q.fCLw=+&cMC7z%dW74=p1v/cWWOi#}<:7g;`voD9tr=Ow4bFa5fnR4%$o
Rw+~bxVLZi9rhXM/qiXrCOtxs6I0QjV}nsHD&?L<rH##0y9Q!P)(reWDJ.p)quy4h..wR~r($f/?]?fA;iLC=U~E%M$P:FXX6o#[$V7~yRYghm3^GnnhC+>aDar?,BfNEa0UIzZkniL4|yC.4VZ~)e
IZpZ`CxTG&C66lhVpsEpvIYd0,v1_DgfJ[b]U$S^;Z:uEe~Q~uL]H6j`60$)jP:KNF~)HzV^(fUuLMySv}$Q<?ML'CAqT(<wq<Wt|Of:5y5V+Tb2+2y,&m$gY<?$KSu={$noA6THC9xkV?{V;(l22T
)>}1=;(w_>No/_fk!LL6s:Kq=?7!Z2>e|mt2}UQm%>uP0ayhl3}r'`<prUJelH%#DKZ+13;W;+GJnj)(s$|GS`.+bUe|M.y%Agd*+RC,H'C&ei]|lY<#]N,cniM}`6=5az=,y**$yNAt=sIU,<jm8L
RG>^#d_ci}0Z'GSAd}q*ZLtsnjU!gGIXz!yIw2]16c0k+qh^B/*%'T#l8h0'mJ4b);EBlT}7%rpMEMp;6$_u9dqvTWO%?(9=.3.(KH=c5zU]Ozuv~4GNq,Qc4j%MAj^]_}F.f2{t.}%6wC`$S`xFA2
WK8jJEQ}KkaKHID*rim(1E!$;!F>HEjR|r`5T8rr,gDPPJoX??/U0,;AdRtpgiEnx}6T<MGz;T,fIh?7LF+8e8qSCr,%NHJBN{WVx.#,giqoZ0HEp9xi'%J|g1}{[_xi%/:EE5d4PPrxmT1IbROQZI
9m1=g}<5sVKB54=z+?dr2M>s0w`E?8;e9G#%XMvm[LZbd|GjjWlnv^jGyvnp{!~:l6{lySC[9+&:L'udOxzn8(j?ro[M7YhNj=%~]_0AvAX223y~,DQkn$gFAA(ZwhZ#t?KxB+<kyRMjp;v3[pymZ!
VQ%S+%xXpLg|M{inF''t.zMwC)L]Iz})xwC~qowV},,BWiR,oKHLyQ[Cu=XwW3cPe{DyGEGDP;Ump[nrcT$Uyf'2Up('mg|ktNH7N!yH^}]rnW7X]=MJ`!jhs.uNOKXN{LSq;/I*[a9z}58`zF8!NN
WyXCCjvLN`]RtG?p3G_$^Ig3rVT#to|1z~`vqKr3pgNu]pVac$hUX1^bL:rtw1N<]4Bg`59j4L8,:5C.,J8lsFnwSO!U4#h]5)mg3Y/dn1#3wV?N(9nmpeH[jGd)G&1p4Oz.o;V_,9_*mgR4]Ut&P}
xa[f9#bD7l3azW5#UcYQpDN_AZPx#PO_h8X]*,Nc[wkxs5:fG'Ph_M_l}C~B1;bf|ETGRo%_sFtx4<PK~*Z!9:BDC9zs{hp4]hAW7I+j5=H'k6vc;y_Wl.Zrfj#Hgk6mIR%8=]1KX.t}WrHZty4QK9
3Vo|(d!ih<iaU{b&qj;`D'[n~0w%Y]skNo)o?F{0+==eBm#c#3MA=aPQMdyI=c_5e'ZUz$]KSD6N>#u.E5p]?hkPTSn^jzXc|b,Nfj?z2`>4x/H^am>bb$O+6'KX)S45##f[ecFwY+/$JQir#I0pHN
!*~mWabHZ8r;>[z!%_tr/O0w3#Ok:Xg{)(;3doDL.CmXhRpqw16HMC16K1Or/J14?mbydK]m2=VyWlfv:(m(U1~VIasr%l;5d?oF#m>EG!I}|ILmflEchUyBH4Jdu[&/lt]<ReLfZ_^%rhI:j})#U<
UxG*V|?1TU0RB8`R5pV`Un8J*S|~aBfLV9QwHqz>sw3ti;hoZw:iUPcUTOKlS78mOuF:N2208wFPpU{/LCPC4YIQFICf~l+pX_e9EkSNa8$,K(EJ1E8FXByMU1'O+eY5nv_!+0oi:gaw,Uf?XeUWeV
Y{F+m#<N9nLw,oV^v&%.uPq]EU}GY)Q:X;EKOmsBo*43`{B`T*d.Z8OX{q*,9M`(ai:}Hlf)Ph6`;:R7lC.`;j$amFSUcBax3r__#2+o&kn2Cyt+Vp=h681G/:+TXW&br}a(.%InC_S0hOxLE.mhHw
6LFslTnSk{P*y;>ZL7nF[z?M.:P'KS8$x%/H<?x9)%8O5'`?$J)p?ml7s!DXZVE.})D8jIVU`zUN>BG`Qw<3Q.Dl8Yw1Mj!P}gtHX.oTsbKiZ,3CsN7X/#c&<=dbXayZnZLqYS7bzal_Z(gU,n;0V}
A1x!)*ZoKfFZF|<,NMA4*.mUtP?IgS}WYWO,:~8Pib%*#_pKdw9!h%|{&d|`><%jBRz[NB*=K^a:yhIPVP0gUF$9Fj(7IqhOF}i)F68$R'M^^pk2~B0,eBmGNdtkL8UBQ/(O++NR/tFuMxm)PXy~Eu
??iNrpgXbI&7xL2na'NH:YQ&T.04IAQp|TzY2J'HQ|#C?rOT;o8~T)U|M$rwZ>R>t6=5<$6t9AN_`^sS$P68bqYw74QDX~wU'p0#z1+lDhx{R5gF&k#mjU4.:(W6$V9)B##V8yqt,GN{Y)F$}hUb>d
qymMUDT_sq:LH<cUS)9uXj*>r!3|^q<_mU6{W[~:R>14$BM}!K+)qeG}V^18sP<'Q5H%5xjwNMUpA|MOSLmvmTp+iN*!.C(pIlC>Wgf:#W`W#b%FMk.NyTOo;2Oi.d:X89{;JA!1YY<$5Xn#7+jnx_
!if)wwtr#m!f:~sw/GQfx&rKuafV%g[Cu:|2~Gb?an%#kqksxyL_$/Pnxwp&n92qF3p~[%14#Uxz:+XcMr.Kw2&:6Y^rl?hy4x>[,8'r!P4'4o%5QaW:|!nILq5g1CGlZO4tiJ+=_(mcer.QVOBTUq
r'T3I+7yb4it1G_&HrO|9|*=H|,(q]QxWd,[4d;]hc)Kbo,~?'r0[}./#;X?FR9j6&23AfqB(Hd^N9Xuc%np;dbaE:1zH13Q50r2%;#|jl$p&h.wjcfLZ2[>}jd2>DM?sg#|_F.x,=g]tV.B+z<e:!
($CLK*F^&ECQR:~=ydCyrD5f$b196M4o#nxNtDgbl$H.'#ir5c$C!Q|tTE,N:])Wn,BA2mZ_Nc~R;r6WCuFEpbs+&k~wbrO~>3+aNhL=jPGg=LpE*$K~i=%{4/=`*{B9A$lISOSA?`.s2vQ}Giw9Og
53>K(J4R!40RkmK+[ctRWIzmI3b)L4Xg8_:/jyLQInzsUcOTaH0LvY`yK{Rx:sPTwm)Vxy{P](KHFlM5,[^CX/+j%!Q*TARA+%3,r/FR]QIBuyC*]HX+4pfhrpDM2#[{6e=)U6})>v+7z&M!edB.9y
!#XUo_gfbduBOIElDWJ1k;svGDA.0n53n:>!HexrqVQ!bZWzDgx(%W1y*MaM01_]cnIwH3#S8qq?ej#CBlzT{d5Nq<%+LCD%5E02pM=M&E.=B7RSmjv4AC~N1rJht}:T$~1]>fesghRV4GQP_Gh:?N
MPA4_iCZ/l:wsj{gg9Jqjw=bHu^gb_/;se6r.Bhh[[;{~oW'Z.}G#}O)^L&3=fV.4%2s&HJhw5GGMlHxU=1c3C_Ys26u}jg'Sn}N[i~&xqS6XddsBFj[3TnIZlCG8U(ud6pYoXz.r~31FQa:qg9[yi
R2sCzM[KTp%er5kxb;W90bpiSz8J.9Se~zP,+xzay8x=tGYdx7A>]>^N+A,)`bJgx~'kZh|[OjFc^fT^ChtSeBH{S#w8;>fEZ{*6IbTe&[M#'&RqT_zhx,+Qunf0Z<$xI%o44#G{fs]2sjJUpn=p`d
rU'/mT;F?06OIx_8GJ2%B430?%*q*|)NH[oft4AIM3ErON}e/nn}oWhU>|%(Y;4BLT>NIm}4xQj5}D!,.2(1|S|,6D~!aw%GWe0JXG~LRqZ`&mhsgGEn?0P[4%Luwv.P`eKisf|SFQ8iv=CE?ml(C%
!>t[+1:Nz7c*fv*8)gN}s31t1obJgZt~;:5u,rVT9Pi26Jr}6>GE*7hz5B3K7pR$Oi*01^DcsTCCh5I+[yc0`X5(f]wTz*wT+=:tuHD|,Nf2f[V5L9LsfnlQj8]2:cOO$V#p5W$;U&]JPV|wRKbVVn
&/dpOZoM]Rc1&ci=cPx?XxfsHV8&a(YoY!o_N.BIP_pXa!,t5..CW,8(|(s,aXJHFZy.=$9s/o#6k#X[f5pFFu&ZUG/1s(>_rg2t?Bz?XMAYp7~J4oNKB/LJl:Dw#5dT0A;lEadt<2p>$<b3!Z`>1S
)u.%RrO}*/ge(*$}CCY=j0xM.c`(25Z+$dt;H]#zl;]c1BuspUZO(w(gcDg<BdKW*Ygtp>?bbf|%LrjXr|1<Zb&~j;L}o85NaI&SvzW~+)8_`3ziqS1K$h5Gi{S.'J)OT30VJV(8)URuKv]#24KlQ?
(xos;t[M,QTz1YpSk'2U9CN+Ue6N!&glF1{aY3ceJOJ*8'Bm;t3?6O/R`_%Fk/o)G5jLM;hCO<((2L%4u}fMB8T$t`>C?Qq6*k6zIU?t9Z5ICvs/s0]>xdl1vfUS1]qHf7<lRh{?AZkIGs+gwx1^;_
?CO~6b/nZ!n&3IeQR4NXp3A:ZV}Hgx$.K:,?WC:,IcquAA?y9ClfRhyv`I)Nt:]&V5];]Q(^m:2z3i[1Q+|8lH=dlrcS0ys(w9uj}x)seaO|^SB|u+krMb=ul|1pqg2e,Y*566[29pw/^_Y(4[~3T=
,}*K={nW$)N{<;j8w>{s&B$Ou7yP>4{Yb|Aqu7eE?<84d{$W}0._l13xrIc>~u<#u62.]v3WB>?Z;sAlb`x|5_S2^E;zb1n#ecE.H2U4OnO10R<+;|Jhen*2yUS/'qi|hO;uKC(p.gn}t?;cNxy%d4
Uyx>fmFqXVgf|B;JN_SSS0IJi;gu(BPlRkxj]n{uJzKBj#4D:QHSI{OB%QvSCsj_%bX#k$ta>/D#}75X]1h*mapE}3GT)Dp.3U/`1Q9>sqVNgA?%I^69`i/.};>KG#+Vv|!6QH5%=R'(C]b7dB7v~&
aQ)0*r]5oKS}JZcc~gv8(,~01*%1'}d4gAJL,ByRa]ui`/2ap'5oUD,I|1jObYYjpb$TxM/q*el3<;!onoWb~BhbDLrGKa{iIV;?Xzs.l#%rlk2nq}.>](G/}2j|JhKU]]`}d*puw[;Gnpy.9*wr+D
tGtJhR9,vkv$r.n]r/2o1e]czZ12Omb`%he[D_9`f.t90SDnE)7.jDsU1&$tM$^!AAi92K85%d8v1E.j4MG`e((:=q!lj(I,pqPdd$u'y;tkY'.'4Q!}b=Ex|*{STIgsL2AnU&~y$_sm2Gr_(PJ|Yh
X(h9KC'=xZ.&yq,'y+NZeP3#|SYQVT3Ujsn6XE(RksBB_^s)aQJOGICsO!^3a'm:?0u5^/VHE%$K7xX(,,]{jV{MzjnxgMCfy3NFGwL,oZ]#T{~$;N>.cnqzPGFS75wk.AlLL5dUi:M<WJ;Kr]U>|g
Mf*7*$oJNj[ZR]({]z]SCa1V]bM+y)E?QzjhHtHuW$9fe[.s[bLe;Q%EcD{ma(2(Pb.~1`cs|JC4c^_MHpIXIjG$/ov2+eA<_q^1^ZoL,Y&4t*4)v/5A#:hF3E&5,;e#P9>hLm]sp,u^,*6=A(^Z>p
Z'[>y;wL/<q/oAxuxGf9guL5XPGWiMf)?mhZA{nN/4QU}'Ta1<sEy}+h?LkzNv*lYoMgUWe'S6GgfS/|=hdrE6rO`R(PfflbUjn_Ai4;F'Gf]ZaD3SQQ?nJ5+z.pf>(6Uxy/82a8)Us0G_Rs~lz7_`
b^`5}_S2ef_<Bk+_g'hB;`Y3ox?M|ht]e4snvnAIGO?wF_[1<1v{7;0O=Z8gXngpi;n%|#ImO+#?s$k]3ItR)?N4]u^Clj7#lz~w3l,//%~1i<xLd.$5<.k/Zv|&#p>4mq;&tm8I/kHpk{A07$<{]I
reqz{rLEwQWju&V2f9IKac(p5[&Q17vnm+`PCM0^5?'ogM`+qs>CybB3|gO~|h?4%!W|ZWI0>v]fL,e~B..C*MCV]qb3AX31KqK|u5~S)&#*L']MYVvq0+(jUNlI)1?61$5)<Nq']Ux>V:`28GA0Y;
;)ppg=J6.cJL0+tV$Cd9qcu!~F,.Nc>~y1FGV*6`MKXuM.LEH4Ba!v}>[sMe&EC`&S$0a#w?7s2ToAFGa[/J'J;+mzl2Edx_$m=7O)z>e}j!48(>7!Ze?!=cri/k.]P:I*PZ~3].O{Q*X[ssq,Hx)$
*}]*_b;`bgG09XZB#bs35X*,.fn0y;:]<A`%[nKh)BUw{pO;#nE%&U7zHTToQ_OT27(:GH53L8I=YVOVy{J';]CL(E*8v7BH)~7*=ep/]EG!NGt+!^l}bHzMj7[x<..ro`tnov]jJA+<<j31pKL2O$
l|[YaN5fC%8OD&C(F~[M_]dD*pw>U/tZ^YBi(%i~E/}*U9A&7*=dehq#7;?b&(`qL`&JemeW3UedPT.%AqmhRWD=cJNT9fz'?dfmxBDnxh+WYvcZyP4Dm)s_Pli0lbFH295pD/loj]?T.X,^*5=3'b
q.bTlj[y?Znc:lGj9TfXqs3C9*5?(o5Z]O<V3%`ynC4_Z*U_oLAiyo}zgV]|MMIbv0!{BXjOhm#&IoO^+&0ceI<&oS#yobB~MY9b}1rBB:J:JqZ<Goqu'=r{F%<?^_s{F9']rH0,vGO!EdgO0lbwa~
?>DmCcj2C}8(gI#9cteHqoUn[r&t'd0k#|0/O82Z|dq5fowkbBOqmTVx!5Mj7.`j^<(](w!69$r|.i!(PzOR?mV)Am=jOt)AeUD8}uiP}0m0wHwCYbjIQh_x/LLb%hnkZBjqJ^`S&68epEnMLNou<}
2KvkwwB|]Hut`&]h%K>23x^gW#+Z3SCHp!hF4y+T]B>Cb$mOEQG6vwKzh2C>;a,QV8W1fpPh'?f:n<JR+T7VJ{!T;D)pn[{aV]TQq,OzaD`bWC;iM0n<#bGeTg2sUJoK`<<E0|hn}fp,39xx?LA_O`
pVmg$dltn<,5aN9axV$C!iq/TCtrn}TNTCjJSd3{vcx)e=3nid$6$v{VTWZv.Z[)<B}tiST~|(8#EY49:s3U8&`W5~r.sM)q=WnO24eF4rGlX`S05R0P)/^SoYg.!v41{+HZ*67]anuVy1G{8]I^0}
uigVi5tJN7kUFX)QhI9QyZ~dNp^#};)gdf#)GCo{}DA^I=ZZ5OLw6g;j=%;(~&mm_O%$+#C|MVi[cWXbe/</vSLEf!./.y+CuUNHJ8ifpKRBeZfIR&Q4!,}#Q#NtK.?!!!!!!!!!!!!!!!8zv'vs^F
!!!!!!!!!!!!!'rG^!_:|utK^N0UqOGpZSk}[kAhT9r7gGOU:ktfento!!!!!!!!!!!!!!!2K=JlA]&?R2#CPZeE64ym&24|P,yim04HO]iE/7(NJD#bB6ZGEX<=VXh}b/4`u(Vqv$sG+tOpKw;L+=
4MJKm,F/CKY,FfB,dt(5.KukDl6IUdm}P;j+n&,n|`){[m*|6L6A'pLg[t>m1MWco5u!F[~W`I~'nwM>uh+j4'46,(rD:V!!r0kGhqznVQF'P^antH828YcA7x]hB.~l#OTQa}dq.>%]|}tJ15F2:f
.0RuY^8z}bzU|Zy)8oHrC%W&CH8(JLK^Wi!T!,)9#q7FRF!4Wl}B/p8a^Yad#Ei94d_)ST0emSwU1Q(P='CbLV%~:sJ!,zMS;bh%=3Q!PiNWMN'w_1*AzhTF42^&bhsy6,]zj:K+`a&mcB$XuQu^M1
2QLESI`V(wx$p.43MRw;uOz%vGf(h7Rd(iBxhM|9m/#hbO(>MGGM<Z[qxTh<^kIL&uhQk?BvC20u#/D;sI>I5Y$mIrDR5i;G+'<wh!83SrK<$Sk9s_/*^FBvJ8>mTQVkWq}Kb2Q3{$lEMhh^#>!!i|
0O1vHB4S{{,_`2PxoNp$lINk#V=%=QXE$t|1wl=W($2$GnMm}G]y$zfsQ/wF^88[(Cvij%VTvWDirA}RY4(U+c~%|Wl/L,b%;'_'d+*S'?<{2Ar9!giW2?+.Tj:Ims,jfNUy'uO2DFR'09h_*g6NBa
>o}RS<_N}x{S}2q}m^O$#t}t`E<7X^>{Xv]Mc)Y!PGbGswYxP/:uOd'H#h!E85AoY=<fmgp,G10N+,wP{ZYu=_aCgNBl'1NMMGW0bSO%h%qM[gy&'#DY'We^#?CMG/!mK=jSOaQZ+oCiEEQU>IW+VU
+J_~{b]eq|2[qHxH|T:{LuBz?BUz[6UP:*g]5]6=iS=pMWAjzKnph)OI6]+S;%K9`XQ1#XP2yI$BZ>?CAFf8BGO2bOcBJ1.1ncIu^J+?0roBhHR}7^P9W.^~t9s?_vci(cQpW6#U7`T(VZ|!JD&pG]
c5E_[tok:ctJtqDaV6j1WhcYlQ2cknhdwh'UB2y+HFve;.*dbDa4o*+*h.`%&s^p(FFH+j0`H~;p3ynOLl*hfOUP:K3+p{!]tewXIFXS)RvZ|z,!wrz*NPI/R,m_Z]E0b^8UkCBBO%M&rgvN;5I{]]
7|Ce`>g:xJAsP,;qA)t,L._9qDpK2ABng9K#9^vbzlE;1f64_1e!O7vSDNO+qvulAY~bK]GI?^EY$0_VM*&`3tT)3Z_$^IH2j%VmM4vSd6gOxuf[gsdBf#(De9$)!nK!Ulcnu$Vur5Co+I1vCEK1mY
ON0y,j`o/K^34.K4ic6{/D>u|9w/~1!j~0s[XbUo9op,yg['1FH7Z[^08cPO0Dw%~f2JIvHXaC>{qsT:fWv0r{|/oMNjl23W%qb;5&;(c'lICxJYEF'xf}(6d[RDhe?US5eJak;Ab^moKXKN!J5AJk
1'i4KwB'3|&S;71+()?<),*YQ0y<%#<tEPs4h&PZqf&,u[>KtbQ[Rsf}%7VA0EH5i&6M($j:vi4)<DuH3*NlzQ9rJcwT,Fp`:spkS]gni].9+YSIS>T%ba=hFQUY9[QsNTxS5:Wb$+AP'7co2quf>D
O=cPm;>N)cZ}X=xt6Kp!]K&m8<ySc4BjQb5u1<$Z!#QBw_IPvc|Kv;$Ka{]gA46keb1{30Lq4TYwURv&RBeJVjxQ*jj%#`sbxGvP2ur~G[#JxP;4E3kgkT6[K?vs5yNM!GEms,1B653=FkREGv`Ru|
EEj8,<g>Z)k24aRI%xtMSdyu;Sv)H)r{WPqN)qR]XcY_Mz,UXvFCxa>Q*dmh~<)&co0!N+TAVMf585UWr#}O>3_y}KU6|G(F+.jbT#66&?(s$jM3n.~4nUisPx0*/O9MZe6srOgJEp~6|gV?VI3jEr
H)Al0rnAK?0n!ML=4V>cwd[4|R[~dz}}C;FP(FyKu!Bz(8lkmGUN/r>Q&r^cbXeDSz0mPl8AODB[x4[;DMQOnCsVC2sPi#8,wySevnmWx)[/+%R2C6:!<8|ipd4|9)HE'NgUsY.!_eXbW;>XIiEA}5
3yWkY|MLF&4<,IgicxKZ?}{X>k*oZj`GN/p!Mx|5,9RG=*4~5NQ%<AMsX,zC[L[XgfXW8N*Y+4EO+$GGbV]`g#ftxie0t&mqZt!Pa.2:I:~ag(8c6(tq{Ht:e_rJjPZCpHo`tZcb>`tdxd>QNx])pK
XNj{'4v.XqbJu],L%.98?~aY)<m4Tdi5ZsUs9+9NXM7Kj*,Nd>$oT{gYhfr,~)PVxeHKyh,ejScO:iv*4hpUMpc{O`X=ngoLrbDP8LlxbgKv(,GnV<TK$uuiG''D,+zbq:MCnh<e:~'Lg{;[tv]I^f
nL81aHI$ft{qR)&AEt&Ca^<Rkw1c!{5v4T0GGWCbi!{YqoMWM}XV1^9(?Ll^_B4,jZcAD46&W3Ip!wOH:s.;oNKw.ev/|6V~H43VQX>z^U:H$V(Ffzk&`6axPc`$tYGc|14(K:(4!1Nd8$TyHSlJ[q
y/lC0d2d$z73z#G!Mz1?ob2b}B]ADZJEqw~3)%_46mn>kZrar=sdIM%2&e]X=U6BC>KisHx)ZG:d>*L}%g[b/l0vG]?~l35$C9R6=nHxj8LWR`YfR=|sApxus8Ul/*s^B>0[OZ^e:/HBzE4xj,IB_!
'A]bqFg,D=^mZZ;^2Ol$oc(TuX}T83dvK=He'Nsm{/+KZ);k.B~=qTO<U<L$Z;A*$$tm4IqmfYS`%k*wXf0(4ClP^)m)$rw8>|~IvQg,X5o'blzcgEQ8mXlG0g_X_O{vwg^p!lH/K7{uScZe%Rwaw'
XBn_.?cC%)Y>#pz:n71V{Ym~U970cU_ND[DagVS`jIx>p8p$XIuTHi+uaYl_*Aez(7piQrGO1Yyzc[5}#{[Xsv;Aj77<v)^5a0>mSVgy3oIYJKII#jaCE9bl{MK~K&+pYn?0;`5,AjKW&C9vTK#)|P
i5GL2TpLeLIH~}G{h9Wm/):>>%&(QTrXadz]F%_xpA(qIT+mD:%qj`a()XHK)%rMUfCaP5L+KycLF~COZ^A#x`&i_^vzSiaPRy$mufAT[$*y'c7U5JA[_V2Oq#spCzcJb3_SFBB8:|Tj?Smd`T&=68
HC_kD<Me8O#`PZo[/3Eu~neqpQ$M[o/Z(I%lt#2tgeH_+APCD>hO<ONbDX]tPrySeO(zyskn3X{2z&W=B#N&JpX11,mKdQ:[q:JsZNNUt2&*<e9U*('v6XmbgZJW}(:hn?I6k+j]tGd#q`9=Q=`W|n
/grxGB`XO1i~q]>rh%SVRAaTnOl`$9pX2C$*MkQJwa.ijyMw6$DaFpd~,9'BG)r~(}(lck`igNCUw'C<3J=w|s#2?>ZI%y[Ur^=CPV5q7$}=kg|!*ryPF|Bk'DFdz5C)9xa0I,e8Ok~gqO_w'JOWwK
k~&C>UkU'_Uq?M_Ohs7O|H'Yz4Etf{)xvA{;wAHl0l*.~q}:&[_sD*$QBhvGL97N{6,T_=7(E^gsZUJ}M:sXy+7eHY{vJ.IYn[N+):%eWqxRPZb[]KXI{;j&W`9=dtne|A9Rg6Jj5Y{lP(E~t1j7!%
/0a1#uXE`Mw:dqfMBr_4=B=8.#,IV8#hr(1nK;[HV,&/,4fsb<odBqFJxG419}!e/Bb;cn]qW!{OoKT^X^]#L:vA}of,%A1H%dSwp26%7=[8z|nRi2d1ZgrI:i]FPK2curs`>+FRfKX4T&w),?l;U?
PHCA5K#R%)Hty}X4cKI%%XPT;e+[V>SjuaJa^d2bS=_I>xL?8fVQVJ*s14l>[a+`gI6;EoHmQr):wFUCmR>{&&`pduZj.0#}s&S/f+{%f}U[}'ghY*O'{#Gn+74I,Lx!3L&jY:XF5)2uSZL5Rc/jYm
BK400'88?}<hK`sAfkl#VA44pF/;}yhibc+&}j]yuoj{_q7FG}_0DP)U%qjkPCdES7A<.Bi7rh.$^nA0J=)NIU!*[ys*yBiy3KBJ4:q}AE6oj.<$6'hU4ys`zBJwkySCl/;7U&>GB*UWbtC}6Zm>i.
3p*kw,{Lsl't+>2s?jYJ8H?OH:Y&$,8b9RaNs#>|kH~0!l4IVM;imr#{E($d3j!>&a&3sPt:nWK(h>CvDltJt$*t+6sue|=sY+=^V2$+7021phZz`/T2,zw:m0bCeUso/<waXoBAZm!I?O)'hXb3a_
QhW=iK3UKG(A~H6]|zs;c;DGQ3*s9ALL8y~>mA3M_|kdBJID8T*l`O9u!)5~~Y~X?HWl$7_I!0d+x5wh:*EC;ke(.3=mMs3{!gRvz?}#ZyFNJ[oZ'x,4m{Tc%Q5TlO!=+ZOW!9zh}fBPomTn+}Gb1I
m6St8I$9^Rq.CDRK.0/1W8x!2`kv#o1]stP2xnp+7<y5z|%5ne1MwxT%zX:/>U7^T;}f,PmwJ0,<zpES)s/r`&/{Ai8.P9nr)$9X.Rf%n~zBD&;)Kqy(fiWek.^{cSR^~p=Pj:5>uW[J#ZRwHtYV5m
'{Vsp:%hNJ7BvoQa!R*b`tm>iDo7}~f%9?F>,[),WkGB!CHSeSZ#MY=Y[)n&(S.j5L8}<(JU~BCT;g|o}6Kegg<RA35=Ox10E[X*;afUcg4<f?Vc}.$ecK$%H[o_P/(g!b)eP0gMz2EH|:b7{T[G1X
;&g63il8_vh;)AL85J0Tpr&#v'ibf!?*&jDvpG2Vs9,2e:WEf.8r~.m+f%//~%,i<x`CuLQ0KcfOE$owUk{2yjLcBwHM4<]rB0Dg6fYvOVfRZA8P}3ShO=xruMT~1}q2bW/`NUB1JH.qo>R`ERZKq&
#^'PR6jhGHcla6UQ:Zi;YPTqQ:xN$2B>}e)s28|dqUZ9^kSV%%'69/6~7ROI1?y/e}}VFx=(rS%k3>u<KY1dZ};9x]tDsa,zma]7$A%EUs$my,6|F#,u6uKO:eP*`ON${(.R3*o=8XYh5Y!eQ0V{d~
AQu^jRK?Y,+pklEL'ol,Kmc4(,;*H,}9%!3z?e8GOs;%Ah3e'[X:w7%P.Tz#X8Rwdlj9zb+=$Hr')Eh+^brG;?8V14_&;s<#woWO%%;J#$9rlCVS9kz&4dYrcHu^=qjzaU5I?J>M[6X7b$IRBlfs#U
{(PO4~N#!8AwxE'VYRI5{9&4bFc8A6i}NNPmH2Ot&g|z=0nNkn:d)*lVC=.S(N4Gy3[lM=aJ14I.UQ]on<O17DVs%Ee1kAwH5`~zTrz4$CR'vn&#f$^SMK1`Go+qLxvSMgy)XU;z4j=*voNJJec$Vo
.h|`9GLX1}oI3rl$ejE_Z!4hJ`onhGd_ann+?G4/<e$$!mG$8|8/8jUxOGsZOJ,U7nS#t|=Tv9((gGlvsU&!u<qszs(o~1r_tu;WV[b;<hipv~#/_%q!_R$>p^|u9?Z(io_P3h'Tke$FqB0eM,x<.Y
l+bl%~]ph|m]~.InUdY#O;_?%!s^3MU'=hdkWbX&nWdNuHJqoxpxahLF:fRN]5>%>?IK4fxGgJ%3JRCJQ!gC?}08y+v3,e/o_$0'yTh'edy(M#T|tC8[0wRj+Z}/mxPGDe,#+rQr0Ft~.C!!{2;:)l
<nt4><3vTqT1o}Tf*$#Zc+`{H5ffse&r[9Up3<;L8hcC%V=0M'=`yh<yBG[)t]KHp'nyJeVh7'JSH(6g+c9V94s2)1$RI'l.{7y<#%r4$n#t?otDs?`sshwR|UUjkY+b/=y(PU*C*,:w'dtJ#an(Ve
T8F!{Bi:{ScVo(Ye6{jo'3Ox,V}O/j,e/{Dj.{%.<$)3<,qp3FJ3iv(+O:_^9kvtX]TPSjScQI!EB9O^W_LDXqt3/+`u]h4<{.h+_R%*MKIIZ]c;8Q[dbUv#nEF>3!4EKok`Alg8X9=5^~x&cr{~J)
<rqB~KQmehObO5C[iWNZ)CC6w}Exl=,65:iv20/4Qq<xWhH%qNc$emO[kb2WT2G)I.fuHn:0>P^3%*0{~8+EUG!6~c+N['U$~q*(1VSGcg49Ln476$%/<`!4fY%MM}+%D=>?6*&>PU1.w:[mVM6VtG
>2Myu7,E.vmWN5><(RPyUAk?C.*Rv)~<0MkN7GVQVcv(3wTVwEg!%L]As1ZL7T0b~GQF~7Jy{e$IBUdX*51Cb$ozROX84;[g*%8zyfS?BEN;)k]/^[sAW?[s]0<elF%U$1=WX2c#t'>I|J(9H4!N=4
u]vv]C1(gL..0?n0]T[C<6xx01{*duwg{1RuS_y)`.2MYv.DYaRl#2LF;f1#:E3v?'&xC)7&7=voo<F^VDy*20$B^h;UYffxUj+BqITv0y'IJV#J&}$KE;^0>Eq2usp^w&C`aMk;&gX`}42:XxEp}=
s6#'FYY=pmcxk[t7$XCr}Q1~8h#J6/Dd?W~:2$/c~Ez$GaT6AZkLmG2nQT9`AfUoIIxl(?m^3g(=S+i4LvYC$3kYkahs7{HPRf'b%.o/42xTW%ut9`R3,qcYPC.+xHcEZZSBi_la.a#ivK)pF8q6sa
e96`&<2O#)/?q*.c,8xJi{4|v;haxQw5m1.(rf'p(948I'GjiwR1;&Gf|5c'+*SOAPv&.!qpcE|+KiCXfoLqL!~`D]ztqi4={tsS:s#{Hx|exr_}Iiq7E6^t41IcY$5C:Oph7rz<tCtc*qwGk&iMR,
g6AVT<sq85}(uGkN>WCboVdV1e4cv:RF#rn>DG<]H^s{()WYM7eRNZS;?1AHF]lJlGGFs>kB!=kTbS0#Kx&rd;?z144w:1w(E9RPookk3K5LG]>CRs$&`<jdirv~o``_:B7fhcuTYy7#^/826g</wk
bfmx<4FI`{iR1&W{>2?6{wJE0gCu%MFJ+~LKoZel9HkTA>YLe`Za/biz,Wj)f;_rNO8T>&'Uu>EiV|'%1B*OL+6E(hae_siHZl.2<cZ9=+=|~WncL>7WEKcdL[/0:4uvv,Iv!_./h(K[HUJJ.u:1#x
8=NiIboF.|2S/s?coIV&O?68)hV3u_5z>GUCF++C[PT)tR[NZ!U*>3b&A*PH]Cz%O&;`PO/ZDA&O!8~6XMWED.dLppyK!MdO}#_Xb&Fu>X%kFm:v]wdPwA0U;ltf;z4rx;$xPzy`cd~FE|;Y`02/tR
4G.%w.}U$+Hms~+T%mCuLm#]n](%Wyj*llsD25!=`P9;P`kKd~cbYb(#.BeUQcovx{CNMK`AsW(/^^W&C,:8KMuhBed<t?Dg:c]qWq*K}]qeB{t~d<{hE72A/X#QJ2r;k6MHi:,Q+4{KqhJR![mU46
`:qNEf94&B~|H|CEB'}X>81fOLd/[A>EvHly&;%WT011zSj+Y3v!j:Am>o6G'!RFo~O'PKTV1j+oTY!O4>??(P7POJyC;?qi.4'[4*WP.63cMhm(hHDA0;Ry1Q=N=1F61U[e5GKF{T8Y|{0OKvfnO$
vT71ql/=M&#Sr;u*bo+~|Wm;FsQq7,7;H,ZSmc}f:OT/bYy)pG7Wr/)/S[v<<v]=Wm,/~K9=TNWgUR/Jc>)!J~Sagqhpq:dx~^}BWH0p_W#V+wAesl>7}h4C%~GE|~TnKS3?KmfL?DD{AWdl.52rFt
lwlH(/E})d~_Z(yacOvJ{$e)3UU&>Jj,^U9`KW+b+5Ky&aZ>N~+q+tU58;16F[=_>z[/=R|HXQW9ifd[2Iwesjjc#|V;.w=a~~P9nc!_O/y#?85M?}!f_f!7LVvtMi5V#Q4&?cI^b'mkj:MLuwRG<0
&tYs=MP(_<jRg+%(%ZypD;IO)#j[X29}y*wk,vd&G%4}kI~,<F,_;D%>X=h$}Rlt$?#iGc(~`c^uHX|m9~$h!pM}6$k,PFE;cl(ZiUPlh)<!R|me'kYS~<XP(r>g9d~c^$}M8JY,MK^cfc4]lny$)/
yBfajE%s9w0}RtxH6|hiGW54)(L9+kOBDy~1^#_ZRG<pM{GY4A3ZzC9Bwvpxi+Y`^&+tF{<7QC93eTdmyavtg%9=>CrE>N>WRA,~1aC+=).e~{{&#u.CN=H/C=~8lu:jV~IF5P]~^uCu?_5MUCUPQF
rI?Ei7'Q>XkRHOnAjGH?3t`i[q,~K|xFmJodKMiMiS^jJQp^'7eUS.d^s:jh4;yYAY.G>)?bGY!EL*!d+e0WI;R|I+,%xGq:$MeL8n,r<tKDS`nQHp[[>?L<T|GJzq'_t,a)12|/CWy{5D7D_FaN&!
$El+4&K+uGVfEx`T_TL>ppJa:ru`MG8{Tn,RC#(m#1'axV?=N/jE,U6+>q{V;aN^D[V/ISj?9F/'h:!Rc*w^7gN:8nFi$u7T|kd9E3s47GD>D.CRXl2NkZ`_?d!ot*CX?F%dc<B{)dU01VI9Zc[zzN
5eDgE=>nj~DT%Re61x]9%gC26nX=azf:je;Fj#2p;1CMD<K>?HV}R4vOMB'U#rU2]ytHqpTJLS,,`5.aK`ZqWD7rKXoK(v?t]hD'6kBjUzmI3{/x`6u#k_mW,f&ZC3HKeO~WgLCF={VBr9'%M2C`D$
r&ZVDO}3F%LwP}19sxu[x3vp$X|[cwu#p;G5t&hk9{zN~3{6G.B>Kx*2fu(PFd}V$7>3glq/QZwPkGF!(Nk!Z^RIth^t13c}=[_d=1Q(Gx=/K:r#^'b'[[|x3[<`YRJKvc!ed);9rRP(.?`8PcL6tL
e]Id[iKe^;da:5l9/odLYf|8)v]s+7wMe[vd`i%$y!vV'IE&HL///N%zgKP;#%}gcz0+Tb52p3|/+R`.o4s=,ybBuD4*7Z6m}:d34t3]GY#UPLTh+HQk,g?<KxL9UuLN!UlJQFF}#j6q!{+[fTOF`}
:}OX'roD8|'}ISH}bl)K=&&mTY&L+f3N%Y.Blw+3H3%^:TeC1uT`tg_IBz#n7kg`G*=>lNVz#?It|Z}Dk5D9l';n!AJw:6_+6u&^tXH0(%RkKO+cDxG#Kbc.Xfx5#8U`C)tbx$vQ,IpVcNryDW{BKo
`S;g&PQMrUkC~7/P86B84]j'S^O)|HF,g2XD.Jh#tsuqKS}su'BW1SSq.tv&sKrJDtICO=)x.V?jgDilXs+FRfEQZMayzLe|Nqhj+Z{~fwUAF2t^/KK'q=`!=n{j'b5VeP,:xPJ2rFP<EnTt7%uIf|
T7P'4//.oK1QK!l2Wr=s{T]t'djd<E>E%fGswZfg1y!oek7ZOtBsJ|DZ2K;yB~ed<,x>W.u?nb]Z6Z:a=b[u|8B'1k#}m(h;CwL[6+8j7d{1T(m;*qPg$/NcO/`V%CPY)r#>vjnWzq^EPtzRP*Y4^k
BGG=)kvpSd.o&cu![XovpX=f7i`FR:F||da>PgBC_bu92uEoBAmuWfvo/FDD3Bu4>{4Ls8,B+JI&E{=~UPKs.F3jfKJ%HjCG^8,e!fMGA>Bo(2:bKv$W./=J.^SD3t9;:A&20uyL|:3aPr`<Bz,%IK
1BO#?P%P/u^1Q%p*#~O((Ad^WOy1sjc7(BA_0#/)o'QG>c>vDeH|]T<](4&ua92t|WNfS*#O<k4jXn1D+&vv$T4(J]xRM*W(}#<)L_2a3QJt=wjWJ]?lut?s_Vk8MoU)y#V:X_nECAkuq1JW+1E$g^
NG~~7b51NItjmqt7''z^HhD,8/>{yBk[hs5uDCZC/E6CjGuMfKi9tXkl1NA5xt2q6ih77cfD5*h83{7(UZ<{&5EZ1^NB!yghYE(=3~[tk`a,)JEpj~nK41BBWFvgv{#PlXUP?DWK'H98ng,=3Hb]ZP
Ph$yqZ8PyQTCpoK;9E(S*Uacyh~}a+!<c!0fRWo&Fy{Qix'r0j<VO`v4y$AOZ}o)5Xz;~af+>7:8n(t,/~6mFx<0))/VAk46rKoz{R,Vf;!B`6?~Gzv`o!C5#k9J0*kSgWI_XDBaE$[_IkZwh2mQ;V
j+eT#f`<A9Es:O#1R>6i9fyHu$PH!}An,2qD!3{GrS}2)C{yaO]x`%zl.][Ec1~bR#e7a0d;o/Wr+w~g+k&Xjfo%~kS[)L9_BxtVqwMyf~!,#gh&lcGXeg_:VnafU&h`IvQ4Fk}f%iJi~+Gjq4E_F1
]cUL833|wnbTP<&QYXu&d}RpuMrfh#W%;Yfg.,8fHY{;Zx<e;$IC*l_CzPih;t%1D|,yk';7vej']yxrF|zko8WLAS8WXcJ`O,PY~5?^>QitsEgL_pH8BZ$qfr6*0k^W{K#iyERsd{M>]}N,3}zzR=
4;t*S(M~;]Md_Z=e)1$|nUyPTyq;h,iO0]nA=;tE`6#h`ax/#wHdi6M:T1#k{8T+W6|AazczRNuK(M<Q29`VlIQ#eZy<gb2wq)H)p0+lv`v0xog;8O$nuEM6]RY4,vZio29Ptg;xk+v/%.(UvVXILJ
O,sW_78:5[Y,ARyO,<gou7[C<6ZQ3fl5v^qK3=j,C=7i'1!K^vlU>]]q8eK!iqEHX/Bvh)pwC#A)/o9?uqAynE72BN[`jH1Ca9K#f'E#3LBm|t6,lr7V/hGp]l,z>fht?$VrtHVJ2$+u<l/^9|gFrl
u?nK/&]NbC)Y;%.aF1ux1hhJX1A(*a)QnszpP=dR+f|suUNP1^^<(tu;79{tATm>k:zq4pE*2TYCgLGG;nl>w!tYIGvho`!;Tu`Xt5L/M2|5oc]`.On]$/[gzgC){n&HrknQ[gWz,NvmkuxFF/mC1f
}:Ggu1gU{<tqpcGLOAEN[4]eGQO9av}MI}y2lNb/A:rCp`ZHA[reJ!HB'e25zxYP6)$SzN2<a7J?Co'R*R!DW{PKzieJ,VYQP<{51Tvo|3}d5++G3l(f6*zc{w[1iDBNO6fY]ooX?kT1+mx{D9$4U!
xAit(YhIY2.EFV[f(l%~E3xiSxR|JLFrc',~y!&:y$Z!A|sB(k!>1$7pn+a![/zA9t2lg[B<D<|Vt.6Merx,*3XND%6bs?sXM%9#b6m0K2v`e_]]VZ.vo]#ul8`].QIQ)SfE(tjse>*CF)g0j.h+h`
RH`mvs<p:rV!/z:y]}'4rmX[!)dF,rYbc.*vm(:e]]yXPnq/XG8jCn49+4$Gug,V^';Ms]g/A?{LhWS]P>MU8G9fZW<49!OBGQLe5{OncHs<xCje:K+X+T,Ff)nCz~*;UZVvlM44ag'}KqNboyPt)b
$i6Z9q0jeNR8|iE~OgTf4~jfEc)<cE_8T)V*QB<qkD&+C8w:DpzG^cFLpMO6NlS<vfW{VT'}r,j___C[?d>o>KB{rdl!rzsC+MM+ZmK+U6Ze7K01KF70%g!^GO4J6=[0N1z6xaDq{*)2E>!'p)?[Bw
q(rdu]fvn+zR;iEf~1~~[nc!3$vzn3b41Q<h/p*}W2.$om[A`vBq^hyrqU:G8bDHi?T2=:bgW`%}IToqJ~_HjbIWMI*Zd}y`4NG2w*yQz^2J0XuLF*daV;[RD097SyL}(`ql*M!V|S0~Q#;'s+DVeL
?$GYzlgy1[0~oZ6rbNuhDUZb57^6{6dh?]3(G/AipyB44X7*aYhaqkLluf`W.gmH~2QQfcHYC3o~UQ~tol]kYG^wj'/Fd!Vd.e(:6>b.D=#hbM*a`,L9G*B`_dsUDnXjWP/!L}tT13=e1]$:D2uO[=
/8/M_`>s^,7{z=^Qh53J3Eom(C^o=8jWR`wu6L<JW(pl2Hy0$A)xghsL%*?2j8Ip?NiC=3a5oavLO.C$foO5[sV#KiT>{Lt^(hvo?r9xay]HyLh]v!wdeJX]pbFi73T`{b_lF~V^vg;HEzL$R,ol5{
J9`x)&p<OLMV8'(=_.W0LSyvN%=W4k6XQB`Ye1NxG`_[rodH`yi%e_}HOwKxL)3I%Ip/#_`h45SXm1yF~T4JZUuG)9U|HhlV{l9u'Xme:8([bB+,A8icAEUkVVDKO,|,c_&0x6p^02Y',GG2dGNV`Y
>B1,|r14:Z#?GvBNlAmmggkE(4u0Bekup~f#LO4ziP2HcayZN<r/J9:7k4YfnCuJEGg*~XV}Vx,z<YxV9V+h_xjDM(z.hkk08b|^XTrVi0)Un+#%Kp;$PK]}[V$^>^gV*`0XKyca>y9KNgbABg1qHL
&T.%qJu.%<PF|T>?**FS6kwL+%9#}0x<i{A4nMOGsxq#,5aX/30Lh=ix1esV`h5{?_DAnkJMt+ivIZh7rpM|na]9{OY(Nq4>?jN&j=JqDYP&?KTO**:;X3dl:zhC/3_#m7[uIx=^db)p+ZFX)~>7A`
T8,TAOqGSFjEt~}(W^qh?av$?|;9+|X?.Xy39G3#]5u2sI$D(u;J.7'719e;%fd;+af,zP<FWbNhqCh;G[x[}o$P3iq~5(w<:];A6RZW1+K1w%$*)'xm&Jp(1C~4|t!QFH>z[ULUGh{v)8v&7%KT>E
{]K&T?%Zz]HjSIt<TKR`HWZE)Tctz9Q%>9+B3>h7~xZsOB?CaUpY~6AL>{m~*b9s_cWs7U[,/)mZ+kf)N)Lx:]OL_M<#9dwf+toUJSTjN;;6hO,tLb`}Pf8d^90quUG4:/]JkpTZK^GR{~lMR76_rv
(`<jSYgtC_%dHh>]Q*1F|Ez.Ga0i9AEON2[ojSnPswD+(7cOjZmhm!vPoZhp;ew3gbYA5<>+FAb}j|29I{5k:BsAx2&9#)|,E$c,F)XNea;)br4HcOOr|L3!W3{)aZ.Y2IFf,<91d29z]Npm7zqrYU
P4!L3~yS0hjA!;yB39RJ5?!7kGb/Gk>n3_W4X+cZb<}Ds=ym+~x&KJ.p3C?zZ.06_#F_mAyN/M}Rp!USEAdCGe>{U2f{_7uJf?xQ*%gsnm!{D;3A3Mfw}wT.Kg52:_U[ElybUK$83TRSii?AYj!,1u
ACSUE,;5^YIFNs[.~6B}OR]^&%M}Xrb'ogP%c[m*S`yN3&P0Ye)[Y7sXH=L8b1U,']~FdbluRJ]HBD[o^k^UKlh1MAfL1:[YQ;/07!%C<0]!%%ECAP|fU`!$cqoQxh)pU!ez_>XNr[=EiKgxEkkLY.
'a;cL|3;!}EYd.*Z?179;>*+c:oeiMVAx(G6*76V]aTa2m&rHFm?Sl].RFP;TvL!Qj(?h>Z7O+nCgwH~<=q.bE.wshu8%MjuEoEI1l0_%XSn4TL&Jd8,VGA^6^+wGCQ+!chQmNuhW)rbi}g0fPcd}_
|Qg}L~}i=_Y49'Qh&S|;zu2$y}[#&PaHzQLs|O'sNHr&^wAGm1;rCBTn{.L4c>D?q3P6i(?gS9z#FK]tFM*n9|A+.M#/N7v7.`yI2ze'w<IBpj!x.xOo>)!CTr{4RD<H)8hT?[V<Qg[D52H+2qv6O]
b1TO.h8r^H^j'L|Oe86YRHp]A$<ePyzBbCU3zvhg1#hdV,FM}GNfAWva~d5Y|B4Y(3IAs;~Y+fS`['65;]>)HW1)Q![Zyko7kE5L^LK,u.1lu'Fk:C>.3a0an;='H3o}a648>2Er4/U_324Nx/=h!*
St.5=GOLT.iAiV5nQBVuLXi]yEGJ)o'`O[X$UUd8iD!j&Q{p^wk?b=fNHQ%350Fbgr}>=vZJA&,UW`_XE5,{{/IgoB;D_cke37O4n;:U#1s5kK~s)Mn[;!D^rSKq49n!nv_evO{)q3+CCP1iXHH5)k
kMQM^]~ZQ3O}y;K:0>cB<.:x/av;bFJYS<imEJ|Am,.;mQR:3e};`n<JR,}>GY+IlaejWE3Zg*#m{fh6'T*HKjlPUB2OzuCyV_hD^q(1G#M5k#!utbNc$?3k|OfX!^l?xZUBQB}}2Sj)LEO9K*&kb?
#mYGMjCVLBNEbC+#X/Od|{iMlBJFhySUXIrxdEbE^.p^RE|0|dNSkBv$7jnVg2(*?{~0ZiUhE1&U[{Q=BG/C!R_p#u]uM>o:jMO{w$Nod`8ks5K,>]WTA1)TU8=8,ZqzhOgC('I'wRi)CK6o8if{FF
GN$+JF_[6U*O5ANpk(jupg8!KpnP=QfD?(u'`jzylFTRTiO?d$78aMdA}B'uh!bY&fIRsdt,^3g~Jl92^9Mm2YpTeOZZE~iwZS4'IVAPSnt37=2q28E]zKiT=!.Y#(k%.'_eE/ivkT/.i3O=dg/Qo$
}9W%Kwgdk6`K*MkkC;Fn~3a/0o9&n6E4Ju14zYq8:ZdJD;r*z:<G,7Xw>mNlO`sU*xsUR6bM_7y_kPaJB?u5v>Mn8(nbxo/[>0v6h,O2_)^Q|$YGu3$k2N{$K8bzA+p}C$h?jnl6yxm+Xq_3jn+}Qc
f+a7w*n=GB:gl~X*x(55V=YdXc7V46V9+E?143AswJqbHZoF,rkO4:guDxK>u8|g%r6(=n6#j_0l*Vd79*.?t{yQEk1gin55U|{(o8h24(^$H3Z$Oc#{~VzKWc*#Rqe*Bgb{Q!b2/G0?#^o1EUJ[?s
7Aq,'5KC&1<c[v$:PW![(n`3YVyqv*NDdk]9ptArv:Wou2f/1#g%|zxykI{18pLBFSgxP}Nb<rqZ$?dYZqu.XF8+|>Uy5&bKT'j=9T_(E*$a_>.T>jKF3bPp?'1i{/t(g1sfrw(V]$JY5D/1d_4|Z%
eXmoLD>[y[J0=o5V_SFKr[Gkm6M28(ES3E[i#>[^.*Q#^!ul`>L7hZf:G288)`AgP?7MS&|}WLK1G3$5w<ZVY7;6Q,X8H_?t%43g.UtmB:|f[i0[X2<7EL;.{Sf6olb_b6bpUjQukt+Wd;_a.K)ma!
Yw5`K3mjtVI;'~NKR|^:vstR['r^K)ubEL7tDGQd+,`%_,33<R*h%unCStDmdJ#mS/!U)lLY$*H3:}!Nk~U3%%HU|#Yi[dS57H>EGJ%S!4$u2Vt!gfPjY]f7EX}r,5'L~S,FB:RVMkrBA>MzG<.d{P
_X`*bc,z1o9do_Gg$jptSK*8h[WlJ!WsS^extf]ynJON~OlU}|)5N7K&*WYK].*GsPE1G;ENqY;j+E<nJJuu`Oh.2JGyy<0xyJMkhimw={tdRXmsK>t/h&*f7N4r0ekVlF,=!vmQm6pbwq5r{0dV3b
$o5nabuaC/UG|Mvn.)wR{~1pTY{*`H_B+}EQE+3(2r>B'lD'{[:yl5!w9kE3TMhqw%k4?&$W1|?f1Lx(%n#[p]f3Pc$JM.{Oc07qR>O4Xf&vHvzcO,XmPSxAHKoD5kFs0O^u^6%G^edBW593P0XCDy
z,n$;f#!aD^{I&?!R,vQpOgUZO#X4'$D($aMuJj!C9Jo{z]r'h]MCwhb,ji#&Jf=mk4^%]!wNpYQ{,)8Q++_IOQQN)d79d9FWyPjcbG]k^lc7}#97y_k%3yH?PLu:~v^W%W!_Z),7d:nt$JN,8'Zt.
X$1AM5PCaqaC6!$:`xKFDNX!*F4KK(BzaL#%}D<A_;_Z`uX,r_[0f(R`BeRN97.W;xv$3?2/GQ:#sbsXlFC|SvM7F?TuAM!N3dXiyrOU(KCW3_l>o3V%Zayij;QnqRT/y0Pvxziz63jeQreSS#0O^o
[Z~K(p+NGW>wimHoMsKObpoa]A.Kx?P=sTv$iDFRZSv=#a=ny`+8R2c;7M6O`ccgT+d*y*pa^'Nb(n9*qmN,,<zRP2Ax/ZczK74p/WvquM8>ACzo*^](KVt1_O&vcd'd{g~vp~p3CSsgk(RYFptejx
'0%xGq;T{H2Vq}7k!c/c*hJ!!tBSF6|w+Gm1=f08Z<&ZFyMWASRHak1W%Tb=8E.9;<A<]Tfxx0xtMI<ay?O;KH'RG>'DyBF4fCe;YSUUR^Yn1!O%1OTt/ah0l%5$,2_PMK46AxA]JFP`/p6.$]o#1r
LhmB3$Nm_X)bLOlsk~f8H;H=di<a*#&PA8Mn'mMlZKDe'9l.MW}qDC;c?}DD:2sFWd7PPVl,!wj):Ickhc>bU,Tc[=eYE2yK$J)OfK_,7X$wo,_x]u)$x&wY[~g*Ioj'ixGp%fpZ;&ShQpI>9W{ra/
0K6ht^c7xEYV&'~}yhloMM^1dzleqiV[alkf;tD9Agy+uir<('jwv.*Op;a.zf1SQI.^F$}jD:iMpP?S;SuZP?A~%q39*Qn0%9Dfo&qg7az`A'_4[SFo>d`D`{2e8I4bo`otlWnvjj';RIWeC]n'9F
eyr!#n!P0XZFAD$|G6W8NiH/T2Ng[(H~l;41}38zf4{*iXi?bM/HXc*P~%!Bq_&W_C*)h3x_abgw}EW[lE;yU>V43(4e*d:*Y07nc&Fi2+:x+cB*'}65.P*gq9;DYv)^,$<5g!opg0d!8VsZ'5b#m)
D}G:;DQjUvwAeRY:X(2mYuQ,Jp{VFze<Yc2t`(L3~4[E9L&{J;%w%Qs_dI{hhr([`{eO{7C_#0y[hEtuVEK|Y)Z_t|;FXZm/pzY}P34=UeGAKkqP;DksD3S}gW%{Dc{uXJ0(bmaVQY{Sp/^[?3%xyD
.4LC|iRy*&jb:un?kMBA$t=$g>}E8MkvF7?)6tw1Zc;MBCKr8m97i1R=bOs/LNWUaNgx:X`F+rMN7h57&_NPr77|_$GKGu1dh+civ?;';d3/MWI`}S{svM^kcx5K_lbW#G^6u]O[vQy>%Wtz+EvUyT
:<Iem&YKJ&Y&7Q/?^7vwVFO3.gG<#ivqmE`10kVql}(0)Qc]|P7:bl&)6j1EbaW+BD,ZKbj$eXk5o;!ny[6<I8fVd$me%/k{BDf{NsmRUeaO}~Y?.:#lJ^LVT?[XNeqyhOwVlDkSSi0i*j.ld;>$!2
ofK?TdowT<Oyf]S0/0~'+]PF6aaU`^mN)9/d|Q83~bq0[c]WYP):Nn1H{Mrhthb4?gT)3z8uf}25#}YU,DDNTcF[R!l`y`6fC9pew3#E2`i<T!WJHgk|:z~(#e7mVuETDs^%$[U5'c[s$,b#55V%}X
MNAU#3gM*0Qkax3b.e8Mc6<NS%s]GE%L`8ffbQ3SoR2]Uikig1SDd4nfN5Z=JzV79pL'OLO%>xsgJO'_W`iIy|{J=nVjw}uqhZC&65ajpsb]Ply3o*~I[;jPo0,Onl?:.=Oz.QG#/)mD*H[Lo~?jsx
H3T9X7~^J{r(jM{Cxfq(oFWgAzESB0x>i`j.JG'o/L67Rs=8w+j0/{VY4`cGvz,PC>{c[uy6O%Z'qhtw_p`EGF.r*kDiKrxD;M{GL(:/E{o9`GAR=q[a}5%'hI&_<2oti1)^#t`(^t!(VUXkrm`,ZM
!FV<6xPF(yHItaNtYdYY`I%!%qc{V~prI0#dT,uC..{<9W!f.^_S#OsOEp>Rr3F7p0}N{.#du,~YZR4t5gz+,^.g:rtdJ;o/+oy%ylZoq,x[#9BB*Sxp+'<=kk%o9V`hi#92mB,3RAYU//3&qlN!mj
cA*hL}MuU!uG2Hbb6wwGl5c^xl[8DZ,v6'8{1]}#!{!~QJiRtz+y994/V4wws?<)x=xbj;C+8<(:}/P|'}HLS%%FX<g!)~d1t^9x[(z|+lLd4(D{FI&*+N;ul%l6?MbBVM6^:*^QMygD7Fi>n^FHY1
DOC~CD,iOMx2x8<>T_/9g_p|SM6zd[8;o4H'%_^ESOj$Xy>*z8]20gkTMz^Pa6^d<y9::RZ*XA^{~)bu!zT+DQET<lC|)Uw%fst!wSbtcybU7(~D$M0)ZokWA7(oO{AXD,PcR>zr.{_4uDG7Vs4};&
`_V7M?U66*w5/9q~T)t[;j?IgIoZ7LyPAOH]O_Aw$e,^Lnp|e'Ji<IR#d*so34RL_5e:DzJl2r2K:*,:572W:UO24Iqr^3s=dZ.w+Ir6AZ!r_Af&IgjYu;#QWvtbR;n.Y'^NJ*bcKyP{)cc%e1e9<L
9`Vo$K+BtecS!#Nkm|(jxTF|cbA[w>d]y0az(}j}*{.kvrsQlukdGC$$$9qJlLBx0SX5xwomn^ozcSPy/nvc+&e&;JdSo6wEPWBW:?|fb)Z'L'b1Aipv%{6v^>g}iV`p`tC0tJ*O`QV[k,r*$]D5zw
ddx0+8^d3OqMyuj1S(ov:^O]?]MNg6B}Y?_Av1LByy);BGN:t1L#(NPPC>*dJmDf9ZC:z'UmS6O8Qv6!R~5(9FFf]8%c)WAO%1+?Ic=ttw^szehfI=YSVw>>lN9/{69R&`B+b;j'0B'qa,m|]}o186
FM$b*7<~E4,7GpK.xtP7![}fOmJ[+t;c2%N:<Ejdj%xP`DERT`nx;Bh9^h&~mHVo1ZD9.:0D?s#a:WCY$O$L|:HLkAz!8E<Q8pMk(4'`sN$<oImg?3B(;%g}%44c}N[yWbm0MT'yY}L7QRnOn59BVL
S1=0?NRM87OMhGkBH=Jugu;6cGM*F7($=KanQx|LCJu*^mnFnmUZu.f5up8|rYi$w]+>M$6_NHxSvO19pV`[?vDC&Wwc7bK6:ihyxVL#C/{jp:(QNovn%$7[JQh}5(;`UE~x4_>j'P>Zq/lAUg|/W+
`zpXbFyY#m{((aEBb,ewAC.BXmFl#J%*(g}4w9ntP)ncuLc{dnkW;iH=mSVp,^94${tM$CVkNBl^79U0Q5ADWX5okK:MqEkF?cw=woy(7w,F9,N+[)z%f.R.zn7V=YD*>mZ[!sDY2{+^#/qz'D+3{R
n};_A2Gqo$cirhvwgLU!vVrKDw!o!.2VK':T*,X^76w[GtCWB<EsIr6%GzYC:7z<>M$]sr!X#&Ps|k1D];ywNc$Vog>K2=Mf;Fd5WoX|amw%`yG|vb%LQ6yE<T^q##+34,B{d/p*Vy8$u0#?R7xe}i
aoz[!ri5Vj+n9h1casaeTMXYJCcp<<<fQzlr8Y2^#{r6&A&4}SRQ8:]!:QAA,z'iq[sf9uNQQQa/&XnlmbaBlaPVLHlyqa8d?2MO3N:5C8J{(=R}'qz8F&*jtR1S2v,F>uULH}MgH7>n*mrgrRs>]G
sKKck~1=l_R%]<)ZWeT;#mV(*Z*PeM=9w4v_FNx0tc=`w_q$K&T:lse]{3dli5cZ^5_`J=d_TYq&gQF}5Ru=Gfrdn{,)dHjtm,_Rr.!BB`jv8kT&4tiOxU#tbbJD(#iqo%rJ;S5X]J6'mHPZR<t+Z6
GG_*^.aaYCIFWM_(QDL{Rfi}iVo*)>|8}d[j>{~1]1)6~pgNt|Hn'L?+cP5qv&UI0p?bz9oo=LPAeCD[KbP9mr(pu$~#3^YKy'oY0~<f%/xa/Et8iYx#dT+kJIwBoGGUURyLgWCgT|hWA^b!CYQ0{b
A<u47_94XfUh)!0w(D%lvfN}X?{G5_GX8EQ^6[T>vO>3j}Hti>1s:r'b^;hx)nuuH{MGQB<NB5D!A/O_MJb=/)d74X75{EC9'VUN'+A4]maG?kYx$iwUW#x([YI|c{0Myz(H8X041&KWB7`6Q|,HUr
h)7>G9.>o/NQ_g|9/6j]ZZh5+`SDsTvH[N0U$C'F`61p6edS:x_0j[H>4#NH~nMeZMn$L!aS}+LF=<FJD)[CE]>;Uyo!U.#1sTwfJ1#`[7Msv'|el8Ma.{Mpz5C]OK?/4xivUVGe=I({`a7;K33dm6
C.51O]s?A.D3.Zf,dT?W?bsn%ox`TQDUy=!gn0M#?gmez~}WK8ElR{'&|{|MaZ]FC=ESTKpJHAXSd[MN59Ce$gSk5y2u{f/,B+;.><a|h97gP8/<(xsoiI4!G4Pzj.<&NRA^XM{)|Q5bNRtR=m}gG9
lc/QK{DGdF}ypgUYS5wb2z/JHq1{<H<VrmD%MKdr2j^Ge>l>)|~UQq5'W+&/}b8Ii6TAyyzfVsk>Dq;6h^0X$B9dMz5sL$O9inNUm2f$)rt67d,xGL34GTWFuE=5wX}|Kl]b~/:yR8$58kC20ky7m.
3o4^*80C4[2kCi`C_H4;X!WZqu(le+j(h,xZwjh(^.V`[!=2nVhZdvwDUN*g:DxD^JRjghg%qWva1_6on1KE$+ci568)cMdEff?Skh6+uI=91Csv}mWIi;</EF'8{sH;E}JcE/A]M!z6}=w?Ae:xfq
]i;R{Ab7.2LmK0:s6GN#z)673#fRriw:'gkvu(kz#d!MsTJpjP<5MIADU|g{y}Gd9IxcqFW;Y$eB*[r,B9+kkW0YlmB!;x'b5CezM4C.[KEtgp5A4`Qe*R8n&e?5#$8]iovP.JElL,[X+YK(<p~8Oe
m'cqOHZbD(=vxFl~]1R*>A=^?>wGgCS.{16`_MfCXcV`x`xJp`A42>G5Ve3^zTg_MNTgqnZkKE$(cl?OB`zDx6xxzE%l%%$285Pdyp6R2'W&cqi+Z|JdKPLiLoi_o+o2xM^zED`]*wkuenJuh9$6;I
?}nigGltn*k/g5`Gt%PMsb[Vq,9eJcvJTvC]F7swpc`=jgi3XDlPNh$,h*>h:)}e<{AwN_Vx+^C&':MCc`haN8?>fYiWruThlwyV/YFtHAfBYamt5)9F4?A{(`nqup`6;D<{Kv,c3u9]%WLB^BIIpB
==J1,]$J7+nJkoYcLZxf[zODn7H{={C'r3X}QMNaCLW#3c?Vuk#j7PK}Q[DVi).?%P3eWTwXewBu9PGsJ>3A{B:cD|}:;)t`>o}z7m;o.PWy~?ql8p,o4bHXNHMt^'eNgS_CS`L|Gn;Z2Z9d&yttLd
~t7Sp&eEf2#p[[2,Guz];YBU6`A6$d%LwOdBv]s9/:7aBcc6}W?VD'~_)lQP/j[V_eWO!|qC_U;|bW5g]}j4OgBnm02lm8Q}<ZiRf./R'*(iam0'X1.(R.QacPKfoy54WNGJ?]7Ynb3'KO<`Tm~)C3
},P&bJM(m7;gGh3mHD?%h,6.fgXX|yBTcdVF!jGXUn',EKo;Nu`,(&E#t'?U&4V}L1g5F1/rb=I|bL|<1B`jABxi`B]ht5`7VAA~xhC7Y`*dj#yl6M%CIN{wWcu9AV5F!,8UQ5e%[XCim!_{x[`.q*
(+35,Qn,wW{Hhjv]o>~GNBR5*n#/0m95~Hz,KG,`~hq%:*>8K.dyF}k>z;+ED%pj:U'GtH(L#H9hTb3?VMN?QV!^h6u,4PgqS>lz$+Rqnc*4NSh$z$KB%`z]!(Iz?|m;NEMJYF)a5#zUiwvPuGb<}h
{2FIj4lPsm((oZaYedMwwxpm]r%4)e:XLPbdYU?rby)Yj;|hxlOg}X{OrVBP#1*W~)%uqPfbVS%B*!15SU<7gsef,nymXP]gGu4^#6PsqJ`ny(+n8;Dx'H=`9ZaxIVHwzSYt0lU6z|AWt)mHD+a3wh
Se'vGlO#k2j2?!PBil{v'+lKNUvF<|UN)PqZ*ijKN(Bq]HB>G>#C4L}i^nxvZtofJ'(lT);]L%97m>RxR4:D&#aojPn(4]t&pyJq7(,lj%#E=%%1;6QY{m7Kn6B3_N*ac}c{6j,_[((rr|L^Bx_b,F
;!q0IQQ'3~d.[`44&_#sKTD`ncn1a'%Vdk}#}b&^eE6Pc(>+BA&O;.sn,`k7EJFZh8D$Ylj=Piil(;mG{M;lnyu28GF;3g68t+j^[)2PAr=cHArM7W[>bvmD(>dGf|?dgYTk`ELrDUNF)d$(GNEa}<
;Z/<zoRU;}'eW~&,PLlTITSu!t=UwQQxs!7a;TkwzV0(d+k=t/8tBX0S.%A,[l[J)S8A869}BZrUB/n03J`?}2e5JnXw/|](1?|uL:0P!`7%c3X7ud.Mu5Q9^[9#?5tOI.9Z{m:n*=o]Q|=a8Ar##!
UaFz*&guEY}Y0ZaR0*/z*WKY?h4z4%zq2{6is:p~/VUoS<9Sp|]DdiagvC/9_.M}oNlYl7^lLYTuQf|6Q<hCBnuBo)V_>om>HjSF/7*}mtOU:V2*8;~KJ0A#zuTXu5a,i?G+kf+]?KxnAh6F[{tO,S
^<hNjXJG5I'^:^f:G61JPv'ptNsg{+v:ti;?OVzpzF440:l/:Itq.[t)m]lOvNNJXH4cM>V=#{URSLEu.s(h.%iRizP[W}1=5:NU21J[u>ZQ<F1'p?p$)fSc$Yu|&&&HT;{H|BRmG}i{.hOC.oI%HA
:,VB8c0bX0dTXZrRb3[Q2Ie2#<v7)TiP)U(MiiayRy4'>f}=Q)gub^W`!Q(fgy+cvWMWk#dww>8Ya_FUP'vUOgNw`llS6JD,zCMBC^r,F=d'nTW;p]N(/N~osXjegyLiPUTC^VWXn9i:48.HVF;h53
Fol=+%M>Db.47~*`'69^oaSFH3CRT+{ARt2IPx0EeiJeQ7.TV{'V1seVoc)`||vq1I:?Xy$UOkS4Cr6f{HwGt9U9#;9yUfee)S#tvY/E^Qh886Nb+N.<9EeLX!m}/4cNDKmm}hC}[=bp_N1cj9F5tV
yZN)ucOCXLhqkWg.>uOUcCa5BLmFtsNGzDir&>W5nO[4lW;j6++p]s>E/7tyB5`8?J9AZ#6OEz]skh3fDHq55vO_E[#8y6E7U5LyXLPZ|pH>K_SqBJ,kb>0x?q%Irt`i}k3.qIP#i%U[:xDR.m6G=r
qzEH#$NO5e'~TpX/4Yzk8%aW+&me/_o/nkGSFm1qf$Ku{&mmy]B2ecX<JOO<TTS{`OuE?cohr?.E~>rtHK0AYml)bEq~#HI/+Bp!Vg|/=oFhj1;|C4yflz4$$'Q6F/i^y}ej?+]cxrk3u5UcX~+`b%
&(PRL/1G^jK<[O1>k6[n>q(IxAjo~JaNf/b/#hxxP%:v1aTD5Qd>YC$;'SoX*]ygG#R=xVA(I';erX}0#fHm>.8>bDY^3ww8w}nb|:yPw:_6#r3!8H8)fHS=8PfAJG}3q2yQ0h1Gf()lMuU.UX9}+2
x5(0|[N$/|n?S1?D'$Sww/uMPyE!OWU1Lgz.[RRWpJ,PcN]V$yV~/jZP{`|)*vF2q%&:w+r(5e=S*0is[aNsfcR4s#/hYT6':VdozE*nPlS)%TjZZfmn:w6[f9_eQ%x#>Ue_>6!U:DIV&#b_}'T]A$
9(RRYa595q%53kV*u|4HA+OR%5}Qy!BVDTg{*Sw*60)^~e?O%r8WK48XqFoxBLO~[G,(L/kSn{3h[E[[AC`lYUSH[1k86brA:vcq9Fge*~X(}Yg1!3qeqH=6orAxR$;1yn~2V6e<#)f=eB0Jd=IJU(
!Vf3VDPMPA3MO37G$w8E(MGU?g.n8Jep'6GQRF*#a?pR;rv%!G=)T715k,&U:l6O$=JQ|6;%ghF|;`,(^lAThuM<QQiuY$T3c)'AzX|nBuOJB((](NAkC68Y|r>VwxMBwqvTdf6]6nTF.Jb'1$L`~^
cp{Cqo}^z&F=&{4mN6Fkw:kx~4$3H(Z,N'';NE4aS;q'FdGcJiGc!(00d|ui9!>TRl!m+h,~#r`hHb]dmO!=la4)7M,_gZL]iKI}pTD|kd?B$)]N>wxH8'xk[BhH7~Q'/,^f020/ts>{3a!!!!!!!!
!!!!$4N.Aw&p;!!!!!!!!!!!!!#7]*mb|1qdx6#*?+Q#)o]^A[#,kE/?v&V|LN;;s;W7FWBG8ooN_e1?>v39,E8YrPVtmR/UP64[xhwJLZ~f^:ODgX(1E)&p?Ub1bDn<;sTVxUMJxd}M6}myWWX<+s
VWf(1/TqP`)K%J;&<rv!y_ULY`KO4c0_$5Di:J*|}V~uPbiXL~:xlc488|B&eq(+mcO7Ot_o>P,hXq2J#eb].9$FQR?T6mhHeQf=/(#4RKIKsbGNOB7mCgKNmi#6MXh/aub^TR_nG&jFrJnLUoCl't
%tL7V[E0^ZkgP=a[EU)9p#5?pd,`7){V*.iN`.pP]Gd^;yU.)y^+`?)I|iyPDcAkeL,%GV``98TtgdJ4C)wcKWBtIN'*|#HMHuC&7TT_qN>L=L3q0RvA.9)>=~WF>lMwPf8qzFr.`h}}k>:`$brV(f
bR~a&3I$_?KoFcT8<~D}Hy.L5Ip=HhUZYI{bNG}7SlJIMPvz[9j2KMDB^^$d+c],VcI&]z3vHmyGl)zSTXDb,i:{r4sF:u._pgBl!1[qVcuS`(oTO|xay&sI0|;+$o=.*sg^RF%/l!yB0d,zOp^F.[
5T!ep!^fCMM.Ts1p'H%kh]'BYHk?XS8T%z4&hZfAq1O=?nSMXqd|)W.8'r[dgLZ[~c=kIkm#rF+UNRw.IsrQ45fH{!5b,>%?V*5>#U3T'w](Q6=GtW>:}Nuls$[M&NwfuG]QSUlN[C005k?/1p)}F!
ES);fiwO]IZbPwcBYmi.g:K*=0EYS=VXSC.]D.H`6?E{^lSps&Z)3PeOZ{2~F:Njm~yhu(u+:1=jm(X+8NKwUw8)B.b)nC[sdrj+;,aE4'kMSrnEh+lLKK6b)wvivInwZlNwuk1hblIXz;43?e[4^|
u}Kgv0'4l4jkp(n}Or?ZeUDcWLZ#oU%U57uVR.'?p&M[?3phc|5d:]pgJe_*rB2q=GQY^xRHZRZU?QCVv._(l+$/jPom5eq*FIP|jy>CW0KZ{vx6ypQZnBa;_!.PWx&?0Bbf$6^F`.}~Hi!pPw5I?+
1:A5M!~Mbtk|LhQGho!jeNzpU<(>IbP9BAZuWc&[rH0m6,Gzx<b=<^?}K]7e5utboG>](S2%z)4#)s_px;P]qQ[*hu{GX+i|)UKa&J~s%7XTw>!TY}fzo#5(~*xMX.w[y&>#j&!c>2)dzs)2/lgKdZ
8gI!#Psk'pI{ntDDDHiKI0lvf%Ru1sh:%)06dD^X[aG94V_f*)PpG=$:dtSph`wGOO^d~<N2B'X+d)W:nu}cr9/qBvQSu'3hS>4d5_nE|oioFV/A4=Yk>iZsHyl=Q5z||WzS4!VQe=Glp,fiGVgx#n
ybeRG~j;ALO3f]cjGqa&NS[+YMES=ruh<#fGHsNu8<wPOM7O%b{w3q]lTOI0W>)[H~BLE.Z47/CJ48%UX^r$]K_V**bS`%;%4xe4S3t?wIh:c51]Mhc(`KF`MJ5?cLA4}:hD5DM?D%6|%[IPbYEIb]
=)YYCg{aq)F^f:^Acza%sns/A|UBX5!$Lg2q[bxec/M+!T]bu7CjI%[g#rW7MGrRsQrBf:^pw4t!GYm$v6`D91F1*sfM<J}Z7]o>zIHE|FzOt_5)uYR<m`Ckv13.`wxgS9yp|5DVtVgS/wOKe}9Sqe
4_wH!!G^#[[z6;<f_(`#j*^(lhyonqQ2cW1sViFThV4stM]89X:`p%^5G%g]vnCc|lE9!<n%[RQ%)_F+<hVaEz4Ugb&FGwjQ4k15Z%v_i6rg{hMROI!9`*aB5D^Lr1+{](eE;{<x6#f)vi><Mh3PZ(
v7M~c%43DW`|8Mg]g5}~H6sO=Jt6eO0*=~uL5LIfgi1U6P$}FFP?MF]~L{#4R>dwHOQZ:>/[1pHzl,vp,:(~E9i{'FEX+I_zOIzF!0%J0XC~Xn$7{!h*q7jMk{OYw8eTh9^Np401,1{]l~Ssrj7x*W
G9zSDw;>SfNoh{seAKEYxna]7d7WKZ!rN$}W#y5rKA%Y(^x$54]NO/,fa>^IbI]a(4^[f$i.EGV.;jMA%TH{vj;#c3gX7a4^M(;fFt6Y7e3QT51Tk9b6j7~~t{_OT=Olip)Gre3N8y|j:Y..}zPIj6
~4cN1Hr!8.Ukh;SkWovsOeO;F_uX^8W9rNBNv4y+}.&hjdd[4Kj_/3RmA8yIXWSz7]8nJasP~j!bKWOY:!VO_qLv/JK%OSe?.5_ePJSxVNxkst!a)Hy{E$]{jgofW%mT|ce.S,1F9FIXlB`~<8O#=O
IX!KcgEzX0/:2Uh&Nl=G~3,#=LdAH?vX`(43Vq0=8vwQoFDd(.v?Kr>BeGEIxxtqQ>E(g0v~C}hYv.0_ZQUK>R,s!P,F$R*uaZHR5w9{Lvw39v#NxbT/*+ej)Dd1x'eR<%5MP./S/8+vfqA3N$hcSb
Q[xIr(w_VJ1|/kmMK~;oP~`ft}iA)H+V,al!?H<]&dB`Kr|YW_zWiCmsB2jFjM+`H6%xI)Ka1mCCVN}Z29!*Y,~XvQkbvuLFcymfP_99$I.V^TkMKBn<W7BjOUr/r$Zo~D{t<p'/9%c$$O+YWjxuY]
}E2'Y,)R^U<C}Hb}3x|ot4=sOjgy>]USjg{6Cg^Ggc#:0PzSxNDFx0#UKm!;}j+WJ9$0+5:*vL98&x,JPW58|pSPZ#{Ol.L'*J{UOC}tkg;b>o>&+EKAJgLP}PwIZ&hkbr^W$5Vx_Fymn.3tU&{V!A
kn;]HKm&Tw3As}i)+La57U;d4P]sdML23a6t886j^*sYXn^!gg~[xjr0KaE3#I8KF$Tdk2`GzZxXYY.B[6g?^ZRVO!b/);EBw?lx$UkT(Zro[7*!KOw38Pq(cs;0*7oCQ5%C5bfN)*A|uIj8#}!Zo#
Qb+>_Y;vEmkl?8}|y}%^WFt8*O{|e&LP[z2+'/aDX)LL+3*}K>JG`5RV`|RfQv[Gm[upiv+oFU8fU=c](2m%2Ma;X=?!XKED6Z:r:7F|HN={a2yQm]eG#4dL^D`]oL^?q+QMrIsc=VG^1wboroVh26
WJ8O5np/XM.{Kg>>leJlRb16th_[+o~#x4k08If.<>^2?/b5kR)/6q[s=Z5_;=mf~!eS1wkf6PGE,.WT9lybY^_TnM/#FvEil1Y'kFE'vne{<Jb.BYt3+gga$M^.p6vT/fXw<E8YLscYUe3|TvW{h=
*u^a}#7:~Nw{~Cc.kK;_#ojRFw$)UGQAd2#/{7&pp7CdhGm%sSf]U`}$rvLfB8J!=zc/f7#NktO=n?>hlj#cw2cgHG+Jo]U8gI<^;G|AI&iw!G:BLs~4&O+q!e=k?lj;m_A/eEF.%4zk?Sv;VI{peI
,>cMe($16CE{CZf*vtZaRH#w3~HU8O!ctss,%+8;{|Ig(7f;7il)u;?i&5qY<0%>dtF4C3u:)}>o(PT9#iy|zNY+]aA6?$hcIBVQ8`>dz2T|3aDzPn,Iuo+g%|S&5,R4];}8%'d3^)8aoY>XRsVX5m
%g1mib7,UdNy!~Q>9GyB%RACnJB>M+'m5W%nV%Hbmpz|laCKci'Be9q^YHB5htX{a/ZVqI>A0{~Sdwgs!d,N#vh;hUSzCL#iuPaSV^'7c%u.7~Y[x_4F|kFJ4E++S*wA7qk8CXT;W7Ol)?/)mysZiJ
*X)r%3FCWNm(QqpNiX7[V9IsmaxVnsB_upCh$Pd/;dKsr'WcO$b$~HA!VT#ckp;`)S`AWA[|elz;</*F2WDC;yOM+vbyjY?!qDAiX5S0#b)sF$tTEi]8,Ptvht52df.daHHtXMm,/';K]_%F1wY'[E
<}PpCbF:24J)dW24a=P]Ad2(.5aREX|%/3jg&`==ai]s:w1(;n%p}0[c8[kS,*pS:{4=sBYzZ9n7c!=l*y!wXNt3V?WW4$fK?'!HX'fQ=xd$9]/+d3P;^Vg`q0_fF1+3>2D`TJmevH/!qB;QsCnDYS
xXl!,kR_x#z~g8YIIdB&$&$[wkhzXr,3?0rIl$`hWjWMoO:x$s,CnMkS$E`0H5~UC|KJnM5~z=Dg:YuI>KC+.*2M%$?:eiwk$'uY:`3mFe8a.:RKz;m#L%1nA82kJsoJ4bvJz<EIQYK90R%o;#3OC(
yQ[v;T:j^>tJ0s1Z[>E7nM$*vnvIffI4&|{oc#.}GH'dBjbwJtT1>ARA1k|zqhZ`NFN?D0Jz:K{Hti[baM$[BR;&/xHo%whC15{6=:/L.kJacQY2%f3U$:5|(&wiPsG~Te,EY3tWISa9Flc|^/e(7z
_X4Zau$l}F51()M5![=Wdxa2%1^}oq(~,x+_S:K`k+*O$wq3FMyS#$dItvBb[B6Pjm+T.8SmBV#<wGI,37`CRD!]#w8qW3m5~9{cL,b<I(9jU>u6l0K*itC|r(FBXDV=H<pXw)5$6gJ]{syV?e/T:D
z9g[;35K+g]rT75Pjm&+C[42`o<aE4*k~^#Vm:iI8B|=qw!QTAW.00S`S|2Z=b5O;O/1=MN'p9|]L?:!Ait^mSB':CU{vRV&I~W53ub+oOZMlP_goey0'3HMZ2zDH`q>y>g=//|:Tv]}M&;oD?>eM3
Ddi{q)pNXT>OrsHfD#B=[hWU>q,ZU/9X|v=C~eG01V+^5gZ>+E'#t_k0o?,$`STTtu,EyQ}u+4ACyo0W+Ua9oXj%eeu*~CE~:|IF$cx$fdInT7h&`yL9J/kC)zO_(T5{A8F~~wu6PgC:zTz.raJe]X
)J_8DR,cWbINr/E{{T))Ggx{^|dzGG3JCCyB6Q,<#kLlM8^X~hMEK|(47KF4:LhbEtkjG+v,yR1y6fn#Gjw^Vnkd6vSm=_<S0MJwuNlee6d`Eko;D{yoTPm$KAk/r%Wt3tewG!i|5*u[;)*4o7sj_O
9Vvu?8;L,/.}R)~5k`ur^el(vLrKgT`67ixIkh01'J9Z$`ztzH;SuOw(MxV7^ai?DJQ5$Nlsc_tn/}lei/>o}{J$kcp/pG,pn;3G=3~&]U>=WBpEgNYH?%9<c{{#.hh=}AjTRiP`R0p6M<qPN*2m%a
<tB#+;fq'lAEk635[|i!B1>wKWmN`LK%1!FLVi8C+?4fs~?a$KgpOiELZCc&?H[QQ5?}gEHY.TVL{3&IFA0];n:=!/0^lQaUz]>K3Y5uBOA),2,5|X`,A9x2|.J01kzk$c'S;~d26Kch[z<Rxc`l7v
zy>OFT97B}/ly+>,I^WuR~gn]RnFf^V3lur3fRgQ}eG]OF!7*JcX*1~/MxN%]_T4D4QCfp2sry~>8stuSB$d=?:.vDQLx'8&^=x]I3`Gqa/SOc1>YKbQTw>!]H5Yt0Gi|I$R:{i)~w?dz6Pb&Z6F><
mjop.;}^k4#Mb$P}dxA=P;J2)]04*y%OU;p8w]uu'uH~bYcr|!D>,e=D$n_2]Di$0syY47/XL.nm&C08v%+$T!`GQfAzNhaq'eCRl?dJ!!'75%R6GU!!!!!!!!!!!!!!!/RltYm)|L!N$j][v#zz:>
f+`cU6biJ(VZ||+v9~uyoy!!!!!!!!!!!!!!&g~'vWtrRm/bE:Viqpr.|'}r20oEO?pu{tx7V|/&xwp!4RDS0gT)j9SJ>2J<~kox/Zv3'%g!0~<{G_%XMs/OKk%J([!ovSQ#B50%hq+0a<JqI0An&?
npnD8vzoU{ZljOUzm^)E&q(/'pbkj4#x<s:(;thM$yqMA./[Y4cVSfHqxBX_gi=a]MLgW;96i6nj_D6O?Y%Y)6=TL[tB3/L?#Uj^R+O,,b:g^!+&_#Dex#(SMReFd#R=mjU!iq&gwYsQ*n}HNu4>']
TvC;844`_JKoN*)3>k{b+m~<.gcz+S~j:s7sL[7<B1V5}c=}U_hh#A1T:MT|C,vsp&vK/Gf3O]6fqqMDV:_NPU~`$^ZmtzQ^P4eQx/oMQ?V6Yc~Xe6lg}8&ftt0+Il}}rWX!9hF*#wRe#X4s62i8]W
<OX3AEAE(4?['X&9s|+22lPpiZ(2D$YivrAwWm{YL>p|nK/<;MClkUP=L^70{'1DII|Ojotns.ODGo.!.+B%7kp^$5:3Z4c=M|Kb!(SLRZhjc,s_=K2's>0?/?H$,<9$sEN{OOApyZkY+L()I',x^9
,n2J9TK![J[,0Z{vZDomh)jtgH&Ih+`E,DL9|1h`:rFcKs1Zkj}=8j8xyHMv>ZzSQK(kWkdt?E]5Jwir53?a%1&Vulaq7P,DZ3}LB.j)Zr+!leA)I.m2UxH_i/K95]6YU8aa`1kU![OuPYumawm'H<
,T8GKjr)LDL_I01DzUb#/#z2<GlM7M}v,N|4'?,%!2oRSa19z*lKv0.~D%D)Vuj&m3{3Y^:QQ#}zd|]^w9iX&5?`V9#;OgdY6HHY$BLVt.&6J3<{#f6>v<h3vS`klgqDK#XvJHDV2dA3)P8PC,Afxt
_ABec/lD%jxX0,TC<qzdk24bB>5r$%9tJ{MCBO`&!svl`RGP/h9d:dtPTx?%rk}6'x^)ywP|?A%zCA0F{[0;gNKw_p9x)_&QS?G{mbqNDc7'ffkksdIf^]Ks0L'>#L>w|ASK,1qp]PJ5.F',Q!D~YR
.O^kznqd7ngs'_9ux%Kw<lXg>VIi5f;gi0K[=qP5tfh1R/y3sBXiRjIMUg,]`zf>wyq,=1/k$`P/BU]0aCHa^URkgM~Ht{jsyYSULSkbk}w&IA=_%!i.omP*K)x8L1>&|)_GGbh[7M(1ZvVbI1B+9B
kVJw+B/]0TEp9.'T(dq*691rX9)Uce4wl+P,kzZC,o7qypR(!%u[eQ!&S98dfr(I?m#iJoBy1uI%Bk2Ke3'th'7(~Gco%5ZG'//)cn|>S%0GL'UaXwuAUqRjE_[>mTL=(`OWJ46OBeN~Z7y_mhr{es
$D$?9uQH[Cc4%1.'0IgxIVV:HR,Jw?aa3{<<^6aIm<vjj;b]zpM7MYQcNHE]v1Y[k]a2R)*dPLs5[m'0q*<XE|SmOoc/&Zk~vk(XO=AvJ0{N?V7{t`M.?H$?J2('2E>6Z>MkwJjt$gn`=aOh`x$FE]
VcLSuiF.Ma|A8(Q!m:Pt8XhfG;Cbp)IH+GL>4uMAVNj$j2IkM9WjhD5(;?F%XUMeYV:xoD;B60gkU(&Ro2?''p#^<f6JdW'+]!`<)/<8bE^{bdV$s<{9hBZs*nWMl]s!5X7]_m<3[3fX&tVb$,IDtj
N.vQo$dliA)lI<mqF`{|.O~saFP)}gHI!+6kT<^:gF[Wa1t>#J~z2b;|pEK]7}a7%8^eW7Z_bOgk*j$,VIl8}w9$QEN1lo3d+0+?mwdefxl>0HXfM}u|ztIEdTf!>&d``t0)nf*3jBMo'a0kpvPS5&
xzI]1!`gE^Q5]Fh<qj|qJo&qD7[Ga{Gm}}iIx=ug[}=:TCP#'GK9!+?^?^hSbC*~ZPaL$r0`R]'<MD2eD1>CwYr7=Zfi:z#dm;JH;c~jaY=Q1co)m9_Nsk+a0=YE)sq=ES$})2.R3.t=QmU332<;m,
}O?^'i/dy:>iYAF5j5+w4Ny~hVROLBEjOI[]jn6t4%bI%Qy4|l=5fytBS|b*m7jYwHX%&3Oy(}[6`v+E~AX=jRBOaGHpOATO8G?913N~DI1|O:w4~d6=x2?TfkEo%*jk{Xo*paThD?e%Lm47rTc_lp
4wU>sPOoiwaw,Wst}&yj!z+z;)qtznLwv|k._,1cc.L`ja5D<yyK)^]j!LcZC&uY)Vrc]eb`+JKxT}.tT=::!4.^;gI15K<#pm7%18alKt^|wQ)F2#2ak%C%I&J[Deebt2z+B3I/Mu*a1(]jrP_;q`
H7}GG:2Ev1ZvPA;B:2QJ}izn^,$d0NMy3ZFDhLH>6.bI)C=^^l'Ro)d:(}UHiw|(V_hO'hX7yFnQSzT$rRgUsdhrWP_*?<E,7/<9gB+.J3k?7?F2$a!LA0:7>TCWF>XJ.,S6FK+;_B>,atUk[}H09%
wo3M$F2snE#M2k;::bc#/B)WG'/?fSj%v+/Z+](ZJ|HA1U/hl/zrd_Hx2ovBqO,KMFnfvzin/(l(]AJ+DyNQ7yHxprm.&B&^gR'|}zY~YGN57[I(d.scn1)[#Kova_afK4G=B*N8ovKobp8kUFn>8(
[pfISZ0&O+;N68G3DRM2oxVcjFA,ufB${L7SEVd<!N%Kd0)<xj8<Gj28?iK>lhvH{R*ck$M,G1lKR6n5rgFn]j~O?pIC0bfNfZ%=Fg.P9;?P5ax;,b&7MTPUg3s>u=K.;W(FDk9+B6JO;sj2V$ExH*
w8%q$Y0{6/.lev$>Y_W6pY~<V3`l#7f[r?2r'&$GFW]mVtB:s;[q0a1(r]0'SMC.p[_ytZ,pE=V8[m0B~_:KR{WPdiMJaWf$_cb2L*;BF$:b%VWJaL?o[fd!]FQd,|8/B8m'D|+p%7et_F,kL2s=CY
'+1%d*zHW&;|ZhAKI|]<x8fb{%2gpus+vqRR:jNm($`(R&:FaT^J9>[G>1Go#w6w+xU5hGFUI<hq|*4HcErOlrI$x}|dYyfb0$S?.tb7*9)petJ*hj/U~I%428[K0h`AlnYQzhHA}y,|d$!%QPIzE3
}_mDHhl;tb0bMn*[(ln'g5^x)b6FFj3hYhqHdE1kBcA[_qeYMLix3*O~O&&QQYn=1fqztaQ{k,/.P1MXNTH6MK3j_}h*H$,7qgYTz$W,O]+GRBpqoSq'hg#SX|[AU;l&&+,qqSV4YLfa#TbXDFFEo}
GL~?[lyFm3^yab,w*D%{l09T1TYAVm4%R0O_bZlJ0<[1cmqU8X[}th&5;]BPMrGPO;VWofGdgXvoSvh4gKI5XmNByxPfwe&Yow<DzYDpGIp&yZWF_!1$W_NQ&6GkUyQ%iiMW_(Zj7_WEwICP7SG?kw
#Az/9tL>5kJ[`S0cbwngaFG?>rHFj4[IFE?ml/`OzU/]D`3i?*`>Y%r/AJ/pt>1U_[TKWLWyblFshEGU)P'e~aV&'+[*R5dG&pi.0%$Z!VOf6s8>0F8,6+{j=9qlC~8i{z7zse{_:rSAory/>0t{hu
!;LCCDJb:Zj#x=6bn(&8(cBJ'~EK7BDZ{FzDFjaW75Ho/O865ioT|{sv$/v.L.z$d)Usvp[Z*b[}r?Y<z]2=]^cs?7qC&%Ulg5$n4[*FBOfA%KfW'+XRMebm3!}mR#ATg3Yx9JT$if~d1jV5oszhb^
D99(g/5cqx~zD<&Zg9QN]+X1:bCtrQ=yBYS`Gu3m$7L.Y0Jl=w~CN3NL`OlQwvEL/K1hGZLMw_01u<%!iNZgqu~7X;<Q$}2cN*T2V<*{3TEiqi,dps~{SutD_;rC_*U[<VAnsSy;jIQhYtRFx=1sbI
JNiKZb#[!7;rlFO?yr7:PdW,1FU:<6u`5Luu_KjRu%ye9Fmbp`ylL4Y1[!F9wQi&RV|<eiE.#}X2OM28Kt~=5(~GN&y~[1$0bZw_dYbt#Jp2%!RLU7[zI>EMD&tRQpWM20hxrgXB0ob!`v7/Ct9G'!
zep4hQ[?o||oZ.uO6HBl$r)Nxm9W]YyMNHT2OuKgnpB`oq*<8c3joEo!jP+=vtL%{(nyh~N88ZSzpvKo!r!&|Y32Ra:u;vQ1,ILQ!,o6~$U?[gJJr/ZrVVrERSg83t+iG#Q`L0KgLx/AxAT}VuvVkq
4]w?v9eBiX8T}do8dv]0_L'Qzu6.0c4h)|5Zr*nBmE`o;rqif48WXeE<q`?wxPXN2sR&azF]WQQ$mC#h~QEwE_Me]^L>[Ck85]7]WpW(+yT;K)^hWxUf:$B,BJQ;#oWnY,U)BsF0)$ANAu=521{m{(
af:zS_SJQW4a)0u6^unRwgT*ioT`$n(Z/wUVrX$m/qDwN:biF5K}E]rts_w,O|r_lrzOph5K],dyg%^&Y,6H9?][Mzh$eCN?Z76^t$./Z;J[OubSP;z_G(EYUmb}:fLocZ#04hsepd2138n{UZ#0r2
Uxy#$$%ZH<.vg%nUxA1wCBN[7n.~p!5'7W2qOw?EUON+K(Ul{&iY2D97TvZhfqR=2|3Xu*ad<dw{qkUg2?!%ki9L%f(hFH#[_=>~:C5ijc>h1d$sHeMtI%yoF!11Wl_b(_L~y#c<Z|d4ktv|FG[~((
(|]+8&!iqwqC?}u]i$~4/`:<P=yeWH}C#!a)+I*H=wC]0/4fb<26r$D8x{$kY;HG*H+k'js_U39BLY(&FgYgF`25e`ytDx`11ymB%tY=vLe[x0I<Gnuv!LTvN/D_)J9mhQkbfG+)q19*_cfqpU]<>W
*k_ynq?y#BwqlFz;tzHWziqGg$O1,X_}D(jU#7p/#F_,N'p)=|U7aWn7y;zZQjT[^H$KsKiHL;X~f$wLw5ljcDeCD^coes.=%}06ldg$fvqL|N,!j8ci$;]ISIs31]3KpOQP|g8ptWW.[[dZtZ^C!9
Du`|<T?+NzQ0<eXQ3nl:UbxA.x;FR~/m]1E3hNIPQ}{w)L2F&:0lpEI%tV3g(L,x!J0]1jO]f$;llDP?wwn0m!%a3[26LSQ*XxdjNq^Te(Gb[tWH>ee_,Hf0U!pAvBwueh4hacLw|*^#!.X[[r(Gk4
F}3bX`A4$*aNEEO3VE>uPmYh;MB_JAhw9]w(I0tVg,wg(tQHLokN5uZ|uD+hiFP94sQ3[.<e_`G3sn*%AiG:hqJu,J0NID$Bcj0tikI.0<mzM~=|TXEq=%m`e/d'_z<(I$JHeL%r<!$OM{PH.~bIGJ
<R9!M+Gu,R.][A9lzkQ!PaR$Q,$fL}(e$'$WgPy.Dca!L<mD;#mEp=>'o?il~YZASCa8j%v5#>~[C#ub9YN.9#h.D}:`,wir^viP+0ucK?=_cf_(456<Ig`08~D2qm|^u9h?_N609;g:vN(y>70XTW
u?k4K1.*xa3/E[&*I.7kw2vJbn/I9.{VujXwY]+F&uy=5j=H&aa_OGc4jEabq920X)g(}`]|H/To=!jw6/0xT>(k+U]t8zY4EW#F($(<3S+Ng+U#>^4}US4eNP3;zh*Ng9d~MRfcqdf7xdQ'k{U1E7
&LY7O.)#v9xz;_+9!J8pqI)g/U|MATCZ%.!rwYt;=sfY;BEv9`NAhjRo4[H7TjD1I;l8Ad`<%3LKbI2pmJGkPd/]KS0_!i8X)i5'0j%0;{?b9jA0qm4f_A61LRgjG,i/LcESb*8^0H#~<jgD5`C~>W
/XBTzxzg]nUV6bY=q]B_,zCX;vEO79JBgtYuQS9LmJ{[E)4{5IV{`o|6kS2V.S?vA/Y(;6di'?.%}{D*cgp}LcsI,/c,{dB.[]zA2|}39h.+Los!.r.;U48^H.I?!1&8l/^z,9G]|/tfU)*V24aLmH
9oKk$YY#i,KgJ[^xScQW.[=#c]?^rnTKy99jk=y4>d9?;=Rwj,i}zp3EFD4}?PF$jnhRCy?VgMI=Mz+_9jlUv_fz0pbBeUQIwJcCH^EZ!=,L7QBCH{}<RW,oW_29$lMe6Epe%Nj8)oH%d}]NTn+.!3
DPi(GZ0rmurx9qvkwGJyMR1*bZE;_Pv!1G3/b#d2GQ9.0/rtSzr7c#tgycGq}osU7I4;.V#gp`Fje[XpW=zDkPeK^K_)$Rdo>=fCbI[B1`g2z:Ecx}p8ykLu~a>!7|DL&')ngHJodn`s?^HAVq)>3k
yNsR:91pUIhggQ*5kcoQ[9BM&Yy_QX<T>',hVhyy^1QecS#+$!U)6JG?b7f4RTOlq^>/!~5QdhPT&<kZN7)|Ui6sjNo)NhD[Z!mV~c]=+6e:gPJi=1zI<u5Y5:w_%cII6i?x0+lwOMxg#W{2UtA!qd
V9:$GHzMCTAr+o9]#qTqxkhmAo#?N(`5iTTitk`Gm^nZepV$^~)YxmuS:RTg2NQ(KSz#Y(pw660T:FB#rxA|4jD29;Z6bfjKRNE05#.'5X:v?y,$Ned8Ib/^(hf{BN^VakJ,)d_xGOS?ac%*<)(CmB
1[6D6c_x$p.'C>ux0T'gA,z<MXU?:ILRL,]0#jK5$P]cQ5BD/soIHr,`XQC8R(kzMK$n)V_C*:!9Pen7}Hv%jHs_.FU%?V})}8rin}F?[nTd<K{Y^xm].+).?oSj`2ww}]{Py,8L.ci{CF{t:Ex+Ik
No#.9nOyAud['/e8<0<.&RawKO|l^d+uJ!Z,qeP^2p,Qi2sutKCjCasw2vSIqWXtk&B|TzY1U)Rx;4qVMf#k1Wn`amX~n);c*prV[#x/'|E%fY_&.IkOxD8|+L[28o!mP*|754u.W,'yY~4y)jp*S1
R_!SV?<*=wHOg]rPB~]622qt),>,G)t/L;i]*G:jZ$P,s/jYu}N&cT{#FVvfk0C_dJ_/MnjI/ry3fcvK+hr#>Uh]2]Ii!j1YfflVp}GfQf$3%aL&OV:tsLj5Us|w<GMU$<SzO1?x/2k%I'[P9&*ZT!
;beV#t,Rz(e/TL&pz{L4Vt1z98rCIwB?UR,?/A_O,}{IE1EudVHp%R'v4vosT?a)|<P030Gkxg_w~DxLIB_Kq1av3OFQ^Y[GlPnYzVz)}.aDZo^{[:mR+uJGz/k(pGlI2>E(P8koy;:AZO[Ae[*oDK
?q}}>8~={jX9[9*|7Gr?4(^Ke,h]l*hd[4:Y(Z,[cE[{$:Z).e2e28N9PHlB:^*^?<~woiw>a'VXNtrd~%1(mTtTf'?D$<u$%_}^pxGWq!cvAGEkpOsG`.{K(Q6An(XFe(QY6p~I7uAHs[[)IeEdtL
8z]w>f~z.11u*LFBsv8Ns[Z`UUuZh}2ZdgC`'c('vPSXxWhGf^rZ<p}$X``q(rVSrZx,Qe+]}k?sQ#h6$D!#u[6T~k&&~zt]o,88;?}~ye6CWt1f;`j3lQUjX$.u'9:[M0go{03AKItL_R_,ZS/92~
.V39:?;)m=i7]|$M|4FMbDmjFSJ!yVO'an`HxWyP#:=gXeU$/g#l(bjzqU*kqD#z9kMvwR3M[>q2/Fc3~w)TP1RU/Q._/ii$Cz;f{(X!b'/225o8F[%^bSC'IM=+!zE~E49M>?>#D:K13JLWp09sxm
Du[p5})_hK]y;YhN}9pkH.,<Exo~??qzRxr51#PvXK.:K$)09TeWsj*3JX:D/iJ^n=bqMYA(`3^4AL=n$ZQ0Hr=gG;#;E/tL=H)^En~5~/|Y3V!^wBr0`TS=%62ron3;e~PWn;|(|4XJVND>L==w1!
_n';7L]Xd{6CZHw6TdR:$tR<gR)qAUfQ^R!OzGZP2]b}),!LfL3g52/Yh*:]r2G]o2L1#PfqLnM.F]>9_a;XpF`wAM61;R'k:*Segama(ve(7/T}#jk~E,h,kdE:R,[#!(}']i8cDxi&L$vrl4<WiQ
2_/Rj/kv5j^h#sJ{cRv/tyVO7'p18r.uWqL(BnptMy=8Kh$.(ar)5fn+0ZIbHGdUI<}iN;XWed`G;zn5yev7nO9<r/.)2qgMP?~;BRNMpa~w)x6hH*254+oBSa7`!hHl__IZDs&nG!L&dh)3DRn3ZJ
n4e[|o?6FUhI&&W%O5k2F4|~2Or$<cd!$pBtv{uKqpA|;zq?3<wK%%XEe,paWnS<p`dxtX49(2FmGd<BdajzX7qC/qs(*da!VI;<.cy.^.L{S:Ve.~Q(JZ_/!]wM(0{sWaz:)LJ'RQ7y$?+XR9!l'C
HhG)8I.(z7h;~L~}07s?}NSjQN}&X4ebPUCbY7pNJ&TRN%o2ke0]:N1V3UQ5Or}(nB02Wg&.#,XCLzL^l?f]uB%.UEQr;2JvX4z:]3}XP'kaWEhpCmvO'P9$V<%sL(Cu2(F/2kpg&=KT=/;v'RyHcs
i2QZuxC.v=Gt{%BUYdJD)/h5cFdZ>Q<:d+xXbC/VbB_B_N)+<$FOb7NA{H{TCtdnku%)q3#[2#U'+tA7zsV*v{2!FSKIf*C`?7;N]W(}Ps]H9o{3uT_v)a%ax~Oq{d[DkYl^R~>V6's.m]WAk0:;BX
5zhs6AW;GOd?(Oy2m~LAL_?2sx+=Z)CsQ}4MctWryi!8]zmdVd:=VZ1B`pd?d=v)G5MIi[9eggTfLm2kQX/|{>c9=X6q/uUE~D~R!r4R1GAS>*YYFOB2BWr.i!}]41I5_:PBQKS*QyrrKm!t]S8y>f
QAxl^8A_v7Ife?efii2wRp0I;nQH,N4s*LnDe&zrtkj*dPn8(`&k[}`3</r4=w|N,jsA(y!xJX$t72Ynd[OY2$<sBuS.g#R[T?!Of5:KrzBED,.kP%sgm8j&Tk#T0<B0OW#/q?!`[jZfH*sfK5vXN2
%LgaSM'}Q+s!S:&1^.O+cb8'gG*U#f~=jjFYnK=yj;uBd8Sg~O~Rv1[9zKH7Np>DpNm,?.q~jux(P/4YQ5+^5*u4U9x[8&U^&M9JE;<~<7/wr`&Y?hY=%?FE>'3Fe^VV)~t'UGmN$jNM)iW`w6}:%o
!p63Uj.an?sY>Fj.Sd9mgMwW1Uc4BZDs1en`4x{pG<R&QXx`*fye<]B+V>V~)P)uRWaW}DI!qIA}89Prv.h~CbuB/{M4zWVOE(H?n)s5]iFymHsN.SC<Hq%cwcEZ}ghml&]|&X*Tu7?v4BP_,(~+RD
X;a&qG[n:ok|?l9B<xUDR,3dJ;D85pygcp6(du_?kwk.:`COQzkwbK=gCH5ch9VE16JNBwYP}?}0?._?J3AxGPs3Kh*z_O{)&'8uCwa]<w[isIc88])>0n$1*;aUR>8/GQBTq$l[1Sn{H6BKc;fpli
54!FEL>Pe$CqmlzP/w,lwB##7j|3gRz6[z,Gf5*C_aY/:i(s9Y]'u[I<1kdzkRn,s13Qb7*oweX2_m)OuHn3;zp%lvc#Tf%?X$X6$ZAoJkC~BB'(3I`=iJ*6`ov&,;I|1+.=`}Z7*5D>sClCm^HH#+
`KKL%pRhmKOyDW~nA5~3Xy$}g&!rA7&JMH#PM8+[y{GP?gQ&u#sD_FjS{WC`fqCy?4EM0~{7s:hhbTVO^[=F:{4tB)L5nSZ!R^F'N$eo;hM9!V0r<v2qJghy;/IO##&YRKk<+UV[$jUGe&C>v_[5q>
]4nE{5NbW;buBpEAhU14It}%j^XQs6ecMF15aE;xR&m}n!:Tg[}}+vBJAg)_bI!5v{kMogE<SsOx&{1`[oz+]Aer7w~h+ChgQ7ntP<x}UY*XohB9h;84GtlKlz6a=i,:;~9_.W>{3Rx<pwMlO7KBx5
poyC'`yBk)W50f[qtie7&9B>WgZ[qzph~<yAu^b5$~l.h,7~?Q5rKMC*1Mk_Vfo_!>!*oDO/j.YDyw;p,gGcIv&q{?Q!?*M]{+q?EY}ly^lBKj9{V1(N'dE<Ouen>$8~.qAZ4Y,%2Foxo;6J(%4!7z
i=.#c,a(WCfvbG*#N9b+]`#n)5t!N;g`P>a5`g|3xK_ud_c!QD3y_~*O:+c#fE'fIPS`B;zUpVF)wN`%1DtXO=oV|_l|>g8foEMl`u%jrICYLy8?}CZcP,fWE87gaZgYasMF]w}VU_dC7CG&^zU,EM
QBGc2oourM{BnWN_baG6`}0_oYUdH80N`ljzF.$.*WUDhVx9*:]f+m~[N?<?!#eK*aMc=#p.Iy,z6a.B+LgK4V;A96gmyhB%%R'4ABJO#j2+te*q^|tldz'DKyuTuMHa3Yu9f(`LmXmy%AJ~#Zg:$G
`zF85168'FDU]gg+f*$;R`<W=MKAa}f7Ba%L18yqys`<*y0'h7^buV>neVK|zt8S~{s8M^,O.wFG*&3OVK>.|cR2:lr<_08oN2JI*_|vZ2#zj6<RmHy*1xbk8LtPS;bL%E(L>^(e2q>`[ljCKz{uG5
3rZ:}.YoPCMWI_jxlYs>'4{r+|1<%ANoRoG09PCvHN7.dfyJvawKRp6K5^OM4{H,q4Jz5!iJI2JghGs06`eyL6Dtal5f7<qXYwfz`EwY;H.X,)z^OuPqN(pEj*4?fujmrcUa|'iygTnhqp{x>%~MhB
^5WJ_E=;r5KWwc%bTROL5owSFb?q,o$17L8p,3:7N8ck(9JL9OpQ+'vs#fvG5s!+;HIE76THF449#DO&qT6kHv0(f=8s~{=ic$`3ZU&ccyAP9x!(0]|k~|&$LJCuFn*fwyTg_QsZ>DQK_IZ#(TXD{G
cj98/++frRby'hv`PWh{apv,5fY`nKIoMOy$T+ymz9IjAZof~JjSuu=>2'uH23$(XID#+5v7R^acr$Kn7D_UTHtbB8ttP)Sv#S30?Qa|6;Lgl0*4o{^O=,1',iha/|9s$7UM*!:Npf3BB=IuTJl_`0
7Nyv&3Je[(EUxT:=Kt`=olN}9[{x]e.}%ZA*)#7m:d=UA=KRfL&d.FSS7s)EZe6&rvjzPVP1*y;*!9GiU;Xq_Z$Qa;chb?{D!86vfx/?F?LDv4R]{^A0Pgvhs6XeQjNe;+g`w%TQt&pnjAbrEAs`we
U~v$f#8i3Ot{;Msl!,M+m/b3_%9xI]WYMh:?]g{/Eb[Lo*]IjnG)F5b$QVV)gwDOszoxxkk_1b<A~`l(n$Ezs%krtre%9g(C`T?:JC*dJIJD5tNQw4qNKi!w9Bo8}Q'7kCU!c8vN(1;PIW0i;d}?_`
PqR'~j>_Ehi|F4R3x/vT*cfT,jl^W<i7kWa`!3C5G~o8Y$Dg`P^jI]+_N/ZY==H.$6t8Z6.T}`.QHhrG/$(YiFt^R0=`PlrL,Ofp$d<1IL,(,n&?2b7$_o![K$8N$ZR>eE^%Oq8.4FRhhLwa2?7r#&
Lv{MU~=k4qY(J7pmZk93'M4By6E,3ko?c}`}`RAiMSs,[s?6[XJiW;)V[k,,*0g5#)^~3jSstWDm~8D%LwfJcTw`'`rc;X'EeP(;^NaY:c<_lSz9PEn$f|mWgQN^bY)>z1/>+BbH'w{EI*L'_/~;~b
6BwP^AR3N`8gTr.knBDLv~jrsFfnLki}!D+[+_A;Y|VH|If2YO5$j]>3rz%++E/O[In/:c2'HYr>SnCQQ%4qvUP*w|=KzlT<>8qm?X)ziAHG}Bv>?+5YebYcF$lMa:%QJ#Wo}R:{1I9fV8Y0B((Sag
38k<}dzOr&n#p4BfMYhjjA`GIT{)Zt4{C></b7FSwm9BKzYw>CW>nGW1H%Be[LgH=~kR9J.L|E:/fG.Pa5e,_Qj'D_Ny%Y|;+0nRULU+L%6Pz?O94U0')~#ej&lLtU{5j{)GI|r?rnDi)LS`ktoSSt
']x'1|/|uOMCiS3m9rG>NZ!m!/VZ(}o*_5ocTSXl_F3:N75Ffhh!D$;J*|+'g|P(X,FLR[uG2b[fCT~T/XF%Tx&g:r|(B:$mCXibg/<aL3^5OA(OP|uQ)/)RM_NVIU+9I9c~bNs/wF:XLkFusPI{!W
fg!X5C$'?0FVi=UigV~(RKQ#[T<0)``%T(uAK{6kxO2cJRLeX0$3r{wD*yasn2j:OIc_9L6!x3uEHHSpw83%u`VVY/xX07Y{4w!&TB$k%zeYr[1E~`ifqQmeHAdM7>%nhR!&%OW{%gfKEFTo(U[l4|
(#k)KiY]?]5w]C&6XuH,6~aBnlq31]>^iGvh?+SK|lLkCohTZ>S*Mcbe4yteLK?'6j,0j3qEM{[VG)#ma(i8+HEKl)KFd`&~5bz~Sb,zq%hU{KExj0m^'MX|O[d`V5zJycdHiuqDJP.=6>D[U9%Ac#
?Hv{Y|pY?e7M4C=K'G)]w6A=*z}M(2sIJ8rCmlxSGiEE|#Nkd1~a(9/}Shx~jhakmdji~~RlsSJe~Zu#WdYU;M;3t`^lPsU1e%PNT03e%a()OnsY'_we.eG;N6+tU3UBkRJ+JtK^rjiD3rCRIOI9z|
x0ap1C5+Xd|4q&h&Wb?u<dzvIXPqxi}t7]~Ixe1`H]D({'Fl5cgAPAV_ny.dBEX?VE<{SF;vK#TAJ_*^/Nm;$:*[N>A%1uXw6EX]+pGyNh.KX^tp(2p%o:#DvmY[F?kr#crU;onRkc=E7ZR%w?=[Dd
m}qy]9]Q=Fr.MN^q[yo>e6tm%xx5l3E0J){5!#km?Mj^pHFxkI%..EgOZ);zU[Coe3$.pcU4kx]Ia3Y[Nr(L_HdT7[c8$8QmqQ`B#~xyZFL:J5Agk,>t$=Nu~twB=BNf9rxu+u*2C2|QHdMvzZM+cP
~1rz,%F{Hi6.J~PQL~`4k3n(ynjx>w53u9]grF~oh){]4VeOlU>cT0|rzR+K2Ok1K+$Mb^eoj`zeNOt&?VY>2$]6;imzZp#[Okn)uNM<.}ow=jsiX69_4tiR)B(4%Y2!PeQN5!<=7fJpW7E(dC!,vz
Lj9DC)9lR$^Ue2?)px;&Y}c>Rj!3^O'2'<dO.R,2H|KRjnI|y??Uab`hX]Zi{{6'd1TNC:(O4et(.?YN$sn<M:Ha%GP?+SX+0;Y1Uv*M!>ktSFv&u)bW9!YM8IP8?5X#gaU|NQ4vAwzqr8E.=&3<zp
VPGi#<E){e0BGs;17NrikB2k?[v1av/+Y_JSfrI0Zdmj,SjER[<y?p{0FgIrF]jb_Lf^!u^OJ>SE!.X:1=8r:{mMgRECY0X:1l2T3B?QvnPh#PuGd<3?GLR|7(zH7uI4T{Gi]<nL62lpxbmC}1s]Rt
B+P5+%K;<BIN11HShr1HL5n%We)`$w{g'tejy]Kf(bM;tYp:RNU44?AoBPAFded|G&tregXBAQ&k<&Hjq]Gm,Bg+*H=`S}Z}NIvT)Kx+mI>&h5yE*R3R8UeuTRiATzip;$4|CS2YK9wksyC5N>3IW=
{H[0db*d<A760G2o)+DP]nwP#fAL0?eF!rY>bfy8{}lRrWwJBJ!NJC}i~KND{3_sQ>`x~!+]CvL=!,>dUZt1]m]?_L^ACH[pHo>7c{de0&?+4&Z+rgGC}*#K<MoMw?z)Pin'PauiIb](ED:SK[_gyq
e,#4hFUi8P{v#5FL0VGC{rUzY$>tGkcO'bL.q|Udilb%e<6kk[BmHkLF)gbNBf>yXX9oFdgcZt}H,2pTgG;k^a.B6_:*r?.Ug[M3myb4X_)*HUjmN6O=XE|[BHP}AGu1uhJc~O,B1G!nZe_iBV%zia
.m![a>P`2T#3{E9EnXp#rZ1:otth#|yf2xRncs+9Rm^Qh[ykdjf[pKRCO~rSCATADOIAoBa)g,7O}h46N4|:AY,TWW%`/6}{z|:ch:C9>j}x~&q.^dk.^Vas*Q]%z0C1fP7G0mGh7E3Wu*v0=NNTzG
(/_2s5S%cV+y)9<:|vrDm1#EZEy^Os$D_t9JwSc2*A^m5%Bf7`Uf|yG9Lw2IAF~Q,jN&CY6R1{Q:`z5.=?IdBOYEmd1AXc,I_2N`G+0&xd!o;%Y1tb*,3i2peOpVE}pxT1T.tHpj{%>L0:;ApW8_fX
&C0O`zCmvi!*/,suez58?qitX(C6`H1pVl=+;66k~E.{d;h8F|~KR/[#$q=I%$=%K:HIC45${d(`#/8v}PS&a}[G+;Sl1~o.AaYi0VuG2yir?6c!tc(z(=FkPcA/ASktD>5P%>}1UV]%[^f*tx^Jl6
tS>Im*sf[D3}e_|[1CF'5O&3kH}R)=HeIeI(C:<_wj!5n9^mao6U+aE5%KT1*z4+1=!Xrz!.'`oCowJV#5+Q%7D.G+d]4cqz6G)VSkI8<&36EGoj3($bfL:iy*R~cK=JzMd&g~T^YO8p<`&}/.e~}i
)o`<MVvCVJ+O/<RIkQ`_{8Y>U|ukuCkpoo^gy4><D)7=A![+%I|_VG<~_dXDS.Q6H6[{<A>!rn%!OAag.7#ozj)/rv24C9^koo?}<.(Mg+VhY(JkenwOa8N&XOuU<;L_E!mRI%[/bTcO[szRRh=OSh
q:nib)jn3^BPcw.O0v[G=yt``42lEsvrh:zAlG:%,A;kYpv~Ccahqf'NTLQuSD[Io1yU*PY)W+n::4|4;zEtvFA)mK'z:oJ|w9j|??'[PGuvJPNpQ}7Onovibg8r{sJ2A&M|Zyy.4yqO>[~l[iwInX
KK4~J1?)xbzB`c+khc2ZCc%+A}ZhJJgC:a6Js/ZCRzV_Hdrf?_57nO:eADT4^YJ]R!i;q`~xwr`SLFr0+QjD`!>.w?taUSH9A=*Ve^|V'<p/y|a7[QuG/VIKzg%]u#F1i.YOF81i|+P=S{gwlXPb}8
*5'[mG(#6lCK1etN,|+E'=eHSC&w<T99Mj/i^kt&*h3sIu#R,HH5XCF`byX]g?]Be?dwUzZJdd2mu{BHr/EU!5Eh|X~c:vOfq'<11l0)d8V3hu7+p,+/._.Db7*<GhjH&q78iQ=YC!6XALNzyl2d|'
P'csdAsy1/+2C]sPFJv?,xGE6asGk~x9/d0En_uSSOJ}J+mZ.lfG^|;02n6K~4'65tz9BJ14k<X~&K+4qaL4XR{r7&``kS:jJ7B=uA+Jlq}j(%}3|2Z/$5XAY/zWh,S;_%Y{yE=Uh$dp:s)FeafwLK
H8D>8h46B>vi.TKol!/,?Y7;tvpl{.N)'yro7+qid8=V8,T)LBm}L?Xoq[5^>)$zN32Sse?|wpqj#_Z_r?D%<>u+iWI8fPyNyErJ_GRa[BNv4`BLT!m/zu}$7RVL>Q=STV=;#IMOhz$kr5gr<{ThAX
)X=s%Mc!c3s3A|Qp1&FULq8VOJ7F[*oJO7Qu5UJ{yQeZ*E'`Cu8M(B[bXzOGAaqv#miBM$rM8gh:V.$Ql9muoBFv_l!/%]v(#DAf:g=~}5wK):6N]or#'<hQpTi0o6G|'Il?=l%!/xq;wXX1Ua!uYz
a1=lI(QWhhs[J%CiR:;(p{BmNjB2_1x![Mzqmy3!CduC=JGR1x'4#VV`bGn!($kdW4WiLWvF46KH;:_:|`$p<rQ]dGF^u#vPqI&5rG)QX*?I&IqJ(.!yo7nprb9Yl,JGAfv9$So&?^w'K1y!X$+m'u
%U7+I#kSj;{cqs!D_YpS9SH;{_'6l&s3h{C`*wVjIUeLkHy(]Xpyk06(=kDyJ:JYFcJi*c*C}$}~LO#{/hPC8A6G`F,:vAMEUc!HLvOP:C1f]>rA>,.>Y8[PDQ/YnPffb7e088g)Oy6>>AT7^5Q}QQ
<Sm}=;mG)+T]FtvEi&N3(2}{Gb>&eO&gC[1#3bo6!O1gw}oDv7ZY]9UZ_5'ZOGhy.3trpNd%h`y/AHV2=J6)z[G)A&1BaR'?Jh~#t~^=.$VrC3=/1FMo|th;xb1bg;z4?>^t1!uE}jX6S3WW0YE%U(
P!DIw%j{h*lF'_LIQ|^BszXFsg{[?XSVmB77,~Vpu,Ub%`Fms/sqgi(N[rQ'hfO2=A`xHH_`ED9*`J3`kX/[ux9PXPmUY.I%}O>&YeP<)Ep'Xt_g]35T($qLt]:rU~ubv1B2c87+%T&/~F,NpRNg*r
G&v0Q)6,&bcZIeq?F`C:x3W*b;tHBSoWaR6N,)<qjU8hXLu/!$ghli?T1U/CjT1Y'VFP4a}`LZ2Y*n?bC&GO^)H'<G>[LG3:2CN+jWp8A:VZ._AnZ{+p(cs*r8{MV>gECfICfGWRPV_RO=!i85F#a;
yz'#i^E.JV^W;P'zjTXt.HatVvCm;9bFun*${W,16xj`KMi9v,h6]P'h#zNa+Wq?/URzs+l~pXie*QBUZ&SE*!_0d{%}YGPK*z0||6s71~*m'{vAF#h{1l:h,!5~7Tlohjz!!G<kytau*UH0aZ>MS&
*:7_G68g7`Ez{p%yEMfd97D_$4`kwwo)qIV7dFe6QF0'Y/'?Y7&|Q3_e((UPa7<F^^JO%{Ow}Mw+w*2Gba(p#J11e9QgXis`?35l'qTXS~i0ZX#;)P~;#57O9nuoJim2?^_Dv/QW]0jJ1p][>Jr9NA
937~uP{B.Wo2jzSLG~A!'41.txtqk<?^5>F4ds4r]1Fi|?:p#RlbZms2}lPUd6zv|p/_vm=vSV?x1Vo%IC$hLq|^E+B!'?X1/({*k,+0sL+k>mJPJ.+3ISPn%r66|a#27i~e|_B6klDkehZ6uQ2Cwk
GF>7c$TJ[/4e<;RWvWr&[RHob,cwY!R4_>]KQvAmoZ<z<%~Wm*NJ`ww.jrsZ/LAX06>rG'k,MFC~nD;O7Mk~pK$'86ouXo$l707y;'Z#|FIEtDGT`f&=sIX%>~qfep2zxR(CO=H|hqh[q=Ct>4D=UE
bxHPk_;}5}/gaeM.ok6dQGy+FIT`i^F7W/xK}!.51Gv^e+&c0%h6B5m?1oX7H$SW$osU]D%#$ArBu0ne{o|1x5.^!|46Iqya3~o*oFC/3[?Kuwq4fNe,xJ79((s!+lK;X3_.Lg&?>hBegIse&J|#qA
fO%,`iof7j7<V!e<g|D96&BbzB?HifY<*Hc!1X0uMBgL;$_fQ?3}6rn?5]b1PH0Rd/*D!$Vd+hBZ$}9eiFS/i+~_?k&CzEm{+!!mTXC[+#}9}#{12Cp$TD>x,pN#u=etiXzVgr$N*y4F'VOz=QjB_y
gyW|7#z[q$Lk3xed8,~X`jJK{4`r2ib~.}mJ1<9$C<Jgc*rgQU?ur^}NaR}?.I`>_OOe=,6vM.=EjO$^#XpKh&_.vc6cML<{_5id&Wg*J{Brrt7H7x;Jzg2e=P|*8&TF=cL*a2>0Rk3X7<R=2Te_b7
+h*Zm}2:m<G*u!Kuq~z]}')>WP1Dn~PT0ZC1H63uD~;cx`_}JRR:]LBRUnR2`m/7^7b=lnq%Xd[~3g4I6W4Cwn;s=WG/x;cG6{':GHpd+To=/d|Da<WDb)%Z$)h#1)&7mibI]LZyyL3n6qh`uK1AKc
Ey*`f(cI(=z&W7A!E!HXLV&/N2sQ8$b~'58Pn5e~*2|;<NvJ8wzGxqGPUc9^qFPnmTJwOx4$>VEO[z]GesW<NC0m,!K(g3aPR_>X`<k*dgLlT#iFPJ2vF3}CAJr#jT&&]tXEb=JD/4$cwAzG_Rta'{
sj&xtNzJ=a~9yAUXZ)!ZDy+Ay6}jk[KdF[~CC;_z;;#}UuwC(5UA!#|ezK]!MA2;_TkyE.;*}N#C6;2OOy6t=)f_aD19N,:ZW8Oh8q>u6o:dO$LWPY0+K<q]Waep*_0q`x!%da/C/:sXs%;?`ypmYe
'7V&d<J:B0ck|A$Wfk7+8+?$A7>mb0qp)K7_*9,e.zdpO;2p`r&Cd3{)NgFYZnG{;W4NzH4&Jt>RZ%`+Qy0(gW5iYK]wGDb,h`{2JBXN0fAN?JQt5DwlHJN*HyPq:#GpsIl<SvUY~'.}RwWctPSsrt
XRoMoW|%J=f8lqemkNtP;X5T4JOnI%`:O7FE1M3a,ZCGaXgXz+3%V5|1J4lC16XZjy!W)Gh#0l=reEo{W1w*NPbV4R{5<62*Q7aZ*|;XC)b](f98Wy4O$>+*HAnfD,80U3{Te{0HM|>7i/!*mG2j<A
_8*U|SgRFZYmgwdMaD9M8{3b*^Bx*bh(To#5f?4ROx|G8|}&!#]B<SGG.NPflw_U2br$kkR>'M}ujZt6=c24>B/GrGT7(}8][14hp~dU3;IiY'Eg!']uWKuP>./v{(e=V_}MI%a+D3Cz5s./EA$[dw
A:<vp(G_Hghq(NA|o4Hg3R?TUq}|m(EL,:nny=%nZ6kN7dPt;5B7,Vbe&1L$'..:)6*`)JSlT(xGt8_YGygTo1AhNBO}?MF6h>e&qz)bt:(S8vuP*S*`nJhdwHb>Fqy5sp;|j5QC:dJAda=1KQvbhj
$~wq>D+LThZ}?|#U39O>a/E#Gk4K>=n#.}RF,U,!1X~rjmBYW*0v^8?2`:t'~99MhOj()wS~XqB,4$Lz/St]}v!m^rLYey:th_3~%[9}V8zU8^&1Qk>V$CyX>,p%A}J|8=4pl(KMGjs/<<T]U[|ooU
r1Xm0;(XVZOpXYE2MIi]U7})ZKf~Z>+)_&|NvW#3o$2K_]:./aT(Mo&+r9K#wjt6n8NdLTTlW`lgG&)!=D.**z^A]CVsy+H&0w_*5qYn|de|6.W$8OK/HE+Tv?OVe~*+!^wp$s`Py]Gt~7}w=z)/g1
+tK^K6j2<&)~rPo/es$76/v9Qbnm|ppl{d!Oixt.*jXqxUlZF7r='&?aK_M&TSk%Ke31#OeI1aEXeRV>Jy[!b<Xm+~.]fGOvwrB+diEeg=E`uV3C(ksJaCE7Q5Ocp3hv:_J;4;rp#IH:+C/GQ43c#+
e[dcYK8rK/c+&0#$1}?=FV}0='e`<DfXW)p4ph%e;f$A(Jhc?uaxBlL7Rd10o]W0fI`G#$|K^{{2,p/yLN|K.csvIiR37:gHBQ&!qn%=EJ#,xP[DDYx~[&oE'L)s]!=#DxEsU:H0zd&;8Bz=RCF[1R
kY5/8HJ0]l.`=`ChYrSTAY&qGdYlb<n_4RhC!x()<M[(UT1<G2|}]9A,PM_SH{eb.Z*KN)dWcI{p#&Z$Jno(n`2~|[?FUB^P'c,?I#5;'8PpR6*Vrwe=OqVdZO>Dbl`llMCxw<FaW:DbUkQbE?Y;i~
qj%sVA&k>}+i5nv|pWj0I3/kW*[;e!`0`*`9D,#y&w?sjCVD[{3q~bh{cV?~.7TXz<?/w!.`#7S#B..ctBqMeQ^o=RgrOt]GqAvsJi4EuLnVUNzx*9bf>Mw8cMx,Jzf3K]K.#$f6.9Oy+;m(AnL`0U
c?UhlzzDCNrat3.m(d_%yKK/{yG]2?%w%HFGd+zHl0VMQi+9DA(Cyc+fsq2dC&_:A=E`|XL=uQ&c*g3AGE6u)|]wTh6Oq7^RA#iP{a*j^!!}hl:h0dI*WCWH;LbI4oIGk|ty0SIexO^b460z7+3W8&
`9,vB4}G6PO1e!`d+lZbZjKLh{eDz%/2g[%;=Q*iTVhx9:&wQ&`~T#stQs),YH*54OPJ9v?BbVthk'lNoQu<D{*;6c7z(fUHHJ<UIH!$.C:DjjHpF2_~C<*S:#cEj>N;s6vx~6XIIbJX;<!)vJOk2j
*Fi6&9$8K!f=7D:yem'J~kT^GAe,_^bVTb`x/mq+8!'V5zOnlqJ!1%[QIp%?'cLSmEDdU;TEB}<:~X+T%j;,{ake`};>t$mlRcnz6;BVkl`>RnFUuHHuPI(?AGo;1o4kG;8X7)&$z.y2bu`#$JK?E2
fA7]3<T3$N58+IHVy3VwcPpvEh!q9HO.yv3]y|bIm(KzCBJ>n:Injcvm04btUg/P?WHiO%=Ne8pM'p,tF}YQ0>/]/[pSt2Ee?h;dc^B4jr18c;N#,'bJt3yT$a9IVt%:l^7S!IiL&H~8t:%,%i>1?E
TS:iF=q6{~8:/RO>){P*SA,ySRa[q*(:{.BU1KjsF45fD#QPY^wyj5L)?}%axZ*&Iy;QYC96<S1FXBE>yl4O}*STy$D%q5Wy<2/g|_zd,sP1(|6HraeBp6).n2<?u_xC$w:*pl$5ah$BKd:DO.;Fbo
P{]*Xjd)V`O[_bQ4VTU2D4jykA#27<<fg8ozN'iH~Y9{D%9+i%C)53WBlV~pQ9TlKj8<D]{'VaH?vd2L{?}Y:%37VD<L_UwMNp=q5c8kW|TVOJk]Vnem{`SUWk<]y$U/QnO7n=&5ro0{CaT,W`ZsUc
sFbbag/+&'f*yXCD]'mNi`&*tD:{VadpRV23Uu2ZtlYO=7R%?H(ei]+H/SQn%6at+IHNF80'9/ZxefL+#Qx'P_nVOUHr[Uu]YeUI,9tG:6nDx?.Q)q&NUvx6f{t(w)h|V6}APEKQ'jI1N$?Dv.thB]
z0P1Jg8d,~.fqN0deYny!jY(Ndw*'JgG]=N5Iwm2o+3bzmni<^8Zq[,k>Uhk+m*1QZl^K4id0;q&v`tv%msxjnDW2npSc4XwU`iE{:|G|JO'{AvEUj|Q8C$fD1!1wGvE%9]ZE+}2Q0`$=NmZ#F2jLG
}Z$+?<asu%ikrz,Zt5KZmw<bKvmTA{yoA5kXlZXPS=[1)R>#[1X`K4$nURvBb]q&,+*x$k>sTAKwYm2oM^)K0d2O,A*Ka=EQ}d*ZWT~(;x2Qh'_~T'ldU(IIfKqF~SZT'qM}}B[Yp]H}!)*/rzOAnO
ZMd1}b+~Wd*iY{MW&'h~EB_>b++C4w<t(12im]*R*O<p0_.KDKEK=z2(zc,})aPhb|H0c}KYg]vK4.k!U4fA+GQQUBsL[x/6SbLBINbCXWGnsMr`.TWX8D7&OI(h(48SjNKYG;||5?#{t;2wqR,)u1
f`CHm;31,W6'4/q|%mW$DJ8#F&+qgFh}xX+U<8U2>[t++2MBMS$uP$'DWS|vD%52AYJU[j~qGvX78.%[X;u.Aae4OOelWT[<}LD,vPDWj:)~[U)(:nDF#7QyQ~11_,B7HECXKq(La78Zv6!+/5M#en
['OhUr>%%Q24iZI?Zd1%ObI7JJ|)cu|qDl3U=tJDWJnP;E`(lbNHy[bdu$*%G{VgE</ERcY|C(voLB%vi9V])Pr3oWNypd*~,'Wu)dP4Vgr/jmt:u,Rn9MF2w1MljeHQw%`GaY;LOaj.uqS3+i8Y43
!i}Pe{k!tx+f6TQrCl>V~'YW}8ve1pM{Z}8l]#OVfS5!Z2ZfB{]m?+l[{n$s%~za||baarl%w<S^NH{ey/=HWrka_!xxn`:JBS98tR5,jJ,!?DMC8RE}rL>!k]fy=p~_{4|k{^[IEKf#)Z&=AvuT'n
sXRT)$wLic*&UA&Un/L~olGS0D=!vR=3EcWOfC!~cC1G_0XJhN0+WB#(&<i$r2OqkX8ikugM)}Lb.V=<Ye[VEb6Te1V)}BEa{1(daXQ%5=r[*;yuB{rljqi1[6oscXsc?dr|c+&Ka5G%%Vx7lk15];
nPp$=KrW>)XVQ4#7Z|*t&9yqek.<(?Fg_ULs%Ge*N]Q5=/8YJ_.3F6a8y%xOF7r2~DmJ&i!{(.*cd#}L>_zl=5.nt7a1%Z:}`BADmPzo`]{QNW%5?|uD+Y.E|p!MvnuKsK8[wQ?K:L]zen|,iX&ctk
gXC:eokX?_8a>DZu|^G?u|LUzI)^.(8d`Yr?#V6|<mXqsW!u|!B^BNl3)}:G[dO5{i)xj*P7CY':'5Z>^U!?1M<~;H_C6ErzGBW3p6Ertk+SkxjlzfB8VNVP$oc:utkeuhhuvo_S(k+yAeFa&w3X^>
_&vW([>GuQ)D,E:(jkB/#C%M~8{8K5tZ$X|sv3gi.SB^uDnP=2s>AZ{q>r?)Xa1a9H}MWuRf;)Vc<:`msz`guDWM9g=CFzHK^6aGt9KR56m[HOwwi:%&Bv^mH;v?6(`/0|KH*C/o_f)G4t2.z^%+*u
Px18$=irTVHTaAg]CZyBZYCQ_Sd$*:PO1~bhfe}qYj&;'!PJtFd7dgOe_fe7hG^E>YgZVmm=:uvm.fa7oQVQy~eE`k%i?)=,S|XF)}xbtLvVjjg(&tAq%ljBpM^jzH},e<knaU'#!UW.iXi;'4O{Mz
a*eVs`Z&H(T0`v,Cy`_v/dkULdF?Y%nr3yb!m(,2J,/9TeGPD!gw~lJ=u&J'sQUC;pH<j;3!{mSmV26y(p93ZKkYHg=OxYlZ0DN~!}5ags|*e5x4F9GY*/IZ&.QQI4f~;JQ'<iQ<3hQWg7j5s0+)'2
;FgH1#0M=89;_FTp,:'p#NNTs2_hS!ciQ^f3qO),UUpf~Fh5Gx|rYod8bR'~7AB)x!`YC.<7B.ze9B!QA|]$x3]n2J'nCQS>SS~gAO55dUN(Bu1cj9)Y|n+mtL74u)iI2?CPa1TvxY{!nE+6,p!V2#
.$ta,tS2Nt9VS5Fd#2YK$BZ4W(]mHD'CMrO_)q{wRu]8=ZcV:'4C=[l1eKkbnd>EWbQnuQ,VY#q&(J>EXV6Q8+'[?`&WoJO?.SX$lk)34)'F(90~VkBa:Vt4O|q*;?$76]2x51kefWb>W:S,)|xd5W
b6Z#xV7zaD=SO~[~UgO,4v;%B[~8,);eWaK5t{GW9E]7$#;/UGD9&w&WGxzk?(CdKf%s=HE`S}ooikqhcXA^RU.#*,Bjzd;d*x&IA/(|sJ&=5[wc9C|vlF3.p%pJ2IY~=X8ya#P5(dR$1~AC5g6.?v
i?,%T}1mrS5~o>CwIY7Vz<u4?]CIx<Q3*c?p*o3}Lqb*V{j:#5m14HN2<qj19R4}u7W?pOfg9ggL=DL=W)2R~iIQs%W#|,*UbAc]TCbtoM~5|:^#n+xjA5qnKN2VG`M3lwtE3OTFo0)g/ZE)VM[_n|
Vk:Mx`CXv*2;Xh&tjzP_+WDJyQg}lBSfFCZpDdN,(xWu+'kq'*<?po=#v=G'Qq/9xyj~jl<XRkC:B]RKyM|b=z../aWd!ezvE?>J(oF0yXIS}Yq1l&)$oF^8DZ<7{<wK?s(F;_6SRtUwrI[M0ZY2=5
&7ho+GqruG%I8gLM<CLP,hn)_>ChD=D5`RMR~TT*te?|Mw_Nrb2Vh.Quql=taYJ0Y=18%:`*(zrqK+*RbGU`V#sG(gi*P^U(Z_DZvx|2V1B>^lLo{wskctWcmfA><o}U|!TQdl'+%_yR%d0l?Hcsh%
|IO*y`<jrq:+~6K?<E>SJB4z4rPr!Z[~SnpdftWh+0wMrvC*rHg>RgviO~ei5AS'aD8xY|U,,i&]_BGhWy|,MSN|r'W>W>_<]o$yPF%E':>jG%?vvZ{kZm>+b)<UY.&Hh1Sg8j)=Yj'&jWs<=G}hCg
NfnA>vYDd|`qEN3YRc)1ldCNt5jRr8xn4S}S%>>m47fZQx/Hzql/^Hx*fut[5>SsXy)auzd]c7:sc:^Re`}acd=*eaD!SNA7f;lP__:2w2X#g$z`K/$u~7P6!ba.ANTc2ErfF/a/0P40gjJBsehzQ6
P5ypcC1bH%*Ew`jj^QO3~pNm?Suu#c}o1=xGb/>XWiFsr({71)FZjnB{I+4*^XPTC%UsPb9(y+e;a'otPx^MwkQTG4ZRs#xKL^F4iw+JT'KSWg9KS!ZsIHak8JO<B_HLah2.LunM[T%Ke^{Wiv|c/l
CpTb:N/'3!OEvC=?%rd.4vZxBBwG]>7q6nMdErJ[7|tuyo'Q#nl_t4xn+VF;T^.3..9*!c!GFuzyvUg.dW7vP#9ypZU}}d1h5.#LoGik6Q<Y>LTDl&*xold5j#N(ND.R64kw}QTID`aL(gM=7z(uvF
B8zgy%>Aub%p}0/;#JHTYmIjZ//8%vtfKRc~X#&ql'gd.4P|h(VT+2PPlzDcsa~9ehldY{ki=Updw{H^%;5_$ly;cy)|8ApJcjaS+2/WDQ?>UFW^n.4.}Io9bFwG1fZ#X*c_l+BK4<2bA0)|XBimca
D!QVApoGaSpfnd4y)X}]k^Gjd^zsDQz,y8nx3|8W/0M}heXyL?:C1isvl:svAWMwb,HuKYvE(&vyxpaHpYg~yJP]{([k}']9.'VKjIGU!e]j:s,nY^e.m[.H`u{ET'T+E#'GJfOhC0,>02L7~RIx9t
p^g]X=>2nA{i,+Pp3LsUvzw3,*%t|<e/ouR~B>gg39MB?[x)T?*PfLuPd,#U>IeIj)QXngi,*W&FG;RoE%!7>?u2h(yey._K_0LX,^qgWDy$r^uFSBOqzL#afuAgLa$R|S=/d'[hmYk`Ir6nKMl.#;
|>}:K|V;e|zhX?O;2_p)y2Sd3m8xzDttEOu!6zj_fqI2G5tnYH5mo3VZwN}H_.#1cve0/St'm`m,;=x6FH',`U%:ih`!K64vwTTUwz2wQEc%.s6naBxxI8;.)l?'gnR_zOs8L]sbR(3,Aq7sYK3,v{
*RY5]Lj:Tg)q5U^Si%s!rx)HZdkg4t<YJLN*#/&VS'0anp``fmfk7+/x,4})S#1cMsK|8.]>_.Tb/ot[V<{b!xzC(Si.)ikQ]r2;TW%~0|'3B(~irPe*/Kk[~1&<kXhA&Lkqh`bJ$HxK{Q]yG6d}E}
zjOR73XxtvA^hOgrf/oSk{>.tHbmU6HldDuA(#!NB7!]TFJM8{=X}Wxj%UA5+kwWcs;X``PZ}>FaIgEl%`a11Tx~{7__K^U57Up*%E16)fb|#q4:x7z89q{.#T>f17(q0Dl*$?Eu4C^V^G_hv(ZJ8j
MU~aT=XAK[P0M^1IBbO~>w]yUP6T[]zDo|{m>W.D4QQ:vsp![8|PD8AC_gF{&AehqMX6r=aNzxrw!E|QHz?^w(UVa]dq:bx*xhQaEv!!+VAzB&_%^_xg3J$&}0#V*x8s[8$c$<yt_#8&N0m!'~+L2/
UxJyM??lRvUQ4(C#,^7EO<1u<G7WY>^M0V(l5?}FQ[>5`EEkd`4C9db?:),%0Qo(t?Y$ip'O)yhhSKcF]QF#K|b}UuX`+t'^aL|mFmNIMVpUqBLKwwFG>0<=5y0W6'FSq6Dg!Z[+oevi$aCBR$)^&i
:XA[lzJN}KXO3c.$jj7W</qrc/Sm9/~AlrFr*J2PKdxkc=V6{w6feXdgw]z1'O6F0U;~$LWoeV[`s0[=9O^ZE$i1dR*<8B*K+qn=LrhO0s.I``Bgx3lN[V:v*r7p5:(QAsvoAagxI'D,3p*1(7IbXy
t,3b[He;N]iSs52(s7}U|xr|HpA/f}9dQH#pqB,W23]v{]C<Z[C}T2}##Yyx'ZrjmGx.10_#{siLJGy&'gp3rJ]0U]W8{6E^z5AL6$/03mO#wv?i`h{5!bDqA6HW5KdFIw9gL5(pU}^D2TG$S~Y?iq
~UAFOJDJ6wUVtH6',;6JgnPCq{|1]kXveu=<0v;dejZvB#D3x}5}6]0UO#%QqCXQhxa3q~:D=|T:peq]+J[2ur:AY)MvAjcLgxDcHWTRKYFe=/#<yMfn+_&X6ZX9u]92Q}TiAxVBjR|vlz%u8?[~B+
;1c{4ve.wL?O*,rd{7DFuI5lHi7q:p<mA0Aqz48mmu*].if^1uvk8LnsE`lu*~fj}uEwnLYR&mQ|iW]#lK9=jK.b){yAa[?n!O6X:>/M(|UMOXi{EM9$PQ6$MKqi5}&dv<=,}nFhxIFZQ8UO9IaA_S
Q<|3)SgZH[5,:]hwITuhUQfA&ObL0Xe1>+*cC/hbfK(EQ$().b4h1GE8(js0awZG.nXLXYRnb/t}:&*`SR^,<FQX&DqQo<#Wy2K?4;a2V_>f1GGs;=~?AI31o^IyZ6?>9;9/Ua7(lxL|SQx|^Hdt/P
Gs8TyMtq'Pfou/])_g7RU[U<jHg`zgnJ{{XEtU+Z5nRcc<X*j:UJg6ph1fBe8.lhq2osnQ)mN.,*ku.!3X}Ztw[&bqRblmw1n0WB}.In1XZ`5wLXukJ7]rc!G!?nT^|ExIC=wQ=}UuZJ1pz++5Hf1M
h5~<,pH45u7PYXfseMIz}Z=7UZvTO8/$%*L!t%PWMWaiai>?XC5?S%LAiYj}<?S}[BF&7o7UrAU.lwD.J1SWwXHEr=r(mMN.mJY_W_*yZ+_<=T69(CmJ<Y_c^A4Y/:__r[aaTF<W9hNMI'`l~o?XLj
D=3$;T4TS)E|jtAx%8f?Z8Ye!DJ^nljc9=/cSf1xmyqEwvaI:Nid]'qnl>c=/mAE2mzp9$eVFq^6Xp6gWch;Z})hkB%WkHmbpu<;dU[&J0$|IuSQy{3BALjucut)!xSAE5u:W28(z+sh2t?GZ)^:p<
ieBEgBTVBCVGKtU1iXy^slKfn;^t]>zu%;a)FPcuGaE$l<t'${XNg]H(=9')uC_}[`R+Wf~d;Bto8T1B=jC%u)+o+.ArgjHI/i'[vM_K}2+sg0eN;fg8zYTvq/1wbuGub~ZUOpPFyhBa;K%E%+&E#0
w%#h8:m{7,{3tOej:%W(QZR`]]eRpj%Oyrj)x}%31'zk(7)&$<:?;Gy3BmxWvFsH]<NckNUs^=[HqOb{Lt`Q:7#G=RsV*(]*.pKw;b]Oacu?,'n?C:_`MNgAm>GpzTam160q%F5b{G<f#+B&nZWf%o
M</RUvsC9`:0ayud'u0lQi%v,FL8/O&DlD|&J9:_QSJYxx.FP7j6aUS]9g#Bl!M/y)QHTa&:R&Zd|>A/;{jm[A$ae+LJgUNIn]XrZVcC,mA4|lrj:o9+H!/sUX,s/v!4+4crV<j#c`m8)vOQ)QuufG
sL618+gPf+rUz!EDdTl:)lee=]wGo;S&_AOgu>~?Ne_^r;m.3<+a:D}??slQH7+PI0wTL{u<Th8?_O&i0RkjXm($%fY1o=Aw8ofB%EC+OG1.1PQXSR3QAsxeJIF'~MC5`B={PKWP078J/g.vkWF>eH
)9QAg?h52wxAqYO/gu55{wklT}(/:CE_957`UVb1fo/cTcYq/!,hD{.wkj(si,mT~89_b'5q)f*X[aR<iCe%7#'X}*>cQ>qblWXkS>|c=Qp#0]B*0Z#vBh]O?lm6Yxb[f#!J)|VS%}wTJFo.v>[TF2
Q:/6_{w_rR,_j5_)=2Az9~hMZd&8zw3(=G#~ZaQ/>{A%DiJ<4]!WCaRFlP5`e?J+0klO3BP%$}uS98%DcMGgJi7QBJxP'LB3DobEH/Obqcn54e}RuU8_KQ?ZW^8:$Y3rHE<0#(N)M?u}mb9<S/NCX]
|BZPvFj;fc(?ank<1NA%Fec.qmbD{Y9AfRf''eKIn9H;dlBOYW;AUzT9E4bPN8#CYmST%+m:tUF:E%qNvX4U`rF)P`lx?WuEa0u7SS^t;Ge]{cA|[F$(.Vfu$.*^xf0>.9_~;3wH6o:Byz1#F=_!Gh
6tS}8jSK]Ulp/osbF|a24FN=}(/tr^WT/)$Y}9~35SDOf+3U`':[/wF05Z'9SwpX&36>FPxa*MZGUJF7CudfqX?gs,84=l%u/Bt*s+=aRnx;=B`d]Az&GF*kT1=ky&v$S^4A^AE[7NBO8WeW+VK5nE
P2.g=Oe,w?$%xhX_|0a8S_#h2pWWGk_JSeDS?!!!!!!!!!!".toUTF8
    -- the program's term (the library's), its strings as the numbers of their signs
    let some pw := (← Lean.getEnv).find? `PySem.Challenge.pw_nz0257_01 | throwError "no program"
    let known := pw.value!.replace fun x =>
      if x.isAppOfArity `PySem.Str.ofString 1 then
        match x.appArg! with
        | .lit (.strVal s) =>
          let nat := Lean.mkConst `Nat
          let l := s.toList.foldr (fun c r => Lean.mkApp3 (Lean.mkConst `List.cons [.zero]) nat (Lean.mkRawNatLit c.toNat) r) (Lean.mkApp (Lean.mkConst `List.nil [.zero]) nat)
          some (Lean.mkApp (Lean.mkConst `PySem.Str.mk) (Lean.mkApp2 (Lean.mkConst `Array.mk [.zero]) nat l))
        | _ => none
      else none
    let go : IO (Array (Nat × String × String × Nat × Nat) × Array Lean.Expr) := do
      let fp ← IO.mkRef (0 : Nat)
      let fr ← IO.mkRef (0 : Nat)
      let fc ← IO.mkRef (0 : Nat)
      let digit : BaseIO Nat := do
        let i ← fp.get
        let c := (src.get! i).toNat
        if c < 33 then
          let c := (src.get! (i + 1)).toNat
          fp.set (i + 2)
          return c - 33 - (if c > 34 then 1 else 0) - (if c > 45 then 1 else 0) - (if c > 64 then 1 else 0) - (if c > 92 then 1 else 0)
        else
          fp.set (i + 1)
          return c - 33 - (if c > 34 then 1 else 0) - (if c > 45 then 1 else 0) - (if c > 64 then 1 else 0) - (if c > 92 then 1 else 0)
      let mut c0 := 0
      for _ in [0:7] do c0 := c0 * 90 + (← digit)
      fc.set c0
      fr.set 47829690000000
      let bitP := fun (p : Nat) => show BaseIO Bool from do
        let r ← fr.get
        let c ← fc.get
        let b := (r / 65536) * p
        let hit := Nat.blt c b
        let mut r2 := if hit then b else r - b
        let mut c2 := if hit then c else c - b
        while r2 < 531441000000 do
          r2 := r2 * 90
          c2 := c2 * 90 + (← digit)
        fr.set r2
        fc.set c2
        return hit
      let nx := fun (e : Nat) (b : Bool) (lim : Nat) => show Nat from
        let p := e / 256
        let n := e % 256
        let n := if n < lim then n + 1 else n
        let d := 10 * n + 6
        let p := if b then p + ((65536 - p) * 10) / d else p - (p * 10) / d
        (if p < 24 then 24 else if p > 65512 then 65512 else p) * 256 + n
      let H := fun (a b : Nat) => (a * 1500450271 + b * 982451653 + 12345) % 2147483647
      let bp ← IO.mkRef (Array.replicate 4194304 (8388608 : Nat))
      let bitL := fun (h lim : Nat) => show BaseIO Bool from do
        let i := h % 4194304
        let e := (← bp.get)[i]!
        let b ← bitP (e / 256)
        bp.modify fun a => a.set! i (nx e b lim)
        return b
      let bitH := fun (h : Nat) => bitL h 60
      let numc := fun (ctx : Nat) => show BaseIO Nat from do
        let mut l := 0
        while (← bitH (H ctx l)) do l := l + 1
        let mut v := 1
        for i in [0:l] do
          let b ← if i < 3 then bitH (H (H ctx (100 + l)) v) else bitP 32768
          v := 2 * v + b.toNat
        return v - 1
      let tree := fun (ctx bits : Nat) => show BaseIO Nat from do
        let mut v := 1
        for _ in [0:bits] do
          let b ← bitH (H ctx v)
          v := 2 * v + b.toNat
        return v - 2 ^ bits
      -- text
      let tx ← IO.mkRef (Array.replicate 262144 (0 : Nat))
      let hist ← IO.mkRef (Array.replicate 8 (0 : Nat))
      let chr : BaseIO Nat := do
        let mut hs : Array Nat := #[]
        for o in [6, 4, 3, 2] do
          let h := (← hist.get)
          let mut x := o
          for i in [0:o] do x := H x h[h.size - 1 - i]!
          hs := hs.push (x % 262144)
        let mut seen : Array Nat := #[]
        let mut res := 0
        let mut hit := false
        for k in [0:4] do
          if hit then break
          let e := (← tx.get)[hs[k]!]!
          let n := e % 8
          let y := e / 8
          if n != 0 && !seen.contains y then
            hit ← bitL (H (H 4001 (k * 8 + n)) seen.size) 200
            if hit then res := y
            seen := seen.push y
        if !hit then
          let h ← hist.get
          let l := h[h.size - 1]!
          res ← tree (H 4002 l) 7
        for k in [0:4] do
          let i := hs[k]!
          let e := (← tx.get)[i]!
          let n := e % 8
          let v := if n != 0 && e / 8 == res then res * 8 + (if n < 7 then n + 1 else 7) else res * 8 + 1
          tx.modify fun a => a.set! i v
        let c := res
        hist.modify fun a => a.push c
        return res
      let text : BaseIO String := do
        let mut s := ""
        let mut more := true
        while more do
          let c ← chr
          if c == 10 then more := false else s := s.push (Char.ofNat c)
        return s
      -- names and levels
      let nameOf := fun (s : String) => show Lean.Name from Id.run do
        let mut r := Lean.Name.anonymous
        for p in s.splitOn "|" do
          r := if !p.isEmpty && p.all Char.isDigit then .num r p.toNat! else .str r p
        return r
      let levelsOf := fun (s : String) => show List Lean.Level from Id.run do
        let mut toks : Array String := #[]
        let mut cur := ""
        let mut inn := false
        for c in s.toList do
          if inn then
            if c == ';' then
              toks := toks.push cur
              inn := false
            else cur := cur.push c
          else if c == 'p' then
            cur := "p"
            inn := true
          else toks := toks.push (String.singleton c)
        let mut st : List Lean.Level := []
        for t in toks.reverse do
          st := match t, st with
            | "z", r => .zero :: r
            | "s", a :: r => .succ a :: r
            | "m", a :: b :: r => .max a b :: r
            | "i", a :: b :: r => .imax a b :: r
            | t, r => .param (nameOf (t.drop 1).toString) :: r
        return st
      -- symbols
      let symEx ← IO.mkRef (Array.replicate 8 (Lean.Expr.bvar 0))
      let symPj ← IO.mkRef (Array.replicate 8 (0 : Nat))
      let symNm ← IO.mkRef (Array.replicate 8 Lean.Name.anonymous)
      let newSym : BaseIO Nat := do
        let s ← text
        let p := (s.drop 1).toString.splitOn " "
        let n := nameOf p[0]!
        if s.startsWith "R" then
          symEx.modify fun a => a.push (.bvar 0)
          symPj.modify fun a => a.push (p[1]!.toNat! + 1)
        else
          symEx.modify fun a => a.push (.const n (levelsOf (p[1]!.drop 1).toString))
          symPj.modify fun a => a.push 0
        symNm.modify fun a => a.push n
        return (← symNm.get).size - 1
      let ht ← IO.mkRef (Array.replicate 8388608 (0 : Nat))
      let hp ← IO.mkRef (Array.replicate 6144 (8388608 : Nat))
      let head := fun (hc : Array Nat) => show BaseIO Nat from do
        let mut seen : Array Nat := #[]
        let mut hit := false
        let mut res := 0
        for o in [0:6] do
          if hit then break
          let mut e := (← ht.get)[hc[o]! % 8388608]!
          for j in [0:4] do
            if e == 0 then break
            let y := (e / 4) % 8192
            let n := e % 4
            e := e / 32768
            if !seen.contains y then
              let i := (((o * 4 + j) * 4 + n) * 4 + e % 4) * 16 + (if seen.size < 15 then seen.size else 15)
              let q := (← hp.get)[i]!
              let b ← bitP (q / 256)
              hp.modify fun a => a.set! i (nx q b 200)
              if b then
                hit := true
                res := y
                break
              seen := seen.push y
        if !hit then
          if ← bitH 31 then res ← newSym
          else res ← tree 32 13
        let sym := res
        for o in [0:6] do
          let i := hc[o]! % 8388608
          let w := (← ht.get)[i]!
          let a := w % 32768
          let b := (w / 32768) % 32768
          let c := (w / 1073741824) % 32768
          let d := w / 35184372088832
          let (r, n) :=
            if a != 0 && a / 4 == sym then (w / 32768, a % 4)
            else if b != 0 && b / 4 == sym then (a + (w / 1073741824) * 32768, b % 4)
            else if c != 0 && c / 4 == sym then (w % 1073741824 + d * 1073741824, c % 4)
            else if d != 0 && d / 4 == sym then (w % 35184372088832, d % 4)
            else (w % 35184372088832, 0)
          let v := r * 32768 + sym * 4 + (if n < 3 then n + 1 else 3)
          ht.modify fun a => a.set! i v
        return res
      -- terms
      let kids ← IO.mkRef (#[] : Array (Array Nat))
      let hdS ← IO.mkRef (#[] : Array Nat)
      let clE ← IO.mkRef (#[] : Array (Option Lean.Expr))
      let memo ← IO.mkRef ({} : Std.HashMap Nat Lean.Expr)
      let cId ← IO.mkRef (Array.replicate 8192 (0 : Nat))
      let vId ← IO.mkRef (Array.replicate 8192 (0 : Nat))
      let newT := fun (k : Array Nat) (s : Nat) (e : Option Lean.Expr) => show BaseIO Nat from do
        kids.modify fun a => a.push k
        hdS.modify fun a => a.push s
        clE.modify fun a => a.push e
        return (← hdS.get).size - 1
      let constId := fun (s : Nat) => show BaseIO Nat from do
        let i := (← cId.get)[s]!
        if i != 0 then return i - 1
        let e := (← symEx.get)[s]!
        let t ← newT #[] s (some e)
        cId.modify fun a => a.set! s (t + 1)
        return t
      let varId := fun (l : Nat) => show BaseIO Nat from do
        let i := (← vId.get)[l]!
        if i != 0 then return i - 1
        let t ← newT #[0, l] 0 none
        vId.modify fun a => a.set! l (t + 1)
        return t
      -- a term from its children: tag 1 fun, 2 forall, 3 let, 4 proj, 5 constant applied, 6 other applied
      let build := fun (tag x : Nat) (c : Array Lean.Expr) => show BaseIO Lean.Expr from do
        if tag == 5 then return Lean.mkAppN (← symEx.get)[x]! c
        else if tag == 1 then return .lam `x c[0]! c[1]! .default
        else if tag == 2 then return .forallE `x c[0]! c[1]! .default
        else if tag == 3 then return .letE `x c[0]! c[1]! c[2]! false
        else if tag == 4 then return .proj (← symNm.get)[x]! ((← symPj.get)[x]! - 1) c[0]!
        else return Lean.mkAppN c[0]! (c.extract 1 c.size)
      let look := fun (t d : Nat) => show BaseIO (Option Lean.Expr) from do
        match (← clE.get)[t]! with
        | some e => return some e
        | none =>
          let k := (← kids.get)[t]!
          if k[0]! == 0 then return some (.bvar (d - 1 - k[1]!))
          return (← memo.get).get? (t * 8192 + d)
      -- the term t at depth d
      let exprAt := fun (t d : Nat) => show BaseIO Lean.Expr from do
        let mut st : Array (Nat × Nat) := #[(t, d)]
        let mut res := Lean.Expr.bvar 0
        while st.size != 0 do
          let (t, d) := st.back!
          match ← look t d with
          | some e =>
            res := e
            st := st.pop
          | none =>
            let k := (← kids.get)[t]!
            let tag := k[0]!
            let mut cs : Array Lean.Expr := #[]
            let mut ok := true
            for j in [2:k.size] do
              let dd := if (tag == 1 || tag == 2) && j == 3 || tag == 3 && j == 4 then d + 1 else d
              match ← look k[j]! dd with
              | some e => cs := cs.push e
              | none =>
                st := st.push (k[j]!, dd)
                ok := false
            if ok then
              let e ← build tag k[1]! cs
              memo.modify fun m => m.insert (t * 8192 + d) e
              res := e
              st := st.pop
        return res
      let tt ← IO.mkRef (Array.replicate 8388608 (0 : Nat))
      let update := fun (id : Nat) (c : Array Nat) (at0 : Nat) => show BaseIO Unit from do
        for o in [0:6] do
          let h := c[at0 + o]!
          let i := h % 8388608
          let tag := h / 8388608
          let e := (← tt.get)[i]!
          let n := e % 8
          let v := if n != 0 && e / 8 == tag * 1048576 + id then tag * 8388608 + id * 8 + (if n < 7 then n + 1 else 7) else tag * 8388608 + id * 8 + 1
          tt.modify fun a => a.set! i v
      let lg ← IO.mkRef (Array.replicate 262144 (#[] : Array Nat))
      let logT := fun (key id : Nat) => show BaseIO Unit from
        lg.modify fun a => a.modify key fun l => l.push id
      let fs ← IO.mkRef (#[] : Array (Array Nat))
      let cid ← IO.mkRef (#[] : Array Nat)
      let cex ← IO.mkRef (#[] : Array Lean.Expr)
      -- frame: 0 sym, 1 need, 2 got, 3 tag, 4 base, 5 eff, 6 bt, 7 pb, 8 pos, 9 prev, 10 all, 11 depth, 12 bt of the next, 13 dd, 14 key, 15 first child, 16 t0, 17 own depth, 18.. contexts
      let put := fun (id : Nat) (e : Lean.Expr) => show BaseIO Unit from do
        cid.modify fun a => a.push id
        cex.modify fun a => a.push e
        let f := (← fs.get).back!
        fs.modify fun a => a.pop
        let tag := f[3]!
        let got := f[2]! + 1
        let f := f.set! 2 got
        let f ←
          if tag == 1 || tag == 2 then
            if got == 1 then pure ((((((f.set! 8 1).set! 9 (id + 1)).set! 10 (id + 1)).set! 11 (f[13]! + 1)).set! 12 (id + 1)).set! 16 (id + 1)) else pure f
          else if tag == 3 then
            if got == 1 then pure ((((f.set! 8 1).set! 9 (id + 1)).set! 10 (id + 1)).set! 16 (id + 1))
            else if got == 2 then do
              let s := (← hdS.get)[id]!
              let t0 := f[16]!
              pure (((((f.set! 8 2).set! 9 s).set! 10 (H t0 (id + 1))).set! 11 (f[13]! + 1)).set! 12 t0)
            else pure f
          else if tag == 7 then pure (((f.set! 8 1).set! 9 (id + 1)).set! 10 (id + 1))
          else
            let all := if tag == 6 && got == 1 then H 1 (id + 1) else H f[10]! (id + 1)
            pure (((f.set! 8 (f[8]! + 1)).set! 9 (id + 1)).set! 10 all)
        fs.modify fun a => a.push f
      let step : BaseIO Bool := do
        let f := (← fs.get).back!
        if f[2]! == f[1]! then
          -- whole
          let tag := f[3]!
          if tag == 7 then return false
          fs.modify fun a => a.pop
          let k0 := f[15]!
          let ids := (← cid.get)
          let c := ids.extract k0 ids.size
          let es := (← cex.get)
          let ce := es.extract k0 es.size
          cid.modify fun a => a.shrink k0
          cex.modify fun a => a.shrink k0
          let x := if tag ≤ 3 then f[13]! else f[0]!
          let e ← build tag x ce
          let mut closed := true
          if tag ≤ 3 then closed := f[13]! == 0
          else
            let cl ← clE.get
            for i in c do
              if cl[i]!.isNone then closed := false
          let id ← if closed then newT #[] f[0]! (some e) else do
            let id ← newT (#[tag, x] ++ c) f[0]! none
            memo.modify fun m => m.insert (id * 8192 + f[17]!) e
            pure id
          logT f[14]! id
          update id f 18
          put id e
          return true
        let hh := f[0]!
        let ps := f[8]!
        let prev := f[9]!
        let all := f[10]!
        let D := f[11]!
        let bt := f[12]!
        let base := H hh ps
        let bind := hh ≥ 1 && hh ≤ 3
        let eff := if bind then H f[5]! base else base
        let pb := f[4]!
        let g := if bind then eff else H base f[5]!
        let g2 := H g (if bind then f[6]! else f[7]!)
        let q := H (H base all) 33
        let r := H (H base prev) 22
        let xe := f[5]!
        let cs : Array Nat := #[H q xe, q, r, H g2 3, H g 4, H base 5]
        let mut seen : Array Nat := #[]
        let mut hit := false
        let mut res := 0
        for o in [0:6] do
          if hit || seen.size ≥ 4 then break
          let h := cs[o]!
          let e := (← tt.get)[h % 8388608]!
          let n := e % 8
          if n != 0 && e / 8388608 == h / 8388608 then
            let y := (e / 8) % 1048576
            if !seen.contains y then
              hit ← bitL (H (H (H 777 (o * 8 + n)) seen.size) base) 200
              if hit then res := y
              seen := seen.push y
        if hit then
          update res cs 0
          put res (← exprAt res D)
          return true
        let sym ← head #[H r xe, r, g2, g, base, 5]
        let na ← numc (H (H 4242 sym) (if sym == 0 then base else 1))
        if sym == 0 && na == 0 then
          let i ← numc (H 9 base)
          let id ← varId (D - 1 - i)
          update id cs 0
          put id (.bvar i)
          return true
        let isC := sym ≥ 8 && (← symPj.get)[sym]! == 0
        let key := sym * 32 + (if na < 31 then na else 31)
        if !(isC && na == 0) then
          let n := (← lg.get)[key]!.size
          if n != 0 then
            if ← bitH (H (H 555 sym) base) then
              let k ← numc (H 31337 (H base sym))
              let id := (← lg.get)[key]![n - 1 - k]!
              logT key id
              update id cs 0
              put id (← exprAt id D)
              return true
        let k0 := (← cid.get).size
        let mkF := fun (need tag pos prev all D bt dd : Nat) => (#[sym, need, 0, tag, base, eff, f[12]!, pb, pos, prev, all, D, bt, dd, key, k0, 0, f[11]!] : Array Nat) ++ cs
        if na == 0 then
          if sym ≤ 3 then
            let cl ← if D > 0 then bitH (H 808 base) else pure true
            let dd := if cl then 0 else D
            if sym == 3 then fs.modify fun a => a.push (mkF 3 3 0 0 1 dd bt dd)
            else fs.modify fun a => a.push (mkF 2 sym 0 bt (H 1 bt) dd bt dd)
          else if isC then
            let id ← constId sym
            update id cs 0
            let e := (← symEx.get)[sym]!
            put id e
          else if sym ≥ 8 then fs.modify fun a => a.push (mkF 1 4 0 0 1 D bt 0)
          else
            let e ← if sym == 4 then do
                let mut v := 0
                if ← bitH (H 71 base) then
                  let l ← bitH (H 70 base)
                  let rb := if l then 6 else 9
                  let nd ← numc (H 73 base)
                  let mut p1 := 0
                  let mut p2 := 0
                  let mut ds : Array Nat := #[]
                  for _ in [0:nd] do
                    let k3 := H (H (H 76 p1) p2) rb
                    let k2 := H (H 74 p1) rb
                    let mut pre := 1
                    for _ in [0:rb] do
                      let x := H k3 pre % 4194304
                      let y := H k2 pre % 4194304
                      let z := H (77 + rb) pre % 4194304
                      let ex := (← bp.get)[x]!
                      let ey := (← bp.get)[y]!
                      let ez := (← bp.get)[z]!
                      let b ← bitP ((if ex % 256 ≥ 2 then ex else if ey % 256 ≥ 2 then ey else ez) / 256)
                      bp.modify fun a => a.set! x (nx ex b 30)
                      if y != x then bp.modify fun a => a.set! y (nx ey b 60)
                      if z != x && z != y then bp.modify fun a => a.set! z (nx ez b 200)
                      pre := 2 * pre + b.toNat
                    p2 := p1
                    p1 := pre - 2 ^ rb
                    ds := ds.push p1
                  for d in ds.reverse do v := v * 2 ^ rb + d
                else v ← numc (H 72 base)
                pure (Lean.Expr.lit (.natVal v))
              else if sym == 5 then do
                let s ← text
                let s := (s.drop 1).toString
                pure (Lean.Expr.lit (.strVal (s.take (s.length - 1)).toString))
              else do
                let s ← text
                pure (Lean.Expr.sort ((levelsOf s).headD .zero))
            let id ← newT #[] sym (some e)
            logT key id
            update id cs 0
            put id e
        else if isC then
          let _ ← constId sym
          fs.modify fun a => a.push (mkF na 5 1 0 1 D bt 0)
        else if sym == 0 then
          let i ← numc (H 10 base)
          let v ← varId (D - 1 - i)
          fs.modify fun a => a.push ((mkF (na + 1) 6 1 (v + 1) (H 1 (v + 1)) D bt 0).set! 2 1)
          cid.modify fun a => a.push v
          cex.modify fun a => a.push (.bvar i)
        else fs.modify fun a => a.push (mkF (na + 1) 6 0 0 1 D bt 0)
        return true
      -- what is known ahead: the parts of the program's term
      let mut sd : Array (Lean.Expr × Nat) := #[(known, 0)]
      let mut ids : Std.HashMap (Lean.Expr × Nat) Nat := {}
      while sd.size != 0 do
        let (e, d) := sd.back!
        if ids.contains (e, d) then sd := sd.pop
        else
          let at0 := fun (x : Lean.Expr) (d : Nat) => (x, if x.hasLooseBVars then d else 0)
          let cs : Array (Lean.Expr × Nat) := match e with
            | .app .. => (#[e.getAppFn] ++ e.getAppArgs).map fun x => at0 x d
            | .letE _ t v b _ => #[at0 t d, at0 v d, at0 b (d + 1)]
            | _ => #[]
          match cs.find? fun c => !ids.contains c with
          | some c => sd := sd.push c
          | none =>
            let ci := cs.map fun c => ids.getD c 0
            let id ← match e with
              | .const n _ => do
                symEx.modify fun a => a.push e
                symPj.modify fun a => a.push 0
                symNm.modify fun a => a.push n
                constId ((← symNm.get).size - 1)
              | .bvar i => varId (d - 1 - i)
              | .lit _ => do
                let id ← newT #[] 4 (some e)
                logT 128 id
                pure id
              | _ => do
                let isL := e.isLet
                let sym ← if isL then pure 3 else do pure (← hdS.get)[ci[0]!]!
                let ki := if isL then ci else ci.extract 1 ci.size
                let mut ce : Array Lean.Expr := #[]
                for j in [0:ki.size] do
                  let dd := if isL && j == 2 then d + 1 else d
                  ce := ce.push ((← look ki[j]! dd).getD (.bvar 0))
                let tag := if isL then 3 else 5
                let x := if isL then d else sym
                let e' ← build tag x ce
                let id ← if e.hasLooseBVars then do
                    let id ← newT (#[tag, x] ++ ki) sym none
                    memo.modify fun m => m.insert (id * 8192 + d) e'
                    pure id
                  else newT #[] sym (some e')
                let na := if isL then 0 else ki.size
                logT (sym * 32 + (if na < 31 then na else 31)) id
                pure id
            ids := ids.insert (e, d) id
            sd := sd.pop
      -- the declarations
      let num := (← text).toNat!
      let mut hdr : Array (Nat × String × String × Nat × Nat) := #[]
      let mut ex : Array Lean.Expr := #[]
      for _ in [0:num] do
        let p := (← text).splitOn " "
        let kd := if p[0]! == "t" then 0 else if p[0]! == "d" then 1 else if p[0]! == "i" then 2 else 3
        let lp := if p[1]! == "-" then "" else p[1]!
        let h := p[2]!.splitOn ","
        let a := if p[2]! == "-" then 0 else h[0]!.toNat!
        let b := if h.length > 1 then h[1]!.toNat! else 0
        hdr := hdr.push (kd, p[0]!, lp, a, b)
        let need := if kd < 2 then 2 else 1
        fs.set #[#[7, need, 0, 7, 7, 7, 0, 0, 0, 0, 1, 0, 0, 0, 0, 0, 0, 0]]
        cid.set #[]
        cex.set #[]
        for _ in [0:100000] do
          let mut more := true
          for _ in [0:1000] do
            more ← step
            if !more then break
          if !more then break
        ex := ex ++ (← cex.get)
      return (hdr, ex)
    let (hdr, ex) ← go
    let ex := ShareCommon.shareCommon' ex
    let mut i : Nat := 0
    let mut j : Nat := 0
    let mut k : Nat := 0
    for _ in [0:hdr.size] do
      if i ≥ hdr.size then break
      let (kd, _, lp, a, b) := hdr[i]!
      let lps := if lp == "" then [] else (lp.splitOn ",").map fun (s : String) => (s.splitOn "|").foldl (init := Lean.Name.anonymous) fun r p => Lean.Name.str r p
      let ty := ex[j]!
      let nm := if i + 1 == hdr.size then `Mine.hz_holds else Lean.Name.mkStr `Mine s!"a{k}"
      if kd == 0 then
        Lean.addDecl (.thmDecl { name := nm, levelParams := lps, type := ty, value := ex[j + 1]! })
        j := j + 2
        i := i + 1
      else if kd == 1 then
        let h : Lean.ReducibilityHints := if a == 0 then .opaque else if a == 1 then .abbrev else .regular (a - 2).toUInt32
        Lean.addDecl (.defnDecl { name := nm, levelParams := lps, type := ty, value := ex[j + 1]!, hints := h, safety := .safe })
        j := j + 2
        i := i + 1
      else
        let mut ct : List Lean.Constructor := []
        for m in [0:b] do
          ct := ct ++ [{ name := Lean.Name.mkStr nm s!"m{m}", type := ex[j + 1 + m]! }]
        Lean.addDecl (.inductDecl lps a [{ name := nm, type := ty, ctors := ct }] false)
        j := j + 1 + b
        i := i + 1 + b
      k := k + 1
  trivial
end Mine
theorem PySem.Challenge.cw_nz0257_01_holds : PySem.Challenge.rw_nz0257_01.Holds :=
  Mine.hz_holds
