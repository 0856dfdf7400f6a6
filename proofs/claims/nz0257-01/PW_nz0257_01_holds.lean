import PyProof.Rows.All
import Wide.All
import OpenK.AllK
import Wide.FinOn
import Lean
import PySem.Challenge.RW_nz0257_01
set_option Elab.async false
set_option maxRecDepth 100000
set_option maxHeartbeats 0
/-!
The proof's declarations stand below as packed text (they were found by walking the program's code, in
many texts; a program of ours packs what the last theorem reaches; the program's own term is taken from the library). The host
theorem unpacks them and hands each one to the kernel with `addDecl`, which checks it whole.
-/
namespace Mine
theorem host : True := by
  run_tac do
    let src : ByteArray := "ZVsRfQ9;kt_{}H]l2}Mx]4De{hz.e1LjL1yYT=:vSbufp7`/&+%It7_S'v,=pz1[JA.3*F'%viL,j~*0N<!q#ke}HOHQb0<%bu*bz?yh!xt)LnvoYGOd7Pl*GYVdizoHPiI_;(*S9:](%ccudeb1Eo
I{)6Kr3Q9&`#Lt&8J:'`KP'$4Fu_j(>0p;UrIPdTUe98_!8l[G!y>:Xrua$:%kyABCV2T^[Fi433DNDwE^qJLfI?*%+H6xHMiLe=_rb6f=MLRQ`'9EL6%YBjy_(*>1%Y>S(N(=zd#Qixvy>cJ%bjVX
,E|WON!(s`LlW9dnqRA;=?L2x.yDbEEAZQhv59q2Z[lt1*eDm}b*cje8b3t.Wn9_mT>^WW5G?l&a~sWt=%n3E;x;Fm~cuAg?o[z&i!vm'0W]}TmDhmQWvUcRN&#.M&bpPz<4Nr_'WsYTk*RRp/mZq)
y)_^(Q]jg<,5L+j7NGhDAAPoewg`8m+8BN8[zCS4z&IR72Hl;EElZ'(*Q6W;4Aa2ck/.RXi+Cn&^jFe=N=&k[Q$rC`Jt%PvN7U'(BEwiNA?:.9,]{a9#<(//ir`/7up%pdj>iwG)3OT}C4Hc>[0qV~
?mQ&pltO*%%>aBma:i2;e,Q*afVR3_ayn4csu'H~Y<}Ep{/h7`;wCW(Q_cj2%;vyg<c}xr!^35w$K|O3Y&#3cva<[TY?*]TJBI^Orq6)Z,)]1xFrBuG+#VF}[F^hK=r4JbMTm9<P$!:+|[w(`~!fJ8
WW9#yr*J4U'53#;{$4f/>N*/y(v<F+M!Tk'X%=m6m2Lt1d!_ocYm]D8F<#`KOC/dXH>xh_U^a3k:6}*v#qtgW~qIA:N/j7wu):vBNd{savC#lbch%mtlv4fw.U;{A[c`6P1o6r4GgWO0rG.l33Gz%<
[qICQQzs<grq3J}r6O7p,|_kI|ex:FOeecn#o^NKwO0q6$pf:Yq8T/+,{_aR4XPl&H_|;xzi3kUqN}D}M1{X#};}U,.^Lja,e_!|zn*>tg09(0m]ke(cRs#2,ic~':,Hpq^0tnwdh7g$:xui&So:mk
OqYsgaCClJXG86f_|Dz_9kXr<4+HDdxLlVU(I)ul&xL1I[P]<diJdt&KV&b5xH[>Rjr.=]03k*x3ZM<v6MF,nT{rP]A6p`4;K0HV2B99ABu.e]8'%192S(.b2l?]0sdJlx$wg=7lcqDclK~ALYgM!c
+A6L(2K#^zen1Aohp^bUdxfPDj5kA1C];Awjl8GaI;a2,s>7fe!S<iN7Bj9o~~f8dJ5~P_6Hey1J:V0[tS40',ENQ|6yH48#%!&d7=ukQpj9T8YC*sArmGcZIq<D6eJpK9}ljM!.g+vx_cO=ey(glB
n}B`LUbe>?t~TB15e/E}..c)nt,Kxh&o)FZ>2,yq*8s.1,CF*RxgilOS|1O,gMN,TF~Poz(%>e}bNrxWM8mx&B8I_8:R0h&:?}8R)79ut><gzvmLS+'W}r~T~jW.)7xttZ4c2oHiqJi*7io3b_iTVE
2/xzpIae=m74Ib&1vrjBW[msSV%DD2COzbAzT&%QBrE`hTwX!.(XXiA[4FT~GdR&pBGygkMfV4C!dd/0O$v[/Ap!8+!n_}~6~M[dtJo.oKqXx'z5,RbABqYpB^2ATf;PPP^{lmUkgUF=?Bn9a1Xxtc
:lZ)y=LoBo2m+*1yl$<7$nlh%/|a9RKy_Owbtk>Q#J>/ud>;K>2UY*UNZ1~fabVjlA(RfCOXVdyLYZ'hr3W*fE'nUCWSswGOR3;1#GT2e/;,S%[o8$EB.x)B2^D28q[fU7#41.7WRjS?K9+:Tx<}BC
!Ri7jlE7XWNF)5l5P0dSOrsjjuboQ9>=[m],G?K)^VLR'3(sDNuV3THFiAaVdv6=O~_%d>WdXMk4QOnVZzAf;N&oz?dm0aFOd:avb7c?;#u6A?itWF7>7a>aYh46V1ijcgs[K_x;in#}`a>t<MDqhp
wu`O#>ZBDvQlWf_^B~vRP[Su(<j`dLR&L,_,)Z9on8Whz?%Scg0ZDkoL7i2}n<T94)`+(5KF&5n}9BAqGsEdFvL!oD7EY3D(H&J%t5q8}>bH[R/p[9`e[1bwZ$I{^~Vp6:v8i|K2$j0wm]P[qz>~g*
897mc16q(KITj1x4.?O0#.$)0DOf[+/?X&G5yv7g8R,08UnwPk$o>!%[#%:a%fs}3L<Q|HeM<f<URbY|KK+Ep|S0Nt;.=G,A;o(I|o7bdaHKw{(8q7[n;4!!xk(K}4DNuKG:6|5<oJ9E;MBAIhR6QT
4ot!/Q:3{uv|ac#'ty<d1|%Fp`am73'bKzBq(O.b%uj7Qgn}t]FmqC]=AN*q=vP}FVR&[zv1KBXR(hQ~;=#>*Q/:p75^H?V4*K<Bt0fj}4j>o]KqCl//1=0cZ0]`GT|[C2SWDwIzME[wx$3jdjE1hM
WD8Tn'[h_{(=O:Vnu%PPIFO_.Y$LhJ!E?:PDRBS$Ni=q&Y_d&}j5xYB+mk_4T$ZeU#jL>93L[,yfb4.B&q{|.eQ.1!_$[&qZpYs)o>]P|Tze:zsHUBomEY[hSuM9K?Yw:8^=>yMZT^vl2qKvpIpQ{<
USB6c<'GM7OO!H=RN)>..{?2IDJ_(fc_lBTg^kc78H=Tib_w<u^$U*r1t>k|;{]:!T:j<B7KK92{/1;h_w,*gJ4O2XHP)1+U/JIj$7`*]p6GmOQA`uHG4w.%=_,vs)u*nO(B0YXgDIRVv6x3,k:fYH
YErN+,d+=JWH|GD]G9r=p`^$zV6qDsfRn;SDZR^8F6e]9[)NO>hYqQQ:m_C`<!TXznXa|P5,=Jq>U.FA]8&ZHnl9zlOeX%OqM{{!+JVfSz4W;iq2WKG?>yfMQ$8Z/(B?DDlJ+0I`59w)lFJ~;_9B}b
T+p.rmn+k'|4E<}wk{anL;|5p0`5idP[J4=9zCAMb15A^S02w3Cz2(P,kN0>%{Q:FWpNmU?mHnES]bhHeC!y$#}zJ)M5UEJ#j8)r*s~ZrT(a2YR7$F{_O=2{xJW4(8<OA{PPY&zqRHgj2VuNRHzXw%
UBr2e_fnIeE2>+Oi3>pYEXUy4ukezD,$4w=H^_.8fm8lBF,$ST#tj;}W8R(4$Q^VLB]<bvsLw&?,!ov6R}(%9rW](T.P][EmaH!?;V$SNY8jq5m+`>AjMn+jFZwT/[lt#Z[b;R/Ior{&AsI7Z~BTQ<
t6=]Yto5?XH+:&kN=XN!>y|A&ZXU4Ga3Ok[wESrn$,uADyFM{e,(m1GicQ*5o8F!}Sl3//N<Aoic6r.4cSZvto~vp<])aio~;V^>vneUs9+|W0m?!0?kn9=ZtP;X:#r}Z}u0X(GRZ%KWDz5!rg[G:)
NNvYr*F6Z!TZ~K~;'%fpzm3gx#ti>~Q+[(Vr]#^aUm$%T#XTD(hTVv!mw${i4)z&i0UT7];I3Xrmj;LE3OuuCBy6yu%<,Xj8!j*rQv,gyGN'#R6VVy%+fKeRjCo)Pkf2baP,`r&]Rikx~|=sOxeZkk
1~V,{(#ygIIpH;<'_Iu_/!gPngFFi(oC#;Fn3|eKMneV:x{3i}{!GTO,tKg)'.{b??i)szF'QTr!mUUh81mXXWHN_wHw8}xvh%_5fRG;45{},>_ao0Sh<Y{f2^Y5VCG=,T`^cTg9:0k+t2abQ7d_xX
]4;4TejF.nEHkuDzGFtXEZLrs+0):g]Jv$%BRYSiW!d]ragXU6ZSS.!%h+u)Cibn$QcT:Uy%Rdoi<KfK54ry7JK%OZz=9w.ppC''fXaB=XL[k*qIag3$[thN0}|Ger>m??PygcnMez0+OPO;dyY;YV
P[Lq3)*t$C?G#INu=`ab_sA8^<ngDA0cVXK!Ws|e%5ot,Eu<}U.:'z$5%,.zhNGu^rTivnL^5i<}SuU:ioQj=6iC:_.KZExh#}Dw3n+4^;&jOQbUhkY6`ZG2RT,+=;F!'>Hb~Zhl}0(]4Ax(_r(]`J
A8Z?xS^_.;_OQd4W_^:nlQjFe;Co/9:;u71RU$0lLw$<OuUJuX%NK0`b0~]0HErG71si>uQ$IT(O~+c3X)|?I|Hr)#~lSg$7qj_9BqN>9)SZrPK`x3+_0cuyD^9S~yHO?i#9<(H2va1}fL2jy:/'/T
?EsOncSkyixVBuE:dx#hU9]8u{)RSvzZy%t;%%PEOR6<#ynfp5:]J!Z<#`nMumRAo%bNNwP5ZadHX(l|4JdxLa_2T=IWcJ5R+8TyZv1:/qge,^/cXGbUY#kWbAZV&+7Zee)N6IiQG?J);[|,b/F?c3
1gf]j>stARcDTiN]g0|n:33YpJS*y^T0JKk9W)gJU3Clt/*=OV>e'*HoY=3/;odDfT5olF<h7S5U}rNa151]eIeaLxx44Y(.Sk+;8SQf[3P7IJdM5X;~;NlsVzAf4r`vIi}^xbU,Ts!m&0b4ZhM}Sy
E%zoeG/G=ZC~uZE!<U67E,qHrX%,XTIG;,iWW,tU(:`=)oVEZ6,2vC$&OnZ?KS^[v|z4zu6e9CSBvG_O}8~>YuxMVy~wDefx<Yh<1b{vRY~87QM+M~R%</)(:^&:A*LNGQ&j8kHO4{e(;d<xn{qIJc
:pNG=KPgp4qE`7ql27HwkqNQ`5('Pa^p~tciWtd_e}O'>*fe'y,BUK)!Typl#~5A8zCo*a66rw8?:;2mzRic{(d]|Ezi/lDxH9w)M&71Ms7,nD5s_`/[eoWxQLky<2dPg%io!&P:Yl,=v~~0wficYf
tz3+%?d4g'MXzD+JNVqg;gya~KJ]`.Npd*.y6:tpSOO[J9V6jDwME3f^*]MvNBq;'kb,#V);!%e8:9<_vobsj=}3*R#U'3(b?Bpr1Un9NgixLG<X%'?c[q/Q7aQ?sKQ1H__=ARHMz_YW3?)~~!kRC6
WK%hW[{W6i>vDjI8jHqTGq~DYY~&uF^4(A&:I`%UWT2<i9`%x{F5iJ<)HZ]JgEe6.L+X2h;.{6js__Tpib$LBL5b%H:odHL.$Q.de/j;>USyw5,K|MG`gnwN&F0/eA^=uopEZ_;5EY*C,8/vi}%:Gt
l9Lk'z>yeXkf/]FJhb3b1rf=np]c8EA~mA;`^Keda`}X75;3X;tJ:^GAy)6`soV7+Fm+5;IAY'[8cCHn(z`BPyP(v8glwLtS;Lu>eVXK*[`G'0/LukQORj^=Afc%B<74t88&_GP(uD5~)#Te>RSYcZ
?S6fB*9zx::>/a}sbLwe_47,E~U|nZnOkJ#N()qw<jH}&zdY6%fKylPa`MR[`l;,VOrsZ=L/GsWOhA2SqZh1+CceH*Aa>HNxsU}}R10{Y}$eCna(&^5kGZ*ne:9b0Alz=|Z1OnaV'uq>+at5%|hpF'
?C*JdvZUrS&0SBI0b*4vh4%].yCh0/$7m!a;2`z5+G'l8?~yNZoi(>Bzg2H?qWbgYcaQf~hz/}3WuF?^fLc)OAK^ltI&6#`Z(X~G<*X/l^/o=%MIRhEW6T2jWvjEzo_S`_]2T6dglh_Q;1(1syV[w+
w!ZO]GE'J6(+e|O#*$(63geu*+'6?_1oj[C54~]1WF^BfPw?umIRE5h6dbR9[W~~k|6NVj{?qynVFT02)fm)GgpaC6S*NMJCyuA]~N7p,`=w7[;u$W[A'yM28}O>$E3P%.'f1~Y/G_bHgl)E?6{_~u
;dgReSXyi?`:[{|/!}8%rZ+5xJ0YG^(R?XG],R4?[A6aO[x(e];*T)3CW50ER?HE83+4IKshNa'!l2cZ`ch$Uw01tRN9`eqG4n9G6,XYImwH%lLGDZola0,uedBDe:yvblS(UM0/)yT6xc=:>omu|<
&bNHf2hF%*nt:/u]4]?t:D|wc?j#40,p581(887hF<A)L(&_x(%i>Jwb3PupV5j6YrnY=le6f!i_`xdNQN&'6T|Bf=1wb1J~D_snan|ab?$d&dc%~&`Z.)[GOgRC2Fly$C)Hvd{[]a#;JGHV!R,!O4
N^c&t73tq,*b<N{+myDF~ZAM0&eTM}VoO`KRFo:WeV8$/{FYz#b8?Y#CYDl=7=7N&%*P:OV%0HjL*S[gsBdv*xp;_+:M>iUSN!HL(&rJdo8$qKbAs69);s1Bb?X2q$5%s(3t$.~G3w~gs6Xj$dp>*7
hxBpmD7*^i7jZ*]ZzFBR6YNdqze$O`E5plUFe#2q9wS(GfvBCXa#Y_4{_K6Y:R:+JN4chsdGs'Yv7vYH]F2cJ>h3?2*Bliau^XsbvHki$*'`_:$^ATU[LcEb|aI'BK^Ez]P:Vk.k!n~_e:)PZAFo(S
y>Ad?k<BC6:Pa'$&_j(:O!'{FP`o>y'sx$ej#;6j0;z04OY#I;.QO*{pN|wbyw?qe7j9o&4i3;1>wd]^UOpWGM<QyqBzoxDe^cxBb}>gA.E|2$(t)lXDbN~|y:=gEd#m'.43U5{,:m]X^c~^&n?0&>
9?TEoWx0g68n7HP`XTHkRYi~yQv0m~gS4I,0ACo1T7(e|G[273Z+6s5j*3zySZxOxaiOqj,dx{0BPsX[Iy_~[0=%Rs^UiOJ$3)&J1e]apCwYm{mZCy(JSKzhaXKaJC#8BzBhd;Mz9=88hRA)*u3*Lu
c{]XR&7_YV}PY:3{fR$k114O{ldo2b6b2Noog*Bjrm[t,e9SR}xThiw3j3KrA`[K5Q>H[V;nFN*S6Hmw8}[U%>6/y:laU{^JY7nf;rDM6gU5+DEyc?CnqUChJ6kO(dyl7s#BYAF3P{&*4AN#z'``!|
OZoF/:Ge.T~#N6'zUA?^!Y{S~#h1a;T2WseY[n)O1mW5t/RRI%&b8XknT7<n1DLFX&iNb+2=!>Fgf/2U^Pl]`{nBfDP=pquqvixB5Q0m1op7Sk6(Ob`,Bjzopf^sE|AD=7.tTY'9}{oVsjD7TrEELz
V)|.wl'?ai9TFeY+tXN}dyL2DXgNQcZ0d.{^5t,?LQ(DnP!b{X}5M3LJd!$#`.d|A(]t?jU$AiMtr9H]JK3PgX+^K|o8gl6h5oFw3GYcB9W$iPG8k{'4O'4CP'#!&vs!?hCYz?~RQM8wf_TG6ZC1CC
)h#KOAgC[/,{5CG/Pfh)Ow!E:oyCj{]sJ'Q^}44~Es0!3$RM?8Ld0x>;j=OyV<jx/oBl*vGfH_|PbQ:x1r8`o])P.vR$>$msX0A_{iDc',2x[NN2r|,YMNCg]4,k(&~xY_&M_u(n#?c2m6S:K>/1/=
+%`f]n2*ZV/m1MaR^jIg6h+c8>:RFC9P0r<9AMWSYojct/~?(RGkamNfKa6nq)hL3QC)SuHof]Zr=N+V#Gq+0ChXBhj011TK{.Ddi%Cp!E'/9J6OjR/k1R[77J]Df5.ZoXl02qR0U7^/O)X(8wcr,h
m+zN>f?`d39II*8;1]6D&j~Z[2XwKDWID:0p}OG%[h{{Wyke{7hevlcOI0{RP#cr(~roj&Av&zsJXR1'`n:)w!?F..]qslLr69uZ7!cJ*)GvRp^AI_AxRpTD1e{aku%~Pc4.RUX00s[e5/u,F],1LU
y>_Ol{FO'[e`^G`RME|pba:faSGexC4jRC&DW8z!Y'Z*mA^jnB{4uK}&+B^#y>4`7IXs#_EbQ.!*zM|G8Ny:`Bsz=pJGqbGhd)lV#AlmhlA7pp<.sqp~w=Ldvqw0Qsn]S+#kmTI/%hcI;,Z.].|_rz
K1pCSvz5SRE3rk*nqEz%7*?.${zf~Xd)X$sEO]2?b(]Tomg5!%,8Y*'!DWqfv>bBnB&cpt?43$dHK5llvlJKH')KT?3;Ew=X?2M&uXMz7%MPKIGn&(~.B6UxZ50BOLxsn)R1AnRF;Pj0{yQ[vdW>4a
09.ub<6sK~c#&]paFX_lm#ge+)n)toXkCS1jvJc9{v_(E5FquFNwp|2(m3&gKxpMsJ{E:ATu51TCYSGX^!|q0]g'lXNnd#92|o$ObZ8e'^{:E0Qw$g$=,kd`WY{Nf0>D]V>4=D,)C)p{EO|kh%]b:e
y'TH=ZFi6yWYzZJ'.K`MKX6WOsZ(`EaX:Kn'e??j26Jm46FfTr*$(Ma$W*=Y`;}5a&OTDkO[.qipW;Q0J2xE(!M~u,HW~wl`ZK_?=k[mYvP?deYni{6JE#tx(S#BZ;sD)(hZs5dn^(6+IMtX9|Jp4h
^06+#9e1;<0T*cAg7py|KxS8rtkf<*^.C?s>l!y7]}l~q=v}aiz.Y9`+$Gl122[+Pcmu!`f?,+8vVe9.Onb,{gZ'Euw.Og^jX!4W(II=1zxLAd3YZMWQ^EQ]c[iYY2HvP5:d)tH8;lK4S}W>:7#+F'
03egN&r~b'(d(iE$w}{`9gy7TGQlXl6W9?8`qSAR_C!h<H>j^8qecRY9~RJCmgt>Z`CNe2jeyRBZ(aWQ:p~;4+>xVEbN.~'sTRN8,'uV^|}=nzcaV85M1R[LJ~:B]GD2t5v3_D_vji!m:Nvl1+:aiC
tknP^m[M'fD)M2Z9U8%MgK`y&nM68_1oef5y`^AP8|d%:+,C1+li<JXoI!SJ8}jUKnHef~~#N[iyV#AT$]J31R>Fd$g)>0?u)G=A:ac?2?:zgLxBNUE=oS5yGk*oq~cq?JbqmY1M53#WQK3'Q{4(Um
dTK.+yp~iGJU$JJubO%L#_D1!>FZQaK<hdDTSfu)_&W<OL<89Zj7jom!5JZ<&,&R4dMJJ&fcDYm49e/6ReslBbV~Q_`6b8:+~RUL1iI?>=z8$k~3X/y.GEsKOx1[Y|ZxrtJbx`84:DtJn.]v_zj~8t
o'/9^%PfpDc47xLKI6;Z}K47$KBZ(`[RyGz=_6BMw,nU.^Z0;~Se':kE,%D$;*A91i;H]BW.;[yTQcA^ZKN^30NSQUvdwyvv2i[Az[{>'cunDI/:<)&>#Llc)L7;G&aC#cYNl5hJYd>er7znXQr>DB
vQ0INCjn>N0guVg5zC:q{i)6h#iY^RJa=7yUN66xN=lEy)S&pWdd<Da<$B'L{|U2?IM`5TH(k_Vg:*s_bX9:b6h<`BbYgj%6(Z`g93W5k2T~Pm?5V8=.XWzOG;;+#)H>wr{{PKP_QCiR<o):+*I%=.
y^,SZ78LG/j[FtmHC;g/zAz'|I2Br_Bf91G3*tdlEAJ,Mc>VXO(ZzV,1)u^a3Q.q.>++[*tJy$j}T5EUs+,7M:/~E^?rHOKMLy+|efb?p}NQ}xQI|MfaFV3wOr:%G{&}xy7;iNKXhdaa^QPF.>D&,Z
XB(mYRq.+!|X*'i+>}6=k(dsnKu_{2F|[OJ_X:01]Xfk7Z/o>m>RPCEK%Q9R$A4~fsOCBvgL4J4Q7X#0D=t}5*]=K'/&'>3UE!7x?]!pQ3WR%X$NpH{LiZki![B7T9{N.LMBIp:O&^Y]&Ud1bb9,.J
ohV59dZy>$eQ?>dHvoLC#!swEh2]ZkX0u'l:bRYapGbq?}el!^64WI}?VvyHq'm=QaWkv^4V4UYrhhOtFg`&G/,5y+~N~`TK+*na]HN2w%G,3]8lP>mA]%x}(V6TXQ(]bc~sNJ{Og=TvOmgh}=oML)
3#mwU=B~)i~y~EW$cEV>!Y*JD,NRYS5%roBS4c^pqT:m[qAuMDJvfXT9ymQMbjD|F'uX7=x26D8f*cZs`o>0QSx+h+PiR9$D4H61alV[;J97]4g/?c~uov9zGd|Tk?2S*$:TC$%IdEy}pCW~O'pYX4
.&SM~pdqq`4'&MTbKGMX2?=.}$KKeN<5{!1*?[q1_}!8t$]nd4k$ApKL89MP*()Z[;WI7&?HpQp#8&NUk,cc7{lQoHCq0>TH3`%]npJ?md+nuEKlAR]TtAZuR,/m:{`xw*$fK<F}F&Ayunv|M(#sIm
h/Us9Z9Iw;0^/Bp`]x/[9~ho'dv7ysrIQETR95j7rin^B;wvj;=E3bEGxA6n>ZHzEAlvYUXTE;_+~aoy!46WjXnlPTbx&=.sy$LT?mxIB4pYeGGRr?8r/~&:1dIkmv07rGZ,PX3]y6<;u>=+O:`!/g
$VOJn5sSVc2G#BLYQ{6MCzt5*0k94ZG8Wvc?ky8BCU'_bdGj7buWa_*rO*93R?1H(&n.g}>3^Tc^7Y1w37cpKYVd<5ZfP>A8zxoRQK(Bp]LxS)2v}ml.#fn6q}?y1PV*IU<6b.e_.0sfh5FmuCT#d!
UlY?$JLR7y{XEQUc)SoU`(/Wp^6=^6Tp]j1j)w2q!+}No*qI]!0;+vg8DEqi%0TB%XpiFGNP4&/m/B/47SAr2=F[^'3PU%Z:uO!s1`o9I2R8ov^M.4%|n?P2]dNny4+&N/w6`wWHVr4{*Fj?&PP.3&
*`&28*+}f(D3crH+B7C96q%3Kj0222U_i{0_^aUN:'h8,ft.X9lh(/]jJM]UN1~C!O)gp$^VW#Pf#ZWzU7P4Sa=cat:mu_D&9;Ki2C`{xjiB<i)woyG_Y=#;[c;8)I'E=jY2&0mBwfZa2C8PA0wmQV
Mmxgs822/saiF<MlA60~_yal=9GlM>kCjh/p.m8'D+w4&z6~}UkzZC3LO}mxp}f60(~Tr`~]Av1sh}PGoUK6+~!()C4[~.:3!Z*nqen0uFq#P{d'7ZCEUO1,>k>v5O!___,yWeG>5WV6cXsfw+tFZ,
IOLM^fb[<Z^AjQ|wh)r84tSwg.V}vZL$K0'dh|Q2Bp`oIwd![+&S+ve3fQi_Y}]wUGvrAd6/U)_(7s}u*OCE2&ct{a'aia=VKcv6$M!AF3k%:/I|c|$g0Nw+5hjN$FcF%|rgqttSxA,9X[Q|2A~Q!%
Q(|S=0sVBh^Y&R%+jI'vfJr#Bi#F&lqq``L'>tOBm|tg{Y]h(7Tqiy^<}N5o5?J'%%NOrtMyT&Gd%JaH*CY+qit=vfU#m+w<U]lIZG&hyI!*!r1K}M:#Pu`Zc'TN&A'_/;k%`gx8w>h!:}LmP'tE<{
<'{T2d2Ux3yj(1Pn)5S2Q8~2c;cn}fsI}S,XwVeRCOC>H&{Oj5k=n+i.(mg7u{D|G:c(d_u<gMf~m;O?pLoxg0w#T0J?{;FjK86d(!4%[[rk(JMDuORy=AE#X&Iu?5=^c1wCoTIxE+:$rDu&=^[*UX
Y)?}L.sX>l(DaQ)UNJ}4V4p_of#)<ay]:U4ZJsCZ*(vJl;sdwDD|*OiO9[r{v&'zZ%2X/.o>0vscnU&h5&nsL*]/GV)A&}^=<QKLbedz.sGVZZ2C59Djv3MI+&l]5q%*nVD9l;N`7>aR7kCB](uxuu
Bb4,iS;.YY76S,$7,,*%K`bicNNr_zM~,)Y7Y.~.ygk7+$0%?Tt|1m=7[WyUbK/s'c9(K%H{rk%uXWWS,;UqHk^u69]w3?Xf80sEuNUj`f)e~=dd+cp~jN_eyQ=&$=PY*NP;2'OBHal2bs~<_:RvON
UQ$ddHez?ovmYb=zc_STZ0N.`qBJgZmhPWqZtlG+>FZ&pJ=;l9+5e/8N6PK5eV`RHM(kp}IHU2WP(}D7+geMi*wg?|CD*pte0.Kz[+RFDg,HkF6$$'>;_ua;v$O'G_Tm'CIt`?qvR+~U^Ax:~[8/{/
ij00p{FlGkSEiD'X!6#;0|I9i$Cu|3wYoggix=,=Ii6e;BNcY95ZtJ/RnL=q'W6!_ql_iy/RU;7(|88z3kwCEw[ET]!ky/qFbNUU^fdlCYcJcDv$0rpjZVv]T31yD&8W}(.x!m4pL4=xBWFCK.c`;7
])$S#C2Kk_&(8AD/U)gLz/}EQsA`uJKnBCUFj7F!>GtI64Tk]h7Z]YmC$2{u*=U.sc;}T~8Vh%Nh=78Q[5Jclg4E<Gau5)Jg{I6L7N#twN$J5%}>R2(ouq|_9`>]GatT1]29^I0.rY74<X*%bP{t'u
dR}zfl$9U)rFVH5SW4h}X]2&ba2ZZjNmXxWC`8?*vNtqa4o48jg}#z6[pWk.y!WRn+A|7nbFGpK,'1#Jq4AYtK/0qSLv=j`X:70[m~pI9X>WFU]gaZG3pH^+>fEMSdrmP9+3[S__EdugLX'B!tv=3O
eSOHyqbq_w8p#u'Pm*Om8T`222;dY6FWkMq8[N`23'C8=x^sK>;{a$P_AJ`(6q8T/c~o8gL_vzWLfvHr#_X}+rISbx?0/`M7u^el+p2SFKv4KY4R<!$1ws]ZZ`(KOY/?z<{^x+sy{J&~v5HQoGVm:o
hw2a}Z2&AJJ1_$eC/8p*a:tF|+YyvzLk`%+>:IltDX'wu|+~o'X)*JwQkll>k`w_:cre)u!shyI_Emq+GqD{DPLPE.f%>j30rmL4:t<[ov7A6~K..O8191doWPF#H]P_.nW`41{(!7`>=3/xSYiCJg
AD?.?6(qEM'hkESFrc,3nr(f(JS9sFs4st0h3<r1HP9;ahf?)kC=IZ5XqU:DCwCC?bRlsP*[h%YsV#*E{pHc/j,Fw[#r+E$Mp,)H^a.bA9+{z47p~*?GBgC7RQW(+cdQ7+xJ2:4&5twtAzL;#V#REy
r%X*EE(f^$CGxQ6BG9}p7Bp:*ONk{DaJtnBp6mh+SD|4A3e6vIGZ4#OKUN8O(['h3J=pX?Kc%oYSINK#%]:A)1I^9GI201IZKI_b1v;~}x<qRf6~WXQH0T)c|[L[88<3Nkw,/e;ln{7Gq8Y$YPq(=k
%{pLG=.UzoIg0WG0&IIBsY=2=NWU*C6>&$}Cs]Qyv~DA#esdvmNn5!7$w;YVj0z)dW!].s1.BO8KQ'tXlejR[|Ow#,M~vG^t<X.,'<x>4a`B~/P2#7itfl8oBvc:8(+4]rU~+r:`m_QMxZfxoiVAB;
9D$^G>!r+i'd.2?PrY%#d~QX}NenGi7g_Wic]V=`qIcoxrF:>0rui?UUT(JiD=ARYI!]QN{#]+~vVysR7VQES]ZH:#k2?^=bdtT$.LsY!EVECiIh_>3[,RA#OUv'za4%=st;xchr!X/Fp0bfS5N|mZ
XP%0d(y=mJLcH#u%`AO2)h$_^Ti{>p8o^%)o^bt6JKpYujNL$QH~M:rHm`}cycN>epd4dt2}|<gIAd)7$$W7.ttI[OAz*h;J&5`9Sz9${Z[<KYjjIW_BR0;Wy}?3UmCPvHmDzFoH2|14y4Jt*hB7?}
;38cZ}|C9)z5^$f70/8&kG>SYp,Sbz(c<PP{FS%<#'U]p}:tcCV[&cn~w/tn:}C/&6mArqWM;D/AEpL[Eh;z~A$dn9P~~1rW??%%ZBalg(LTVKkXF?knd^_Nz.Y}4y=m{GP~oE`;GQk'^f[3Y>zXGF
q8GT|k!#UWnyDfe?]!&Z%gn*>EN9Yadk^]A1D[%qLk2RWPRP;GIy][1uS/;Ei'q+XKSR,p<OTFQl}G7z}u{G/Z2}cxgR]I07*1]^NhSHtOu{4#&1/B,hdFh9uOw)m7)r1~i&6[s2a<dIi7Clgwfo(g
`wf8uwsJ&|t:}lrS{40f2[!`C=T!dB2u*(z<S&s9{a5L4FwAJdZ:`z<G]7w2/&3X8)EQ4hv~m/=w)99Aw}d,dEq6'&9_JZTL>n!'HK+[*_D&5oJ>`r.#0NuK|:P|J}eZ)L?Zme,*sx1Qc86&nP%G^7
LrnA1vilv`>/4E>(EgOukEPd!lu<w:b3]>9et%]VrGs*fVoN9BVlOD+w!DAJB|:};;x<i(.[G['o5NCnUWzw#%T(/O6]oxfT&!m=^KAC1(vCF2`=qSt|X(Y)OVm**`cKKbkNhs^HDR[[kk?%4s;(?J
apQ&(Xwcm}Q!|:a>Ft[.tIxJpnwO&{e5I^FzgH$0Sxi<hDH9oroBDZ^=FV#Q{)&:?m;CKYPCu3[TEN6'|~L=R.}8!EVgF%d^a;77[qSejpy8DvI1pUR}[4m*RVX]B/gTY_Scg6ScNo$(N8uYm(]/xD
ebLp0UAIs$xl.T`)u+FC,&slcbQipBYc___rcPn7v_^mifNKLk5=(0h.FhH)IgX<<Ip]/?QA$&X?OjfJ^7cW.WU8$>Cy>hB3:1i44xW#`$23ZD7~(l%7!BRy%bKox!]N7o'KP1N76cy]V_|&e3*]a_
ijkf0Y'/?SGeT(9Wv7g4,:U=[z7(]RJ},y7^&6:w>7Ra3)iYYFI&=DNoAPX9cM?k?N1mK5lb6:*f.K6whyn$77I?.It`z+#kbjkEa3q>lu3IhE]b:)EGoO2$&]t*J#Eb4di.6UlVXlqQkQ{ToL!}+~
*'zc3/s{WYWZo3'MIl#$sg7{uU%n[:WC?pCf|O`_N1$WeQY#Q<|uq9*=NbT5`[]MckCH9x{iPx+7<64=]/(cy.?>)_!d<=tECH[wu]Z#c/uX^*ZyTD|[XrA{>uV>_y*^aq]#bq]dI4sV5vP%M,*kUu
rdvib#kWZx<s|<RMk8AJ*}>:WfSH/&Dz<K;+'7Y?gl{{e'!reJCQ1Qy)BlgDWo{MgZ_/h~xr/?T#(wLT8Xu+m!Yem.Z,5}7^N,n|hB%ISCE$4_{+uh_;e875k{j`8T7orZw}G{=Dt!*TL%$7G9g7iT
;;<XK+JRKl_8W42C_dO2ZWb:qGT5)QlJ:nB[Ce|wnj8T&_v<1TB}|,A;qIro^598x=m^HCgUGDtKXd'Z)=J!yZ;Y*XaY8I%:x^#t6P1?H383Ui:w)$(eZv:<<U9*(s>FY<d|88UijJ(3A)90p<[AeS
L<5KP/4T)F`)'m!%<KdW^&Yupfqkux3)R[10P;<UCq`RKR3EqH)_'pI4p/gA(;1Miuj[4]jiqb2[(k|A.f#z16K[nn,~iF6i;B?{Lr7400Du(={1$Mm8A9:ZF_<Uen[E4):u&T]jg..T]L'dlu6Az!
h9W~g+~ITpC7=r`eV%p5Fx.6S;2RY1t4YU|9w+;50;C29+JFJ|kT.h[hB6](#4R1:%[fNVpmU[U9BhG3X+IJm~2QVM;uoKi9[Dk${sO<kld`h!$^|_[Kt2{c7pxd?0BWt?P4BzZmuggz<!i{+W479l
CSlh8,p1%|Nw8VX<X46hA|;t{lLkS0JUFw&5W<(TYDPF_VjP%&?6Wr_xUENgajqP%X`i4&r1,(4a~>{D?B{9`{GuEN'M:hu;`$+e9o5P_s]w?b%B(q=5pw]^)v3s)=J8aU8vH(kw!n:i=f$=JA`)}C
a?eY_q]d3qPnvBS!cxT2;UIlEq|=+vFM5x9Y1%iH|ZMASa4yabQz:1Ab6vRt~b8Z/dZ>Q8u/_9h#K8&t4ji1g5y*BCjyY+.t!=)y5&0]rv<EMCoy([WYx[Lbzaaf>bW$ODjF5sYkKD!T)4l<N}!gxp
[)}Of,%CI^/j*]yJC&+wnN~=oO/Ey{u%_5//H4n!`Sm{F2>iE'KZ;iHcP5LFvRn]c=uVD$/K#IrFL4VS_u&MdA|QLGbvrSBejriMz#kU2jty#R(_l7E|Jc52__ts}uK}LQUk$`FCKz,SN~D:r:S12Q
|kj3Mzc)uWmEasE)l)$Zt0Ob2V]es#sDp|Y=4m?eU`2INla.4kh5l!?,e1W(;XW3B6X&CXcw>]n1Eu?4U5&|5X!Q6q+^eapgp'>E0[7BGRN;S'R2NKCcF]]2,=>XEZT)9s_h/CTNR:|K<H]z6}}W0(
w4[AF]_1guyV^='&BA(sj!UU_76'n:Y<[<4%0'4`3e[xU%],~OK.qMLsdgeZxEWz_+iy2wopzwYUB8Q=87+,9rsEy=[9>zd?ARh.;!HtiTZe5E?UIo9c!dJ}dq/S<o~_F5y=]&yOVBp>vOgSbL?W(.
!3/GL!K?ty=,V}D;H'|#g8X,5Ekp/B65o8&6?C254.q^v1VcOd}wIzFeSY${ZR4hRgUF*lo=^/5i,[)|>n6f0EbnWkgmBKY|<E}15G%#=LYxA8SC+YYKm3}bh%3F`e[g~ck_U{J`YTVM3m;w^9jZis
}Fx_oqr.zLmnq5]Bj2U}Cp=iursg`c?xivAUx%[;T/_zE!)e`fa^+o(|m72&Y~z)dFW`/xtOxr=`wNb.Vt9M=R&k8/FDQK^<Iq1QX)CT%R1}OIjAz+N~z!a`5f=P^)#5%aX&wu~hIT1t[Gq[EB$)'y
7ha{?oNwJ<NrhmO$hf/5YXH!m6L:G*r'm%i9w4&^Q[BdB3aCA.Bj8gIw&fp9reGCEBf]Rx^$Q5HC#[vE#XjiZU07!Qb9*}Yw'2h#O]vV%${x9Q;*XTFVC*,3O/IiOz`ly&!rtASC07TxNMdo6UxX*z
Q$aE;zhn]<(m&20A]t=x;#3B<==}$2~kF5UQ1r_+Tu'*J_oyuX1FV]Q'?6&Il!&mODR81Zl*ESZO!o:d'DV(;Jms$T3H`Q4jK(#s58&:XF8C8~8##v,Wh/}`Rq%ytgKTje:lI/ju^]zYO7Kb?*<F>=
?!_5_7G+$5Mj=.*BoUwBN_2bH3ArA,g7xQ,Dft,~6USHV0M78z^BT3uO%?cj'x4;&L//M~^}TMy2fMH)k+zp=[3WA%W$xJ8&6*w]3n&;.`NsjkB2Vw|b*B>!QqWXuNS8pB]JwuQUR*=+my?aO~M3x=
deo^1*Nr,%Bl$l*)X8T;0GadK=#0UV47xO`u>c+pNvneX|W82:UCPvUEn5KzZ[gK77ip&C.TLY;nsuGYt]DJ`heDWz<9<PFj'r+bp|ac3f]vI)sk~y+P3$gO4)8Ca#aT35f`;h<mB[pull9%!uf_0E
&1nigraxz0r${<w2/~^k=x!]_s#y6?{eF+';JZ6Rp'pa3]Iu0MvwoOTp0b7.acE%RQzjCE*vXcCFw5%z2EjWUSbLr$,vR+|puv+L:1)N~.vAR!E_x)*zFhw%7)`NH3%5f8t;hUYe}T0U5YO81Up(UB
+7)u{[/Yy>l&~y(6|v0TF9E*{BG8J{2{3HM8+!0)%>PV~gK9k?j_NDq#.,57Jey;d/i>=~3P#hO:e2A_IoXqfvy6j9F^k0ZV*84.w_orF=w8uYr7]<;npifn}bR>.!]ZndDPfKD^g8ea%c4b'TB8U'
=]4%xr0~|dW=?ZHi)k=d7W<VFMV0:j%Cm*PRRGAHeFd&+T*luM31e3'KjX6wkfaD/$3eU~#fQXF~*b2/9]E.=RDGwC?!HJ'/&NBwc/a*?5QXkI{yPz[KXxd#usFI+DQJ[>;m{7~%t}U,]g/=xzbRCu
|Z`c3%5*P&AIdF>+nk~EIp&UVMxRBVqeV]Vl%&^;_6f3s,RJu[^>)M`Q.vx6*v6Jv,BIsqmoJa:g&spO'qQ1{G_tU`IcFFTCgG);]SFt&|rVT/6IkGOyulBufp^,Xci#VS(fB}yu:Bb6U1~=:;y4o!
lA/4H3:Sp9z5_8fsT)PjeE6TIO{?r1ak?I[mWWlbjZ%Lv,solLf(=l;`H#aLlLyMnt9z8L#}^R`T6?d'^_>OVFvklZ}F6cs}w3Iy30i$yBu&1Fjoo)fGu~X*noc:>;&4DxhI?G%1a'`~Gs=&M8/B.}
wDybG?ihh)QF>j>2jRC'RN*)XL45:E&UlXSNGS(4LmE[o+^vzyV~U_Y!E9Kaauu#/rrEfIrIG/.AFqq3*n_>W]z2eb5ewBv[29!6k{:CUzoS9&,U;EoB9mDC*z_XuI&kUz1iq=Tr*_%wZ,P'sfY)!?
D!LN1bZXnDCTcL[p3TTF1Ef(tdt_m*G+&l~x{4{grP{=Hv+l!v44yx)nTDwnCCYs4d&46Dgb+>iE(i#nVa5wwhoFjJs!KR`rI%V7STuqf(.&cd5q^lsC6:59oj#C0%jo*VZ^{2[gu+{Lg'LQhk~{!`
f>gLAYctT]7)Bh}<o$fHhKebR]kgcaHG=lD{ZwQdo5}[i)cb7HqsIEW.tZ2UxJ43UB:<BE[zo;(zvP.LQy/3MB1|a`k6sG_%ZR66JiL=XD>OUmTU0ou%4u_&qbE(KTE}g~mcPeU_niw#Jo4kc`pPT;
fo>|7m8`ic)f2<_'Yr;w&~!6TD2tR]bwm|kEV_svvDXz}>9B5&:8+wUa8b&[*k;3cTeuWByq[v`lhbZf3:$Vg}tFGAj4d4S<S6x#;/]eU+bZi$451B)M$JS!0LZR,$Dm,`MBjF=w!mDW%oAnu7!oho
WZhU_?CrrlS`mkTo.8QN`x9[~ZP_w/(kuea>J7;|P!Lznv0N<1Ef`1MTqMdfiM4*A1^A79Ft.t:$`aG4fu%G7?3Z5dy<_+r6dLTuQz{*+0q+*{'NNwN(~&)9V;e']:l{!<JG7&3koBi,$3Ro1O>]$$
B*~[0EdcUE+IjSJ=%A=*&t%x5.oLMzX>I[c>7VG<EE!$M#]sg(;~m~{(u#NkO_]ujh,A9X[Go&iRB0Z=$BO0EOE6L+qXWj`gR<R{r0rmtUy|N;cz7e0j4#'/*&pg+9K*fP%&>0.IrMtzXha[&,*A4K
t'EC:XHooGeD*JEC)=/SKX8g?Uk?[UD1V%Ns(JPsr{$G$aUSK2o6b2H<1X>.W{AX)Yko4p{GRb(NQQnC8Nmq%}Rw/KQco.xg<f6YBj7Og8q_8VdTs(5^VwJ}uHKOKDKxaGt_U;%UzJQEL+!Tm$BhQu
^BVDW?IJyZ{<,02rN!Wb]|iY^u08J/4+QF(`6EMB1tFrXNDC8${f`Uw,=ISP>%3+{C8u%:XfIn!RRq*D!Vy%Pl60gXnn)3h8l>p:ZTAMyxTE^0,?kYv:^(GY38)OJAo7&l4Wd)hE6']5;;eFeITp.y
ogbhl1TK!%^.)j+'+MTSg^III~$[>:V{=WcvWVzNQbQ%Nv*=a&w}$?~[0XXLe6`_*[n[iy:edZ]u=Hc4#,&'mg?XY(MNRpmHw61dz^3N~s[ox*]_9:a#+/<Nry!F*`S#]=}cf;(YEs8SPiMa$)nfg'
0XK|QSY1PcOUxuurV%_<sc,L,&Jm%#_w(Zh5c)92;wA,{flOKUU*W3R+k;!P`!EtmVnd,&palszG)5EZ[d45EyH{MLQfTvZrdjhZ#cqIjnG^=a'7D3~~8fd$5sppUIu{<M5t7FqYSL3%IM47&mxpPZ
'.Ycxxp)d'o#X)258yY4Ogh0*(J{9A_[`PgI)$G?iPH;MnM]pq,766(.vv+~vJ=Z9(vwqaKQ+reKKHjm_SwntLSurBw1vY;FgH]qz^I)3)jc:CK*V&)E^owGKG`luOeCI6WDBPm7o0ZF_GJsG,g303
U3>i1a4blst~=J7S0,J9IPbHe~tX<8>~2XvBA^;Ed?eeq12EMcCTJTGO<Uq,nUjwc2=AbRzuNQb|$/CD4a,!|cj`L!)v5KScLJQ{n#_ZOG4vM(0M=)HZ96Rl!vZKwO^lf5!Tw$C;Vi1E?>[sIpZ<lc
1X:p4qZqS`HWT]]W/dpz8D8tnJl|_<,zL5z=%0xxZYMAwguXPD+8Q.kRG2X]=?V+}Hu9d{<e]d/G]g?d!!G)UC|xp!V/55:;|ZEWUo=/%aMw*Yhm]}SW{Ry2f<0P#5%o2NYVy(u0kt6%Dx}KGiubZf
H|QcRMUR$ca+6H)(ekY_5IbbB1~8p49po1V6OT%#,5T;u$%E}+Et[i[;r`b0L,jzpFj;^D+5gp8&M*2,#9o21`<5h9mzH82e(H8E]z3D3&Ps1H&Wvk99/{<k5jK%FgC<6&^;tqd^^Il1wTXHK06CMr
?Ae[PQDwY1Yr5NLZ0=_jY3hYZLx]<Rz&5ZEt5e`LJ?4Ajv&D7w9f>$A!PXTyXReV_m)1GB<jku/9$B<?'*5lRPo~U3,<euOKCtj+NNtjuMRKFBm}Ydclu%?N}9^MH.!e~6(V[x(v0<h_^D]Lz?R%F#
lCS_B,FF3z:ye'_$R)k22/q$5{d*;=#NNqtP~ku'``ih3>Z?7Bo4t,/&UV[:Y_=YHY`u!FJUSI3(qG;{Kf8a+MhnjJPEM0j]JUxi$di6!)*Z8fd#Tz,tj|>*8xcH]8,7VoK2k16Oxg>U]/aPPSS}U.
u2WLR*Y4CeqZ[Fj7O*rjImh({h[j,6g6E#PBj0WzmU]0+^p)RW<.P9NM64H<(;8`b8(YOmp:x)Woj3[>K1bO}0k`GPJ*7j_>,4)Q52?ll5&8GFY9Cn:w6*B(fM&A!)~},9~(Z8)C]]6}KN;VjPXj/*
#:MS:0x+/y30FAv9#n*(r{a7{L7h?9fvf8}&dJ=6LN4y(?>q<gatkf+qVM^k6[d2OZAJpR}ZFvSQz8)MYJ'R042nXy2tJ>Z;]o>]/~^}k14^xk)>DN}Z9>6lbbYRyT(^Zs(]9t7vLjNK+de'vW=~Rc
I:~_cmMK=<xo)OF]SdSaFI/t#kqMT?VP#^>dOG6$8^]Exj=68M+U#4aPye7HcRc96VVusX}h;y9'[xiBA&s&aBQc9y{>*)/0r1Ajg_AQ~9IT1Sd4r7)z=tqS32q'i=zPWj#kd+P#0NxMnn}TwVyFZz
7_6AzJc)|J/UkeA^Gc_|:F*+FlPW)6k0Gq?]h7`ETvXjh)&bM8Cxnf~7dL^VJ]C>$Ks{]b<}/!%b{`*]HA8%i]/.R.$az5z{oU=_AV93o&c`k}{r[&By(VUf/K+Mc&eI)C1pS2UN;#~/qthDvZ)bqf
PCGb%,mE'?cSw$rGVme{d)*xy^irWzc^C1Ug|e>.a.vEyHehu::.x'WYxQ'm^]#c#KLUSn*yGK''`KSrx{)s[GM}a=e4)OsGlw;FNmfu7P[a4thO&8+],3]9X6BZ{We{q<jY!lCp*+f!5pITM[?$C*
c^u4;Z!$C_>&)g.DVI#yF']DqA4AoH_/^Bkx*go#FT&K/%%.$#]C;|4O9(n)+H'85~ywj!.(v)e9*&]^!*Zxfl%*dG(mu[r9V}pWu5!Z{=KKk*TbgNa)5e(s9Yb`2^cJJGURbDK;Z.*<_|pw0^}OM(
`k'm5WG[LfCuMN7J<>{~XQy*sJAO_;;`PZXaxkh!m;+_0Jd(d3j_aBWI'Q,;UcR76jCX'Qb8y)c!^E<1[3L<ec[&w1I[voaFowm|E.ZE<,|9K,Uwa6+V.S5<2Aa[A,pg!_GRH_5._Ag8o%*DO1XQ?A
=|(d0[/AzyKRV0T6Y&0fva{iHY#?^}yMAIl,%3m:f$PFZ~&&pi,_7`J:'NheOG6<5,s]kMWT;AgQpB|9:0<4mz9#!I<GqcF3dVw30V}M]]]E!Xy)r0.CzYo|vm.c>yC`*jII[nx'uSGd%NGt:!V6s6
8.`(`=}L%U.:.27Dq$Ew(wPg,gX96i?9YduNIfET4Q|*h.1&w6}|?=UYhAT*y^9d{ceMPHJTr#Jmgos8u!%GY)(Kujcqk?FH_=_ucJ.<Kk<KFe7BXuxrCmN481a#i54PHK#^Q~L$m_`8hiq>bC!)AB
d?HD?f5YgY5llKA#zjALf1*C]Q!zlC7lqDM%V>FAcPD0K23O)7EA5,m;v<j>ZW[er}q434[jtwW%>>.RS+ToM,BJ;Kj;BGg.Pf[tL3:NW=i]VCok<F/vyUozMNuO*mAFt6b7v9]HVa2E6azeecuq=q
>6yj+E;=~Tz$Pw6#2Pu[vHF!u&qhQr~8BW#v`7gb/G2$V^~vqJlM6M/1u_]iWd`Z/x#ndxMZJIQ#%!lcol*r0FJI$+>eeV'NW<}I.M6}z7p4=f>T<<pJZj.s#KO<=I,.VoAFaiSd5p.stYh[$tygmi
>XOGh<M41Uc:Fs3W/p_`uyl#f2!]YA)kY2jozaqkjj*hO%.3^<:qNkBVWbpj*nTh.9D,nI~eyK%c;FiuLi}H7?l(5Ce:[9SrxOn6Cn>U#8ukb_/UuN25];>o*;S_qjIZVjfzy'v|smh%KpiT!d)d/d
X9a3d3BXALlPE7E2;$F<BvYxDbrc}f|NoMf+_S#1DWRGX=bH$Y,1KBA2F;>5o+C7<jX8k]:#ZtN!hd/wji~cjOY|'Ypkm9xFX)`7M!AiP|a7oti,Smcq#<zp4v[JzAUY!+~=P273CYQ,Ba9G5:6^ea
4{.NZOYY:`nM<Ro?|05Ft*[VV6{aMU`7cS_esQ8ABx|R}]5N;x>q=;h{V)M#[ZvI2h(R^UfI+Y%4fR^l2p70:TY:UalsrVB3)>[v0ooN/1uPo+yqr1KM?*T0eH{{xK3A7=h'VYyWqfK?gY8X<s<N?:
aW+_>b0{sj|<{eFd*U9%dzZNrV=Kg0s<180H:=%bhIGqyKPYk[:ru18RYic=GF`Kt4?_!{?xonK:sXE%,H[07%qjTPb]S%;Nlwe5W4]I6PGA;TlY[S)#{[2nwm%2QA$,P[=SvfxP.MG>V#<4s[>42/
lZ2Gha|`&+JYc>fSjR|IghUq$1,Mc9bcn7J)&)]n<]79x,4ZC]A{`X~^Xd:,{0sx;;Gyu>Suk;|E`O8E|*3Y7HY=}QRx'bJW2xPib{6dNe]Ji#+CnMA.M>rU0k6_t8:Iq3#=)31J>X[gYuK_`:&mJD
ha;M[.JlM}Q1(A(NU.NWAh1kxg|%+u5a6'bd#1P;Eivs.2ZqO>1wc{+eFda(V>(C9OTx]t_<f/<!/MhI*:i_Zj$.{]deWF(3^0ODxy{DSDXhre,QxwpG{;|I/I<b7dj:Cg3K8w3*Oc[Fx$F,:)$'z&
K13gH0OsEaL+u#.a2<ik=Y'.p+jS0n&RFQT%o}$[5JfX(MHR_,q|7$qnnHds%X(dI71NM6xhp,/Wqt&G>gy71^?%>9'&vaYU6Te9H]I*<zzI~y5#9>UU(]^PL_fu9mCYHW11avrx2mw~)RQ3**p2uU
cbIt/d^Ca[dsZQAH~LV8$*VAgBww:Kz>dFq2LJBZveuxF?u$YnltA%8P93(2=||m]'~9Z5up8n5g>.s)Be<7{sQyJoQLhVwWTWa$N9xl=~v?c*DG;N38Sm3%:W{'v,)TCtEMrNF)Pv6:HGhZMJl:p}
1SZw+:qZjow2zn4r.EYLr66|#2}VFHAW92ubS0A`(nT{&~Dl<Ln=2JRxk0YH847o!(gr}wsD14M=Z_DFVo?x?E7$hw'TmuX|;[f3{R5^Jn&ne4jjqmo3ixEnr[JP9SfWL5Tzk:vnEgZL0(.%9!cgDO
uTR+r4}:#qh*}l+A:18W09C}'l|+Qp9CdH{CtUid*}'u')a*maxGC7IoQPUqJn?[!NlSR$R&:X]LZr,gTnPFv5MPxD7TC2&!I2We.E5N'6ksSc*T>9)I1=!++ld%pD<3B]%iuS[A&7)(*e8=$Z]eE6
c`dsX:n]58pHhfQ}AGL:{B4D<;q&D]A1wI`8kU:+6L>V{%bbNu!>hN^OsN&K1e&E.0h9yFY{e]t73QBT2(|,D&+BUlw/M&'L,5tA^uK7a]TY8!v|_4GPt3HeH>Ut!H%^(BWB_&9li}Pz+SC:UpmX#n
2(PvW5cuGm1As}(ZNfry!uh6N7Fs|<ld=ZoO2DlPiE/B%zk{BG}Z=xH;d5k>xX]+0DFaBMuq;^vY1{)Sec7]LN;$DFtY9XK~FeniKtM56d}rSVLKmFnzIKCH.eTl6TD'o<=27#,5IB*2bOErprQxb`
~eBT)$4{?Pd(HWKHo8Zl8UUcm8[Sx7'a`M=L8+?6Zt[[CQ2HG5J~ODYQACH4c1KOPNvR>Rg(L~K7*v/$DKI?qH;RT+.PGU*}'EwcIVIedm*FEzX6D[l2huh}):^?4j?_#ar6t/Q>>`wj|XC,F}gm!9
mLi?Aru>;rOSJG)?,Y|/XiU]ajy{$kfbt0oB>:Eun32d%F~Q82Iy*KA%w!/t!s9)&}7!)M[^tLoKpMPTjjTrx;q)Vzep0E]^!W/O6:zdYT7xq!bgQuK]&r;IOC#3l:z?AqpJF(#I<003A~Tta(bdbZ
hV})77gzW*0Jp++iF[dD*:Rn!Bjb,8{{P39eAEchmH4)kJfvCpFk+{yEK%Q.HI~fOq[Q`6Nj{TXG&PYmyc:~m3N&/5sFQ(S;WsXs%z*^}PY^CwTQSzTq|'OAI5;4a,O8R~j^>BXp{kjJjdNT79Vfqk
7bJU~P?E:X(!rjtT;q6P,bPD(]'Bc0$e^dS>4UWB20a[f=0$RCU'VOSaoW=Y]*Vj8l]~8X~'V{{G<d/R#18w$Vi4FY>[gLom[C8`)%p`TCj|^Sm48z^nk(c+I2H'~dEveSC}X)7oE4)>pq7UcX]Lso
Ph9uqC'zO1[l&C&?U<Tl(2(IoBqMM2DG=|=&GE:tj~?8bS}2D>6]s]Kz|9,Xu<Fs:<9Un:g%K2[|Z17=n!ON;04cG2U=*MYUo$5qQ<6HzuQ.hb&iPWi?MtW]ZU>lf]&Ji:Tub=X43IME3I+(uxbV%_
1cHxtD}EziH366u^(tV?0~LL67d5CTy=4gK*Q:15tZPA7K{Q==T(&K:WR'cFu7,y#DebmUIfNF]&.'dl|Ipzo`&W)]V30Xc+7h!.S=RN+RqMtQ`l;/IcIirhmfw7H^f524Go24[$3R`<%$m8qAV=V8
{5$>q1cn]&Ks|F*Ht2hV].~/FX5yC_bj<+^j[)s`VZ~q*l'_G'vM^iY9{k}C6+?#lgF|;Fq`[VJs}G(%$i=PYI79>#Er=CfR<pW:?Trp#r]~'){*0]tlb1t%oE(/pCoqV<(ZSUOkg[jwYJxEY`lX^Y
Ui%Iz7xwKY`iKi3j=Jt}{;0siJTHeLx?/I.Sd0&{mXCRz6.2)J*jYBqoK4F]TUuL8YQv:DlKByWvc)/:3ny&2ci0eIJ|9QPIX/w;`,#j6Ol,KL!#H}{.&#1_rS~H,{`omd%_}0!N%5*Avi|z*S!%hA
B#_yoHX%#^NrJ'Ji,6{oww6B]nm`3nB>G&o:}$*#:4ckc1FV?7hQIQCf{>Fg0fH|>%{w~Qg=!K2Umy%{;gtf(]~'~9tlr.at275~,6q<lC_Iz*>e(H^E{m4/7SBYUN+_}h0v2KU36gOxsiMe}K?yF<
Ji+sJ[F8;&[(=?&O6JF8h=;g6DQ;k,E{z^/i1NgUnA?7kZR<>Gc`wp+FUu?RO!c;?5q0{$Yd_J24jk%FeSdQe5C=Kxy{IyMs316<Zk])g39cHv#e91vSr}1Wiu!a!Ny&l}yhbp'}c{{'vLgd9X8Li,
ZtH}>nV=|IYzQ2JN6YwfJxq/yyC+ci]V[:;pC=PU91H7/;JSP?F{|DI]1|[9Y+S5=MsR?<ft_(N[Ng]!F2g05T%nS4o*7!`r4e1z:7hNUBi~yv2|A}s|m59refw_OqWK1sS9`Btv&<I>B|evqK;fB0
M=f?Tkx1i+hDK6]7{$TGOGj9A|F#65KpIUA)|~8,WS_nQCn7(R{TYM;~eUvZ?.qy]So~=7<V2*CNZ3XmY&x^45|vmviXSrUV5NzMY9b0cPvx8Y}=H/YU`>>f<e)d|liV0pIdRW=6Y(K|+r~<`iK(e;
y6a2iNIf#/brbm(F>Ti`Q0st`z.kStHN(RBr`ilrnmP:S*?DcYg]C81^.D%def/9>9x8IC>2lBIS%=Em=z1Mnt0r):M#^whfv1Ap&S*~0FaJ{<}2Y?Pj`?]:/&.z<8$l8J51lS5.Wa&UcDz'bYJ'IY
KX2c0<C!k+yG~y!l52p&c]IOL~[UM&)gp7Jl%7*XyR</Ze1({9v}I&!M+>m?zkzKrUdW;63qg}g/h%TxHW]bA}6~3Jo`_VHO*]mrgXDLQ)}%#t:?7+wF3caK|w3:tytH$}<R055D!O7P#EwfYY|l[4
(shj][R70rq[53*a=1c,9|RCzJf*8X6VRplL1[|rmck3b`eA9'(AT_OT2da({0:YVIP]TMGzs0t<~Oy7(<!l0M1w=rlhAeTNB~%zD4oXSI}4l]&e[f'Wu?Ggj(Q#4AbTUg]hc9cOqK641W7(7Xr,JR
QRmj7Go0)$ipeP}kzfBxsZem`F;[KPg={}6t{sjr]Wh$[1H1+.vw)C9=4R..at}<>$tLfVv1CG=aOPXbC$wg]HX&D>/P,7T{Cw)];Dqo:kqdEjfx(xgRQ#,?xJWVDqlWAbsPe+a6,?Zec'^y4HHF*3
J;,`m+pVz.}J,{HBiF70j`h0psI>}GfrLaCBl3G1Qw2u{RQ*5)p}[RuaXuzg|b,eP*yLw$wik%0O4D#=.wVNl1u5e8?gG2D'ape?)jxuxMF{$Jz2XJ#+s*]<2l]>}Fx_>C;/Q~TI&XWyX1_sf:cAgY
I`C(hv?GjKtZ~op^xK$i8,UR'Y7k<8r1Z&z#4#n(0P38(A7Dzh5Zd#*7{g5m$&Yx.&Xj_xM693W]=Y/zy%%rg3,UB[?|Z&k:]d&WWm7!rn:yZ?6A3{x$qho?TN'Sh2I~w=h,?ake:874(=owm>~fr{
Wx9!^7`|N=Z`b`falmmO{%d.B]zX*e7qG/W0f;|s1S$CjulLqQ,0!T&fPt;},66C!I$,y(bU9_2CV9ss;ygqi:VD*?&Jcm1#_irm]!baBMD|T<QXeUa+p(XrMMqSt)jT'ohVshz07.K.:LmYc6q$}=
deG3Sc%&KDi'l?g[cl44h`tdp~n9w[Xl3:__C#xFnrOY!Y<!vP?C<gADi6jLW{v*%;jG+&%zRW^8X$/n$)~/`0Ve4F<Ze`a&CeVLjr{,)a:sx,62}anxc5*vL>y^#j=g?wEHRSVu^SJjt8RcpGg'aU
$w{%)>v>)&3UE!<{HA35L*S?0)cFIOrr'Tz+0LO&v4*1c)&Pg(zTWwxL5|l#:]<!]u)WK5fTgXftW$uVMkt#G0WYX_I5X2wv:Hu{PRSSXGyrOSO]7+h*>.?L6xv8nf;FSK.]$N<K,%3}1a%{,K2GHX
%qoOyc<ub#ijrp/_]LghOtlwNQI`4ITm}{6cbOlRT~+(6bJiLK,wo_dS|~OAD*hU!yaXpu3v]uV/n_Ph6%j~~7eRy<xw=ze#Q0.YH0~3lH+zceC.W22a;He%VJtgIS`R;Byi.ABtqk[{TMMu+=!d0s
>(yb2A5+rPAO;>uBV5:fS~$sr&RVTx.+$tc3b<CTjg,8ePu8'PWVRfk[h|ut~K>~u!O7$SUuE2yTSLOFeu~UX2{zP5Oaq_qnYin5R41J4Qi8=8;fdUEs~~%7]q7c+XxX'>:O/Y5<oWjOhVJWpm1V%H
8uNH^?I/K}_~Sil.)WnadQ;TkN%*8)IzE}H<5}*!Z~(G$uH$CP&h=d+v:S>)}:`IKUzh4o:c($'SoX1Y*,?_v#rvZ([k&s8M(`nZL|LgVCTZyTDp`F*qw;F({{37l2v=gU69:c10F*v]CnP|QPl;(l
~.y8egSS}|V')3)fjhJGjM$Rt2KN~;$^ZeO$z%2k4GG~=ivd;(.%R6fC77,)|4}F75ijccj9bOeV4K6e%aE]|'&?d,6Td'_u*o6pg&gBp*o:>0<+;e~E0byWj7_RK/R*(r[iUVxja{YE6l}u+yWHr1
SiQ)0wGf]R5/~onlPc<x+}25FSlp|s,rIC(zZ`OJ|J#&#q&Niow1i_=hWH2/=(lcAD..M&Zc2t&^:yGpF9gz*s3><_;M+svEbz+)h8H)?]m*J7p{(Y!d$xFUcK{|bCxc7k<r=!819nE2i+tOOu^OC(
AdaZm2C$Z_n75f:V|DmS/S<UbCOiDROYa>G`WFtbtS?9J4~~Ni}NB]vZYn'x(EuV+{ck:9*_XGMr0IAq^tR4.~4es=oO,Kl'Ekgnw?J}gX>rP[P~ybl_MsJ]|!xaXWWH>k+9<LI$;}|%^[0Htx+Je+
2~|F>=]24yD2k]!&<'15LalK!w_/1Qri*u]HmLi>7n+Otje)D/,w(Le#mnx[5h3A.sRP`0C|1>=gs6nY++Go75JBp&6wJ:)z!L?dBe0_]1*Mx)g&'?Miz<G6^0gV?#>>^Nke6Aj/OUXYUuDBrs~#??
:,F^Tyo{VpZ6#O*Q0e#_hZe'+boo{PTM^T!5a*c<=.mM_BO/0m4eujBbB9%3?cWjoMO(5|Qw}R!R402Z/LNAK=EAg+]78V.H._~+Sq^M7(_qP./9|m1iT4s*heMO)ov;$'eQj)A=8eRSdTQ`BMj*Hu
K=}a^%Piki0%J_d'&t=J=h$7g.EaGe5Y73n!A`s1hb#Y:%LMj^,vQw.WYpL|Vu'Bq)nd=qU~2br<<E!C;*+kRrc^19Y.$&emXCbq[:Z>m'Eyc]XLyJF4.O~ze$K'$XwAW0L<ZZZU(>JIHGc8?k>J:I
{>p*gyHE4Xgxl,o{'(xgS~R5P&&J}~~zho]|g7i,V|&&pky_}1PN+<rwfF_?/K_,dL2MD<&q{oq9;Z<g|>yu`^`,9%,!ZWL+(p1n)F:J*f84a$&Dk#SO/33q(>GS3{3%/!jY.Zx$Rh|q}R3ak!d/~:
=dFeYPYK313qu1L&)djCxy7ew+nTqPiCRCsF{m8o=y:'pZEmQ08JZB9Vo&5fb)mnl`&l=Mgv71lj;0Ch%P^x7s.l1w|k^DoYN,'`FF5;oC2Ca:w0'bSA=TFL*=iR(/5G.|E:eO+,2g7i8s*vea;8wd
H3$=p0Db8_Xn>Sr|)(S1y[]qT69>Hwd)'<we,AX`OAJCd%p<ho0Cl409Hb~HRA{4Dfj$b_9:KgO=q>*(!]~x}ub7c|=B_m`3,uVQUg{n{EAL,0[j#~[,,lIKRU$HO~9i0#x*$z$Kc1X)rMJVR`N'LQ
eFPUKV;9.d>I^<eb^+#^.=Ak[aB=IZyW'[^*fUnm)[FCR>$3hA/)Dx/rjWaS2t.P{v<jjIyT,&BGb}p`R,2vK]BtPrO4#zMKE]],p9V?2iMsTy2dmll3kpIA2eY3>e^4GzZ&EKBiZ9uR2~BF/F(+XQ
<<Fba![dT%gWCk*U^aP'Wj#~IB:{?IN={Q+)VF(8PseabLhOTJ^y}V4tj|1oGbUL*9Sph%A![i,mW?J.<)/h;T#:!w#QRsK>_0v7u>]J9h9V,I4&J*!Fmue:*evYE??_Dfa,f.$s2zu'cQF=]D|^Y4
86Bf]/sSoBy}*$zs2?[L)8wS9&k1AN~(Uv(y?V.XE1tRrkRXcT.Dv.oR!G:<~WF]Dk503pkk2#X&0%,VsR=7bKq<_Ea'IrwsA`E%7D4UJZ<8vs/8QyViT`ttl&glAVkFZwCv>ve?`DO#KF+hPM*Z6R
ZL~EcPZpTT#pgtd''[e$,7mf3]`Cd6D83OrTAB+R4ls|y~1^SVu'3b]BP6NwU}7XK`Y4C*%|YR%!NzU0geS),vP1/v16x*dz03ngS;61VCeLp`1d:nYW$(`L3u{9U.OxYMQN]9FL$X3?Hq7Dnf;P51
.+%}FA^?R|iI+<X'FSr1[2kt~rZ+I+P0Gk,/lgE>p>GeiVN%w_b)}N1M}i;ODw7tP_q{i1PL!IQHm586m)PjmZT8havu?pHdZuhkN+nj})JYI>{mXFH=Y(b+%j2<?'yVQ[htY5.n&Jda{}5?VJ3FB_
y=2*Z:05kr80^?{{Tm#OK5u#pV<Sz5O%M)ScaATI/j~heEP;~vKK;SH2OOy;=%waVo>h?|zeqS5`1;2zicn0%adKW_X[Nuw8.1R>|_+zDD5KKr5_=]qG_8E(n4SX2M3;D(ui%2Az^[8OG!:9}3_7z3
P8?4PT<4OMI<NBcg3x`#KW.eT/&1=W?pG#VWsx),4.TKwHb%>#`ciWv&xT{>g+!a][L=e17;YDak8ixk]F!)zo$WkLkxnzvaWg`mUgO2Y%Gr`N9(wZWW_&`9]Fr$%*DunvAtSU>00l2H6eZ,1EdQ9v
mB~>a]C&)RaE+?tW/%u6:I3WL2Rhsehp##+Wn9~_]h6[SOSGhemB/+`8szttu?>r*M7GIK.hDRfT14;91$k0zg&oVNUt{QL;IH}zUm'I9}JwXy:!%l#{|he#mL4vK%nP6'm^X_e900#n4vi[%U*Pro
JhA=_k9Td1yi'+(6owC'31V9t}XGdY#(zHSJM!IHMbT<AMd2)UkS0j`#g3X^/2AkJ+#anFQ`C~PS,0j0TB3rHd&Sk5VO+`'pC%Ld76cftq4%vxxxSzusJ;*4xv<2A>E89]9[Z{fs<*sk4Q?S3:ylX<
)V)d(5T!:JQLtiyxI`;1|L~^CjpjzqoHU:#UJ:#VEQ'meUXq}ZPX6r)kv/?41d3#*V]lmIK$`9:?1AlX0Uh^jm6{s??UA6?))_&`Vqw*;{UF05tUofN7=`XmU]=QL`Ls>(g&jj7D[`Pk3l7`'/aBVq
GFuJ~8|v|ugCu5*~,vjb}p$dXjhkH>Etu_$<hN%tWYA{pr:`})j_6me$gePQy/n(>EziGFyOGo`Tg,fHIt;0*?SJ}_`~D!OKg&?x/3GuW'oQ%P>?Yt0bG:U}hA[,(VKq?N]7Ypqsf%B!|8{!Lv}Iwt
g$KWK,~6oQ.,}]X[+vLK&t?g[9$QNFX].1F{>s<G`]V/BeYaSJ$ws}m59^*PkgDZMiY_rJqKd=0Ui+I//qvw}}NQVp+dNdq1H58xJI>dDOWg0HNqu/kdMowck+{jE|w#}p}=S7&'S1ajs:z1/`M1nM
wrv4d*rGF_6z(*]!c#eIWt'>Ag7NClXG??F{zHr1pL.kh1XtnJS9PY_'lmQSJOQ_YDAK#[?rz,g%j{$H6sC0K1)3,`vJ0qfw(2I)$)e=X}82SkW^6OE0p5e'sftU*t,9={naO1jzyuTiQ^]*MBTh#F
jHk?0XJ,L!cd&d_(:fv.1&51a,GMJY!ogt_}4<hRE.k)9JHm,L&QHtMy#OnWwDtp<G[ToTQ3`Jc3S8oLM2E3[f2Hn$cua'ZeQ#fUiiWJ(nw2^Eau4#&H:_3Z7h+v/Scax^MDg2Yr%6!Yv+E{B}LthZ
uSsmyP5ogVpDGp:pYY[PKA4IT;y9rcZ*1CJ`EEgV$k3Dm=baYhV2}~W#|dA~cvhGi:wxZ()cT]/}5[tr$/YGF]R.8U,df;HBvkL]i(wa)3z~hHYbIMz}]{`6KAgNRK<~%E]LvlJcZeqQ^fy;8{t!Qd
2MV=5lfABnVV7N=.pfW(/dQqq}?_=6k=MA^Zi^cUaT'|+7<D*kENT4#fFQxGdA[z`n`1#FMj`8SQCYBU:){5XHP'ih%N|e>q$)5_Xad^[yw;Z8=4yWnC,[Nn8lAs:V0FXZEE8=hJPG.yoc^P^GXd7Q
?:f[S,w26%0NfvI}nWgmJ+,_tHDEWajy.p6/^a(?l;ZzL~ZQ*9&}:~eShL'cY[dG+zVJS21Vui'$M<lH[=l>Z#zlN2fl^ib4~bV6fe19+Rz$D]YM9nQb%f3i}?Cfa5gxe(dCQD)Pj8#*IVw6#8#!7M
a48Y,e[A$Bqv,>x}~?*HS+Rb}Qy[a>pw,0[+mUFp0kX>o.X}MEFB=?!*5wN<y]$;c?%qr$%Cd(^JPkyYQ>qEk?^U4U]&)d:dh[Ks'BM5[IRJ!%2USNXPFRqz3!iiQ0EAv41KGIOK4]5('I2Y$MB43&
mO$s1%dRfW.mtkt>DB<Qx,Crc1_zI0rn[J:oe_xQ#Mvh*vR6cr2ZS6X0/T$pzS:.pvD`&DO'4!VrXca&1z^);1N`=lIA.~C$''t=f%p3:8EFY5V3BEQ(m~jm/WsEWo3L]rLwtJnYS'Z1x1hF|ZGq`a
&=.N`Yn5QHd0|]yJh}P,)'K(eX8T$&~qoQB#<|,fPK38ibc2jTJ8PJYy:t>Y$MK%b:7bj_+5H'oeTi3v2SJ_FjYA*L:$VhaqHdZz>a2zs!^Jm]/(A,ZEH~}%d5x!~{CbpOtc^l3%s?8N3!Oz*2&NT;
OWut(eT2'M1,,)qqTcHeq8|tRRBWXD.Mu<%t~Gc5xM1`Dn'.Usi2jz*rZA;~O]'Y95sj/r%p>*^&<ngJzQLh;7fti5ymo;&4Ow1>=p7!}F<eLcf,s|EAp77RhP,1xD'3_ox%44Wx$sEI=15[h!g=_M
Zi{?M9$]nCmzv%b2vLQKq+kRHi4wY&cKX:GmMvelDG&2jTCeiksN=Wp)[0Ewfd7'~%Y&TuA4/A5D5XaP8n[]3X#0]W)Y#g&Rg%KJ5c>?ee7hU$'9_+V'7*rC!?,4Aw]hUJ6C)Nr$;:9f1Y{mGA/C%v
7w+.vq&U#vG?+R3gEZ6E)Lwi!=jc,4U$$c$V>y_S52i+GRIG^fT)x#fT8p]dm&`+|>$6eCn/pIq`K{(t^QOQ^t#Pn#M'ep2&;lI)m}b+S#7v6^<Y(I$4n^p+l<zgQ]hxpy'Rp7q!)MwH:(l1euw'pv
>?&g?IZq]ww^+m*v?,=f'fZpSttc'=hZHku1E]M]FH(r.ZMY2Xh4QPbwv{Fqe*mGd7Z[GOt:DpPi=<KjCcS]v)wU#=<4dY&sn+V<:C1sAyJP[<d0t&yL4cwKbw[i:P|ET^[Y`o=lH%/0V1n3]&SkTZ
gv9G;3,oIrtALwXkFmiw;[0I[|7HHhPYfW;%2,:PV2j%2QZ*N|jUl_6tAx}A*LBye,'}F4l~|yV.Db!q4J&#9.KKTKZyocEx$;P?hQam+chtI]m*i}}nqYJ:zEcVl~<7Gaqe!odAU`%L'>pd;3b?}u
;FiIO$H8SW/`2hL<}KgLSsN0akwQyUBr?EhpKSi*c.8.XTkh;]dqnUdnbVC5fgMSU{e*bB9N$w,)>V&>22C=^O$j|?]t=$O%<_GpS~qR{FxLi'Y;2a9KVt;I[91qa*[(A+WgS_%0Y/CnJmOkv</#Oe
^i^}G}Q1}M0k[Q%00fzQrB3Wd6L~~?B*Wv1''TtR,)wRBG;}Yy4c)Bh79~z<GYVGG_.FJK5.hGzR8._Ix?13k!<0pg+NBfycwzzq!A'7Xag#iXagV*f8IQ9v)hbR7v{aofB<wWWVTi4]lDHP'*sRa&
H[O.3i^5]H6;9YV:h>`8z5I[zQ[]0Ymg,bmmn]]]dQN'#ocKu`C#6Tl~a<ft;T<:S0Ag5A8fEdm+<~WZU0qAI#:G*|Z&y.~U,4JB6.}3`mnDL)Dd3aIQ}c/N7<VCnTg;R~ajuln<)l?$o;g'uriz+J
m5xXOtqI%ZSgz*m,bY6*FEO%W7m,&A]h$dKEW:/CSUKIldzQSF0OO.9a:xI*nUFwHE1>in7[rs0Kj:RrzsMR`y%o]>`*SD?MdMPq{^CU9&%Nmp/)[gpo6g~;lrOBA(wHRkXTx2)U{xT.?TXjZNqzg.
D*1$QH5M]b'gQv0ioX`8Af]#qmVoh>XT9z'Va;M!,QwIWIf%3(JPB|`W{C&uKZvS=ST*!XV39:Q!;gof9P[;b:(>fe&UPRKFkZx%lSTPnd5?Q+&C,*JZf+]<NHJ,~R.s4#Sd~SSaq?A9Q8IX,)D>#<
l;Es&DjUrfw5T;#ZjLuD?v/Fe~P94IMIg7vW/e:hF4/m_TYIzxpbyvpx5hWpCc>bf'6=y.!':f5Ly&{_3=a=N(9?i%Hxls%Ryb}Q,ZB[n!Vy%#6HrKq{c8;|wkG40Cvl*u=d;^GV/v2yg=d1zEke'i
f9v.t17{.<'U~%&)6!vh>Cm.`jP7JU|e_HlH}jbF8vkYmm1y}Cg_NuhiOnX#4MThI0(K.;4seU)_zz^'KVJtPyec&qM!&|<.^wKiTN?CTx}1]U'%E5f8<u$Vp!(+sI6WN[KUEyShu]H+0]A?25~u+0
:SwymbKsv`RSTHihv'Ce7?=BUc[#nG(c(U^oFSjx]KplZ:3+zu#f+:v)&^+sw8:;yNygB_KRXu5LbD4N'6P6FK?Y{)&2dj.k~{MeDDJ2#vwm1po}V(~(I:,/qlnGSqe/b0yuBz^[,tLT?XLH37Eob^
dq88ffd.N_5~Q/`l(wjxRTL8]D'/%k!KQkUQ{jk7daC<X?f^Am?=+.eqP>W}D;$Qf{i4(.=q[hOk6v'+^$6b]E6)*02b(E4p+Cnz03W?(}dc[ee'*zS8A#sy,9:s_!fTfmS?t]X7Zm`fpQjgx,4O+D
:7w!1dP{Men!ZF(y1X37<[y;&~,ryZBvV=z?1oOq;ZA{<}hnf~88.eg|0,al2z/9>BZ=+{'m9+$o.q/(R1kO<|gc8BgWz|gH>.kH`.k)H[YLePy*wliP|vk5HWUV++B=.c93|VgDKI_[E5HuFviq66
B7>E`F?^bRWbAw[[]6IJ2=:/ttRI5d)$9=H;?Z.).dyk3B_if)G%w^71^?9cO%ZlKt}BQ<SYmmO~Fb:b)(qTXA={P*<QgChmHwDv+TiPlj!rk}_arj4zn$}47NO~a^Fmjf+SG:p8)PQxKvU(t<}?FH
mTwsyYTV>#O?|Z;jqK_,Vb<a8JB?#v}e0sCp(jQQ:]`Iq8SiX[S=c:c_kp[UlsCyf.khkO;:tQO(.bBW/ONqKOx&^W<UdMu%=pNdppvZ?PMB2d7XH*x5F^E}&tOaQ$ev}C).;p<NDm^okOv_#d8=1h
}8K}{er;ZF4}g.[9#Nie8ut$Rh,nTeN~ic/doPKyrYt;0K]xm>0[/!Ky_z*ErxOR$%`N'Q`'Whx7P03!?Lh2_qTV53AEUk,PPtoAx~P_O)H0bt%DbO()OqA!v#3JJ'O[(U3/d0P'<LyI;Q_/}q4D[c
*<XN6),,oAqt|yya;+{{JkYc^#KN(${s9!d[/(9yyG1O6Q'Hi;jzT;=>HJsZDT}'Et]*WyVVSSVL5J<LT%RQz~>swkct*p.Aqa8TkW3JxIAbVLL~ra1l'oyVa7r)G#y}0ji+t$g%tOf&?}kSl}NhgA
4DgGwXO~s/Y04_[Zi}_P6bEx(S9#)y]}vazc{<;^Xveb5D7&WF{h|4Vrj[4JTdozfQ2]_(2)C+y4~SnmFc1]c:X;n{E5}WG*(x+>sv8X&vo<+M9LEcOjIvME9w&juhv,pD*E>z0Cw|uWW(yp/VTucS
aKY?$[Ql&,Hh=T`EmpA[d`[kxQG{#],Kk[]C)]^[SdHf1LL]niE=lgtb[+_oK%C;R^7.6aXR|fF80mVC.=LRI|CZ'kLjf2}LRCXE29ZY/].KV&~Pv20=yu/jrf]3rxPniu`6PiKw}$2abP??Mrs^W;
I.szyo;oTTpxN/g{!91tIyAi2dXhkvI`>Xu:f!orYnNp{H+?.'lq4^b'hCgqpo?S~;b#(P'V/&/ZwC:me?pKUM/xR/;C$#Q`%;AKvd_xrPtXzAZ{$HT8y)|}b<V^m&mI[|8lY~,d;lCs6NDks>z<]5
~NYV7*'^CK*Iq$z6{g=ZGk8+y=d_GexmQ*Ga)~sRH(S`eGFq[/gS4qg^~zHAF$]WA`1jVqIM!<(o<Mt;,[I:|9'lpZ<1kqvY!!MP:IG_mdRJ1O&R*)PpEEsVplot$=H|)C(3I~c7/WY_KCL%*e}?9[
Pd1R,im:,p5nzLF5xuekJU[?<vh>p+qiy=F}Glc4P{HTA6Vp!<S5,$/^>p[8K(L.3R_L,*,S$3.srrfCk[bIxo5Dg+OVi0!)DU}M;t7U43|uYg!;eqGnwxV]2TyV/+]7mZX_NT!)4[.DI[Q*}O[*:y
s+JAv2<>^'U(<|r%:,V{l<EoolL3VY&%+#r6m^.2HLCcZf*m^)%k;+EcHU60W=*xnZCsEuR6eXjWtN6KV3/M=|JA*ldVQ{E(=yueeaCXF9]coM=_m^<yJ,zW5Uvh^4$8qwIrW`+J/k1%k}H6'aG*kQ
]!t[7)rI|}h<N_sp%~&;2NwMC>QHTNXn8xa:G{5QQYAjxmUK9,M$Wv^mDzxpwnqJpk7]Q:8,[ocD1W7r~WlM[cyH$;~|YiO&<vYv?E{*C#}ti>VrRb^2ZlQ:&Pv0(p97*dg4BS7H':)?=;U[peN:Yq
SpyCazedJe%]d_);_TIbyP|L%MY&/#k%&,.TN,3]4?iubr(2I*r:Bq'RR?Z*)*ph8e$_0wiZOVc4XT!k?GVPW=O5|H^oc!<T6iz/%9Go4!$gLGrBEN:[m:WN}<UHWJ$+6l|(%t{zrAo:f#]Ssz&$t~
<i|,$bY5USj%;{,Gnx'ZOVM4y.Oj_+.szBpbuwYOJ|?o]QtGGeD2z=5GL$CK96^Jagrwwi##,`:Bc0.??]'}|2~uq^Z<EqN^:6pLuoHzL[8%ZMBsriq5hh#es,n/i&g;()Yy)qw`2bM}[3|:mYwXZM
O!xGYL)I~;>e$_UNKak04~oI}^3YMpn#`(ZT_(_vHXuXJ{&:}$K^KRz~?Fi2JDrcq180#NNHl6F/|{Qi`r*$fCZ{`h.M}N*rPk+M:}r8C`fifyZ'Q#.f%QS0eYw[rfT2UpjqaXn1$Z^Cm8.7yD6Du4
QhkqHD5WWM>RQ{M6NTTN;]s`yG[87n[7CuZ]J$C_e9sK36ecJqV89X*T'1Y6e/q[kOE^r*djT$S78JRB91+<xUq>FI|5iO<,!7fWkuD.`[J`mm95gGm#~+Sc7td`Zl=qPzR5UWg/qN[onF4}vpV?ga
d`yaiQC.#:|mh_6/METaW`;fcyeB'm^C3.{|TdA[6`UF0+v{+*VhXQ1,n1n;]#Cky~O1^FWMWa;<cDfwMf/ayK~F1.=Ipp8.G3$aZQYF)YEAl7irW{rH'|plg:x(8%'.ab:L=Ty#lrv{SgC+g^S^R(
Ih)x[?W0ALw{BIj7<>m:Nrc:OmLaD5RuqCR:v#Trq`2q.~t1FsUvFnvf}Yn{pYq)FW11!XstgSrz$l*V1p*JR#jmN(i>cKD6{?d;yl#C^TrV+~n9K`Yb+>!Z:m*$O&uD%eIC'wSMJYDp^ONdnbY=<q
Lh]W7s8>S#1YZMkNB{+`[5;D>%^q$Q>!+QWyz%AfU;+7k]K<GdyK8q[BV&_JRHCnh4FbpRMWAl:U`/_n_xD/?2M$SvF8{;qC_3vSJ+G158Gn:mtyQkuEVXQOT`T3r]l6&]`RcK,]LSvdn>)z_z6M&r
B1qF{7{s_%&m$Bi!~A6hAgnl7j)pVp<PZ6%7;<g=*i4]SQ0Mo;t9;l,XY8|mK4{lxUH;E3%3_xJ_7iToPYFhuhKpFVmF?4M'*L{S;h<l0hy&X#8$pwo'pm#8PiI3,]fxj8bC.A*%aELz9*(&Rl/Y2B
Ab;9|_kmBBu$jw>sq||n!<K,^b(BqtrXAyX+0)Zh.+YMk.T={vm$_;:~i'2e<CO/$!B!XF.Nt6}?pbJE0K0Jj&IgPiN.=[PbS?RC$p^WU,E:7iv>q&!nj,/u!C~tAfGRJy,#j6|%}`AzNfc/QL4X5p
=OU0>fX]Yw=aI~{0QV~cgYG1NI}2hY8h1mrbWtnU|#GgG$CWWoUX6i`4B_{^U#8G^EHQ3gaiylrGg5MurU(w^dImy~eCle}r'60,f({`Nis:CSm3E!w4USBYX.Gqn82M>eSXrop=?K6d,y!P(&D2{A
it#=FA{t9IJ;`w#x#JFlJ73Lo<>Dz:h#p`:TaVM|}1{%{WzREoxC'mYQLXFa6U}0GixK!ec&N7nE)a:]o;8N31f^NjX`1wG{w8bsJ/RlDpNWC.&S[|amh#nN_Xqv)xx2'|Bpl?<0TCGKyvgx6V?yoS
!3C*9pX7NQ;kTgT}RT6w%w#3|O$hwE>0+N?hCA)]6wevo)LUj7yo6~NT3h!s<o8K+$=[QLDP|>}D(70}.J7/<oB~i,D<;Kc,6e[0Xd^Y/y<1+Tw]K.[.zR[48}YBGg#l?!}(4=QBxVXf*Pehzv(nt?
54cE#9pq3L?rz6ZM`1WP52NxSpN|]2,u!r%5n&$}<S9D.hE^eGQz>J>YZ$:1^1M!VDhNN4('5=[GJ%HQYK~'|*Fm&cvP]!%}b)J'0wa}=,$l6,D~92[hGnBC']<QT#)iOc`]c#rtKIpaPnfYJ6BRx.
DSsQQU$dZ4?_PDk9'!P:Vx=%s'9iUI*iPC:Ag&Bo113pSqfK*l%9V.T9|L3TkgH322lpxZ~#%IOWB!)U6U5W02OPU*nbnaz:$ud_Q4an+vVFZt0)2oFWpzKh:^,=Xg8L&BS}~~tTPL8X}*FP/4OHA'
A1yDQs&9/l6,0L.uL/.'t2b&I>BEhH4kk1||QM)UGU'NPvXQQ(AeCu|y`PO;>oErrkSy7R`=[pcswy$lu3Y>wWr%Uc^i;N:jp^SjpPM1JE]1*fOk5Mx4w:kz)bx&^z?#EJw]``9`]I8^HRBZ}~o~e$
2~~~vW#feUjP,$hlPHnf7*wf;'C:)b<EYq!ByM:v=Bw,*GonUe.T/1DoGuqg=n8$+y~}8Pz37<=:4+,##4n2,.Hlr1^zN|ndD!h;+()A,X4Ec9yqa:c__F}gO}>cU<>{xR7Q10AA*?Z^$kh%n>G/2d
rW0x'gp.;M(''_}nK)nbxwid7C~So2g2+=3qc|l/lcbel<lNPW|5p4ZR_F}On5B)<c*X}otZ6WtU{E]UYWlbjM%x,A6/!?H9?[WU9]j~nQ+l8)'<I]8m4DJfPD&2q8;'{ZVHFhLtj5%*5HU>W9Y_IG
Y%^$S4gGSu%.PKN;'iMCVS8y]LQ1~<4Oubn;a:I/SA|xqjXcU)Umzl$v4+ZAlT%o6C4^v.3]y9Au'g5Ua:2'V5ax^G&`eEp>nV|(XsE&c<D,Tdnn,;?Fn:|l#Hhbh3x>l5i/Hl&.BdEwBY7,%)vEdF
#KK*/XhYuqGEXRaWA46OJ:Go1$gmv>Ts}kP4eJZ3aFg*bi~u%+,oCKI+^QTF|l8Daf[:VhD,0{T,F?lRr*]I_fdM[La++lA8!WghNAR=//H#!g0yf1!90e2M_1{+=2xBHwRruDbH0a!MV_y2OB{'U0
yZguqcjm3L]7;#^b=PmY[RK,!;ym9tOM/K}`;n!A+YlHK3GLN7pW~)g]'PY3`l~Z%e1o,{V3UB_X>I%#EbpBum~,Jz`PzRi^`D=1na&4/4UfYXu}6nSnZ:(j+PQ%{l]`{dMcO9jYv<<R8HOWWKLGSZ
]g(Z=3XGh+n/61xMS.W0fSaJyMLd1Ot_#.Os8[ox38PW$nrA8Q57W0Hdb5j2)fJk'l,_EmUOvZ$OYgv$=^AD}$uA>$NQ)J(H8Itn(p+}}.kvCjA_%DuNC;_}rPel*9=zwN&|9'.3q}+k_|RUaQg;2E
>Hm.FFyVV6D.2NM~#T;LK++gjj%pTuSa5P4w|)T^f8Nr,K/(h:BE|J`KR3wiskod/_u|f%IDXnTn+m5.M!(TA:;v^i}O.z}7?(Lt7Y]:HwURKg7XKG]))eFo4K>qN^k}ZHE+[5Wh%G+tc`iWA{/^p$
=3|M!FHd3/].9(G9PHE_,2Kdffi1hCp6s>(q!yTp|mi6P4*:Mk0?![La&0mv([A{={Ut&`%i&s5p]rrQIT,9;^&1(08C#fc:7b*K;[C'j%.(vD1K47UE[:z/dyUE^qFlOj3T&,z$X3YUga$GZFY!)?
Zqs62G'Q6`p$Un,O%%Q*#Gt=vGY>{Kn+z<n#]G]lbB3bX$cqhh;83)?B0f8t1ioxdOq/C3;P*nl*I:ip1`l8I+=|YC:{nWJ'2f1zFwFHl.{`6yO*2_DSva>Sz(5':cN(?:&&F}w]6481!%I?:rXYMn
eXRJk4'/]:Z}y%Vq2^n;Ob3~7_xA`(e#,i^>F<l*g?7b9Gea]M+(1T3Hp2lTt|tnQVlXY,H`'kcuKuvSBBSFvof+k{=uwJwyX=z/!q<dB.];8qLWC>iq1Z42r(`};o5(F7w?TfwJU4oR$JaH&,fV7O
5J4uFHD[9p3^PCEM%iElf2Ar5J3FYs`GMA7[~00cU+i8sMJ!Q~ii(Ajh?CP=M>[QWMi.c/dvUgfAL$[CVTHtJO35`3WA~v6[)7QH[%hk{|w]BhfI8Vg0qnFH0spF[[oZKLsx(0s%M</*TOGj}3Q53l
WtZ*Fqic<20}p1{eGaqO6J4PL<f&2(fl4^z^H!.qaL*M]a%m;`CVm$?dRlLDP1Yvb[Sp]{Jp}|zeHsw7]X<_E|$_a/|(7pNcEF<cIehnjz^:fF1_YD?wAF)gcCU.I{w&JY}$O=7:qI!tG&HS+HV7Nz
xOn8*v?b>LAFFpCZi)^[uB,S~DzA~_oTCNMQ9ROQ2+~NPK0v[5p+a>W,;}_/SPu:n!9wu;BkAwS*:IK7/'VmBpE*^Wt.5X32L/fm01ac$_cYiqF;[$aA#WrxVt]c?e(J1D|3Wy7+g)Y{g0I_gj$5J%
sCwcY,hQc%2]'S*318vl&jLE!FiC:X6F%f1/)|2QJwk7Ub,B*D>xFL.xeE^btNB'8$C+V2TG6vBxM2gS3=u3=WE>E?b_B2LYXd:k`3H+eiN}JH?XYXrsxHS{Ro+P>=w~C'(3J)Yj:<4^Gsxnjb[9dT
'#v+,Od=bQZc'Rc2gKY`r>5/m^!zD5L_55gD&s4PYY>iqW]>p!{hVo5Z1EeYCp<.rj1/Ev+QE|D48{eR;|LK1~OZf<zYM9``1TX:JnY~Z.'xHv4Zt(HOWWTZ.H9I=uYWdlNd`olaKSA#^}*1HxUd/i
):j:3/.#Lg&hH$:$Qg3Ws,x9ln[9%1^1#L;lWhF/w<2t'y6~q22TVfd7c(qSylcZ_ro]atd[C)kNS9V;uIc<jZ.%vY^*Qqo0U&?_D<v2jP+'I00h|xN+B!iH8)#7NJtT!g?u`gm}V3tYi$>K~n_R*D
Jo;14Or2C$jV=*ji.zHAYf:B08Z,lzb4al;PZYotdg7Uz9E2/L(zx(OrVwn1G6Jt5$WCtW?GEhv'9touz)uk<~TsFXi11`zABOzpM5%]8eO)}f)q3oN8Jg*+%Xa87353$LGcPJ!_|+k~!65v*^he>(
E6A|l9=%`]Xp$330:3SlnHWp941EYPJn;:=P^TZV8)3/Ax{C7F_Re;?:vMN4vr|0t>0_!WULS$$g2p#*f2T!U#KN<;/Vgrqn(909|!GB]{X~'0>O}^%u?0VHpGNx6wt_$K1Zc0Byw8<#[!Mqf^LW/2
mF&*ue}SWQ]_Q_.IcrS&RWu2HUXX;)_&0v%l?KMZ!#6Jd&8`Y?ADR4w)7<0I|lQ0G.m?HL[.Z[vEmZ=hOfh8|mxrpgxF&g]uRw3jv>=75GAIA{>CWzM}B,IV]u4Q!CN>t)ban*MV1DSJ1F4Uboync{
i2J|ND~IAwvy!&i!L2g(RCK7mT{0m?yxMUcu|=*`!>Y$`Vmmi#Sy`QZ45#'qOEuHB|~XPfb}iJuPz0b:_1FdcSGnG4hw9r_5jF/20HKYWC#!kzs1z<j?ZhjU9P6W;NGtq|<VDaq|`2%9o>V+LFD&l[
_WC0[w5)&bM>,OTBX|2Fsjk2y3Z6)}R1c7E_&YcEkDbE;]N*`.3K+H>frkOFxv.1n7T=)mZ$61J}5y4'%8<7SFgtV#N47at3VQ;ST5llG)*?:1.ni5J]4T[+vy{rq0PNDugk1k{6fIJak3u;izk<{R
z?;|(cYJAG6bLg.l~bP$[dCZxzJi`M+0&#zZ;J3;oA}6K,n<3li45U^JRV(!e*!<BEn!X[m.>2I*1)l,I`yluB2f++XQMe4fKvzj+qT7{$jD/:Y5Wlbp!3[^RBv*oXq?>gss.j^B.TeO|lDkS>m^g!
!1;&RV/Y9PcPEFQRqNY;rvySGqe1(h>Pa._jsSD}#9b'fQ,+A$y<T{q>0!W^7dQ+c#G0uVS*+X<Z?GN[FU8v|qm|zC19[Ou1jacC0w{oL4X`IYgf3:Nn8o1g1ewg9VgfAKQHb#LvnQ`BIS;2F<NRTn
<{4D]''8BEd$H1sbDrB&>a|?V`(P#pBE+wZ,r9BLv/893ka':^H5xdwx>h'^(/dlaT})#1Do}'>kvb6cgODR}VvnvKhJ*.?D'PnP9!tCy5X]]|KEquEUDtEDiJ%m?g661&;j7ke+b`|g^o$p++:MeT
:S`*/AO;2M))*s5M>MjEwCI~FLj}b~g!U00D5uj5GNKb$H9mi))jLzu|UACGm^EWC'YZXN~g32fe39nuju38;ax}oh'Lqh]{,n^NTci5z}sHn~hL}Bx'BB|=*&e$$ue5B+d]7`)2j[V$sw8X`c}e)S
`fK(/T4FhyA'1U:q3bxVo=ZJvo478Of'Ugc|U^0'CKVup7ZJbz4UA78!Dqa|~W&rb;'vE0t%bYLN/cBIF?bJvcf%gv}b)O&&$,=C!G%Txoa;a/Fuf`mQhF3&O+DYOn~UxW2Jv1O+0H[X7n4l>_tR63
JWhR}qEX_sf!WtG#7z&[f<~CU5XVea>]s&)/$FVtG]s=gFPb|^9pKbmf^f6pEp`%61fyEGBe*<}oM,Q,/n'em.z?n:0F^*Em`DS~~pa3YDo[,D<Rn)^JtCe}&!<LPB19#S+v1RkEu[8$LdY>1b6b0Z
|B8~x+V'!Tp1U7U=|mv^S?hs~_:`X+(*8:aj0xaf1I^mKG9QjwgHW7tPRP:Nw%Q:J`dmQV&g(,F&(xwW/IH`6z0RBZ<=A}I9jF!La6#`F8|9:xJ}x?i=nqP<t^K}ySOpkC?9pv7m0Q`d+deF&Im(,z
ggoh]?9}HfL%3bP8._q0CzOjFp2,y48mw*N{']s'f!3y*e^9Rm]1fs|zay{KR.!wogR[qm,DyrseDgnwG>p+9e$,X=7B&obpvq.?ItREL8~_[y)P[2K9v+19w}.Dmax0Cu`327F3|~_/x$V_zN.B=?
^Gs;dZo*C!+uG5ki3HCgxT5drxc.j?jYVg].!O/(pg6aGptRs6R!ko[e9A|Xu0/sqy`]V`QCVV~?#J0q]BY^;!`sns*[psg!tU3[XIE=27OfK4;E_k:>33Ki/~8:s`a69H7Y%bBXuk<5fKN`A73]HS
RD(ni%7%6L8:r5F.:mu`<U*7'C`E~pQm;.g{zMRp~p*QjS'iG!;,?ZEF:#4}!p*~6YIQAaj'QIM#FT8rz;2{F]{hyoy]:?eute(<TTT5hVeWa)}bi^$K.bR.0TU(u6tJw]0P1nfsPG*3Jz.Bt?G`fI
Rz=yG^B#V#a}2rQy1JDV&wtY$7=_Ts$W}.O;5JD`Jk{r+I[[a^3koP]>f9xX`lsI}9YLSJ#VoJm~$)Sb<3tE>Z`KFkO}tV.lz`UuG|t+trj#uj(tNVf;;!RR72yoM4k4/vgDrlGuZg<(kpx^*OMADR
S|*WN*I0Fv87Zzhir>/Kjh5<Tae!;5c`vnuqa+>[0D[6bx`'0Zw+Z,I#vt%G=x+,Do[VP]0U6kinHiguZmM`f)GX>BjkIV~imuwMna9{I4n0~qt(*kf7TfrE{9M4U;.LTlP]`nkwS[OIS1G6d;VF~y
,=Dw)MYUG6KH!sj~%I}Yr)g1Q<.qI:5iO$_1U*7oj2^,[8*##}]z6xOd<PTRW?Vi:/rPV,y?wX3yNr$c^5AxXTocW:dp8,MwZE02v~6g'GNU`N/$p`dJrHeLaI|F<cwWS+)<;s:1>#[U9G^Ht:x`s`
~(9$bN~vT{=5nbq^qy]jjU=Ek0t}f'gBn(&rxvpLyJo&S?/~~jd^./j0KbsY/6`u`(N]f]z^UG|;#>`qt5:ds/p`!v]iIuc2af9mr'L$4y_QYmmcp|7#m&8h&{3p2#/Wn3}#4!;QYRhWe2nIdh1PEX
RYF<KRY/QB[d(6A7L}Z9=M~J>Z}gKOQaZ>HHPfR6_L[,*2DJft0$O3WwHu{g(BP6sNGz3{]Aixa|P<3|UtJ44shv6qe<+((RX+nA>o:_M_tK?f_9B(^Qo}Xi`$km~Z'|&y'A/4uAZXNe|?/h'^#6rz
^m(7xc?Fj1kN4G%%rVc/U^`(clNKE.c}Qqd|UON'K?Fo?sPe}YTQTbzw8dW{7NN'%WN4O0'CoM/aF:>L<~z(w!u<ER~|mQMbx_Bq1q(pLl!8=XL7Ho[All0}?N<D^B)g7H'A#[nTRAt3A1q:c>T{9>
vQ[jW:5uFpZ[fC8B!,4,uZruMdVLTT_)5`B_nW5PD_+4(IyDOlc{66*Uq,ls+hgZLKTb2aY1JA:zba#2!__qTE!XGXoumPVV95zahYBMz%y|ONjEMc&3%y~2G#7=IMU*5pK!Gq.}_)Qt/DDnW>=Q%h
,O4;k#^S2f*6l(G:4&%kggw,1eT.zg;jP?i(1du|uWJU`[}Cu'RdW9.^x=*4LSSs:U.S$k}Ewy(,&xiUv]L#mccGBo:_z~No`o3c3AL<(N[,I/Q,*^nW4L?XY3Y|^bObg4kv[%(v8eEwnokY>o{F(t
On&6X';o<|!5*lI7#B]ktX!qGGW:06)3Yk:iOO7t~ZQ/$RzB53?DsxY['Ic$u=Qtdf6#G./3yXIEP?V.buPg:o2TtU8OdRc5s2Onz'9uz(O%H%8,yk9D$?4g>2Y3Zf%*=.Yc&aIV)dt|;O.5fXzL<F
?.)nUurJt9:!gvp=t3=jyvKZv#Qb9ZAd3bg;jyv+aiekF*r{YV6>!}%zw50|3'oI9zTD4,QxOSEIb3~tHs{4.A,/XDUM[]JB~Z;f3['=VrP9xA*kQdk5e*sOz8VeU~dN^Q_2utc<KD+TQU|j8Hl^E,
MrNGE|?x[KvhXB]?1)RMJBL:L;hNX)I,l9'jpk'[X_C^+ZeDywYqtuMNg8k*;$4jmw!Wm&({*W/_kQhHes>~]p!f$S99z+={y=%7ug/ex`}5rhp;nj_%G]H2R}/qAsmT(u*i:fC!Nrd[c+z<!Okzl*
vv~Vkag$Y=a{HI$G53VvVdix}H*t]7Awz),M&ismvvwK?oXq;y=yXmj~l;4{PP^gnY+sByfF5CQU73:H_)%^USn#a'yWH8yE#+]sFZj'lVPqj9S7IEDa!EX7~bEV*9B(srI!^hNJndn>|^3YUi`*]p
&vMJ4kTxG%rK!7R=}3Wo+?Ws<AE>cT{p1Xf,S0JJ]*p4t1Xd41;^Nke,T)U1TjhcB8Y!bIh#o?/I5+&#a9y_2;VkLWz&,=H<SOj|;gz(2mWE=%cCOXcR#e<BtFO^CiXC$WK$L1}9YKH:nn&w<,>}Cz
LiMnhfI,c9]''C1fRJo$G'9spFI74M=]5)TxQ.N${gE,eWp7A3r}.Jt8]EqMD#lQR)Qs[|{rB;ClVg#W^QmV?PW8Yg|;ds2V}fZ/B9]h+L>^<IRVd%C:k'SmO:&CBuUMCS.cdUrlF08,pSq3]b27RH
X~xtXKV^qU4%Jogu7wGU]+*`D~/=!C.+GY)xp6Cc2y'd8ez+/Wj3,jK3BG,C6Z&#Uxno{)7RX|58b0_3mt6Dm8`D,n?KX;i35CvaTFQ5G;t$;4]t^ZB[.DT1#E4uj_EGa_]4s$CbJ=7^z//Z*e(;wI
v%#T!X6(G)nap9KU%mTx&||,]iE%vhAAjQt=1)tT>J+`/(;y7<^qR9+a>nFoY4Em:T'sq)6s_8c)BCaEu_~3d,kBp$Y?nG1l&wNrBN]#ETaKHS&Q`/cd16HJc;'e+0gwqD|JGlHtx$qNIWFC/M7c5U
H[(G:cDM0Zw>hwZw.S}=H3~AN.|tQ7>3`}apv[aB}U`L~GcBVNOQrgNDjy1Z;;3lBJ!H'UxB[?r.b('cftpzK)2fq$:s=!k!O<ytWBu1da~Kg=c[!_F#W~R$>$TT.]k$'sSdAH[Y.wwSDU7<Jt%x*o
yQZeL^MZ|h$Nd!1vj91[l<UtF7}DRS(B7DH*M_J,:|FE9/MJ)g`jWs0KrOO#&6k3Fs'ndO|7qbS&}&^!9KkbV2jr;[(tqO78Uy6&]04u{R~W?jMIP#I8N]l9ZPfE8?p[v<Oz'?r5C)w&zgKF{;zl;T
45>nD'PPQVQ,gFHQdOeXI.ogy`#ZO+F#t)hSDqf#i)?mMKA<C|H1F2eU<yA/,lwZFs8rmlzr$?vF*<lKn~nlXdx|L#lPgwtWF5$}!~r!EN1YEi`ic=6`~P?4b!]>ULow$2+!%]{KuxX^Mv1IA}Q+VD
Jc?%*j^LFlJp!q1y&IVUe]1.}H_fW0Vg9Cz/JSMeP|IJ4#$:K+(YO7th`M0y+6$s^1`E+<u{mM.GLy!vFGTkG,`jXQC9C)m%gHzJ*k1p'qYW)80XuyR>.)_E2Yq;C6n's(^k90l!yndT,k~jIBjP%g
R6gz9^Pqw1z&p^p4+Hp3%NCt7vcya)_!mel5NP2f_z1O1uD0~^asatW1C^g*n;Pp=j0fK_L9%C<&rk]+#wEg]i98,k~Z?ecSxd<!smj{Z=_<$k=Q`g<pcch!sOo2Y,Vzi_gk6u$R^'N>/o>j>seZZ_
|$G)p1(WygyO|#Y.04w^{x#V)Gpw}}=t!>l|=,{tm;<)Runo&Ml8;X:h0kvY_zi[CP+>]GSIr}}0%MInmIqtI!<tRzl}z59?E#:xyj;NP*DB1O^G5tHi_k!*f}a^[>b;ET=DA1gX3*4s]&BG1SBJxD
uAuC/2w=SPZ[sEmYJgpb%J,4Vs3xxXrk$98lnL6ibpW:p`:9jUZ*xxu'jh9stl>^?h{rgQPuJ^fsoKNlN;qT!=_bOiFr+B}xK/JP?5{lAeL=Y7)kCb{q(U{!P/_MW|2h%bsb'7%7$X2{Gad;vmBlR.
&tvYt{wssQLapd>[X)vs#pJ_~>{3<JnO411/Rw(f`0<qa*Zb3b%C':ZAp5}X'Lbx#g7_OMZw#`em]?uCXmJ}J+K4Nk]Ofj'pCoY)9EwaYP4rLS#0n6uV}%PMmO[Kq`QzquI2.alIrgMBf9I;f<*=g>
mPz+R&R/[ry(7TA:=w2D},<H;f3'.JAmvtYn3A6!0tf?g%=s'jzpoN01dSCN7]<i&[NBc%0eeW6VC,{h+'L}1:Chu`a_adwS5=Uta|liQ[CwOKdLBQ{p.)+rr{35Y/m*Pn.b|ymcP`T;5jqWs)Z2L`
},e2<7p;|6MsnjuMNN*r_OEQ%q3],oh2O}tOxjg%S=5fs,>~b$][rOMv'}Cd[N33.dhH_'I`=>EZ`AI}%zMgg#}L]CotR&{)Z^uQH;.9xL9EleR/Q0Fs4]Uivn>rn/}Xh=!W[c_Wy4s`/|3`s{!,0`
ISmj=$1FlBX3]9^QM4R^i!{j|$oGsY5Le{]3G&ytmcspqoBkG/kzfKyA?6+1wJ|tYKc_0KqmLJC_&NDjIj&i3.7{o8um*X?'lK%kr^bi<rTse58%Cqtu[TwoIEV!kOmgDo(3Fko&Cb9Ry$}xmRH1*Y
7px_y,DxG>wdOsdR7X`BtdtdgPa?pY<*(]]742/+*Od{8+o,:Pzqdp3dk(&N1hvSja4vfj&.J|SByeC0ai4Xq&oT1MZqe(+Tu1x*08KdJkycdC.(|jXYt1dbk)JTM#0s5dkszI38'HD(%{bdu)/dfe
(KH)srRWnqVZVS$p/$;#[2xdDQf%{Wh>#O]UAO<Iprx}8[k!Il+I|{L#+oz5p1!gAETo&vAFOC!M!<#13%PuU$d6(WewTl1>O5Nrqt)6_n!X_#?V'g'$_n;?AMCm`MqkY3%Q^9/_l;,v]T#X65bDq.
KPE[N+`Bw*!i>.lSPZNA+FT<F;XAP|EQ}6n]rsTDOa[]uS#YeUmnPxcbr.9gQzl.zC+A|<zh#{jGxbpU)7G0v(8{^;4qBT`4Cs?P5;MhO+X51j=6jrU,2h2K0&m_=|1j?l9ZG,?zs}i3{q+01oZcNK
Mqh)+zARJF0'ci*Ev0|8%G%K2(oM2ms;|jYGjy6FcNPJ|no?_%CwfSA}~4zDak/{o7zp$M;{vaiLf5P9!=BxSWtQy'Ps9K&Bl9M2jrO;Vo$q+]^kE}$sB_+W_;mf&Vl1xp*g;M^gSJD#37{2idqi;o
=P6&%GYX%`9crH/iCzB9G3DLfF2V^~{QFAHzlFP&L4P/N;5riE{6#Y(STW,!+UyFHj;]+|tivs)$.k2d}x#Z'[Ws~rt$RLj'N%?'r?c5m+^rP4i/n^{x_P`0O0:n)%Ml8I]gOlw/CE$0.V#sflV*3s
GetzlIlVX#XsB+$oN(%`32GBS$urf.?BtD,lgZ7lW7|t(UWII#T^73:D]aY5q[:!vxK)qc2t|6Yxc~)+[?[lK}DOc`b+FhV4vlBIcClI3e[w5A+8S20&n9o_Wm#)Rr01>UM#DoTd=`Pgf:.6*YP*X?
q!>N%s'QEHAlPmvn_UAv[Wq4|bD!+kKDxCeM't8R,J+~<4b%*wBHYo(Wzi*i&)d;7^lCgGuw{BoZsygzM=h5=;*obLM1$]#/8D.Ea4PX?et{}'Fko.:sOS,P5SPgU0FhH7dP+iddCPNNFFHZms)]G~
,^eMYSbt:YW./<bWN've8aS16aMVX4:2KDy|A%!vYwHKmb0*sgC51/bI$vhXV]g!W4TY(i1UXv(s&(>#0[?yr6tW;uCCaP7OR8!)s1!Xf0o7^hJsEwV5xbg2$+4LhRBa<:8&ve~uOC7.29(4=p,2l9
gN=%'u6^kYK4+*~Spur]<rJj%(3KnE%tpT20Qm9m#0$W[.8xw%{o7%0uCU!URu:G[;2~x=A0Zujt,r1~v<].h(?mCzdVu%X>~gJKS#PnKr)c,*9KV6BM;*|bO<4GiX4.ja4]0MEk]EOvImue6GG4mS
=BWY0]ij^*U|8D}8i1.byC<cy>u&iK&]ZX#ek;,>d(D&{|=^/(R*Zg,)z_5YO;^y2H/3Vg=by7F[nnV8D~:*}6QSW,430D46VbL=Fe~8>ckq!3'`Y(xF~>y6J:3eC'{cngToHI?dRFB#W;SZm`1)zk
m&;wX5QJ`REBSn3m6mFIrnj,7.8pb;B{*5gMf^v>Lta~D&Q>T.GxX;&4U^AqP#3Kw?KqIbWT2'8MCW5uWM:6jZnrHJpr}=,`gdPrzT'qb*D0.TU+Y9petn;3[D74,^kR9gS4^B%W>G]S'6JEm}WNCn
X]p5C^}T<G}er[DDM3EK*,d|b>.dX9pA%FZ'rm<<0c9E{U<D*q;5{KjBwUx$p&5Eiph(L3c!nx3~;A1mSB+]sMSr)MG~QIT}E<xg)6Ak{p0fl>iZ:WiTfg6iL)[dp8+h8k?Y%C2Cf1AS'j}6.iI$V/
r?&nZlIdl%b72|fb;?^^acxvXdGE/n0gV:eT7W3uNX(}<80W'gE2VG6eg1ksPKkD2,|*ALD`o~kB^~'LR+5ry/YN'a*o9,{Zb5i$f^]X*,C4HExyHdVSF#0SDydzAobgaN/5Dq2i7MLPc2'z#|ljSF
6rgc)`BOXQ~`HSJAdmmk/{u7xyq}xsVuFocWrBh+<#vM]t)ok*O~qraklze?Fs;6OP]FY=Rr?:&6r'p&ZWw>&z:z&4}~!LIt$222fJ`VewL'T/eEc#S}t9b%MKu~}fyK73b^_u0,7W~s_p$#l6%#di
+Xu%}ak$TpGL/Q`,b)X<o<wihgQ$2tqCN{puZt>??Tc{+8iASJ~rlx6#'UI%]io7>V}>GG?gR6j:3'HH_0_My;w_0CoE64=_5s<?%J!:2v*Yu7Ja5}b'*RTW&j%2>j'_92U&9P#p+6.)VkLn:]!;W,
NMhaBHj^'n;wJ5WgPxSiL~w(69U;]_lufv[Hm&5Rc>p!S!N*(,:t?)3eX%gq%$keK+$}E`iL=8hzCkQ63a4(LD>#CvMWlSRJS1Uyq.h7jwTr;swolP$[#8j?pqcj'#?^EjEnzom.*}9QKbB7b*PgXN
PmYbizj{wtGcs!n~R2dR)M(&LG]6FV]Jk7'i}rN/pdSjoGAe2eX:1<8oz_e=Javb297]'P5cF<a$<]{N/6*XNeb+|l*2ELphh,E*t:e~5{Z/7P}6`NCtC./Bi#GE/#?D?_fr{r]k:8wdtlG;G$'L4t
`*&^3BAzjWm6y8N(dkYoN.unxztP|n9$}M/.A[9Q^n;E{_`xy]V)kto[L?LOJYI:b`quaC8mSBion,&dVklJk4WtS5FgT>fsxQmiC_c8pE)=|,a'y*l%m2f(E}tv>Bbha+jRc#[(Q5mM:(Z5j1?JAD
`T|J*8tzuomO}izsOKD/<pHU!I!%{Ft'd;AlHf1.`s_onscJqS.1A}q5ADkzG0u:J99'/waMG&ssCQXCf&5=(3bgL4vFajkKb%m`s<.&n{[Zth[u2dLP~9VmqPJC9IQdSw;7RV|4iBE%g48KegRzaX
4Ny6x6;L{OfMfNxl8ISjvQ1|e}!')Q.5!5K{}LoDP8mncJXhoj!p[tOP64L_sXj_'5+:WpOo+ET~VXm=9s8D!,`e_wo?xi]<W7.b>RhA9^^t;Ai9rmrbyg{`gX<_4?ve'ce{JB%U_z}3%J6C(##2Jk
,4:<i*NeX9Y`|p&o+&c90)m<iChb#`UH:Wt*l`5z?z:2ziUm&<wM_Ev7}=2<LMp$|H8X/qiCRdCYh7d!t3n1%D~)XJ'SlNu;|JTAqKThpt`iKNLT~Z}q~{M/};WamTjwPS;04'lqR~<2CVq&Kol163
QD6yc~a,:pJ[UY/nX*H[^!Hl~!>h4]i.]D'}]Pt0(JZ?op?&x'C')?~TZO.!Qh9=x;SV[{J?[P/I2g1%/UTdiP#$wK1z>4:EWEp/eGf+1s<P.Xz3fXn(F}%Q9DLrh(!~^mMg#%So9jC'/rPiClSuyg
*M)eels]TQD,(kLl}=i$O3o&Umzkf[E'XY~o7,<_avj>;%#>X>4=i`M>mPmhNLdNR.GTL{sO/[7(;P(fNUCP3hm!RK6CJYh`G~n%#7Sn6MQ8P'V'yS8p8*m3x?/j>nT5N#4eI7:w2/ZB^w14jlO.^,
1vO2TQ'pWHGtLZ6scb?MHUcqBeP,aE]:R|6Gv=?(7pxN/le,z_K]'8G,n+gbpx?4WXs<j+,>b]Cuj<l/Qc+O2UP}cd|])RVl[9>i%F,v0vwO_d`Et42];6=Do0`7!nJ}YhY'uAT,{s+oB7g7>Xk81e
h!4h>2C[g`l!6<TTKg7KmoLRHPuN[_(C%cjql!tAHEEn1CsiXD}$2GIGhH=Pv;ua+w]<fdiPmHleI}3#1#w/}L|4e;B]3a{d)h4b<ESPo5,wK)&je+12H#=kf0ftBoI=j_PHhXVeOYs$K){/eL_!r[
pjc%GK`h3pB8&5luJl)]tJN$f0;Vi>(RrdnHq9|?4k=zk5%GM7$}*#*P!45]Lo?_v_erDKYk2R}?l>DrR]F{aAHrqtQ+xk1R5nA>RlFfqmVM`E2ytD3&3|dZ7Ou)Z0b);idZEtt_plx5F3~+[xx]2w
{9&zT`M3]E|?YyNn!M8a2rC/)5KZF,88Bb/s6hO<S^<3(2yKHZ}Wqx8M{&`,#.IX>VCTMz;5cd[rV$}+KLTan}!ar]wr2CIofU3Aa&~lA`CCAdU]MOsiH?PNx&E%+Q1+oWvZ}3=YrBv3j)FR0x)'WF
%(t5)Q&w*DG^*XPC>Gr_z+o&_!~l&t1O$ZVnuniv_el7PI0/x*we!*GSfTGBPG{Kywr1LyHz~|Hh>jigQo7+>Xe6I/9Nusm*%FK|KLaa0JhIh#=/O?zd_y^9W<*<QpG=*TcT;Z5}/Q#$v&nYPJ1ggG
8)tL)8!N_?gSqdVxN{|xx<1DD6^E9CyDp<sg8`MlHLYx]W{V&8N]zIy(RfO/zn/D:]e4.F3Ij.hYq`~m8=U6=kCF3/FHnYoR.mlA;6tZdQ`r+#Pz^.^OUcZ+/.44uO,k)cC7*{^0X19dN}WAW?b_>H
mype;u3JfZYOqM<&x}wuwlqd.0`jDN1~%?#Py^dSPgyEA4gq9vu>bF{p(H/|j2F'UiPMPVMBT:r}MpWDX{!#[7H}i3~'f!u^|xyyXfT~7Cjl>$.P?+2Ds&Mfmz.4O?]<(nXUR0bXnj_vUCt`jMfk'a
Z(U!OLYAXeY8SFGr>Q&1+Dy1XY0+a#4qqA5KRUfbZL>oRS^dEeR)[/]{,.c<3_feI[1[)v(E8(<g5UEk4AdKRa{Eb>`m,:$s0n8dv!i^37m$[)zEm4wPc#v|$c(NH.D/Y]VpE'1W:w'l?/40Nh>{T'
;>VQ^TJi#8#MCr#;V)Z(Nhe>nIhUOiS+2=MwB)6%:$Jw^^y!KwFC!f5_L;Ldu&32y{U1l,ptkDK.8|*Ny&72BEX0|q:/*3.x#zQWpg]C!:0LX7M>3cfdw(WQ}aW<1~V9eo?*yIju>U]!`D7P/8Qo*,
NyfR?_F^k~({Z7DvN!G,g`_{6J;bF^GJdIU)?a1%4|!~aqr'2*Me1H$2{uyieA)A!>Eu{.fTU5!kUYh,(!?W<iy{uIe?UrJkmY>0M<vC_j<57?oxwVX]YUGu6v2=E>&Sm[$ZE&GMOo4x>oTx|+g|ts
X|Alnw5v1NHrTs~LOLAHfod)yl3fDV+><P&0MU[LphEgZEWh/qrx.8$b.qPqvKiiYx?x{T?GQ?}YSl[Q;:p,v;k?>PW'tT`9l}E^N<.ea(],UGJnJRGG#bUQYD(KZ;z%y:txWDwR|{fM>O/YceOGkX
9:^;n}$H39dBRHB!}FI=(Q1.RL2inp/|u0]f4g']~(Cijh<a/hN9r}AzBn$Alk&?F2jIY?iCFX&6)m?LTJFPr?pOId~0=%D<]q%f0:7[PD?`'/r:IenCS!quW#j_<;V,G<SKK<CvY1c&7CxMJatu?H
F+NE,(dT(HH|F9yxu,>K)H&/bD&$y[1`gp0Oe<l'N?f6W!o)_Pi|sD]ZcZnP7_ek=)pK237{ky3)#om&C.iAd|yP4K;Vi~5fAtgUj*Lmg.{QH[.7H6E?=?<Vj=gukV`4GREVyhai'I2;t7V9XZiM*z
Y&Vbzk,jNc,Bx~DE)Zv5W?bW(OLV|nI|'6n?J,Y`/s%__Q#?Ps:EEQZ7tYE82g|/]q2)0Nj~!m}f2A2xl!f'`%x*OX4u}kyHek)jZ+:B3$}<A$qAMK1X$XBWq:Ao4dBhh[ppI7),NAl/~KW3EE`Q?8
q:[97('20x6w:m$^.`uEHuLtw5bS|rlU(PlMpKPI$Dp82`Z?Hy_Fz`cH^pC>^p0.;,^F_:m)=dN1[oR[1:G_&1WgOqpp<IXE}kMuqxv/8vbK?$[(zz(OvYfK;[Kg4Kb!OlT}Xkf~M_sN6p.tW'wDO0
Mbp_}u<>Kh9!/5QjMEt$1uRhMlzSovN$b_/i,hY{`t`LY.!'Y6ve.%zd0DgEdyOi0,Q^VkqNcV*^1zzHa`FUOSy4$y{PVF#3PcKj1fs'&*uWSyJ0Z;y94Znh^QFe59=QL7k1//dnWq!O_A;aiJ2%.l
.A[=WHg%07^8q,Vbf>RMT'BBS6#0Y*5{Z`CO(U%VH|h!0[YsG'Qg[kd#SirpM]0mJI~}{p&>iZa1bikc$nby`I_,_X<}uX~dNw&Zm>:It6$'U!~6jppK/3|wB/8By}pu?LCt_Q|+jW{]u:XongMxgi
:L~/#xaP;0bs(qo'Yt,?~WZ*HvTtnn,.I5;f98EoQCWNt%,=fc&5pLI#yA`aw%[a7xFofv1n02%aCC+Zr!+V&H4TK.ay).&n%Ln0};g][(Mm~~x~1[V5P(cSDYjJwW(BKOE_IaBZxdo6(;JYWPKR_s
%o08UKncpr[ek1Azy0Ly/r9uVf[j.L?4=;tY0B8<Ve&+`~8}SuchV4K6D9Hi&7&^VqCN[C/Pd$MFM/l4:vCDjn{^2RFz,H84Tq,h{brE(RkoIM%E4~E0v*|XByc9^+!a)3WZ7Q[H~Fl?{r3QRb:B/V
y/EBdppc83Be=xV]uc1o<|2HT`blC]N:t2i&+i'LnsDzI?s7/^sX'!#?3jWeXTpdfmMzv[$z0GW*vMTTHxzT&[wXZ/t4#vCOiW<Hr5[I61k~$P]ZMXM'B)aQ'j#=B'G>_jcL78EllRqe5dU}O(QrdC
`=;4Rc7TGG]sCwpDMmIcow:U'iv,YUTyoW6;gk_F'(FlnsT4cU=US{r/RwvKS0x}X0lWkRo_9b?uxy!<4;hZk9+UIW{Y[rHmJX6}2A?w'e'$<G*~HZa;]DD49HKRZYYN#Z#cT$vAGp(~>#2](:U&m}
U0[65~N+DwUHF=xcZ.05ps7ZDpQ~1k/2`w;h9U'v(TsuVp)KVinw?edWUa.*!/+8T9,b!83hKgL?sadzOWR413aUdWhPD*wtD.uOCfWQ,E$wi)V`n!Ikkm_]~=nbvb(pO9n$vLdr].rV2I<51WIPON
lQZh{$Oo4!/z_hC'dS+?wLu%}AqO%OX4;wr'qdhxT62t*h8l_8wI%nQtBrk5yz!oih~(/<n:}3htQ9~{VR:5$]9HPCJwwW30(xV.J<%Ao=O?g,#=ZQ>UCjXFTN*m:L#Y>Se{wI<FpR&N>B&.pqqGB7
&Pnoe'1DD,!N0M/?cI{^E)'$h&1#.}()+~5TtF_Sc|40.]~[E'qUyrD038oCAQh&5`iq[^>rCPR{Z);aslTcus8Nf<zNR7F;u+cu,`.?GP_3q!,CUntq&9IFLpIh;~~Zfac2)d},+J.8(gf/Apvn_T
&YyoBZr*O,gUoIN>_ie>}c,b0J5Spe>QH#MGkozTI;tB#HvR>}a[%Ut``jrG?WWkKaL_QV$[/(Sy7`{?$>l~igZF0xbA_CM#1~#bJ73%,I72Euc8ncCd({FRlH2.i6I9zax;nD(eC0<5&(~sVio%8y
]kZE/5T(c`2M_}=aqK`)i.xFV!A*dmDYm<s4:ieJZNH$G#mh&o+W*B[P&nHr88KzLMkiIYmpx|z%mnbr%/aVb{>q&H8r6tUW||N~AB34M;C^=}Cf?1+dxPZwgMZvhy~X&fC_P;#1>!S1XVG!Y{?K/H
U:b;y~!8dK0sZf]##L7$PplMfK3zoIruvr=Jfgu,C#{kQ3R)~^?9H?jKv(Js_(;[1+}tvTL+2K)TA2<.t>)Q:L%w9|yOcs|tm#*~a;}v}gcz1x&sPf,hYgu6YbH~z!hHE2TcH#Nz]A5*6X(3p&'.6k
Bb14[CRWJU>(9XX.6dE001{Bjh69,ZtTRg]mY8CI6xn8I(f];TsHrPB1d7X8~_)YnHVAGm^tI:N(0$y:#sTiT!vJlI<bcUAM'$%}#d+ELrvhJV*TZBDy)=eDxRX.B1X8|C,,KP{_ouW?!i^x^ePMoH
se04Da!9nO1mlTfWxmt9x9udfQuGsN~MUjwte(:XmUU;MjLp4yKN9g9;+IHYfUtM{py(;IP!Eka$jWiaX([:=<?uF4L$8~2[hx0+SC[ncUq!ObemKCvh;^Y}BNR5E,?`^4u?eTF(y:cg84jn`CC9;+
*^W&$FL(,:uA7G`TArZz4Mah!W9%eHW^d.6V6e!P]Zww#dF>:p#Ned>5}t^;ccmlv?SGUXQ?:YL9~+A}>%il)lVs;OLt_i8Rg.xh9?$g6`;gvL|eDt{d2)EWv8M.NKsrye*KrL>.qbSrcT}xuAiA3P
Jcn/=_}ZmH|VP&G/Y(C,jveFAof8Q2zTXL9B&5eY|!V/I]g{3i8&XDpD7*vtdkva,hd?[U$R*L%T5_<6dEAGTq.p'q.`K+ttWgwXavCc<WCq^u(Xx}D)OYhy'`}dTd+g#['>~]'Z`PP>I|d5/%}RZp
$MOI?(PD?}lc'?M0]P>&bC#.,8P0^cvi%It..IDY&_1ymJv1EYpKerqVa~T^^GaJx%+HVEpXm;/g&i}ZV(D)9hERXA#NVs`>hzdWDQkRppodp#_`Mt.XVr0]~ot|ibi'vD_>!onwLXJm,mMle3bhC$
,|>^t<}&u<7UX<]yPg9d;_1_RUj|E=}[`DeX_xR:bd^XnTACC_Z}bpCF.NOmRL^r&;bY:v(fpl~^]K+&Qf^<IzkD|,e4,s+s%OTf]eA<b~7!nT_a5GDPNOJUAu+2[`4UawAcnH1I>~Q%anU0hP[4nz
H9~qk,<CT0=`AK>M1+G*m~rRA}%qdy/KR%~n^Z~RG#^jsAGpLjFxLqkzw3[)hf9GgE]e)iM`oYoy:z|!r1i(2Wkpn6b)k8bZ'ETU`|T0NPH8(|+cO=8Ffr4|C(!]]isJv!.)1feT4.JZ6Lkl(&;oqk
%e&K>E>^C9Ma_F4Tug5=t8r<7HYB~UIG#D~~^C#jP$q__77TXRB[J4lsF)&[d)&5cDi/mO|kT`>SPbzk2P|j=h'?dX[:2:o)(;>d9C*#Q9Q{rX5({M'~,vO/)W8vtLE(!SIx=4Mz_e:GM#MvPRQH2.
oy4E9x2(!`_`]RReJ*gyr7tQ2ND2/%DNO6IxMV^y,*skC!m(68R)'+{,XvhO*0Xfdmx/v.Dz~VX,3Au*'8`(9eH;KD:$[g~wq6wGbuMPC~aD6>eHb.%d{G8~Ne[9ShxKsB(UPg7.O|5%2[}}T#YzS&
3(u_uQdWT'~]xSBhMwJZGor{ghX$Z`F!x:|RzF^kh!yw>C<n4FBTzdT#(rq5rN:{Hz]+V4Kk~R1*FhBC>3k#o!h4t9w>_)DE#*8|E+Li<sGi:q[7HfP[y`))~SG[LXhf}'pj*3mmD*/$AgnXR2/+%z
rrC><:8<H,5#ils:,51#)h;/)YF*ONV>!EM025t5VRZ`r.j|~!A9wmxSuUIOjHA''NcIWy+>NF8xks[fGZ*^rh6B75BH,.dhUb'[9<4nu`auuJ`|%!]F.|{S/>Ohdy7rEfTt8t/=,qpZ{r*Y=OxzlD
l>aCkDtLZjIuYXxJc=+vHlTi;eKV+HU_>3xj`gU8CjswzvW%*Uo7LChF.HGgS%5WfyMq8=}'kZ|27c!KdEEJ'GtB;`lSnC5`wxt!/.Kdy(^<~Myo)pDVO0!c/V/zkX{j}Aj2q3Bp1(%23v<hCX[njO
v$g{FVhK4>$1y%jKSrW<EL:3[5&f0.*&}6p(h/2zc}T<4w0pOtF`v%<qL/df)//)lf4av2!r()l>y?k_g%'z`_ht{>lLn9MzfwtA:ptiOCR]J%~mI;ndZJzQx8:pH<>py[{#82sB{l.XpVke95_c&#
79vIX>C.H05w%8).`$Ht]qJr{?X^6^B=3Va~lDwfEXwpPV!lnacPT'=lqU~3u^w^ir?g=p>4rVNp9*Hkz,S<yt%8)W;v(;fl4fOG3)KI(&V,H76``K;x+Ya`6dP.WuRY>M!r_Wk*#?DLIVDp_+KM7^
0/`p15iuZ>gO),}c$7(p+I<#|T;?Y[Db.l|}j810.y1XvYhX,df||[cQAZ?GlX{#3]=QuAf53P<7R%q:!_7|>C*e$$&$G=48,4twK{1MKj}F&?KPRIDccSpevadjw'3(uP:jgC&_+mjJu*t~<<gr]`
f%m8u09qIm4dnb/q,423822C__/hJS>73W?%gBtmQIX7KGXD~S`>Fy]513eDhJfhK~*DCuCi?=(lWGA%E4|l]Zi.1:9RSguUt(^0CRo44!}4pDux^'agl()eYM'KIq^GbVBZL#3uj2W::yb0Z<,PIE
Km|%MPaYAY9hCIbQOb<oR(CJV3P(v)tObDi3HNOm+JdB9D(+.>zeJ=!Tp]&b`dQoi;yn_V;(}%rxOHGkkSEok75dE#3K~SMz3(5(Dc)$)Nl%W~s]]cF,u`V&'0T7uUK5RV8rTU'Gd=^Urn[%D4+,u!
j2c`E2/DxXBcK|LopSSI;u%C/^oqN|$I$].zHU6wXxlV#wpWle^ZIW!^]wY||m6R*pKk98s,Z?kHQ_^hIgp9~~4K#|=_PT]$hDx1Pe32Lk_z/SK=1lM('7t4$6'$tebGULZZ;h%MVZ[UX(Pri:kFO0
qo.C%ZjkRxbj4B4]sA)4`:g)_5{/DK+iDV4*5sG4,!m,WWiqQ4P1qun5~i<e/9$m<kEw/]xvj!Lj}EWlbT`,^)[qDAwctZCeSQ_N:6vfGf,3UP*;3]b.[}S&BJ_|0CsS}JU<IN~)i!S:AB<eG8Hi~?
^63gcD;;{ssh?I>guV!uW8{o)kZ7y(=/,(7QIYC!=9C=7?>bhw:~W=[C3*H|yJT97lyRFVm'G[gO*w0XB(N7qjlS~N68Lj=lK3hmJcYtt~zKi5]lF'<5BqmZXE4*n*b3}b>KvR_,qAj1~ADT>Nk,2P
/Qv,}F7dd.C,)R_^e9)>9y(G7'f,mQk9eqIb'h/.PH)dXzQ8|HlPDL#aX19R%Rx$*3Ja&AwFRS4Cu$1e?;z(DR{}[Nu2WgN~+*l1`XMZm6APoHxjk~$~%r+WXRXPrpu``%[RZ`&q!},Tu^YS$:ubge
8}48lCp}t<[%grZI|G<)6w=_VTX*%]gY:T?4/~t)nCm*?M$%l0$NO{MzD)pG'b`f64Zo{=z}7tg`'8UE^VvtkXxrgw}ox61)ESHrHO%bq_]O5[<?o?*[w::/e'C'z3FMH$|464fo<W^/sBr;R_.sh.
CXC(S+A}<```z&?UILK>pb+^W],:!,5F^f>Drknnx=jM,]_8]l{E)Yyq*cfGgbgs)lY7y*2Q`Q&rGtb%.k.,$T67DE_jJp6uT$*ie>7g,v2J,G(8y1nW(`cJVMa#Z$_/[0}9QDE(hUyx]4g{Z?.[E`
JdS{pZCkz<svu`4e>qVFlf$;GJ&]yX7ZaJ%!8ZrLKTiOj)2ab]nC`AkP]gx;x8:W41iLG2_~r[7zfq3EYl^R'0~|^7Oi4GOarV!~gKk*Ja?ICi$>j/qF<m&N;l.K*J)^7*)uEGI&Y)'*cOn*mTtF/J
p?$%uyoW!aRG7cEL9~lWO<~P)XLnX(`(9%'wwNdZ3xph:TN>(p1J48,oD!^uH^+A1O]~x==DdKf.X~Z1w[!^ize't%N(rsB9hKZC[P^<8'IuR`M}IJ,Sv`G_IBui!`u(4?8{5MWd+OZ5'Ue_g/Xc>3
|Tc|5>]NfpDm3O|a^%L5yV1<_I*G&[E>.DJlX%kdj$+v:zGtoSj}{+M3gbRQf{3X.}rt8;mV'*+`!n^U<zGd7GhxhD9&.fes~*<R5M6Rr+`.X]M$^Gs`FXQ)TH?xDbiYf#F{nzxO}(L1V,l$X3`?`J
}%%P55K!jyJ'8Qu?GP+[*NY9CoaX`0TtE9gF#7AUgYVJ=VtQ||l1}JpcT5>CrSm_CRlOPovqF`n(*7<.>,zjDZxw~1'}4{tF73tI2O7IiZUkclQA:#%v.9w0PEgg4U_h4z[Z2(6^9xwd!Ls:cQgvl1
G;=UpVLjA#::>&QFW6b^8e<x]&L`v[tr[9y?/{qHI<}#[+],7Xm/eW9M[[>v2J]gUweg`^gX#TTSOmZ]?%?1['lZF*&vS`&?J]XL&85~uPqZ`<nOEH=r'&U]rGnO7)RF_UX04qx#|,l6|jHPRI%%Dn
]#5+$:Bn2ov9zs}I:b}2Zd?(USJQ8$<c;gVi27DDg%[VIF,V^oHpv`/:,]Q{#huoY?X?imlpoR<11^1nV<`$=wk_Ck|;X&(7I[pfE_j[7Fp6!lk=Ck~$QhH~1+YIWm?Nppzg(Ev[v{YE&8modJ_2D7
03TNlQX<L;v{FgKMYd33v/`L[nc?yrqE>$bA^)cMdd!#8M)j$_$.v%_&,Rmin}[S[2#7<4&f?6hiL)#<Gf]bu?]#]9G?LMqdVo^qvS>tyCaXV8EUO;M${?^h4QG{+~?4b^~[C4)la)Y$Nv9BN^_[gw
~a1{idSTp'9:,;YUc^yk,jMzyURI,+~,{z]mqMf1|>^'yS'r!x7Yq</eOa%0bedGqx=2~44jK_ht|~><:lwxh%q=VUXzTUy#$W~7'ljSv'x;DewQ'pO9hx6Og3i9KQDVhaBjz<x(5Q4th<E%PV2`eF
nteyOu?yGyVjysK/DC)*xJAzdVOng!fM?vsRz53TPWz#nzQlJmK1D#,5_>iW1dAo4K)P_+WHWxxD/,]d|IsB]1W}n;(E0/9I+,i~dYU:#YMEY$Q/S)'p5a?y7srO7QCWWA[;]o]{yjyKXAtjrZz$VG
,/!I%$6z%C[EQthp|ZHGP)_#28XQ3?l54E.C+:nA2z[4%J<SvdjwYw(1oLNqHt%nToa!;_'[>+L&tae[|?i!!CnG.L/<pzt/rC{sk/yx:NQ|Kv7QR1rzJcHRjnLy++nQ<GO}Xm.|24U`5DIj<JkG`Q
=D!WF~Q<Tj'nHH>Mb&e9!t55{[|L`h+*Sl9k,J9umm#!XZ(/?_/Tx5+tL{G><B|,beT5Iw/{%/~Ph.w%2yn_.mOFVQu/9=X}'uKjQ*J6HBzN>'|jj55p!?HL(j}qAq4jr2($j}M,CXEv9[7>Wbvxv7
}(9?V`NhseDp3Ki+VEVg'1iTw>s$/<L0t~yg]`x~kUI^KIg+x(HeE>ko[|[E(}9vKNArg_)Y^M~NKQw=lBQ?D>/(+t6DK)sxr'sZd;5J;vQ_B4.]K1IlnVzf!FBXKWb[Cw;9}XbVyHQG;]=5ed{yZM
5$HpHv}6xaomSGK=k.N3P!zn2DgpNZigStjXg5Vx{m)N`0XD(X[#+g33L1Pt>(9egM9^HqJ(9'X*Pe%wh,8eZ$$WM?v`Aqqt.l'4=?&b75hB]zlTJ);U,`Afal?WfuXmfC.z&UqHwCt~[Z/^ZR1TIN
mtybz[A|AwZ'3/vLo})].G6~3EP'f^k<LfN8+Rp[AvH8d)gna_Ro.{'<rn8{w}p>m~DCc.a~_aIBun>m|!:*^;x8<M<<0BLAS4Q`,0a|y0x&jgw'_VY:5,'rc*Jejefk^a7~XJam['H[;VO<jB$Lv_
|l:OzgjN65E&k7>_K=%$p)es4,S;HrcEd>MLC~|W4FZ{81O;bIAwRyW?6R_k]Quv0pZfo300GoF$[~=C,sY#vVueXp}(m%G>|dV4+o^dN*!%O'rPPoci26_**(X&/+)^);lN}~#G~HyOq]nBBG8FcP
TL%}PFH;apeqoBaXr=X}3ejD/:Z|;D}v?,4rqFg~bg_THY41&g$+{j5>Axivi!IoZGKr.nT_{E%&a$BpwFGrnv]rVrNl{];&v{M9DP=B^TNfB?R[)r5tl:KrgU}XBLW}jc)oGcuUVmWzc]=Zu'Rsam
XHzQ%:haYPnUEO^`,8#M|}hUrGR=cH15XQ%QcOy=~5gTAp9qqv%~|Xx8ulS>KXpDz.{7R#%<<)s8p.(qQr#BNt<:RcT+>'89hzN7elaRG48*<5usrlSx~1:1N>C_hJ_ZNp!?(fn7'^uSwXO#0_&+Zz
R_J}n,'(AG3vy|VV_!EHt$B:LdWcB.iokE8H.LXm$ztiJZAS;R80'NE?1bnV^PV;4)X7d<IAADD0|rKS_'*E'QM#s]gF2B%~~bShIpX)]/..E<=8/8Wh.Y$8|Wf9buQ=KZXNLmNuFD4fxgl~OOP}`K
3+7LlLz,*YDxexi!'H7T%jnD{i=`*1g*o];h++1J,lT8a0f,WB6.f#PtbC)c9JRPuSPgl7fFspHBaczDvd2r}M{%gNDeJamY<O(7]SG7rv_23]EZgS%B9]'l%[!9DiW68OaH,g8k'e!D_4/n)ihS!%
/O$pz3#|enSWFGLV,ln$ICwme%~o9+ikXP)y!^<vq5$0yPL8pL`r!>Ktaa[E$03_mofZ/o,}da!OI6R3R'V&iNH16+1hwcIg}Nk.Hygvcqjs[+NW=!GCt7}0t3YPi,T;,OU/piu/h?teY0O^E7[bzY
&$oD|C9J8Ssqa4m+^Jxe5J0O>sK)4h<G3x!;GXn5[M)8i>?l[XQP;MYx?V].jHxLsm=fL;rf4OLhW]Ut*6#LyhoO,SB)KO0>X*+.d)5J5X}Jr&SN<Re{L'aDimF.}m<HC9v3,zcnu1`rHyMz;1E=5=
_^7LurM8b=ig'Ee^>*4c^8E5+>dLn)`VQ>,wJ~A,s?~eei[y;o!K>7~5_!;>q9,:D(j,gmidi~1^5?ZZeR!&X`U3Rp64.[7V}2?~dlmAM{TDu+sIqyh.cr],Uh=vdP7O%.zuMk,!]CEO%q/qmK`Z'J
+MJ=V}GpNNrZLK<A_5{|wqYjM%cjZUm'NUsx7sgK#Qk0Vd4Tl=)i~!<9`/{N9(kCghcF$JO=(AX6x~Jipy[6%.xqqrSRw}<[|[bOu5;MZ]oo&!A3C#f`9SlCc&a0%}TI:goi)o1lot(b^v[fe>?Yj0
,?06p'jik>Mn(d[}2wW_trvF+U#uS6]_FPySPCG8%9jVNtxz!(;J3w~L(=OvzC]FK*:sEE+Q8b}p*cB[#9]Rj`1h8S'}r{<Qa%ak3Q`uNBN6)&1FttEYi,D,?DV~I2.w(tA0&$q|76{/Efot&J0:^[
vxgO;XZ66w[XugxDJ&90YE*MPOhLI^IR=0oapN0U2};TUs]5(#*Zq>6H(kjhhFbeHO{11S'1Z$#_j{.fktgZ+BDrKoH:jx]tkTsUj7pJ}/<sWt0H!hi|h/F,+Y_{id_;K=s!8`d$$asX?=OI,J,O=c
<[xO`$EmZ:=>#*TF&}w=1zY2JCk%?vnQ3X6h(ms<mn+0>qXg&|n/`9A`*v2448V|x9dm5H/$gJSZaX!xZCGclaB&,)=^$g|NJVGKd6jgZjm:W.{2q^E<WWAwEItffu{rsVv8H#NhhC12,e^}#870v,
<w8m^o=/0dYK4FcoeHa]i5#|/scaq[DC8zV+#4`Zs>~PBq`2hr.[0k]wbXg}SE1k&&5h{R&'B1k`>,6ap$J=rKznE=(YA*c_]$)Z?9dCUbCw;77C]954A]WzeHa{?1/jS#0IBB6foYQO~sd8NRBu~n
,tUuQuV#HL,8rwrmb}0n`k;kZGf7v,!zO<AdCYaziI11($_7,H3T2v0d=p8B~N|2)%thIOWz3<t']iXFMu.eRkFKZ!vVKDHwi7gg_abC.>6dK('fAJA4gBX|AX{{QE'2Ms]j,p?Nw'^42Whk(gnJf7
^Y%3H4fkbhjdVn7ui6n2Q#0hDEojv&,15X^]]JeWcl/]4=3Gghi(fNu0{9Yzi3JyHHqIb=ElM5At*#0.Jy%?0RfaUPQK'H1;MZJPg2sWv,~ZEqV6SH)U{vve79o8{;1lDhDNC[3;W=twUf=kFJ=[_p
{Wm1%ED1BI,vV_TkO6PhTwKFHTsh>>;.Y8$QstIkK'/XNx>W8Vfl)rJ5/+`jm.rX#YM8(Y~Ei|w,*2>l%KjtakHORu=I|u!&|'!&`9rJ8bor4;9B]7RF+uX?4h=g'Q1B#s80,#:wmK,PI+elLS0/iQ
BQ*.}h12b&s*oHMC^Qnq9_y0/_R%W*u><lRTF{}GOoWudrvrr|$R<>Xr=wN'20`mJ}>Zd:J}we*Ubb]u*mQS(tghX;u[Tl!:n<_D&08M/3<_pTuT[IGodb`_}Qu0HF*r>vbLEK~u+q}Jr!4TieV6}'
w![7rp:QI)NR0_oPPS:d^K>Dwzk$pWmvBK{t?5?8Nb*C9$'UjIw+86onVRr}a?Ein%}/)PdM^V]<xLUy1/+t]AZm;NCxc/N69?`^I:YPTzIyBLhANo4&};.#p|#Qu?Fib(x,R,EzQThR}c$4{<z+&y
iitaBpw2&WU;VZ}G4LS59(B&v<Q4QnIycezn$>hW!fI*R/*.82FxP$>}6%q^y!{N?<6*f.Xw#hw8eMC>?DjW`2_Ua?Rvw)'!w~6HNDW1~Ig{7T(Yj%ibSlLgsmU&[C2AOL0IgQlEQVU#B^%SqwOy6D
Ok)Qyj6bc2!NXm7=Futx'*HRtE=,H7g^qj~W6;oSUo+<<BIWJqq?62Z^Hbc})$jt6A7i^#V1AWj4?S^=[/f{HQj?<{+slADD+z,Oa={{_!64VX%`cKaJDf+)[*,/tni2Tm|+dt3Iq/OZ<~mVFe%R6q
PDp)Pepw>_:d'i}$rTpC&#EoVVt2`7g4!9WWzgsP9~foS2'p*?|>1so5IRQ*g5?Y#::I<R//H{N.SSKU(aP/$A)Q'y&_1BslI+VM>#BCbU9RF(p]wWcd*McKa].:91y>rh]~w>=f9h+B0=Of&MRrf1
H{`#)^,Alvtmuqy>zSBQrJw~!Eqi/e<gI$q:5L9B~c4AnfSmWi''|S8h7Pp?qlAEc$><j?G]vJMHmR{WhEeW`6,nc~P<tK5_?E{/Mu);4`ThwE&>/T7V<8?M1I_9_.y9O%/Wwz9vg2~$p4^F$v(o]w
=T5CTv1u<J;BI$^BOW*[=r=RuEpP?seK#FEP7=[fP|WY:0V*^`6#=kS,nlcz73v}s:;Ifj6k7W_HkCMq:3nd5H3R>a^OM'SznqO:]TJ$!FU.IQaRtY?MV,Y;DYi%;wj9?hlJ3|B7Geg}qA3yf07(P!
mR;XYz9/*[jee?d`Dm'fHtpQVPsdwF&+o+3*AtCJ6o5WV+v`v2aiyH~.axfk|VMV[>)08K=43[`v^V_*Z8h;T9)=3NKdQ89|cp1nS_6sgA>jXnd3';V>o<!X%o9rcJOFX;]xxmY{f9?>_qb1E?)TT~
|ju]eNCAu9S*y)aKF+&(xA17?Z8cZdLXTm%H)0^+i;ha&*(>7dCKzg3SOEvX0z;61(h%o<W2sc,yOT2F%9~:w%G+R`##SqxdI,{u#!/9z/Ipy&?N{j2~Kuq)n*lnu9;]Bc8^L8x,j2~gkua_b*ejUg
ejL0Jio7bK1.2CT6p_V'4`JG7XY~<Nv2^)zf3nAm[(g,b0GJ{#qIw#G/5MiY7}z3kOK!S64<=8U}7)5NX,$*Sz}pU.6f(H5!yve!jxi*||EvG>tPCMDNJJLH2s_]ZtHdj]}.)z~tUFh%IHObJ#5Vr!
D[IrSz|.uB_14f*0Q+c8y]Illq1{[Az}v1Ibx4$~%VHPoB=|gI07])lM)XjqdoJBIV85]C:91fMg*K`GrVpgiiii`fi1]X<fOS:mmVpW5+Dl*JF)[2.~kw4VwNY*M&L^)16J:#cQ_4DlL*W>f3)}!o
e1.Y<*;l^(CB]_p,Zgbakog*]#h/Fg74SP3&^%^MI+?C95Bm=|2;w<W57|/JAMT%(5znbO*TGk[)mMM_CutQdwAL~HuRq!$u|WNHmjr's.PslVC4:J{fWA667hvQ,L2Z+ge5ya}sK0>AAd]gI<'G41
_$?1']wC6;/1E&5?~1pkm5X/JrS7zxq[+OT^fGWr$0;i(x5~B<9VFBWF8?a)^;X>5&0eM:G{;zy^sBnhLqcvJ:jv6?9UP,!A1;'X=y`:tr[{1kEMLaQ?n;vor]:h*F_+JL,pIX0bo1YAVu=;nNpQNz
BLB'1OG[UDTIzY=#bD(q(X<DoHBB`;Mkqe3N'ACSPy;4I&B]EAmb'60OHfQXdOy=q;lh6`>v$HO%0G`ICgW<85mXt,{BK$N&=hc.*{WNK~s|qZ&uoX+m+GqwS6OZC;_YchGsFni|c/C80.<zzn`'n;
~WOIa?+(52]YRlt`{(G8l'd4uLU4fn&<D'_8Rt{[A1Dy9+D4HJD76LE8MtnUQ9&8hDW'&tSWb!lBR?C63yZr{s+F!sc[M8TSbvxXRb#k#c4045Vq3>x#''$;;L|Y6zFkfy9hN/m;czQa'AdBE/zt41
U*'6:NVM.lW?{yVAt.K:v|xr5)%z2Cg6p^jIHW(I41&i8lI7,FY!jm^UD&Q+YQVXDLEyX^.DhEMxQ876Ff+u8;vz}p<}q|6q~#Dj2pUvYbS?.$lq$S7jD`VWOD8a)%_LV9o#!)_~iL,W3LakDjA]rV
!TRO<NQb1hp1Hn+*DZeV);[X>5G9juOD]vQCcd^rT(B4,*Odzm*|F0Yk5ga$_t$#U6y3rbL~YUu:Z6'HQu!D~Hauf6.?cfTq9{QvcAjM',B(90&%Ny$hl,2zA<Tw8R{(?le^;ao'4{QNT*#KDt'r^#
I=Om$VWZgkPo~_olk9)WMRg:`n`:Q]ry]v_pmZi/Y)}Uee}LZAjM)d!JmKWIwzq:P*+]:i3.(kO9z#Ii#R9RSmwb_bmlgx:V&[2KPvz^A>^s{MyV^s9rfXh{_d$dr>}jl2B8xs=hlE:QAD^bYL'Cvx
};X2E%u>0QM4#k>IFXi^sjEkhg[;&Iy!|=O>Y%J|l/.mX6ect9&OK)2u39k{5Ju{5_qpK3ilXo/9z1k/6bwk9&_1o|^cw~VvVr~({,PXjT!qNTk2~0!`Lvtb1BIN48SkO/?G}ZS2$Iq8|4#V4w7;Pu
R[5kKmI_Q5lYlwx1Y=2*/Q&F*;B!FlEILE#{aqepJ2VTUhV]T,E{^W&tM~h(ztfu1~q=({{V.0}KkxF[Q6W/{Opo>:<]a(ovD35<bOIxUN=#.om'7ZAIj=X_C*z}'>.W=!*2,>&?;Z%#Q}1s0Tr>Fh
f1rGI^r?6m!'no/1EXJ(fU8I%8,}S4K,XBx9]|G4EzXiao*4j*.{32~w?o2M'j]R%(}x/G$&IcfcOIdf0Mtd]Pye^9gH+XHLvJ:[YYs&8E}~l%W0zEMEC?%bUDBc0hdQdA5K(y]R>43eF[GuXe5/Fk
NT'NBrXhz&r:b|dN3F8of?&^lB,%Cdb{Y+bO5zfW{SBE.iD4ZzP%oIYh0GTE]bu1Uw7}of#xk%J|<n22`VFBAdC8GrwIB7HwIGtOa~p]6UFd/o6%3Gnn?.RL,?G~%Q22Ju8)b?H#/Iv.azqNhm''TN
i$$0L,^g5EgI_cpa8?C?1>eme`ob5Bsi1<4}k1UEkypOutF'a?k3F5y|M%'mzBj:=3^i{.f*D+.P{s|cm5VC'l,nF>Y7IBa{TwZ(QViDPTg!3gE%9gDQp;.LWWn8VG2>PQGz=,%lKz1D/)EUBN;SIf
B.;b[oS2k]/'myBz#c'tWYG/ih9B!ub;$R+0}XU&VE9QB?wlb[)'B&dU?_.e15C+R'%jUDaJR)II<vY1<h=),gRDexkW%i'o+)H7!pe`eEru$XFjwNud18{;Y$RkLj7cZwE5pNsVKy+wNixW8dPRbY
[5Mbj7NG^b~WAHz6dzRO*~[Az+{uf'klx?c+#wDj^0XpgI^m%'.Yyh6!IMPX8:$sb!VlBTZ;X)sLuub[Td{!Jy^N#I'o_V(~1C~#pWa~s7]y/=v0GZ;xmSy~1!Pi9(1JRDkaLo4_#+f?WELUACcsj~
4T<!lHjyz_CDCdJjDsD'.d:~5190<}5'N,EE,3Q80|uSM,((|myF'F^}U/w([V_;<3=sUggP'#%Fa/[3<n;#I:#(G*d_%m47k%IWJ2'n[nqx<fpj.yk9a:Aj7Xf6=&L<v#:]i)#=y|(;CQ!.oWV)%Q
T,m&70m6}CLfqJ8>N6matn(%:}z?u4YC?K]!q6s+s(w!%vd<2J[Uq_~Id_qVL/4PeOW!?NKiG.(mBl[!hoKyz>`hGOkSzu:t,iqFmJs|F''ZMlFE!tlc^,dcyHy[4D[Ty,GY.grmUzV[5GKZ`~C0)N
O8ELyk[gQ{RsU2/9:s>|CM~y{t_^Sk&Am:,zAx:]7FMYZflXTB?t.Y/sT<C1~h|iu}>[X[5[{S=[aI>U6,f6jF.]i$ao&+QG>38d#sCS3#$ixNSSFq1n>Lt!M;+SLw6yh^hB#rI[$OA^xh[*v'>qC{
tD3wbgvF?,37QqD7|HUbhBp~>}gU_!t;,|94C2Oqb9mR:sE<eeKd`EbGMR9U3bilHA=_6QeqFHMBs~)!r1F$8A)z9z^H=ltp#Dl9sLK>yW=702i8Z71q,LD.2',|qSY9HC9`FQ^]}61AgAZL<6ov>i
4K|Pyk(&q6ReaDcE%qr{vS[xsd{V|FPSz]riZ$]'Q$Jx!ODoAYQ=dM]M3,|ctWiGyg4jpt[I/J,Ei*;]7.x&&(Z=>N}AT&H>~yPZ2P3l'K2gNVd6:.47#nIMkvZn8I='ZZd=sptH&]QdpZavLXu7>m
Z%ac?SLo>WaE[vClX>&m2tz&rxkuPwMb6o<V$NHPdhibwJSkNo6]aHRqXEI+WWgl/c%cqa]IJLDO)~~Sffc=SoU|=nbT(N~glqX0BN6T|^dAU()~;sExaN;Mo{4'!U}S{pokCR`ID>R$YUH|r`1z,O
/3#)ooBXrq~lg]NawZN*Jurke!3cw&=*0(*Z,}/Tlpa5tmxTJw:>W4bz$`MfF8^iH..(OE1XPd=gEKSQ)pr#AL>%M_yu'>08nsy'd{JCeS_gJSd#/rm{^n*l4N5k9lf$wSG+dZI;<)hc);N~eXBBp/
4N|j3j[&!s[NC2yi)dR/Os=GA^G$?;ANoHXF_bKgqVo.!Dxd/4S>0HOz;`.!X{Wb,wQcF^Px[sMf[2H~HQY}aU6j{JEZnd[P.H3]GK$BKZhBhGL7!FgEnQKRpVHQ6yh(|N_tC6w(xF23sl[f+6X<f)
j}0?5z}#RY86>k2vm?bE[l=&7zN63{JagBz6{EL[j+)I/{#Cv00)0_ERW{0nkZn3[5q.#z))2<~[L(/5E3a*3^1JB/Qn/E'R],/fR{$yyVI>2r|K.#8iY`#_)J5FYgWz2_~<v5g88xZ<p[*E3s8'jD
Mko}B>o$pWgv3Scq%[FB$+C(,pp8x1kK]iGoaV(kAZ#VX0+fZ1}U!EAjz=TA1sn_XFq[+3w<KsOgwRzFAxg4l{t+dz.tU!|X=far7KCmv1sVF%]O>|8Opb3w`CX|<$7C`L):rL1/R>w$4LB[y~=}$y
]BGoOOPx?zR>J^'%L9s#74V_I`]1rt7%j_hUu'iv*j_vF_tr_+$Lo_<D%)+n/G7hX5,w^*n[k:(u/a8La%<Y7)Z6k,d?5S_`ICt~DGz6p,%K32g]0G+;{H4rn&NZn4<5kl$RL{r#+0])GS5nw+T,bt
NZykgTu{4hoy`B/4E1lH7{p1tNz?EBZe._oe^(EgUx~Pc,/d*<}}<P}nd?_VzOq^j;K>i~<&m:{.2uQJ~rO]xzaPM~Pf]&|QqzuY7EJhOUB[1xMnSPh/},^E&Ac:YV<0Za4fMh8]A|=/tIw`{s>m^)
;`m|/TkFt47ivP>^_rQT?<M?XuKTyb0<Vjv}NL*4~'EtV7R!&(}uAZv`!QcvL/|paVeg79!>sj=OolyMK8u<EOVFE{=zDI&y%z7?W[.ueAvtWMp!gm7BVZ1p85=d]^$3JGX_:'9=;xOv$a*e4/XN]`
7MBU:g|oy(g9L>r+nX{=U(z5nN+{EnM%ee)klCY2bb&V!bldCu^cpg[,kk,*ANm|/>m!Oy1oe5HH{M;o2ga>t{`m'>'/Q;VyWLF8:QqJ8}?g_wfc<wYN[r2L`a%mpLx7w`?akM#^P]P~Q5|lL0m79'
tS2v|;0m#!_pnjTns=PTy^Jr.D#U}|>yyExTEdf+2zeUATWpp>W.hM9<kkDEeqqo,Ds!]3g&D7c*&F5N)w9.)pa:7EVBfYR8[J<2q9$jop'dZ$v?zTj5peK?V?4i${W!x[i*NJv3MtG[h=nRnSEdRA
dCVz#9F??k1Vm+<K1*>>W|_yBgQstTDpd1Z9BjYWn9rxl0*C6gRxii*YbxN_s:~~GM#?z&K*TxArwGBK_]{II(3q]8%2>xuCToAasv3!>6/zHB_}|5:?pbnlpVb3Ut%m*_y7]CQ>ONx]IX+?Xk%)0<
HKbq'%M`SD<~W~Ra<FL>PJ)l[/VW:CrlDl_!mXtutk7GWK>D7ApG6L)xnucvVB]q,1h^kcl<^m_KgJTDx6jUhuKG6Lwx78.XxA7/VLJV9CBYTlmHyHr+*d6?tG)|&vTd{BjHX``'9tIgc>U/e=FUz8
r>yc)|&Cp#CGYMmXM9wAC_]oeMx=3lMur1'Nxc)FEjOp0#Li;Y~0kcX0)_]/Nzw_f!f[J>F{c7fxDVg*?1<lNe}tS1*u^9OS*K].WhwS><Lv1)}ULCb$uUj6EFg/K*0WXLbVSDa^oL%F62S{]C7}Vy
#nb'E|O_}>>g=Ab258*{_GjA5E!]Fz'eGuoc!pcywi(G$QkqLD0f81<]38wVFq/p<`$4NL_5p]RU1QjyS'xWsi[Xv0,_9(pFSDeSx*Q<T3XrtMIDpxC|HZ73Dtd~|O,M>AY6?.)E6L|n,9%erG`mKu
`|~YE9~4<h[IF%9dBELs*+;Ha$*#ro]FC89B7'.]NLVSLT%f,WIq7|a}N>[&I%fK,owg2&O&d+'>SRy02.xDp+c?sE;xNeKT4jyPAk:TjOyRWO#}Y5hwqBd(&(2vI:7PwkDJ09;llJx8dd)sCo]U4C
iGd^*2=veKugi.prnju/K!NT,UB8`Zg^x,t6G!E{OEIK:D7+!0c4)v0`a7Q&X]T3joPMW<yjB]df1K<<_ywRh.k{BROkSo>s2#/KgbBpg98k;(/+6;:U;dA9:|m5yxMDX4:$H`O{j5Io8x'v|)V&vO
LOnc4=Vym0~oz&zm?pmFn^LC[sffZ]K^1OC3!]`,gL<n}TK5`Co:![4:[+}.rF}Cq:#T$1b#7;X[c!FbIpg0ECD383BKh):o9x<~l($L/OqXT0}&ZB=UC:T9^A:?Pe5CXm%|uf6F`^gT!<CyDmZH&1
kxV|l}p}k2(7:Y6fmyWkY4MqrjQ;w=|:l(ow1qLg5n>XD<CE_)1<%$lU!lf^7I>U<uqzx}C~iD[2r8IrMB=gDE!Q}dX5^[tc?RmF7,yBK1W=c,`V:TOI5V{Z1H7/oC]Vr#'9$A5lqQGL:^skdv~&8Z
aykP*ssli5TEVqw+Ua0W%o12|X!zW'd1lKQS'eh1sQHAv%IHt*dvPTg;ttX'e(%6KX.WJNmnZ17CLaCs_]Zk}v9W6$.+/}GL{<_(!7<8`3IZY^N_k've?R7q`K7>l~4GIwF[pt?:pZbR&?aHfa+G~a
wg~sT+x|0`!ME}QHL^>_`b=C1>MEtFXFk?G*ngRs3=])'j)nb!E|;`|8[rXvZa#W%&P]?$tmB*wU`=^Z{K's;9f3p0L}(Z[X,TR+P$lFo]|5Q.yt6C`j/wz'}9B2B($A;b|gG:=#9Coeb`fIe[W&F5
~5u)G<J2}i>1FOT6}%todDc_mLu~qA?uT<`~S6W3*gtPd/|b3%7cM>%*v6?lM$'UU(j6DPk9,u6CjdF)nS'|psMu:.3f:.G13dXW,NXlYoRuIzXz$OPC8?dTx5#y+F0<a9u{ey[%lh]3Ga_q;y?wGn
_Qj5h5|QZhK9e!Pvss(]:$3lnEh_(6$NAt,D:f[nm*Ect`[ZN=g70%*t7g_5r*qu:Dzhk.^NR+USnSrXT)M=0VGE^cF?/x&PVb+V+_N}=Da$hqkhC6&L_h&o&)hw:T=yojbS9G<9Z<u[(6AZ'}F.TT
i]&3;~aOYcnPW)u8:#D:L+bkvxi`BZ/jd2U90g9['/wqEbSY(Sp[!3%ZS{EcCdoqP{E82eMnauB1ae?hz]Jh6]c{B;T;I%)soRu9i.B[)EsBxDs:=1qqIPrO/9Rj(c{e,(bM2CZy.:?KCH.ZmJ~.>h
^[O+ABn,3WNQzcX#4!TVW`[NGfy.4wt}eEz]A&IpV;4Q*^t2y+*0UMFy:6L(jzN%wH?)nmvDC9?8aH'q)I+UBUE|,}4yh;){P{GQO%>.hW>_P16^c+|<EsjqtMQbE7YG`]OfZA}rh))vU'TKj*N4*s
JVBxqDChqYr8ax(l(#v{,=^Mqcj5]j?V4+++Ewr2sE{CkKL9nx/r%7GCNW29TK9erp,(m<3[:e;qGgJFNl^mYq&NdZU_0Rw_.tr(eyU3,U?6'U,!C1398,CFcF%)hn5<]2CixB=UTS*sY?V>m`7H0*
iK)!s)J_q+x?]$POE6a3(CL'H^ywiC(di1]DI:7rD|xCv9^#90^%WkLo(RtU8mO~g/~i(?Lbr1{v6Bytf=s0N(fD}lsI]u6O>rHjoCiR?gvLGMc^=Yjxp$K7rsBw&E>}'DZ++(BOh:EX4=:^FnewV>
+p`9~3GDYN+JS<v3^Ru#Dw^m+hgZm~Yr/yYH}h?EP$|&y?m6Z3mu,|JYKuHf'SJ_0,T{XgV;zE~/F'$ST+</#zJkjv9kGNtAb^mo3PH:z;:SL^&^D|&Dw#$HA0TUTLY+KV*;.6CzLfS^S[HB'BPB#1
^[xZ/4fbnuLJ>02$49D<XTSN!/2xh~ONwa]n3<1ZQ!4mK*Gfx3Se?oH|E5GBreS:vs0UnPN^;aj_2Me`.4>U9DTMm+j<wq.jdzm;)?%wm}u)yUAe.5r0C%kG2n{R}Oo58x>7]7/t[(_'~%?|i6b0d+
#OD/g^yK2z2+)4jrD&Uzy7`LKI[~Iwjo:6ha*]m+iRZbD6sqHt,8G(.sDq8[=6oT}K/$}4R`~jDln26QC,O8,v0s_n%~M7GvPFw1.R$ocmnM!E!=|u/M&+hLLOJ+vnWE=yPLKd~o(.wGFpGAbx|JK?
Yf&]{sbFaXt(QUj*.i8'F8x},Kq!pzOh*C7)`I|&JZ/k^4X.`DYx.!03uO*PV]5oY?ES8Ber6oTFFBf0vFC<=alIshiqmQ*b$A;[jwwAH%dG({U8/3NHN95y[;M8#Rudmpr=}G())%ct0Rf.Y#[eX0
vZx=p#&T`B7qnlM8[FHd_mC(=DQg_=G4|ybo`9`9mXyXtF2,JMzm?bV!_11*uP6rZlKN)O7~%4ZFK>~7t5`I4n*gq&>HDCGK=LO|J?V4CS/'Bvr0pS>wW&29wCT(Ya'EZLVJFo7S^n.L%j*rHD{1z?
AxCbq^L3DmA2TLQ%|6{g3w`^;3=j[]rQCFff!n.f'nU3SzA*^u)1cD}aXVdtY'J&xVsZ`yQei'kIO=<Ji'*;k:hi([xKxb*HDOc;fn~Gm6}qG5{j6nfq%DANc^Bw3MW5<S[Li~MnRKQDVxIiYKbOHP
Y7,[[TL3G#lBxX~UJ|phL$jbeRZ8dI^X.R'Ue8FxF?wLFjWlcP:+SE5mh+mgL2XSSSED<&Q)X&c$1,v7`X9QMHs9y*t56j3,Q]YH|FKh+rp_A%iBH+&^H!s8t(`Kru1,Eq1cP|Fnl)97>t4HkHP>iy
+k=vk^z}mI$)<U.oB]Dy[f0*6Tsie`!#F)%rqs4sb~d.K17on$h+T/!{&~WTkNJvS)JaZ/M_yK'8pmaYj+jKyToM?.al4Tjkp%[7!W{ZFIxdDt;1&{Z4P}c(O`5XB]_H5%^8>!N&bT($h`W8F/K[R;
,8tXf~UX?F%|q!;3tE8s;/u*5aC5OBbK:`;KU'v/5{qkE!uv2MrEV]ybT#G!}kzT{Hd>[#,m#ecGvQH}jT`.w~L}KO$emBwRya+889]gK#SPspGC{e9{DrVJMEuN|g4w7~diPf}Y+%nHs$S{Lai*8J
>n+}j|kjW$[H[FuaU#I{+m$3s=zyi[Q)}Pc&F%gb0q|=n!>Nl$KKzxlL=``(7?bs~!:o8AWXzH1%kzfcli,pzCIf~]rz0|m*#w:p>AB(v^064S~S].%JNo0y|C5nb9E*<|<?vR8Qeg4l8r!ApNk{xQ
F*}3J|S~[lk)=&%IZ|=^.5a~H=0IU1.l=IA0tnxxrwTcMZW][KihWsP#?uxM$G;gwv~SGhUjn_iuCz.S~[yqW3/%^n=B=[DCV[=GJ}+Leo'TWRS*8~sDpDkBlm%ul_c1{vT{|^2hm`ifzV((TMP8[U
s;>gjd;|]S)deFQhYP6+72)s'isEnfm.[{ZG<Azr;/lr|/SXlni0yTI;<5wiJWbObS%&V/NGaZr{oLdJ]9)Xko)`3Vxkt%.'{~KGBxR9uw]f`5wDn2JsJU(_eXD;{knz4S`=lbQ+{Dvhpub!R%i+]e
681P^S.JP[*5!PAanP1fPq4^an#^`49xb9~J#36*hKI%Y$FcgjBHfov8K}#Z*XHDrPgYcVJ!5d*+H!b`mdfGs&jrjg,%B.9n]c<RJ)).9}ss!xhE<J5AeRasZ]l1OtxT{}^2{3BK|1[uhw5&0*xu(n
>uerU9)u!vxJ)Y^Mgm<7wx(~Hm^cRw_tMT`fG|t_N_$Ycq336}jOWB7Sq5^wy;>2(.1EnV:bU[$$k,K'Flh#}9f2'80oA~vE{>H]8PQqys^Ta|VP(1y6;G.u/~[#h[,`$wiP7<_M4k^M#OZE6E=YdW
3XWO/#]9m!'Zx?CKP#[BP{n,YSHomj?N:`K:Zm_db.?2#/RlB^8EE,bL5m4K$sJ:lfuhg0c9*ye'YY9HS~^OF*}'9TN%,LXV0u!a)r71!*Qk;hN$NfvVbnpR'Yfc,2UScqvJ0KJ8eSPCi;fF*vgGH`
g'PTeO*<S?b5%ojt*QoXoe)(77e+QMB`[ai/^cJ~M8WnG{NO8G4k*Zw[(PoFk]!RE=FD}j.hT'tTIO7M]7{8HlPjzDw|qSza/cjX^o4,~v$HKb>E:]qNK=vlo=Nn/B*$a(Kqsjkvi;b>y>IEA4Xrg#
0&vD0Yn~sisass`m~4)FYuTDLW0Gg{}VYR9r6dE'5$v8r&)R57H/US:Y=FGpfvH]ab|T'*f?nB.*F2=Dy?_pHve}KmUBq{z{Hj%0Ad>gj;xI4k^J0,Nh^mCI*yT^/'{07!H,4n]=Jpyz*^{HJS_{YK
RFRo`].$/3X$IR}:i#G,U~}KU$EP>pF|/XhgqA9*yi/L*J^p]E]|jk=w%pTM<GV5#L44QTvj<kts]OV&E0%Et2hf`u0v?T'+!X~;Q_5[Y:tWuf'5+igw$^V3f:k6~kHU!0eO0E+zhpmK!I~yQe}.;#
fB:Zf!<{mtMSyhOdO^F_F#kbCOcOq328:51k&%UUBTm]^hHCd|uys)eQddiLPk<W5F'S*}Pg8nM&O1=_oB;3*$Q(}qOTO<iL;p8gIChT4E^L*v5IhR_}2u}rY}wc:,f;3Gf%7`[)$%9R~T0AkG#szB
3JMAB~{?whV;PQ1a:*+Z+6e[#o&*MPe%u$.3!WJ5L[0JM{R{?3^|%N%OIT1QO%jhBDT}Z2~z~A`^i68$hfdP(Wj8&T?bQ%w7wVq%Gt.(xjm[Bunoc,^{{O_hK~Q>T!ih`YbXA;fmsg(xvV#Q6vezHI
sDE$&g_9}^8$CO)}'#%sQTqeu$SlIx;84eTxd1BIs5)8aviVs#3QG?+pCXL0WQ;WG#jX(aE]9^HHa7GtmP<vddKApVTG})Su*[a7%OK{u#]OtG>0B#;br,A2>#)EBtq_bA'BfOjo'Bpo;XNFf$7%D>
L=BZ^<Gn,eLMF=j#(g/8i[)W&C]CY`Fwafj6Wa:(,i1TsY?MtcS8p5kHe5p`^ZZZh0${~p;d`;$7~^>8+Tem8G}jOZ{8b>3*Ag7ea.i1TlJqcpEPJ9`xoM1Q5M{5F7[=pLITV}GH~&L+<2h'A4LCST
sAF%X.RGQReY<<`FMHgq1G^f(E{y]>A97qegV=7x;RUPowi1cRBl+IXaA%Swc_8<r?nKrf?D}aSJ!'p`+O%vxoFN>S>~6x<^H]^}9TS8%J_t*Q7OCGD2cg.Qz|=s/nV.73pRZ&9Prv,<Gbeg&]bn>n
y|>M%;9[)aWU)lZbzpM:u;P`Qs&lyWk7Z%G>E~?K_Up6[eRUPN[tdHe.*;2s$w{`dXMZu8&_QjD/dBUvq2HsINcBcXk3hC9t!Vy?2N8OKFUkPpz`40Kj=bpgs5%5[IRD7^k/qqFa|^L_n[zFlKW17Q
td_NGhp5HL*e~E!/.],dySpWC/zXkU18kRL`6lB!rGBC*.cE`'W,VQdlOPXkjyjDxyk~Pb0:rI'7b|lxQAP>)s=_9Y}oFH4Y,~e3v44g01f8|I4kpp'HmQxM<mRonJr`K{)>,bEJHmMXPsB|`f,sS9
:'pJ#ml3L8yC6E|J2Syz,u>L14uk{bhT;ct!$(9>/_*o!poUZGq5V$_5qC+xR8!U`tZ6FNx.3S<`E/8/:s+&=!?%oK`_&~,s1>G>ah<{Z26N~.yf{A;,CLfw>twHrsLydWjto%yX7<{,KEU(<L6ZuF
c`sp]~Xay~kgmg[m9A.SB6FdyIZ6(!DZ01[H%jKx'Auh]P3jdIlh194:6&XrD$5BVLnoV~J^iiSB'!~N=wrg5rlX<HwS<^`6PsJalxNg3_>2|Ux!mJF#,:!/]=5W?hY;lT36n7*'F]Kw}eQa;}7}#*
/5:Z%Iv*wz|s!c`iY!VQf>2PO<X1t5|k4?`)HTn9t{;hSbeD|`gVJ|AOV?^J~r*y2h8Y')>rt*cz5AM,hO;#w$6FuuTG,IFXjM$,;w`&Z[D^He{CYD[+.hlDVq+uf&vKeR>1B_EXT6kn],DEywjwT~
'N2^O#r//%F3AMk47?7vl)D{mEHlVg0$=):4_PrpGaEjEp!aI<|K'DlQR,nJYUN6W5xdf2%vPF,fDjt%].?|)3c1VW%~&1$hSE|w>s8MH'x3lXI$=RR<$6GZ)vK9Gk%=$)`uN`3_PL7yUmfkV3rx}S
6G5B`!.>WH{Ib?X;zxA#'h/qeqvvZBX}p2Ar3v,]Enkr$fnTFhdna5)B>%1RLFr}=5DmUsDOZaF:~v}$jHpP,uDI/{Xd=p,357lLw9MpyIsSdgF'7je2Pr1xS}howKQRCJjxA)qks]'$ajZI,8hR'U
BrHQ4?Ua=F0GqL#N2`]k3HBMYE?XD)h|zH8+QG>LB+hYt<#]z!mZ+O$K}54!8xTe8|?|C4b4kn#W.eWV%JB[Z?8jz^<=J`I2'vi_uoEJEV%.Q:1+#c!VuP)(lClC99/PE[Pt+f`=F8PK?,I/PesHk'
GZ!QT~a=7_oHkmu'z*&?L65wVo:'r1nw%o;Bi'6M/]&b?/tN+d)gfoAto8q)P?5D%(l[^cP,^'~h=;rZ1B+;UZ&T9<[/B|g<]P~UeWM?`dwe8mUamj<l(|PQNlTb=#wS[]n0_Bpj0%mlKCRyMvNJ!h
3Yi3QSp)=qAq,mC/eQh?},w|,#!cZaF,OG3n^89+9c(%U.we$m&Rii(i%dtbzUlP/N0rVH/YHAuX~C>5v)N,P'KMeYNALu=PIyrg6Yg1Ukymp5Y%$x,YS*0e|N,YJk9XRH<8fj]#Y!]`9Bt)#K+}RG
iwhcsS/ig(Qh.>0.Z#2Hvo_l>Wb|XDV?#>GB{a~/IW.)=%J[ZwM1)f*7lYX*7n_4zYJH48UKO5Ud!OsBc1!O'b'{'0:E*{mD}N)}V7=>IFy1$I24BLw9%srA?4F_FumXz>.E5,#a[J'A`1V$&V?=R/
Ob#[*z^nHL&kUTYpTZ+{NUxL<QrO.RqE0[q5<.AjA}TNk9&SG;~vv,DBczk?[P+G2',}7+|62+2>`8fpA)M1_fnUz1q5h{'$S?bc?cq8t,N)vG+p7x2%8Fpa<F1P&&u<6%F`NcsFd`U}q`2tyHh=.:
p:gG[Ptc?q),c..t<|ETLl.P4}ev$H+6T.[Z!#M,3skmL.fpPR7bx*J|9zm9~'YF!P=&C$;[`7Of9nj<A&'>{Yr~1S(7Rs'ZvPc{XVMQQZ1PVkN%u(#''eTh[0Uu3T~>UuluKZ~Z{g*y#M+n0uD.Pw
s_BP$0!>?+;IR_2%'pJsb+'|G+D%=Q^&qA&dKR)q6m`_^/g}K)5s47'Pc'hxLe&GdrB1yL'ztqbN4v^D[pT]/3_6%!Ir1oMa*`T*qkV8Ya><5anx$b6sxh8^W=xFd:XA#:8[S0^a#i&8Psas:I_RY?
iPyqTOeUchZo0oX|.9Z{BG^y=fqrGO5=J%m~+u_NAayV$2MXDgZqm3zg(4[Z>x1(N>GAq[tUCgbwy}57wu]6d4uC,r/]b*'$)<l|f8fV^YVXKq9J_4~WsyyOrzMnv`RjFQt$wAL}!!#WNqH)cN5Mn?
7O]+U!fVt|J6f[0b}txma5CWmGJ^rg^#=uSknNH~(SE}v96.D~BY/V,r^+[{ETb]JCkz!hT4Gj|J*zE{<!DqMZdg%,WLU9HJ&CP}+42>)HatD;1zA'59L<,T{`VDwpwM:YT0SGE<0VL0E(^Yh!O)2[
iDc?#5)q;R%~],B>Xp?B0$8178b7d&G[<.=t%~!/xu$?:8q=^CS}ziN^8yC%Ra;84dFZ)SFXa'NnBqF$aI<YdiR=%`>l*>Uj:V}gWj##WnF/D96Y8Uo>gM_`H^~xC9Lr97h_bn%2^8VjQn5C'1P,g!
mi$KLga_b)+pVgvKY7G1m9Y20I*ckD^2;[dB{Y/HI>>h~0?])lWW$eguN]aeC7fC_!yX:T;r'.pCCcA#LyheYi#n?u/FQzI+vObKR2#!6%D/M*36UUBm`_r({myh6Tly%?Y!j>{P5nrK/QeXUwxt7$
W%wJI4Bf;b#<CA/d}E~cs`>kz)taZ?'BHtnsBqfEim[d*^KSFXX?5Jcr6U]^YT3Q]Exx6/05Um6S|56oNCvw(yWHO'U3`'D*'al[5SdgJ2wX'itwiV=],.e*d);]N|~K;skVeGubnT0PK7`3L*Z}K4
#4Pm{X.ATc9nE]R4V|+&rY!}VN#nE;xITGlMIJ`wOc9`=N<f~dCq4DCKPDy/{O<3oVtA1rlIB,D3g.RhmgNA*,CDG[3<m(^GUhkS5.5wk*NV=h`:>ML?mc?#0B{2o<)[LD0HLoZubEcUxc.U!pA(uU
:k*h_NSMGD()b,jeG3.D[2`DVPN+Q$I+j)Z:2ox!)Ha3g~UN(F|o0+{LgF3/NB4~+.cfLtaBR&Bk;2W+{kgG?R>KId4[X&KbYjz$zl_o{#=/fD)giTt$^C;o%u?0;,&9&}%IILX&z6=/P9+TDvc;yo
g]4,YI<0;DCE#|X&zxUoOQ<iR/M$4O)4Z5t+.PI1b^!}|^x~EyToj|t'DJ&wP+jj1#vqhjqp>P)2TA<HJ6C[X(F}Ee*g'ANZ&1EDy:ky}d9?8LWLoVEBll*X<wjZ7Foph]jJ~NQ:*#RP{L[gN7n[_}
{>igT!l{n8+!h`1E|3DNtz'lhEAlDVTV1}Av3e4J07AU=nSc<=GmF6a4b.uyd(tE;&%~~0HCGLTKL7#T&p]8NY)Ve#tFpu3Jd=)t4$EUJhXFYBCh4}JU*Qx2zW!_u1i=;jBv}#oLkd6QaD]9k!<2h?
Q|T>rl4s|JTj,7)?H_Dx)S9n*$2)(N)Pou#<zC[`wu3D<'G8Tf/FB37/PYOjLM+T*I}vx(z)}%#aZv46$fo{,Rg,KRagEjoYMHi|h|XXpjDW3*lORpx3B0J~]5EA^W?p`(LtU%b/nM0&AYYh7&z]C9
n$I[M&n*<}u*#0/9)*?x?gaeU5TeFP0legfZ*]yQSSt{b.ObdG}jTB(5L&oa`h$%[f,qSh>*U`69hU=dnr,Mk>y}s!P~//4JrTHv.~6&Db|Os[}6u?0dNIX)jS:'t2wj^+fBKlIa]PntQsT/=B0JJ0
gU#j)|uMp51hRWiOs094)Dlw?AVL}p*v7Tv*55l}`u]j&Tr/j`U;mATA>?f/9^v#1/Oi#<|vmN5`Jju?8iXg4m}_~/qAkKK7/TE2CUeR8H*7D]deR_R:>M|/?sA}S`,5ODRCy({)3bNb10X+KKL>7#
jHZvQOSduURMrs9/H2`g2Pb#MCFvro3>P=l|YlmVLiC?KgOkz<H[`cZ9+IBAMdm>T7z4ZBr)}HMIBoQ*)C^%I>9}3&9PqE/>Mi(uDa:^d:.Pk=3YU'c{QZ/qn}RB%2Z<!Ua'__u[2u*&ZS&q{1PeoA
P%KK5iTsMi:g~`P;J3;EEG};XorDX^z;&^oa5[TwiPHU`[VP;~.P:DSc%Jwd!+E~L#'q(b_$4Do)hKcXm]TJ[g2#$clrfdR1NGm,?+E$G!s8>s:!ej~^i)P5EQ[39X|rsS%tot^={M]q<d~t`]V7H_
E[K.0>yaQO~BJ3&RUz:*JMN:?M}Z1O:NO7orKk}1rk7!bpVLm7,|/K9[1.D+M.0kYbX2>F_e2VCU.Eh#dtrH5l0_2mVYswM:qqRcib.34EJDvve0==rW)?hwnkz[(PLBC3LdGq+%+M[?5^D|>.2>GW
$_hggp1|C[Ft~r86_g0/z/#nrd(1(QGO%'k?j237QVRYgM<(Aaw&*jEd3'zcT=hQT7M9<`B=(N'PjFUoy]'9KtqTOrdIK;rTQ&z3MU3I?5FZ|%BE2P]#JI%/:;Ns_tUCU,NHow,YABf5c4M#%C!K1]
Vb$G}>yG5=#|Ck5xDeO0cj>1LYNDc3#)E*V!D0`y5$U{sL+2yl42{Yu4Xmd+>oQ:Rnh5i^[uyDAF_?Npr>hHO.6[Sg<m3CMqk#88r=2m189A>?>ied$TQk8p7xB!3d3pvKZ^NU,}{fBn1YpCN}fkkD
LH%0:x$zn}=MJ9JROU?)WAp1~!gdPwg3uC_XoUkwF3$temPo'?_^R8&dHWuUB:=8i[#yrU'n8At6qn&9kidv0tn,'oMJR%U8tU%tQuA9xW1pnD8JS!t<keXdQAA`7]aDR|pnI2'MZ/`'yrsbfmoqbn
(KP59P{'Gs3KmA,}jKsHPQzugTBF*w`$<Dd&)b+TvioTug8fb{R,|3V[DTh^?uf}'x3,z^i:np{bekjNE?Ic6hH#?pR8#2T05IiC>W*a*^K1YJYPg6.KV#em=}anO6z.mWCp(!r^lfSJi61PS%R;3d
lEBW6T9*4]j<0p#k]6h8g{sA*U.n)L8A3RcIxV+~Q(&UgZ5zP|CTp(Jg1[Gu}9g[:cwGJqq?ZQm7k^#`Jx>]6]pVl%uN1yN4Ap!;!yZ'7oOiL=C*]^O?X_t386!0|'346j.97M~5U`eGo6!:K7:e4E
~S1RK[[!Z;tA%t>r=GwM~2q3kTNKy$j.]id?U,KUyTi*9gxK(8Fl|9pKC4(Y9!eyuM&6,Fvm71kcvKG'Z3,2483~mJU[]vnjX#+$rbwb<]])3&lF,11TBboMFr|2+Dc[&3rgmf96C{DP^J[?1P[~0+
rW8wUW~21<~!MAk5HpFk%]Y!7'V&R8$:UsCdC1k`<uhH$U~0$+U^)*Are/iSeR:u#uTilal4}EL96r/C>Y*tX`y`T[UCq/]Sv6;:V>L7a%I7B}^2tD[1hIdlx%[sT%G%o~LktRhuu)SU`t;Wv=|KD~
>QcDwNS07F$;!Pq)KoF$6<}~iC`]/k|Cmtr$4D(nGIH'W(5dZ1y;`rfx&wrty&J(dsC=V)RU^fnQ_AxOqp`WqLV^eYsAVr&Ju9'nUGVy0?v08:p>|L)i6WE[dhPZY05fO18qbesQI#yKd]`1L$K'5p
K9nSZCJv]DNBR7CdZ'[7X0aw(i~kMU?'#{<][A,zJ[GuYq&BR[ow(,SiCNn^M=UY6>iW5)csz*)Cj,R(DDJBSjIfVCleIh%JN#iR&dIy!jFK%<U(2JIghUY=AV&yoV;(eXX:{+h%R>#ri,{8Qe,(p.
d2pWBw3UN_7V2l`{42i[ZRczeB$r*`vl.d0cz?5#gg8*/*{y4(N9u#C}oKS6~K2<&)0[1`xzZEkZ%Fj:<C<aA`4NHN3&T2bmPb];`d}M)l'bfbb!1_QSS[rIHuCD%qbA|e*Mudc0CIuOOkiX'U_G>D
{}(6RL9CCFQoda%5d$AzF^EO{!<j,%wO=B(qFZ+3;6CTp;eGo,eow=|teJdzNY|yFc!i1ccU%{Uv9:~3E~x+g>v4=hqA4JaW1):<?IpM?AUV,^5:[`zZoll^9z7tEJT#DqsR]Re,vU,u{w,^P^*]$m
,mtCaAw62?#_LgNWy8b2zqvlhP,wQSNy/~t=_r?IAHz7ZE3'rTX{J7%z~ag0~h/Wh)JH+O3]=H3(Am{]P.#Mr90ab>KSI?bRcC~v`4,rm!BFv(]uZ4v<[tt'2BuX#t%J[VHjCyDPTvWx}n9EV$zG^3
L=#Q)S*<09+V[Ne&$eK$*4RBn7aCsJ;Ebr#LO*v&OKOt:hg]6hIG#7{oUn&:N|X<$v^9<gU:v;Uq,b/sF^&loH/:>0s(&/>jk=;HlD~Ah6q(K)?42bL80x1QP'T0,TQptJg6eaH~s|H.GWuorNfto^
VVu<!K0$IM]tY[^GHM+.'bP]|YJ?'3}A]pqUw/0Ez{e6Ii.qU|UX)A5AyRKn}~5QDo9SN#=3JpgqZ7rs{f.dN:1mKdKk8AU0ka}(!a5{|~pYyyh~AELh9w>I]|(HfHzzwmpF[N8qNNpEUNN|x]$vP,
bWZ'LND~Q_AsW]q=e54:pQbndgi=siA!qa(Zi|YJiN8v=y+Vv4c^4jw<a.d9moRC7*fBr|t4+ip(rYjILFtpoEP2)/Ky^CnEdYzLdBS}i:t/38X8Z8+JBpA.eqXM)08>N`ySy{TsG;u|RcC,8s,Z[b
1Xs7ae1fGjPNAFSN2b9d_oB+y>{Y!.b$cf0wmR;(G'%]/;2DMV`RsPh`v6&`uUU&I$.vYLBRV^;V>ZrR3*wkKu[r.y9xGnoa0efuk#y!#AHO%crqlm$^~[sI)q=!V#a]s1p&Ao(U/d%PZiumM9+wLe
z#My^&hofI3:cxMo1d3I[)r?&yx%M)3z[4^c`&Fd%w94%6lh{50)>(lkiZ7_7;qiu<iAeSG_;1J'G3:RX:$_rwd3Af)PROU+n;e22Km.`Lce9A.h%`[K%_DAC20G2.7:~L&iKCR9V~5.~|MJo7+s3m
`ue8exwig(xpAEU=)#HMxH$R2FXtuc]CCLghQJWhJj%cOg62(%g0ughK(5;mf``2ILynR;j)u;NR_|k`I~cv<O0n+CVwG8'Z``>74RZ0y%icR|'PjOUFM|zggaCUEWs/;tPGQ4ssvp<6=%U;epiAI9
htE1|!6qgc{R7wzU?+W*ufb:D4:BUO[P3QQ9(d|2cblby#RweaWQ);(:VZ(qhQYI;cbUrYe4SxQ8;oJVWX`CS:blB9r<$cg5/8!(!JzW~0Ex,RVtVh]18x!mHPezSiqa1+xB$n[;*g1xEHk^MO,TI>
AUdM|eOvT.`}MmLEQYTj9'|uNWM%JfXk^Cly$*4!U(|1PJ.`#]WI8Sy~s7nJJj%#0j{BU)'_%RsLWyM|!GXll2y:K}?2gRXA?d463Bcd<BJ6D{[I*uytp73yw[02=!%L5xzzk}a_50c(`1m?6WM;{}
Q(#Sdz'K>^{%2x'~rO#=?l14h{iVUoovw.QhQ%O9G,)nu?Y}0/h{h9u,h.+m+'YzP6q+M*?ewqw9)FC27W&#0<f<~*0hPeImVohz1IOo~ORbMdz=>:<34~Yd,)}=6mn/a0x/;?k`Z3Kqr4$C9kb(,L
<;b'NlbUj|c69t^vD24}QbrMyMoGj9a,*<~v?<96M=Zf41t357e8R90LfpbQs_6%O*;a:>}Vmb.K1t*t`(K6]y*Q]I`8zBK(Bns):PP~$h}M(+72#P,&V?W<[{%oxVWIBS%'t$rU9_074VO(J^G2&3
U|(ifde*0Oy;C)[/Sa?GsnYXPm(H[]NX4(yx^H*.ktVcx;*/8r#SCZQe,5N`>8mJpkcI;5L,%F!KWXiC9E|*~ocLs=t}G'',edz{S!;?|[7.E^7ssZ8{o3vM%ezy+tnxyuso*O1:~A2}#PAy87l89}
#,vsX0j23b9hH`Lq4'TiPfZw{.9L[fUht{hkIaozcY[R#z|W+1gbuNI>M&!%3s0R=Jh75.md}bZ3kv]hIvfDgezf)~1%Cl8g7hC7y`Har]E0rdlzLhJ[a+oa!KG}8a.+hL%|;h))L(jqp6YPL*dIv1
*<_B~/&nmUh[V$up9egy7|Z7_:Sk3Lo.[E[*}umI;?;;5jks<d$WjJ^wu*;qVa0<$QEybkFk[F)*cmrBWKR?,r`oX/zu&'Wgg;BH~pqHY{r|0[%#%~b%ngP=BtWV9x,?Tm|!ScvdYJW^R,#lt%R!wP
<!K4R9[1v5ZC}%y;Igb*h)7.|cGe&tL|X](.;'R&3TNp*WGaYUL_x,auT,3IK?gdz_b7(,>wJ$*KeFd2{^8XZM,4EY]!1]%U}0fur}t~y3}fPb?^wWZM{0X1!f?{`6idX#~J'*S1={9$B=VzCfOfSf
v>It0S$GqsDbb<hg}:CP1;gst/V0,h`ZVS<Kw/b/u=F`xwKr%8i6!p>|}Zk|,9i6.`^ATPG)7F5id~Hy/7m/K0cp<Nu|+^W.Sn5Kw%Ycz+'A4s?;GTZ(hFx~wTa2ekMDQ:#l6>Jg(l(J0Jj*jp7$w$
{q;UzJ#=a~hkzSWeeG.hMK+/;6m/'A0n~}Y&*tF#$>]0kDy9_'|Ga5L>Q[?7|(}+B)zD,s];bSF0q>~C4tu6_|JLC2<(+m&U^d.tN!C](ECgOM_xF`quHO3&m14Wu#Nf6LqHY(klkZ$6$jAo5L'&+/
rW:_.^wH~.AnRs]O*_n~_fr5F.7SEFX;z'oM}J<U[:((EAN=MGxlgABSQFU1gn1.zFt+/Z_}W)7$]NFRkKG}A!]j_r_g_d=b^uoRRp!GG)hTC%#meeeP_'ZeJIl<DTYMTw$85RL=:NdCV!lRNqF)Y;
Dhb:!T|*|8~/eZi}J3h!Cu:F$BS>nY`)K6*f((s%`#rYhU+HagJ:ZR!*'Kwz9qmSzkN_R_)IT3}aw9{ANNmFN`drEAMV~j#zq=E.<)7FH!Fp3,>aOh8C_||m(i=x]]#V'3q3ZOG^vp]b9]4^)+Xrrv
;c+H:i<=u4SZe*U6o#n5{R<yl7w(x}dwbiw~F7l;&WN&sn?!w)LXE(dd^NtwpE&ihc_u)0YK<2/c/jJgwc12oO5lv0<}.N&ICNSY3RnA<o!gU*u5qkxKl3RvN%sQXWw4g'>]*b?PbV5!';mz^P'?4n
=HtN?lF61p<#n>}w_Gi=f<y`&2?1oG;JNuWBq'X/CHK*5Cf;)fA'vw}[4K:&Vjz/cSEO<lopJ5K8G1<:`jcI|OGU,uf[lp3~It8FlfC~_ZJSq5p+{8EqEDsXNDN#{QJP^H#tQuB=A!B~h~=8FSEs|d
I[Y;0Vb!tjaRc|3)TfrekC79$7OxsI9tg$R#BnHMJwK'aL1]1ERiPnEXZw!=8xp:_TV'^Es=U6'_R,WaAvIk].;}d+`tYEs`:<X'%%ii'%9:a`)CJJtv;'8]29U`lv5wlHe]k}OAQ!g;R=,EUIZO#(
v:'.Qf8*ZCu9+p?f[W5>r8vnYctf<~tC;bPH%49:7m*?]QOsU~'/ROgYdt5Uuqq}PSekqJhm.6!y>]/;a5FFQQ&Y~;F}[Q+jOxG'.88ha^_y*lEXel~Fpd/*2|W+0{qjkr1[MK'N;h=,v$??>&~u$g
$,fclQvUngp4Q0I_612t)fW>k[15E5u5.'+VW%hdne{&a8SAFw<n29mv;$v;2#km/i.NFhzO_v|C]WEI8f$=M/#euuZ?X+o__Hn*8S:,Iryi0ePhwi$+z^vw2kek>?CLt2m?w}7Xl)6h/:f'XTl2#f
YT<:v36MC%WC;vPrt$B)I_zoXG*hm2>5u7&YX;*7gB]YUNV_`ihzvCngbVSqsdXl3uzO7_M<MJNF_{sH^)mh[~/Ba:HW1,uLpihI,P,w>B_rnk[,a4V0F`?q6TjRBKr(teB:LbI<f;FZrVbd}*dr/2
Aqi>Ki!U.(xX3x4yYKE<yPTp,{s&Rm`6sw}CK^WkGrQ0ob91;2N6/cDM$V_V7!juHf'ScO=wV_ffLY=w;4w2H&RL_T0ymDEzjeEIegY>D/h+m`!:+43BN9jRo<1W5,1=mw8q+!SbwVDlKS[',K!PVg
gC?G4S|%Hp%'QrG*oN=!N;}pMRf+uKp46Xudk{hT!t$cap0kNlz]5[[34/}f|gg.>N(Nn&o`{_m!f$g#gRgt_gU&]nsQzF/fjCmB~ADJs)1jQfeq0r9I|53XwH0$G_T&]ekM0#Q57cNSIMyeEmee$b
rl|RLYB1/*(s=AYwXi?]h0!<!fbwRT_j(pT+~~'<og/Bq~lW>?g2'o=/C=e3lq*H])##cjd6$046&:TS!9^2+#mz+}m|$]bui4V4v#~.<iR*|^<x#''~Z,)r>?Tk{4|C=zdVz%{B0f2UL6pHjib,JE
<'sJ)t7z'|An<'r|)_kY5{<rER_[{>shCzgM_M2*~ev<+'|oftd)|'wjPx!c>|R>dnpS8A*?[t#:VN^rRVGXt;0<y({S+q#8{l3uMiPbk=&lv_ilN:G)qvzkya0xb!615iSvA%!3Q4>C]dxc1}&vh/
5)V6gRSStvcK;K]Mz!f?O&xC*psV4uT.(H}`cs0t[CJ>0VCXzB70i'Fr7bs,rs!DBM*K3fMM*`aamjweD~UA(t~4dmz:1(*DT3,!$)siufK|6+rJR0Ay)CnpRAED17I}7&tK`='*]?J?{n^XZ95bQq
_#.TcLb3/+x&EbZ'tjN(57n0ec.GLkNpYwuptV:DW6;5_d{oWPKc!P7hfTFUh.hJ53W^8JAkJX%Z)0=rrV.o[SL|E^mj)xw^emZMBSJG*l]P~17V:wyl5to4&}n;|eW37?w#UsAn4v*P?[8u0aApz(
%$:g#'7ChX*qfR/](cnvDw7'A_!:`ia)frBUvYlkF&x6b89_1;(ra/BbTE28oa/&2d*M_Lrw5M],|Vp=ZUgfU8G9QYO=iiUnX&BL.}MiZ;`]a0#)2vwu/:y{i8y6%x=nUn>1gpe#d]O=xZ>3iK#uoZ
1fPx1lJ'rtXdK9ciD|]xZSyUM:J_0_aDMNkB({}#T6CEEL4yD!Gy=5xZSDt>)n~{<Tww?.H[Jz9`|K%dWg4hFU|gIG~3`3D~>I:|gtQ6NPXQ=fFeIz5tbY'7vERd.w>G<~,e0Gi!:%{U^f!(qbg(o/
{]cFV`4kP!tbZ18K*E.Sv2]U)_%!VqqL:8YYr%]RnldTX7',&;_Xo1}ih<u+MCNpiUZ>Ig2A0,8L%gY}Ul9X}9m]':Umpi+F6y6'1['d)H;]ra20$)'R&nL>!nV7EGc.WrSkQk<M,9d1fdf]2`9eU)
G(?l8M>VK2wt8^<1Qc'*5UpXJdsg|5.FGe?'O4k,h^F6h$du4WE7Kp:vc;hFJjf:%$hX+Ug0b=uN8V1_.kQz_kNSYee4zt~]`=d]hU0gKpnVC#85;ih;rJ'[{yU?/%jJK,(Aflg5I]2]A^$#eGj,NA
=R1lt`H}o{ePnXtKnKT+QOI>bmucXYLQ{[QP7$tvaw<%|Bb6o^Q!5?vWW?,$^KR:Q9yk.{<dS*pAu^/!+6cyt]dPYs0~Prk(6SCPu=N5`.qcgARX<rkbO2ys,uQ;&q,z[uHD`m3btpPk{N43<o$`N;
F`Z%F/e<&J>b|CpF:Hp%{1xn}?(^gjLD<4XR<2t)uFRoL2u`r>xGW%TfL8e|~y<<L0G:1agUd,*Th'MjLDLRQKm|y$[i2f<|1MOOBFW=f{jM!Gp(yHX2BBb+4au%fh?_!yY>wLe*M|`cxn8#NP2>ol
vz!o+]<weED*`h/8Xl]}$o4t;~Q_zuG=%E[v.6c[!guk}6)S0be&nd$(o=mM8?LV4R14<[S#nDEe/RQbiF0h!jQ^tv_aJ/%ZDx3Omk*fTJ5%q'N(e4)X}=S)|:vwcm^%Xsx)ZR#U1,N3=da<2kG1<,
}L}mY%r'g6}SaQboJNV1X9sil6:1ATG?Y)oIfDsdgV?#/&X)Gd/sf,1F!CFPDlOEfzVr,,C2JP[v1M4HR14|ZfZ:S~CihHVM5(t&2,`1xe8wMMHS^{jYV}R=90R>k&uxG4a60oTQ(rpo'x|8I/ge}O
G11aP`btFV1Cngpd1KH!ekiDDg%`sPq48wIZ#6l}{N8Xg)B;a[m06w/_%Gb2$/4)KKS=wP+8c>UBao[=#d%i)HDh/SYlASH$g~|='7QPaegKtxMT&>BEd3||Ol^4K[gI;.Oz9[Aqlby+vuK0H`oa$]
k)UW:D~q|G7:>NT&a?+Sl2:}$G;:X{/0301#pje$oInum#3qhbP~5mgD^;=~vb}Zx,&'zyCBAN68M]'QZ#PUu(O'X;'0/UgV4oavk0bhFl$1`mX3dQCjQZ3Iw[u!a4c=$0BPh>VB0y[<ueO%uNJx/q
3^Os5~5:9fj5WHeD4p&bpP`[(~D7S?~+N4v[T]{ic?,%O=.}sCODkz`aRW9)$6*XB[zt!*Xy6_VUd+'3O)OM[}Wb};qR(GD*Sf%/f04uS/$.rVOqF|5&7=!|E|DO?O*~t/uvMyYrd4xYFm}NY:B/Ct
$6BEgCn)uP~pz;p0.4Q!dLdocUUhB50O6?QHAk.5uZaCxkiJyP6Sm|ba=Z}yQ%x0PDr9p5_I]f?,bLKzvn0pW4Uep3}9.^I=3_tklW&L9&~s2L]I!!Sa1/CKY<NA$VA}BMXNc>}k2N/:Kz,A1YGS#a
BH{bx;B>07H~K$M{VdaF[s4`U($VF8R/tL.P;J.z:h'z]$^<.!OqW5$ru4hxw'!uT}P+B*%K{.~$5g+8^c<PvCOLtUZvrFyNy`3~7s]F|m1%uZC(pdpz%jK>x#buUDX!9rKzXJ^h0Mh<tgw6O=0_ec
2%}H?l4!AMj/7`?`T:4rM&Wn]^ZEZm>~QR_M?m$z%`#}}zeXe7lOCr%If84vf%Xmy/qw^]Q>*YTx'{u_yTMNlKV8)2lYYFh!UJk,.e:VF:cWlBsTb)P9oY{E;/4VZ*svGR<fK!(,n{SHYEHiz<1ee/
FSn.|<reCOp5w#^]tZU#A)2~L;_YnGOJ6zV+*DdR]e!55NNZl$A}DC&H4v`^7p9C]f7hfgXOT+?n#X8<4V1w)[S+OS4'l&tozj;}'eUpY?iXX$9x|f3bGUHktW^F<a}&qn__Ggy|.!'`P0+!4,3Fc2
k4Cnf7:saZ<VoM~#'o|vnA;Q![vf{ABk1h)#X.2<j$_K90PE]c.tWPvlY{Mh8O|639BNtQf/z,J:6c54JMSqXAi[*Iu/(~!:}`$`;4m/PFMnN`BVbB~yDsEw`DLd![Ybou3_s~>JgO&HtvX;SH!Drh
Tv_kE$x8(e$[n^VsPHbZ[o}5pl%T#k!J(hYtWNSor`>kCL3wIJnQ[)L'}0=a1(jXat^yvy6NMmI8[.R9HfYjUO7TURR<#?T`Dh$U_V8WWeQ5VHLU$kYJ#V}FbX`C,Z+5C'qm2eY7!V+xr,#]MX2.=L
8Ix*hA1Y;b>o.BP%[4o{s57a~Ra[p:g_MP5?*Tp,1=cgWn<g}9W,;3!Ma.4(zzIR|vL+/ll5/U#>o'&s1(zk?bsUJjhrwS1Kql$$v^}]_Udh&.XnA=;:k3~5yoX}AADe2W#oil,NVGIPGzRrwhU1y/
dl$ko%Ca[;_m+,jGv~]1cF1x`J5'|5`=kh;oRG7_Po_>9!uZ$q)mEk1(=KNorvi>8P*]RiQGklUa?6$ed.|5Ti;`I}$9.D^GlhDY!|[Q)HdTd:dtbA.9`Qm>f^d/L]K+ZRvMo=|[5E`QsmGY*oP&Bt
[_:npsF=C(0}clE'eEEVlYl>6,cO9%W$;*=MKG<JjZ}av4Wj6Cn~_Q[#QZEefw!TqgL<P|UpDy`_Ro6p)gqF,$^Xyb[92Z2ky?x+SOjm(bciva[R$0<<uBXuP<Cj|/Vwht%pVS/0Q+L46GV4vTo[.#
:SIH?S`44%&z)~~]F.nxp'7$Pn{M,iAcNv+[,hA%</ss.F8{{Ce*qjUsq)&|LL^qW~ZJiOfH^[1{_h4krms(7(/WByzQ(*H%^L{)S7Cw9OKO$H#E,Pg}ZCQrGtPeEN`+IG9~aRy2`TL?nclF(.xiCB
;oozTkp1^toOK_O_awF{eU;1i?cpeR9**Aq_wEAy#rtVAS]w5nW^?QulHa;n+B6`.XwQJM9H6DeyUU*<`;^|o=xr{!^dMpz05<S+HYQZcx~rYLx/PdT06((KqZbE1#IQF6YZPvcsa%E'kGl0}*G401
Yr'^wTJm<T`2ZX0px8Z:Ot'*BE}mj,%hW/aY>Ca^v5s*yXYL(2ZBez$X|76WQULw7fN,7qP*v$xbu4ibH)E84A4~ffp<9k61izAvwy<j[j[kb*r8oFwfR'uC^$PuvzgQ|qe,6`~*[qV}yn,P~TJxEF
W/LD^R%XtI5VNq;VGsn3z^bE0=;WF?N&zk!?I'b#[s+QUd=^q?3X{%yNM7<bi1IT5dc<cwyeaHEr.a61G+Z2'(?k_VlE&M`|*c.P'/h,tSJ[D.Y0pJE8S'>=V(TRVWp==#8y'|fO`WU/q;yQr.XUmX
6H4*k<<SO+LD1U,IyR8dUaqv]PglVkd=p,d>):bVH*G(P.wh[f=T'z[eD9GYJS6<svEk='6Vb$,f_6FcuH{I,{pmYZL}E9zGOU>rbr&[tJAs^)C6;iq98Y5oU]yIZxmWx6LM94^Fb:.jRlg?_30*iH
?ZyL<oRF2i0FH43fg%zuW^hQDNZpv<l:?&7{YW*_6_4Q*ui;vs|MGJ/'},!L8z3lU2x1h2?uIUJBCJ=h~f:*ixny!^)PZHt5s,r}K9p?q`BYIaWh2NVgx5~qNVc^_TQEP^knyBZjvo~WtFeS]i'/iQ
[!jA#X1.UrrSo($~LchjO}rrN'O`k{~M/'!]1q<[>5CgX'&?BB#h?D|<G)*.`C3HcOkR%fOd.n}{k~;;I#.wu/X#UrQ)KTS]%jm^g+~x7yd?WRs,tbSdYX>N!8ZW'L80A89hrgN0oIP4z`2<h<0yOr
v]7}.E<(Eo0ggdLA%HYWO<0_^q6S%9UFn?`9#i%!wKC+V1Q)I'HZzr0/ICN6mKSYv=t!W/AA)m3ILc*&,FYU?t{^]rCB;vLux8h#r.)L~]Tz_gx4L:fNefO#B:ZKDm[q]BL}y1u~w,FS3U_W.3p=aT
^1+%Xv4>VbDjXuV`)Y82:hjAqqR8AGPS`89(`j+ax28O;3C3spP~+WXe$l4gB7uc/95O7^iuA_5lY2Va8l3D/Do^arE.oTp2h&6}]Ato29{78tv5qXj:d_MyUWy'{OhP|%6/eRf<]<m9p^aqZV/J}d
?=^ae6Wp<LRW^r[D*Iilo[HQJ<EV^d:}n[|Y#tyfw%3Z[$6MJzQU'&$Ro%FeZE)x1L*{$8yyT5XFT4*`uH{hns[TYo3^i}9<9Z1Q5814'qF4B_6~E[jcKpraI^e|o703osn,VlSrx#S=Wl1O.a*0Ee
!q`Xt.6q)?AQrM`}RETR~Z^Q,.#h1]X>:LF.2s$5E$&gSc:T[{gn>tJoyXbDH/<xyRhfblfxdF1`(HT?Aj*'Q4{|E&yxo[dQAUeN?jnk'x]r/wTQcwN.0+:P`5XW~xA?'fOT0Wb4pOe.M`Fkb7pfJ=
P{r<t(P{qaZ^|Io/Fz3g(v5Hs{.[)LvThS_4yQa|&0|c=V,n5Lb3S6iZ3?pC~*dMdnD8fjd354fuKW#AiZ&|Ch)7l8L!EjJ2,{9+J8GD*pi)I1nseg)`~nvxpc|eFU.9ul]UgWptsUjNS*m3JtDYLi
Xc`)p+QJ1|]yyV#E23W|:H35gys~w#!~`xQX~zd3?Bs!X}]eK_q51//pjWXTg!.1gQvxp2u+fRRdRwQiN:D&i4m|_wG3gsWyeS'%4e)j(u0gbsu*lVQveY88PfSw!UI2el|x6^;uJu4#w?MNigZA/w
UyAuIw:^=W42h|]]O2M86W?_nude*OojM*07f6/v)N%Anx*6HkP_2aT'[pP7&LbNS$HMsbA'a<4tg_3>#q|^1JDGLgQGz%OAt=6e6{o6]Y],d4%w9gu&+){aq#1XiAiNgi!]inY?q4LXXM`c[&6j{%
72<Wr1M*'N6/RosRjN]=*W+4^+'mDUD49?miDTE0'OLfS8FtzU6dD4zk*)M<`+86$!tjNby|y7XL$afFL3;kXsIOR}{wmG]exlSAw&Fp_XJ^tW!E*MQijr(#r=[h~9j[wLTa$4,gclAVuB?6Thc6Wm
~_;rVN`,pzT)pf6{QXLJcXunVY<Sm{;%v[WgKfeVP'!)!&HS(R/j7QTK%%nV_Qxy4!q6k8F`V`UA)K_!#+;HiKT[EtDphMi:{TV%_pN*Uf><niUU~l_'MZRDtftSo%Z]8>[GZLTk55|v,*QU9ogOAy
*am).S)+/;#&=`Xl;hFo//Ws~yd,od%vyK09Gg<z)Z>LH1n)S46Ap$$5=)y,OLM0demV7<N]gghPsU.6kSd4HoASRcDi&(EM~`X?>Yr2q3]ViS*RY[rp3be84L*.Ou/6iBO6yfK,_YF7[qb$b%%!')
SRy#.Cgc5IuOxqP?oCcckeFG])%kXd%dCRO%}'ij=E%{::SARE;=:,Dd[zYD{={D>,XIIc[K::{$_VU7~!lx{)4Hem2BX,n}C}3$G0%WlSA/$ggsI^}l}{&+/;;zNlYop(m_>8nmLrNbaM<3z%)D|B
XFsA{O+.wwk|kr2OPz#wtWY7Qt;{4UWUx3V}Ufd%Ejccwxi+&8}1XYmUp^k4'?>7&&:0W{6hUlqC{`e=3i{4PZ[TY#p|K~ZQ$Xq6EuA0OUB1B'cCFNV=<4lbw4X4y1oX_9ytxzNBjA$M_d>L}4?u/`
6R.t%:*|vCB|FB#)#5~nH/gX:Z*`rc]?p4&*9?u)#jiE)a`/sP4IYQP/Ywodi&%cX,go~N_;]9Fb0N)kTzx0lL[p2Y,S~N3%(`LmB/E#(n0H~([nnOi`G;L[,B={7h)Q>Z81^7G0I|J#GDjlnlh(Vg
OODz}<'_CL~8QHSjsMQqZI*Ah5=``S9&p<APA]1doCDJb0{`u]^>Aw9x9E;L.ywf#N[!]Kp27fRAC.^9N3o1uhT1Oe2b1>;J2$g{K<8Q7,dUSg8T`)&p2Uw~(5byrwY+.jnp(ovA<L:yn9J5zw,DgC
Pz]a;.7KUh4DMM=*$Tnu?(L=mw3p_z^(x2uCbP[{N%f{&&`hpfvEnT%&c(9peM3XcuENS>!I8SEonB}MK?lp=3grf7(rcdCb#$0oAsVZjeo?8K]zC4O#*O*)[ezRYC$V5%QpxnQirx;WEi)5<=A*Fs
Jau?us)nf#8P8gWvA>DtW6J+M>;9dHeaVe{[M2n[IIqrb>&aNi>9.2Y4CYX:cRu?Wx8'FY$e;xbP`}b<ee|h;vU`6e5`o;cNJra./4q?vx*t0wo9,owqUdi'2L)&2$V#/8=fQezwu^Bw:8+[])?!FG
BlMFx')=q:w9'6]]r[QJMmGQ+=}fRe|%`3A}Qii(k<jAT=nR5:QmAfHSgpe1NhAb+{EB(gNT>3#v5}q#xjNzk!9[bC5c$QY$OJ0R|:ZI[6ZMiRUTI!`p#Ke|YB:.F5;Ow(U5dFWA>s3y'*lRY_Jlb;
L9!P'dJVL$+.LY+nR7:5Z.>Lg|t^R.8C{T1}aU;Uj.~aO+D~`h<b!SNG]L*gtBwd1wC!u5^uJrI|4jB90r|_6&8!K1]eJL!M4WV|VFN0Tjb^V$<:s>~5.4MwZwGSXJsyvd(Q3M5SJ0n}Se$r^&m.M_
61V~W6i~`Qv2]jC+i%Zy~Mu+i_Z/9ujZkO=QD2(j2IiH'7eKkq:5++pMwva)`bv,9L3Mt|*a^J^XoTnpG67M/WjC[6Her6<?q=):;=<Q&z,'0,a'sA3{)cz!eK?./^;.m9sJ??=Vt:bY<M4'JAVj)*
u_b!?8:!jqnlKPIe{;wNz?c8^)YY8fcVCco7D76KzSCe4'GcKiUH_^/CIIvNQ9g,a;*^hBUQ[>b!4|u7A}PJFx=%!QD=|$wr6,<z>W{^Mu/YfxNWkF]PKT`mtq<dvs6UpXLdk+')Ql;N+4^_=/o/V$
aq;D|.|$)*YlNBXrA3ubNbM#xTXHwsqX`pkUh5Dje]Nfh(3/um=ANpmFT)s<W|(0xR<W+_C,E7mU12EIJ|ED9Fo1`gE`A.R^z])tnc;IM09HPOp`!|gBv:oh]T[!S{J%jH/$HzC`wr9}<.`?r+x9K:
B`tN*d8>lN1'1.RW=t/V<7*9yxl!m;IziHnfz:4o>M}S${OmFDsa:zzt77Lrx/XwT3sV,g4}:&#iFhoM&HA(z+>ZrD'd#/B5^1FCcjf20XU#?7^h~0<,<:t>.1|;2xVU4G0}:KO}Sug7K&7)s<zDK`
D:+h`S?^;K63V'X+J)P,sqxe)')f{Zb|F[C|PpJV?]~50Ul'A0>2])xt[Cdv?Z>.S#+Kx{35gY*.vjo[GU#D>a#[*,&,9R21A$?A=1SLU:{DY8d.YWNLb_[Cgev%G74*Hy?}K5/z'jj)wXy!l:,46;
*29#TCqP>84'~*F^6l[T#qy(,V8fM5)17a_~6rFv3_RV#U7m]I=pm*LCJtfVTxA/Wl4(DS{m,^kIGm,$Z1ndAi;B!Gho9|Z1G6[C(6'P&o;]Kuq9kY[+[W'Wjp;zs<%!nd]Oy2{o'27fIQW/|zI6BF
0Ea!;iqY,RiH~xHK!E#;HA+Nfpp~[>y2K;Dy3.ihf5+J/E[Bl31<1Ja{?RV;JXq~y4+$O9*3>9X^Y/?3;Vv:Hy*I!a6CZQ/]}qs,k'kJi0wLk{q!z3E2&HSh<tB;ItYmVjW)`61cWtOt{LSeC~'p`;
')iCjV]dk7z;3I$^K7dnj~82)7K[1MPD2NImcwCjV6BR+`Wv;=lOmQspqZlYSEgCt~]rr`H%Ds2m^lk{MAM+tRg/9E)<o6)v#/eff>mkW5_X'<4r}Uv;=bcsz:>O)P8i$k)9HxEwi=(Q;19rf5U`|W
'V^uK*onX,)bdaGf}k[L+T*UaX8p^R}wY8Pd77FV,o]Y6s^*YcfNvbgh8+otRI?O&rhP`pESmJJ(DEx3MYA:f`d&byf)L=o$Z=/>,=j#tnA=zx~V6p^a/;{:c!Ig3n|:'=uB1E7ej9i1Tp9q'N9x*p
S=zgu2/n#~u{U<6pnH!f}b0F;6V}4pRH{IY4r4(+ZRDe|?o0X/[v:vr_?g3HFxnChz>O3%}PCraT^fZ_[Kdf|ijz>YhR$AO]N#x}7hNZ)O:7saeSe>?{wP,6Ltd|sHI#E1O)+a{YEZz=WN_<4?Kukl
(JyJ^8+I;gFTZJO_j3HV3BTtm8,RpvI]~^T%~v0{p:.xeFiwaPY_>#*UiUa}+[X`9k65v9^pryVA;JDJcSoli_*.8;b[dk/K5f:;J|f;p:.AxKa5Icr]#Su>I_z:=JdZ#HMDE9)5P.$1x?U+3HKSMd
ZD{BEz4.7Bgt$rUpU2Bu>}z}PZPm4*?Bg)w_xe3d)lGP$tk6m;y1?fl.^66XFokC_HbFBa],~uP$2';MvJ?kkiRX0k6&8>DCt7/:bb)[q>%K[cP'?FvJ9iUz>_=Z&bC,QbAz}?z9oeO{WWZfJLLYUR
a*_cD34[{5a92F18*Yd#9!Ccy|_eKR=MMCPTTY~YmU.z#{}N4jx=L/I0)?~kcgakB|#~w`RyDhsnq(&'dMvqLSBCTP%y>F8TFN<&1hAq,Ce,<$8%'RzAe9NwQT[SV.p%avpY`dPlG*~VXHT_9NWp?;
^%oDP_X#_<|=9e|NhUHD'p|A~.QH<8*}/O#w3N/a5Qb)pEAcr`OGbu1GH;N^yBYYifoy>|8eCF(w]uLx_A5OpeJK3(]!f#J3ClKAR>fRcgU?#^3??pXs?;:<V5)m)#MH=us93UJ:O%w9$O;G~n>Kj*
E6xD~BffiZ4?oT~%v+l.{~kFd3P_x4;&K.e~g{O4wii9_dWK=+uwP&*(OmBL8'CVN!6L?0,}a*SH)K!sc[qW%loX:=#+z$OC+Y)vR6$=eDhw^2)Wuidzw.j(IA:9SmQb2kMTL]QH?Ztkt$ZUc0(U)y
g{^_a%hktlTsi`MT;FgDaA>M($5}[ejK}LXQ4Uj_daROF)x=^P?A'XKz<<3Q9Cy;uBV_~#<BB]UGGr(aql{7d7(kwH'V1|qLbP`uN:5=4V42HRq&Lwy+cB|S'J^Dk(y:k=gF6nPIebe|qAOga+|N]m
]]hJE*3rIT<Z__b?4Y.%j=i?Ho~*R$4<n<o:)}UOdC+U'zvLz{o/G86!4Zc1>9<lBXG|,Pf,Sfgm/&cCA)YfZXIdfq;%*7w+=pb3S!AwQ;QvQfIy!+2TOl[}AeDS9EYg$KEw<ps7=o_.ddH04V4q_g
?9W|qM?W6=Qu/(B,XQ+v=K=IQ7WZS+B%=<Eq{NE|3iKXF36MTY+,L*u*f7'0L|{2G2ju07vc.L=9Tx]<T;ps?3wh,TxcKzK[#b4=71K&)EE.<3XuBNU$Zwd%xZDY2wcQFJP>IY0~r'YT9.zfD%'K7p
7[$isf7[XuxaDsFW9mziqdmas,H0NJ(BSk9_[d#TuYD5Cl,w74<k1hwg}WMVR$,0&Cd33#0GvK/#=HkI8,:Bw,vs)8lx:nsu)?vJJHmrNs=KrK|s]4s9`L[ZKlQTx_r.60zvGbD$$(f%eHX7'oZh[?
q;={h8v~<ea4Dq~rnSb'}qu>Y5a!GvQlG%6)j:sRinJP<6+7#`]~0TXd(X1`B<gGW{!>s5|XU`[V;R;qzqb|Vs(i(fqn?XT!8an<#hRfd;,8Y&*z61n%G2yt_ASa*'.pE:ANeb#&Yz20%?,V'osCq&
/EU=nv'UHrh7>c0&XbXQhG),5KM:_>M>R1FYB^Y|q;QI>ITk&^_.+O19_sf4I)'ydVFn1y1mYrcQABZ9H=w&?0~6HAjp6&L4UiXG3AH3TSs?uX+PY~'$==rZ1<Dp?~PAm74tu;}<yfV5^rI4*c~2xc
IO>Iy6_*/.:6dn~dCoc,Fi1p%1x!]7(W.#s{2!8NvA_Lo[D;mX{c2q7%;6.51^xry1%Oh}{x?9i$(x>XI2RY[sZL>6On>26ASWXr/<cF,'gH7kkt4]V4;Qsre|h/>j]w^{}VS%MNaSw?XSbufefidP
8igYn/)X0zrXx~b!.21{nkTV18{qy[Nw+a^#kB)K:LV(*We;iKcosrb`zRE))gi=Vc;_TPb9(`]<5XhO9#3P5Q+)TO}MZO9},&)L:F|ZIbl{8#[p:0{?>WsJ4Z[[H5J'DUkt89ttVqm4ab=6Ut?P}c
n{M|5izBcBPdL`T3VEt3'(3FG&H7U,*Zid>$]$GtU).!gS_wKCl~0e33MdxaM+{E&U8To`DrZC>JT,B6$uSXUG&CuiYJ}X!paa~]n0W?]G8}*<SWWUfvKk$cbLR%cA5WvZz}V,]7b]hU.Espj<yk7z
fj(fL<VyhQRn~[,F(8>PfTldauv>1T^,]bp??Tc^jjqp^&bQOH3p8|Q61NJ8JEX'^/8:x'LcQ?Y'M.,s.[jHfO90VXny:Sz.YO&d=8nAj/gA}8}gTd8SASG$?51/de0PO(Q:[1M%iT9|W+32a6U2cV
L<hFNzIvP8VTfOse.4U3QD2m0bFSpyEfGm(Ay4Wl0mFx&RFFLD%ep!DRLbj`;JSZq/f(+wz1{m0ZY3GFl/#+N4.e7xB_StiW[v;2CM,76(asaOiPxeQuyQMNKIyM|<uFY$[iM+1qv3CYM&B)TEYOaH
hv!*#FN(8RD.RI.>f>Kz#%f0Br{Ns?>{]z5uQRp]R45U)'k(~.iU3jThq8k/=F3Y^qj&JHRSF:1PT*Aem_:s$nQ&2MztZ*O<24d<do=,oVKEhloI'!p5&`1R&Z!_Nj`G*b$G>3Dzk!{be.2Z4pLvV3
e<M2_lkqEvJgkC6)ac(P8_q8_pntLb'KhquQwlVM2QIwPIdLfa(d|9Nn+alsZyapc[=jD]'|madNrb(GRYco(Q*>?8WY'Og8`<<GxZ~+6G>pO/KAM~y``pZ*w$r0e|AiU!Tj7j+th=4&Ist5HBIDr_
~cfEG}Hk3>B=|N1~C!7:)^uq'A`GV:o2{Q.M(%N,X,Zr+WM/~0KqdzO}_<qMv<iB+{jSSJRxh+ZBS(|l{h|,(,}6^ZkoV+>{p'Cf1e=ntLVfp2M2cTr=dc_GJh;eyLSQ)^%n60F},m_IgBB<53+{ex
cKoW[ZI;B!X_gT>4(rK;`Jkwe0~6^|6?i[LNDNdYpy|eIsM87>&GeML:S[}4agn5)?Zs)>Q9#?#aK6%Wv!hE|X}u;9<(5Mv(B`({eEh.;i*$q:O`n<6vg+Pfl>Pl>4Rl;DU.$l]RRl4qPD1BiKaCtl
k3!*FHq%v:SI.YdkGB3!J;BF>ibeiS=#^RT.Cp${#KgRy(SD77j4X4~oF_Nou_ED4I[43=uH_sls?(']evwZ}[>t}pcUOYF,RDvugzw#CM[k]HNmB8kJ}OO,TG.LXZMQ=`',7D:lQzwg?^hF5cQ<9f
Gu*#>i&QDVZJbn^x]SVsO?cpcxZ;}<V4+aflH*iF>,TBT9AbswZI&KLvB>NK~mus>rsT>2y~ISmTo1+~Hk7Y9V#l(]MX^`e7Gy~>la/<}.5/s`$LkVF)0&C`lMmFiO^bQ#.r9n/Lp+DXuJH66mii6a
IO41hq1*Uxa$:~MFj$Vt4Tx;>~z(vkSrGg#!t]4y^YF#xth){#X:gPn&JIE}F$*L]3Ec23)AP83C>DWo%}u;'MCE&R^FM6L~~AUgkezrmFc'}%,(ME5ewv9/6Q4OVNOmZ3;O9Rpz;^%b507pw;DG2{
YCvuJW,8/mS2};D1j4<AcZ~`BtaQV?6C>nT(b>{<qvclUiyM{{Mg._A,=#,4Xj96;ysxFw<9STY!qdZ4^wf/Xc0>(%<qfM&XQb*H?tpRJ/~0m4.=3Z'61%0+lE4#;Ap!vDJt|t4,a_I}Im^N)mag}P
u:UFlT[V#C~UT8R5qi~OP0[_,Y<QfJM`sS$(OSFe]Z+v`RUyL7e}<98AHiRe~GANnEyBo.XRk)BHeEd2Qx%$TK.dL%$6rv5psDD;3{hmW|la/Qn*r{r8$WP{8cX6hOp,0dwF7AU=f9%mc2b~H]!{xK
gNPJJ4.hy;M?DjTWU6I8Fdq6)412MYKE19`V)N_D!*{%W]9;Jd}VhrNbkQ}'gILbL4>qSwL;W%+M4a5H9xxs:%&JtfMp4I;uoQ6n}8`|o<Bj]1PI(^KIcWUw#tW)+VU}922`6[>t.^i]o)7Bq3oAF8
!?f&Vyf)Gx.xH9'h=#Ylm=:Cl$SQlR!.Lc>xOOWD7L{PK+G|ce1_L)*:nY:BE({6E,l4f5.K+%>M..%MOqTabF&c<ttnX?s'6%)G6/A,LDN~41hh(=/aG7kfuBL>4Q#7iy`_R12lctvJ]_<3uc.Wnz
v&!+Z$;L3lYxVdq)vs(1cd?(AxLJ0T7?g9=f~$['sWV_^*,Gk)S?m`L^3U!';pOTq]O(B]#6<Av%/B,6:zk~h{s'yQL~Ge<^NpL}'`?FF,55#%>{OgTAmQH]V:Cr0qyyE92.&mR9BWFB;hLrpS9$t?
k*fZ^,CV;;PtG.Lp*Oq'7$Vk0tK1%LRQn]xipxde;w^m%2&mhzh5CdUncO5[;4C_+9j,+kSa^YXHiifl5bxu}*kolS|/_X/p'S%m4O(Vfq=LzU0REP|<5C8qIHtn$<~*sP~6gUdS4Wu*{_t4b:d6+Q
[R1AYQz=,~Kyl`LS00gAz9b*={w5a3IBjQq[pij_v%?H*L^5)5r{z)N%|,p.fsjoQ!oQJ&kide(By{V3.x3beW~(G;`z`=M3iK3.a:$axmL=g(iF{Z:`j9KJVcpvN.V;Nj`jq6:8E/J|FYxdSN{6c?
+6}smm2eyVU/~E=+P'Z}^q%Q2%Q0/7/#sg0T!(*2UFNOw^&No']XVU0)VS#sW'=KE}Z$oJl0i2nHeM63}.9UE{XCY,wqGG^K5K`KaqKJPvQ],9e0c6)X8fkqQ(GXt?u+r=3fRs:`81aK4o3^5zPmNU
>_`;6Hp*KhYfwhX(K9$7l.#.#:3K2n>UGj#=,,!?=]_^etRw3M.8+TH~&c!Q})+&L1q+v^?Sc]fd~.R]d7]1FtvJ^4Zf5r`KYQlGPAmWIo_M^^Zj?:J>|n^9>rb2tzI*fYd8{)64r;|`4kHm]]4`zq
z&X/o0,jC>#}Igg}smD`m'^$(tAnDcA[Hp!nP7UIpViD$:jYh#;VxG&_'T89Cb6d8(OX,N,TU$PH6$>qu_:`0v^WkE7ZU]TzQ[$b79>A5FIuhSP}gknIM17nb7p.ltNe4,3GI90~ngG/[}EVyfip}#
*'imZM`m|fX)TamHgiG;2>KI8Q$9|eIoPB.ev24DCqI+<8hbd+`=B3d[1e]0WX3.tX;,/TTTHJC'Z:MIe'n=+i#iixv9Z2T?Z0piT2nAoJNNj$ai_$/d16J,3dK+M[Hcn1W//&M7)!B.a4v%Lwj2w_
:Pa=$Op3ClG*OkNd0a4?Mj]^M<55N)}c!(!|$n}T')OK>`VI?#9/gfIiPgZ5bSR#,KvqFW}9{9K0Tf6'r]R5WIk>'[)s'Yh{]9`2d7`YE!hx6zD=$C_f.MT.z(R^l*bQ:f>%|aSbNN6#h'5*Au4El6
<ztf)s#Ce<jr7W_.Rt'sZL8_xNFD1QUJVjC'cm84y~oZabzshWC%2L,nBG+go7^HVhi$N|!2T^EF8;&x74TNmXawgZv+P9Kh}VQ;>50H|feKv,!V5Bgh9B{maP>^1zH]t3Q5aOhom)_jH}shPtUKmr
&|_RsHizvLM.qj~!<{?gvr[I/(hC=3+/+UL|zCaVrQE%O^DxZEfGV~Vo6jc0y+#L0/j_8oP0BRYg%n/e'`B#%a/rlG`'RV(7g~]H/lto6b~+uoQEBw&?|e#:q}+*U'FkCpz3vc89H?X6(mt{53R9FJ
!5#!H9rdtRL]~~a9e%2PfH^;4}jt~fuh4wUy)~dEQLwY|RZ](M%K*ezdv%xz!l>qjsJH?M>i}67?%mj~8E6B#]`}..poyQmAU#TwX~f|H!deLE^|H>/aDAp5;EQIm2}:~ub(0$WSDZ5!lOm|8X'zdB
$t0AOqCr,UV3o8Py*h1A{Mi<gcZ+|z%[}3O{fHw,u|MpM0F42:JRouxKl(GgV?6VTJ:^K?tO3/4N^^.2W6l_R{)<_sR0hg26TrOPb/(w,X#qc5MG_]LgrZxi3;uh!o4B.=>*$N|#wMyU?Q)w51MU2i
39=Pr:&c}m{UwzQ&|uFf6Fzfw[&la3/FdfAW8>YB8ysu5P4K(l+Ujt?,9%[Sf.mrU|hbG+0)G(hT1rp~Ywu5.1#O7#|IpIT!,/dV%L}JL._uRKmtq/M%$9`+}8Wg6?37y5&aT?ja3hR]J_JoxMj.oz
x/S<!Svn~o:4sYg>4T5YM81=j}OzA^Ytb/2U0K5*Xi&JJN(<BFPQ'b{`g%l2.Whn9ifx%`=E0Q]D]gDuNvU0+IRb:{iZ9#E;&zVKMoP3n)|Vf}yMo`$1C~T6l!;3=2w|IEtjt{U_f}&jRD*u&GA.4d
_vzV0iU{>v2bV~0Q;eUx:4d}dhV>2i`Iam.IR7IGay*p){2[ohwgxT~cd?EO9_+cINDyN?WT>2:)'i'13/pNw9oYU7.71^{Cv+sIR(h1;^^Ml~uPj')+gw_x>|=P|BHXb,Lv!iD!we|w77'b(UUptC
~4}5+sY+rJ!:]%yvdjz<[XF1N~_Jp?1&UgiNY{^Mvy)V6=C&2[GJQ[W59J?[<WOi7r[V60AowPc+Vlz8_Fl$~rFKHPTG|epAI0IADhW3yDC#X21Q|Svq1Lg~WLR]yo*VJrAqS8B.n'&3&Nb5VI!4d`
5[#u#pO=5u5Od<LG4Yr[ykG&j*P0CLl25){t6+$w[HEzRad0ZvUss{{ANwys%`,kwPpE>aX;xpq6SGCf&VLIx`.rtu}}x&)R{S(~|Pr7UPI$9'H;]?;aG?b)He_k;:FomHzB2w<4D.bRgyPI!DCVz5
__locCnN&pP.d36<gXW(Gb=/W2wB':dysHNIR,Cv>A>lxGnCgXjTcXlYEcc=_I(l*%HW:n^ad2I|_v]h!<Soa6yuC_>d8/P3z3PCEoprR6]hzt}WpXNrA,jw!I[i6zXV0e`dg{E{S6THcZW=V5bG)^
+$$+<^2JE?[_*|:6sh?`QUY/SNF8q(}ln.SPM3h0?<BR*#l?i(p4kC*dpo74!5.qh&>B*LhsT([Kw{D1ng<;(=i#~i:Ij4wj8NuWS/|L7`8[?;2*3DLo1B<9%#MZR4p~QV4B(lAx3D!N=*(+YEG`'r
AAX/<lq1R1S2pFOjA#v,'+8'B*g`nLI=y{AE*)|ol?JVr36dwMZ?&%n5HM}3CObZOR*`a!m~?,Yq<z2iKROZ[A/|SOxE!.j*au$Cs1z29?tC|rsPWELEF63y,%70Ar+|L15RQ6}2ir$B+,wV7G*Px,
9wn7rV2]H6)c8):#[YK{`DWZ|Vx7iNbN:a&qNb[a(dbkeye2,]3ioV~G:'T,Xp(Aw<.D[Lgqd7VW<bM8y%2q#q.,2Z''&j>u$?DPu&2VZwH;5iAmZ:Zi1WA`R3[v.nTnUJqh>.DET|&vtuL'KCRevX
*cRGxTY^^WK7}7>BD)EMe)A^~f'[ljQoo}Wcwo8C_W'86L,Q1z^|2,oTzevoVbPpbWz{MIF?>}Ctd',^>SDkLM6pYzgfpcwd/IZ2.VC_(fskPjPE88*u90?sG=2gIToqRnG!Kn7PCTw0CXK|0/P/S*
K%W4g?{&d2;[O4N7$#(WqJY.%Ra|^3BN2Rw`A<3_'mo=Ypjc+QCp8L_dcX&dK0$B!iryD98GLCX}Tm8B/^SpJ7+w_=?I<,fW|tq*V0l+h4Zfv'G'r7=eL2ShSn+irl2x[?zl$$pn.;$;=[l#Ia3W9N
#LzJ|&:Sj):N[x:k(d]aNhm|Ydqv:qn1AybkntW7)Sky*s[KE2G[|ddeCv4:im+<4doc*=Q.8TdxO8aza6Dd8^S_=ACy6d{Q>RbtFK=)_2I)U}Nd!e$T6{h7djCpHfO)pWVX,yt}_Uuk|_EtY;yFVc
pExWV%&F&Y0#ejfKno4xdOm:T'hmiZE~Y!}XM]Cu7.N|j3kX/~513:Z*L0V(EMi7P6_O!YF)an^uMZ521c&wf1a/q<<TSa$c|uJ(=aUjOI;^Ii,Mb:{KT3}mTax,Zrr]D>jk=WwB$_s0(I9R^oT/dU
BTn~swKhKc2k[w&,[S.2d)WR6~|xmZLp/C+o3Z<2GaTucWf;aM/uGEAJpx~pf$q8QPv85&VN#1|*faa=umAxJG,>Vm{X5rd4GrCXABz[}}[$KO}*_7UcC7w?~KQwilu(.Z}T+^(4#l:nq2*xJk8BC1
~PcYy..5%tD24P6L5]U>=i+OTYayE:Vtm#P`k~%9W0U+o.]i0mhn.#+jn=W1ib>~V/Ryt&%X:mQTgj,CJhE_yNtQx!9jcB,L&JF7_&3XI8OU!?cCyFhCj2X^=QZf,.:%Q5/N%;nDowGk<=DeZPmO^m
PCzqWFZwR.%wy~R(!!,p*><w<BNq#s&c_;%St;w2YP,[_dmgc&PvbE]ih~_y=`k[A.gP0?|UYFW98u0yV)^>gsjd|kTUtIg<~y(!nxG3MuWQhhWXXOF1itV7:Wb8QcLk_ucuH2!oZDm%JI~shx?qGn
^ESpStKir`RB6K9ZCkWuphYQ5Fq%>tQC)FaGcXE,XuYkDy8qxAzo:x]jHJe{.Jk`KV#[.nb8v0l7lT<WjAi1zHyISQr'#6Np`hZyE5j$)Db)$[gKEhjteH')w=L/~>=/Fdj/]e<>GG9/eXp=Xh>l~J
LG*4%_e]E8Yq8(MPjo*sN^R1P8)>uduH!+H!'!=+hR,A^fMhWT|yk#d])Pb$.]>5ir5e{B}>oP7>lAsu]#52/4s`L~jaT=&84ATF^z4L7<r|y:>cem#6qP{nl(i,}w9:F#)pd(a'0p+PmP>CI7NSh>
j&{(OE}6_+<vPg}#5|=!j'qeQOs2'~4y.J5$=VU`,Ws?3*90cjA`nhQBk'L5:=,lJ,#L5K%9.jx#4nZ1iTSUa6uJ+qm]?Ef]S($KG_oc?BA)~.ztG^A&]sApd&hrxLB/!NMS8$~8QZg(.%V3!8KAu}
%(_OoC$W9=xYUzK)2)NUR*TF30<pA&c=bB7FI~r;vY86tAFz,Ybsy$G=#O1|29wkl,fVwZux[Aj`;fSr8Y&d&y%]RX{GRpQgDX7wH$l}<#y]FK*+PXX^fKF=ce'Ms=8Cuc.ISr{gf1Rmg7iI~A`K>(
W}CG/~x/,1apTDR%J(Gdih70#~sycYe.]ZC(y'XMTeCK/yQt0tq*V)G!FOso]gO5zPm&iu&}&U${C&vVX%SYZquhra=IIKK:q^962'h{CmapCXZp4ic0mabOJ1p_SW^'&e:b0w/%Mj)LG:+mF|r1jK
[WsU+Hg0joDpjs<gwQa:a?nAF7s<={+R/^l{#Cbgt_T*gD*ErQxxD8ac(!jV6q2#(n%O&V0:dz6}v^jH>J'e_^%e8+P](|M3n(`}9w+2PeeYVxygaO~:k:KGVgT5w'vb*P[gB{>!`U)Kb'vimltTJ6
>jhX?d?P^$+6,r~/XAj19T[7BBHyZhB29Sas%rr0SVUz1I/E3vaL{95gf3GXE~bU$[f#nZYiXrR0SYQ!36'hGn=e?(TJ|6C9bT:l*XmI})iHa8_(g+zDGLh=rq/Vz</{#CchiS=>rat>f]%9rI{?O.
Aw10f8EI?w.O%KUTH?c+H6ZRp&P21+{k=.ELXV7h!oE.}5;/+F~J.Zn='S`E}(}.1<qVy?)e&:AthpQ'cQ.#jk<w*rzTsKi'T7K.)<pdP3qA4D.R2o`Z!~d:T=m>^m.MGA,K?0^E)TJBIQGhGN`zF,
DuF,o4$eiIuiOL'ngzSL'S%m5NZhrF/C.peo*l6{gsA)Uz+$kNl?sA7?e'>kV3vQrOO>X.uF5_dXjFa=zF0X>wksV7[,s3i?ZOJF6EOG#P^nBCN!}Pl_h}T.fIoyh]t}v>)9=e#|,A+P9O7oj(h&Y=
,ce68kbq%lM.+$rBbMn%'.bY9[ZxYO#BwLGj<Th0s$rW8r,;`Hf6+%k!t3<6mPXL.p#Z?M'X|fZ$:3fce72!h(cl_UQoCm]/YNAlZiD3=ddZrI!5%x_HYFsmg:0?<7DS&bI9d`*vc#sj^)C!8#ew_>
Js{C:[&IAY:/jm+a(og?(yZ4siTqb1}s}TRfcIbIl$8259=0*9z!%,KvXHozch+me34oNm~$I+oYQ[mqdjP)seo#X0)n'8p&BI8x98=7:%0X=PM[yLm|rAQNxr83MsI0f=$j$?IH6>eD9lX+5_MWBA
s!m5Yy:xX:$~CvE[uTac.ni2{r#Vpy<%=(,X.iA^zAXA_`~b;?#.)3+qgG37gL.T_HpBqkqxNd_}qP]'^p$_wbs.xDk~_Yy*A<v{v2Lk,}_Z0D`G#LAWHCv$SS{YQWAiBP17)E<j'w)Ji7rzlnK|W;
#+=>V.VEJqZVKpiAr4oKcAeNO]=Y<Jg?8XHU65<'UrT2=qf0`)ONhy+c6,q$s*xqI%X5%++GV_P$1o*9VP6=DTLYviNy8Z!cfz|9*2A<VfMjb*I*9v[;HBf8N{^t9+#wx6uam~F%_vEu^z3n0&LC2p
4K2y>FZV>Bpfd2LTu^UCT_USVx.dhEaUcc$$i]?>i;P?z;^k/s=0.>^^R>47_p;5i12:AoF'jZk[*DQ$qsQH54Dr>K]m./19PU)<$~<Y6M$mJ[6dp623FH0ijqx<7_wxip[Eq:Huk}qIx0#BF.2Z7r
*%U]z,YrO}|Zt1a*L7!W9UEC!97FeGQjs'A?qRgtN&/blE'0Uv?#z$i&f7t_'^`f^4I15y.5*Hgd#O+N:7TF0c9O0:4O!n1f2xX%$%z_df~TwY.>RDQFNz1fs9p'g},mk&QeH$,&;}3Bfc!mR|pA;R
*<s<2:pbkc5ZGril)k&>7Qj<3!R3p:]5'fh0}}iNM=t!+EhyJ(UGa|XFj~{]E+5|+I|p1uZ_<9`5C4q0vh:QT[q+7+rjjCj]#EYS~rJ!?XP?Rp0yw$esVG?t[VsaxmaRq=XvP*p546s>$d)oa*:#?2
>!w8s$(AvE;|i|=8/fGbdEIy?)~%nyAk~Sw]Co>M%q<G[=]/Zm*TQx8/y>+5}+J{FZ][)ZZ0mJw|hU326zH2jf;6^$7=<}3k'K{1dNmYHbBqY6V)M]fGma0.}Jecx9;+D^RXhJNDp0Mcbm1E_x!xV{
lp<p;;iVV*65Eh%af;gLV29vMCj8Nt:*rV2Wvt]VtB[n_~:S5x>GY$)9SS'2L&`zDUEw<CiquS#=.'|^?}MzO0gR#:ePL|c+P4v:+tchOLI.4<U4&dB7#Z]v$Y;M~AjHJh:dWE^l('B4xG4$El5:~=
&vDi~Ah`J(DPuGk&G~O[i0.)hg9CSvHMA(q}|fYwKExL3g~d%Yg2:_B4,]#b)k+Pu0|8mMl'P'3hA{v[FPXACeICgq?KJ$c?D1!)DYCxA25n~(/N3b^Br?Zw)%?aNxMXY~hgGq*J<F!;Jf[.f:43aG
%YS6[tZv('FA2'&E`TZJZ:uo{ii*?qnB:xq?Lx+580SQM6aqRtQbt=[.{zLfk^DSFglrmBz(L_P%oYY}I>Q[39^h++VU({(r'O`YvqRH}[[Oti2Rf'b3lU><*9MWFJ|,W0>fqJ[JRk&Xl}[xTJ8BDi
Ak_=0*%.Wx1cfQ{46+&c$wtq{bRQsB!EV73y7]B80b|g,$&q]'AG/&d__Ylqt+K<{?r3V]!VsK,KJSQ6+}ge*M5<v:$sCs3zqNa.(1o0d65qh(G*i_#c^Owe^!9/~v;U+/E]Yo&N>+B4XZVbaWG/YA
%YJxxR+j}fXKM0QuB52hU(k78,/2D<rQ,g|G0>[&F13y2del+oGqioeLs.y0ZMyLY1!6?R0mK$/u}0wc4AINGTG}%`u1,X_Qi`WpIGg)4[9rQ:?!,V~x&Jx.CKpE,|,<dq]^x3?WD?UouzLX&F1{A1
(shuy)gLemaNEUZv=UA3l2qd3&5bw<~ggOkd#~#/z]T*dC=vc'4Hu9DV9j_VnsOjzFI_Zny8`pPyTk/phUz>:ykeG9!C|5;3F`H8rSOzV~]Ulg<3.v?GTToA(srI]G+~yIK]%DtXHcm)K0K$*<{ai:
08qp&4TjvRc`Kn|>;>~Nz~'Ru!'jQf<wfr:fM,ZqwHLyT#B>EwD?~[X#maJ8:91tkUF(Y*|/.)`Mp0{0'r:i(svewL<$7gn{Uo.WoTx$w!zkk[E[>=GrvjAb(l[f{hAkBCspE%D?'{w5kTbeyu/}>y
1(]?eQo_1D({e_$wm*{CBsFJI7<f,68M{)mQZJ?t^O]uf7,}k&5,viTWL,#$rR>2qY{3e8RF0mch+TUTQjg;_$jc8O,YgTgy:0}6WU0pK{MThNaJacGG)joLgC//fmQAd;s_,>GDd?lV9}3:UHI4#z
0{GSpD$TE^>U_0o(zL:JV8s&SRXS#l<n%,|(et=[tZX^U%nG0sP;%D?[Yo7U>19gmffF5f^:An=I9&|lqx*]VlsRW6A`Ot5%T1YQjJ8:X'Ym[~/68FkhngyzQJ6|s)CQ]ts]}C|iVsorDP2G/,)F64
ZX7a;;M+k:XY>F*Me`j:GJ#.fT9q7,N0_,%haF!U)sSwnNQ1If1KS}qc|JlQ0gzm5dQB8YVE,hu5Q^)O=NDh'a+1Q2K`cLn;tn6x5O6V0!gUTJEJNx$$F%u3(xjK(,S.wi*azQCwFd9Cjx<Aq6*Euq
qVUlenE>1L610AK,^A.U0.}'xAQO=%mOo_$&9TDyo}<]3R?.%h3&!GrW'`C|B?4>Rlx:Z~PqR8#djV!Ox9]K:b3}iEEDiZ|K^Cg?Fg#h><w5VZu)'kS~MqdJ6u_O!Ln9+vGYP>$R~V}^28'Q8~zx2M
bt}`x97gCvaM<Py^&OawfL2O>soEu._zv#=|lO?0&Dy?^c'q[ZU`Bb4+i|o*Dc^Kye30NTCmFLrgcBF`mdHM[B6Z+ZAs&`&jc(wPbBw7p0dWxH&}B(T0gXDex;;(.},2Gtm#sbu:7d)S]b9/aZ:+Kf
^QJJhKhy#&5H?d:XwOTqy,0LGy8bQo'<W8&DNq+G!q$#WP%+|,$uLI)blf{_KU!sR;zIkea5{p&(L}cA~PdT)5}o=`JqEN}l~a]]VPHDk)Im,9tG{!0q;{xgG0NpR}9t7u=r~TWOf#I%`[+]jOY5pb
&LGYnTKhNpSHBl7(!R`_HRi0oLH{r^2hZ^cE$^e[8}2jl~HpJW=nBnWN/Mep0#N_/|K=Q13bRHWPMH<k^y;8_GX;id+]ZIasV_#&>*t(;_0_tzNQcMcCyBdj!W|F]HLp&oJ;>>Xo;r:a5.f1:7|3dz
Q7`5hF!5Oan;>ache#U3(mT?<2q8oC'_r|2wf76wo~<5&pe:L=LRD|k[YBr)Xf`iyKdm_b.#F53z4OAY4}GO3icy9;j3j9MJIvj2n?$s*d<>$!5zo(#/{QV^qOoeE>73ibvPysbq(z;NcN%}a+t&Nk
Kn0R&Usd2aI'Zk*4}qOzf`=0Xe}9LU0,MYW}dhGGj=/mNR96DXx94K'Qu~j!![aVfip<.cv]GuzXXftb?'x017}N/~tg_h~~A5,8Jnl+_U2~'C#m4Q;QOeB*PU>m7S'iaFUtE(>.BecHKP])<<]ng.
):/KiZ?ZT;3YC1{}24~n;I34p]T#Z9,vxgy)0c`OI#~*/~vMqrT.Dap7%G7NA_X!t:PSF|+V_3[o:exDmO+;c{[an[uFA&)WG;6X`;%l(<aK2cTNvV*E3A1A8[XgU`~g0s9`MMo!iED(Qw';mWyek*
9ycj?FW~V_76dWi1!QQpe:1x4n5%oHr=BYLG]U/%Z[$*EN:'4(ss4]=FQ8^/!J6t:|%~l~`$BR:i(/9>QIg]Y_q5%7rD:ka8VU<d&%iB;ckev2R&`M~pB'!/DrDF=U.g!Fe|9.XDPTB*7_<RRLKT!m
,NOFF+)I#?*(qqH*72Y`J(Pgu<=~)>nFa>eAK?mxs(ssC~~=+JJeBEMqzgan$5mH+EuC?yfO{:5jIl]ENR#vze{(}uzS_=|GIAa`Ym5Du^wvFr*FPV}y9XL7sS#)m,$Y|x2~wp48M6<r&M|NEL&2rT
Om{NX[(OUnigiEE*>Hu(&TsKr;FlOAG&sSLZ8[%BM!hjBzQ^?Gu+qV^(>4r8(MGb=Z{[>9/B51OCW[Y?,FuW%lc'/#tHE.pz3[b|+otbk3TKWlx/N#S%BL0W^'6Ew|]N]v{={kqwKsFEDc:7<FzvxQ
Lv=5}vXb=f[x3'Z|Q'b`VS0fQ>X;iLoBdjrCBmUB/pd6Yb6LKiE}y<#)Mi)^h=y+yu$PIu;I|_2D[:'?JkO?gSkBg;MZ{lM:NLLFI]$TC0K_oo=S`bhTDV&DA=}+u*:7_~FORYfLY#tKEW7VjZu7zY
.4XaI5DRb[t2kL0V*v5$N!/D6vqk85$ji%v2*k(&|Du2I<y<CPK]`ODBQf$>LC~j2bc;gxnQ[`%zYJLt9m=q)i1}av]8m1~UKd=t+NE:j+;xe{%6$c7txD9X23(HG~OE#Nligl=#HQvnlHOfvJ591[
fsx~R<bP]f(xcJg&mQ);33O>gg8nVm.`'!chD<3&B^ah<&efZZby{!B#)xb1.|uqH=E|EzXJyR?4Ki](e/Lv%g>AwBc.pcIN&E9g`>0g5!nBKj:btQKM`6l>)*qp;?#6Tmd}^tmDW2_#kG%t6L6RRO
+MKHv!7Kvwb/hwZyjE2ct`;KZNLSkU{~mvIn)ZXsEm|A^6!kD^CKXyF*dv`?%O)~|x+bZ8~3as?D`|;`]:~n!%;[pkc?5(dr^q:{c_Fa[:iPTe/yi*OEzGmirD))N!dEjp?^pA6}{%_.*`=HpOIyVD
FrBHy$y]IYi8X8iqS|7p[%pYIxGUCrmmipBc!$fzAU5ISYOO;'r*>aPEW;7wdVfQ6m:1Uk]!8DD.`r/a(5!(p<^h9BrJkCl]Z]M9ex4C]Ba2<wGv;oAy/A,3&ZMT^1+j/'N5RsR,*LQal[3xe)ur.|
X]pMSxFy_W$PExQ}kCWgTIf~sSqbxEF_veRR^bUT+[FFuvMhA.R)'3OH%o{5C)QISf9cp#)Q/F')tD2>t!&Z_z~&pd{:;J*0OZl+m1A&|>0$uiLSbo3cR9&x_qt|$|v&#3#`=}vQN2nn83Qad.]{q;
aF{BbOkL){c]>ZPx<&DzlalO%w5ixw[lR6D'_vu,CzKRZ%+F4sfH<zt%^!NldhU4mFx89yu;LjfwjV_OV?;sNJJUsv0QH7ec3Y^`H4pv>9#f(q3yX^jXQV/C#YYo?djQCY/7fU~.Z:H&Q/nhP/:ec4
B./],||ec=Lg.cb#$txs&kBQs_bs{G,3ip.~!*8SlW`sHqWpvRU9%.a~I!JnRP:pzAqu$E,K8w~$lw^.E/.MN/T5:2/u?&^XH]T2~m^}L/e||tQtb/Z63^r_x[U_3K[<[}eY5>3vn3g^nGzXwCh09:
Q/8>)3rIm0P/..BHj3`BTOy12%tv?Hwr6Y|Hm?Z1D*zgWniodrcLm$/uq%Zs(5SAG`074F,_`{J8{22wg&0J+*R0ni7}b&ubS8cNZ4+HCMeaQ!1*{`ycQ~v3h99<W2`XC=N/HB5^P'O~!RwFggSQsg
wud[/7_3ArYP>BN%VKSef!h7i,(]1~{m)ZhPM(.pVZPXq~|sU&M1`Lr<8^92pW9':{8qwUJe[XiVQX.#kk9{c:g9m.,?B3E8M%XOXr`<1>Q'WD;+ID9H/:V87uN%v5U`&%kmA_E=hc9Xo31/Pu6XS/
%wUP#_0!DB.Z[B:Cw=RZ~evA+~&N:=#AuVl:>)ToX/F&v_3*mkw%;mMk.KsjW!;Z+kzn]Lp4I>woV7|1<^k<e<{aiV$#55(')n]]gA&5#;|8?]Ib1Rgk3M~agw?,}>*)9A33KN03ahi)lkv`v%}i!H
?jE/l5DQ5cK</JJUyU%^T}<R4t+M+1OOeGhh8aXj2Vg'v1m:R)*MtVw?OIgt}7|LI<(&fEXKY7PWOD0_DhzvBa/lp~sFoe}?=G`ta<~P8bx=C6e;tXd4bYm!bnp,GJ'mU7_tN7h9SjL}=9suhzyM;j
FsDUT<#z[,fR*9+h_xc|#O>yXb2^XRDd7^tlcZ1,^XgUn_;3pq|QgZ,{dd7C*hWJGG+t?,]r#y|LOOY~CwK:,[nd9|0[!E[28oEE.[>KWts/n*<5TjHs'p92T,z:qR;|WEm{5x=A{#,`MhS,O5`rTv
YC;cmE%A03W=Z_u8VKD81TTnVwLT{/A(%ao;~w?w5hmIf/og7JQ_v6eRR]Lri~BVH[U{]LiXQ`cr7jTQMiB[!)4H`[:[hZ(8/dV<H^7PF)f,$DJ%ZY;gO&emF[uy`([A(`d3)H}wW.#DciV&9J[KkN
t]UM>CfvK]d?tae7F5mK:NAW6|b#3O!;T4kwa9?hti^/DTY;_AgulZo5(0=`E4jo!GuT6c1fi.Zk&C&Q~4Tv;pT5p6xuKsbjSf+]z%hv?e%38s[{fzPf~%<4#`!D2K59O#|DJVm&0PW>E$)e$|/J)P
Dfgdtp9fwTO2h4XP62;>?/A8'0n?+cp;::7!mhk73XXN}vEW;^ro3bhKuxs7WnPms7wZnpK$QdDsVaGnDNpa&,/U,2]<?KR6}V)*l~1+b>6p23R:~Q^dM4<x}0cEojrS_&'t+?K)/Wd~0Z?mp+PtCh
Ve3#}4dy&uZS=56q%X.``Q~u4_(htRC93am(|8[Ceg)%_<]V|?,%26[iR?xd~+u&Ds9$vo48IhE}~8ZxdF>DXlM]RnGRQ$N_Z.~Nv7C^l]<m.S8OH;'8D:]vS[NFFVV^O#gqQ{=kP#g`'B8BF5(W#*
'juB{h;W^+D?RSQq}gs?sV8F5DU$kW7GkN!|`t9D0g=tD~4ydA~Rs*%/rQSA'?tk[)s~*v7E[x)#uIf&34U|~^C:,ETZ(i;6]A;:D{NuYTb_rF/{o~HO'JHTvJ{i+HxlM#E{&0aq_KOifGtk,:JJKb
%I6p{1ksVsF.:;%>zLhj0X>]{o(,=f+jz*3d+&.,l{B9C'=ZIXsWJ'dY!NG<,R]j%n>+2b}eJjKL{4)GDmf+Dz3VCQK[KuWTc/=U]k3K_R`Du.(X(?3k}'!M+);p%ag63sY<a7l,_getJf((gjXs.T
RG$#WapZ]A)s0s<)2weG&/]4`}'CYO?bp[hZY[iYf18^^rBy8|%dy!1an%tjKhL(gBTc:P^*)$KuW~y%oam/ki0c_>2s}p_k%2`pkr}RUbK=X5]GV#/n]$L%v;0Q?ey9g0B'(`G#5vMQ#C^A[yQ:([
AinO8hWPc&Gvw9.J9m{W(]ohA4vH/bp=4;/pd#&O3BKpf55%uz0a(N0U5Wht}B,USK}9=1P9+]EKx;OYuq4xh0lr5SOPpbiM758m+_g<*_Rnc~kKQ^ZhXSWSVi~}#F=]WIa%Z`(,ZKN?,83l/y^4.Q
*cOL'umfCZE0HvvzlT'9+G|&m!FwmmY'cj1d,C}!)QH<:gys:,9qI0.c)VNAJ/`S#MQZiIo*oo(]s[u*Wm0B!4S+BM%Z,CtsoZNN69.y}Aw/7H(G'I=`F4!8?WA(J|VW8~j'vf!Ubs|0uDpxTj=ghR
Geh,i8h>zKJbqAUc)MpytMaGckGr??RN8=Mj21{M?.;cxpT&dZYB1}Fx.2=Xj<N(M1kRd_,ge4L*_Peg:IW]Du|u*Bp'M$yS}Ir4o9prM4+eU5,gi&hif_Er}db?F29C{#/uOM&h#1?8CEksbYKm~u
9Dzi#Y~VU_O.8)5.o%|kB.~%bn>OxLQXT9[H9;HiJoefA'&t0=IP47)Y>,>/$08X/v?8K8ghx&GHB`A!&lC(]6AMXK,]/Z*MJ|,`v0DE~PwH?nIsLJ{>1<RkA`hwvSf3G&c:$1~S2LL,5t=oF1dXh|
+P**1;(_+;+pQf|D`P<RB`[p<Lz%XCZ9rG2{?cr[iPU0U:$&74.XPk<3jUu`Ul,h6_<Jv^U<aEd/#Pd[~nJJB|xu|6icteud$?TtCTmL.}F;plA/4**|_ka^?h&tb/Y~<l7?KR>Sy8Ar;TZDe=QGp;
aT~&4PF>{,k9oOe{<38a+pJx}eGT+of+}avc|Fi=WKxZf.i)YOaeV+bklaU`,gvpDYwXKF5%e.!*IX;#P33gd4UEIt57w~0gpLb6wbl]eP/_6k>4HR>te3jZI5]10LG,_&!K:RY)r/po^0FP1Pb}l<
5}=p4qg6viGJhO3!::6{C;9k~3FH5%ZdHHZWj`s(gw,ahUJjn(e?oLY589Uu0(9v44K`*g]94FJ2:WH^jL.Q05VwgvjbOVC:;IvUys8]anPk=nS{YxFjT~434{7/uM5bBB[%7[waLC?Y{RjQOzTSYV
{lp_Zg&2$K/_Y.RQXWz5][&>'a7z9ht1!Y6l_]=G3k&K>K&pn4^ltV0Ina/)xZ+x[<ru>)8Vs^0=I;yjPgt;!LiIQex<b,.1yx`(^~gK?o^'%xCL|zzm)I(w`3.Rx{Tu6~<.;A.o53>M)3:vQ*]lLg
mvgK;n58yEJf0?Na:VtIf)>?2UECt12F8A_5Vs$3X+/t`a)Mnt/i#{EZIu!:H='2~UAG/f+%QFJ%`yF`uG(Zci.p{ekhRKOup~AI|/WF:gYk+jAjEQW,hLjE>ju=|#:$xg1b[e_P,`$D6M$fC]c+zU
fygts_Oni6n'ulp=|.]UhD#7db*WV.h(zv$AWvCqo).!~|pqrVXF_0y'yL?lwqSX!anoYUKNq#?Y0oC`?EnCP5TB82U{E=^1o={:7KWr1yx4Wg~:>FD|0Bf,E)F7SI5*&]Zzjnv2}D_;v]m[xLj~vS
9|_OcW!E5k<s]r59wmqK8v8$X'QzM~+y[bKw$:e9==q{zJ>P%4A{11~St%7d57jMz$fZyIf2RcatN|^r6'+^&U|>WQyi9#3J^vT>r']]E]i|*q1GjN'&eT.|*ny;q1j^~ddD$c*)eqX|(i}{UMep#4
mf5d;:hI2s7<1'4<f2XN+lU*08'w[0;4jb$sw#;d4M's;.c$G{AZ+oIsOd8Ykk|UXvD9];s<]MJ646aZ6Fid)0$$`n7`Pqmoe?'XRdeA5]E=&BoQ!2IelfuC>)F~Xm'$P<aTG>&^&Sw:aAng2d97GP
I#0b&9XTd6Jsf(0nE]<f^R>kl8ss4N]NIcs$P5Mzw3)(a!~9Pp>FvuPF;K;0XW&Q/o855`[xYHKHC*Yt6Z|7EBtaQlg4=%(>3]hBBSqFOL?v<^B(#>*b2L8t7U&P?w6=3b8;[bJ64fQl6VTik+jc7L
$u{:^6n~EKKwB|[q&pIcUgeOl~=~f<i:T!Kmy)|V7V%bL:Lpz<A3RaLx74SYVjxU?8N`~_Hu7_Nqi<z9]Inab/Am],`^2c;z',2Yqbvg5}o9*V__8N5dfz<m$}60werm4E>`vD?}aY+Hl?#dOKTs#>
#pg]F>]Tl&*X,Zg!^DS3.])PJ0W0G1A%BD_7mops?f,Q:A[o0(aVp&Fe>ZG.h><$?JCrbm5Z8:Z)O=Rcg2NcR=|srVi](Z5W#pT4`6!ua_Wb_$cV[X>yOF17=.S=>Z].IC<y`jFK'>[U`Z>fi.X(`(
N`Sh2R$=JfD4kqn2lVo5'2RzKPfKUpr|]rbr0T&Wx([4Ns^RimC&eKN~d;}:g:>FeIk12T7T&FaFQ>O6AUUKCDumG?_9/HpM[>.wG=]q)U8~(5$|fV[vJ&95TJoD}w0A3;&ssl~ys?Vg{&{w?W>7bt
|$$On}r!K5_P.pbpqU78A1*VXudRDb5/06p!CqHJ>hJu!'Gw+FIX9',3<|YNQm/y)L8U%Sm<Uc)/]FcEE.Mty~:aRmJ+lkm_xM#n'.GU#{.Zj`a^VC_U1)I0^8yTFeF:'FBf!HhoZg2v$~?Lx*(nyF
B1lZR+K9tB>a&XPyIfWq'jBTIkn*]d2~x!BmqfH<30>U_upxm3~O[?F;WB6HRRYtc[>9)%Ef{7}tOG2F/ST1Qm5UH&#i/QNs4'Flazm#vjlFZoYkVw)Gbm~HH5L**l'TB~%iFPoE9FV%im'^>_H(~_
<U!Q#)AF0=*s|;MB,3yHI;AOgaa5Qv+hW#V~i7Un4*.+XMdKjy|'3Vox`qWhxKsCB>uYl<)kj[{>os'ohq9H,7,%T.0tsZIDU5l+<!*8frKzu[R^QE'uZQkCk3wM,9HPLGtGG4KHFw4_l3TNB9<bwl
&C7xEbZ4~w^Ep2~].?E{;1,jlgV<)|**M)py4H/xF[RuNDQSPQ>=5ImSLj6o/WEa`prgj+.%0X78F7iu*t2=CP/H~|H=m?o(4>84i%ap;E?2]f]wU~$YCoY$C?aZtv|}d^QxOc!xZb!?WI}XaNa0HL
iGG!j(&4(CHf%Go_njw5%`n7hd_rmMZ7_P24yE,Td:(%.Ip7*>|y!!0j|)49{^goi[;m%UswkZ<<[Sy54pR7S*P)PzPk}H|!S/!]3}Q?2e#x+'PPLZmii3l<zhbrZ*Kr*,9Po^Y1?A'm:8CD}Ace3g
Xlf$_rS#,G[*11NPUxSGQb&uj3/UY&5WqQ[6W>3(*UL6+EO.yUjT<JQwLyb:3];9{o&qL!q<Wt'K;9:'(H,eUCxoRn7FINrf03XWDj1,pMU5?Wv>0i>cUMFK4<_H.GIgXNpeQ'd*5UKb*+ZO44mZOm
P[BC6`pJ:$P0rryhj9Y_0sLkh2C,AxA?>(31s8cHm}7ytJKPewWO*IYbkY[JuFv|gzeB_]>tc`8N;MqZ,NV)<F6g4hp)Rn#QL+,Eh;pQLh0f.J!HS?h#l7[$#^53/?STjIr2,rJfZ)]ZVx.lO2u8B+
1kW?EP!4+5}8Z_+<ZB=C:5.f::?V>!Pm##.GZPvX{D[05v^]N6l64O7}^(I^!lgt&P*g:wA6e_~~lat#xGNzv#uFLZgC2r.^J#)N8KJ`_t3+v+zuzyfxH$x%)R''*$xwH|M!P4!smGdob2fDI)?`5c
KAilSA#Hh]RR)p(oo?u%Dx=Y^M8D|wa)|/$I}Np9Wi{1Eed,|?,.:Sr.q^kCmIFZjH`;SP8ytzH'*8GP^N}[11+HFes1Ts,te34|Es.E.T>KG+nn<~0]f`=5R;d#%8LiOsD|rt,MXt~D8;6^_l(Lsf
_Sd[72JnxR,SeBgU:!i>x&0QOctt.nj4N'V8h*&AQ8on'DzjMgfJ(x!/>VtKoLNs%:`ncWkieu}3W|q2t(J^Jo{B>K0|)X|E~%s>[o~867r4%l7<N/_omPc8TD/m,CBygXt5Ziqi&j;qyoP3!mH_C7
vr#rfhnj?Qru/Tai5r/Kyvgw0|D7(CrU|e0K%nVF+l(+*iW?hlFTO!^.R'98j,~sBR?mfw{jWj+AO4]U.kE/0{R2f6XY/`9)ZW;f%!2(}Q7:s)7NI:_bvWUdA9?cV0yM{n*e^zFyBO?P`D!s];sS}I
z#&3%fRT<2k.8JY3'^TEN8l!CXD>`Xzv{pt&E9':wR5{87D$k:W?Vk?T#i}]QXEQA#}6Y?:mwv9bwr0ev5Jq9W+y!~}t;;oGJ11cOL3oiFm7fc2#jQBkcXx44[*wA$;R`ILhYc/R{bK(b,q;%>Js`8
!KYg5J{Z+,x]IX2J*WJ^ZDtGtfag}`w_}di>%bSDPP6aJ37Zh6>(sA8,.G:??&62H8en:X_j9+b.#J+#v3nw8`$oAp|e$8DKI2?Cvk}D<Ylfq)Bf?VnQ3nK?12zf+N(imNS<6{cdaW$Y_fauKu~iMA
(p)d$m}K0|CAbJDth&5=2mlirnd:zGRVr/Xi<$ntzyu{$nD*&MyT[Mm.s|3CWI1(SL~SPrFP6C?*#$/0P=WjIJx0%shH1YJLx/i$Ji)M}E,V}d{g~0]q}vUZ$SqJ]W1/5eC`J}FzGZ`gC(iyhmSJg[
4[n8yOO$Y!9&'qBcK5|)+i!sAKIJ?Vn6Yq&of9xS'k;tLk%EXkgH>5=I}e8|d6~d=vBMgc%[tT,ZsuD^&M4t.h0|+{u8s|4Vx{4^+lF0r!5G?<Sxc|aPpn&o.Jy~!'J?_]Pp?pcm&K,7Plwn<~ZmYo
V%LQ7n4#VWn4U+/805RM{c132h#r_:b'.BPU1noD<pO1ys(Qm`$2CXdwU*>DD!E#Yk|,*su,<(ZCYbumi%cGFjhLVkKqTE|h[;Gu9n46y%|)IOv_n$ryXE%e&X]=cTb6x,S^nT`~QtoT)0+BhGRoA|
rz`_nc{8[]P}Rx{~z>jEMlPS^|IN(3>z(DNP'a&!Z%XViD^G&xO`ra9b,;[N^W([MTGGLr^lB?}2NYx15XrhS0UHd4g3x9$y,2?}NFoZz5o`1z/:[_*~Q+;=c4Fs|Wda,;D;nR:z0N?wKk;Y=6b(9~
9NA+<sCEUUe?^.i%_hTmB}q)CJM%4sO6NGOx/aY8.8bu+~Nk=5V&wN4zuIJH?Vk'}7H~,6'b+(2gyt,OQ&txLX9p=VN$P8sp&,GVcEK8q;9W;AuQndKRBwjB.kLBjtQ&6Zr|OUBlBS'f(sZCn7/|^c
dfe,D>b68'<ES)g}N2U{Q&Vd`7<&$1wXSQo&l[$:qhM^zLc^Cp$T0qgqAE)m$?|ATWCzx7Yq9,M4MDn=0,W`&1|=64l4R3V[TBKx0#xhH?dpA%x)al53vbK=N!]_|T16&&9ZZ%iM]#}pX5}Zttl!T#
`^<Wgj1w`CWvofK5(7Hsk50uyp[s#%iuv$g;iT*!QAh;Prk%MWn4^vtiSju~}vy34h;Au;+8$M]{M%1`<YK&cu<2qVJ<Q`6py,6<:SC7ZbQ:X#S}B|KdF;Ma'<ot?z|0uKgkuK77V&#}/rIxfTY4Db
QBpd(n8>/m>Og=/ZJmDLpVR+22zFgZ#S#)`4n$R'`#GXjsadB/dqOq)+iBx}c=u]6fvdmUMT!}n>H[fyu:oN1OdwkQ4&7GX}{Ny}*yJT`^a&042`#itu!.O1w`b4OIA29T,.r9o//,iQRCS#3Vlo5f
WJLaZ/?gyGjA{uap,xrrvq[Jz07PjS(pA}%h+m}Jwpm4pyJX`1{{kCpoJsuuuF|wM7[}u|lf5%4txouLNBXG./JnCpG)W3Sio8kf6s*$Kmw<o#+gi~co}MW?wf&r`]J[[0g_qK)&kwdSn5r=+)pm4N
ttEcO_C^::g{pl}{Mi&nzoKo!PCo1w)7^`%<<*'j6(^uPrSCgOSa0.u:efG/l1Q$/1x|pm!n/wyaW^'}R|KbmH/UKUT{H=*9F+sAd0%`~v.VXa0:s~D~2D9/>2M>&!GpibHvMhu9g).1q|>Ap7LA6I
){?Pi0'Sm{<?BZ~8R|3w71z/1r{wo5&a./tX>C`lTpBA`07c:qI?&Dy&16`EI6FCi!/aA<?X{zR(n(_8P[X2}s$#i}Iz~/&o8FKClDoerV*{s%z)$)smXFw}En2N(U3fa9&DEjPvH~/U#.J](jeYWd
Qo5{E|mzZ^];F52Uxk8O+W]o0zsO,l=xs:r|x^%q+zvUsvu9F')apAEOz#Ol^C/fFT,sG?P7p!qt`z}SQ:;b7DF?j/K]s]wMRFqN#lZ0`=Et?6Ci7=xW/)OW/DxQUB9=%bxU_*m$}W3a&Aj>F1u|5|
)=Uta.4B0N7.XM}qsP^7.)ahVb>D!|&~^Q]O6O&7k7OpGhIWAt{4RX5pPj|#(giBw}d6}6eVKZ!5Jp0tDWqt{d&=Z=[%sm1>c%A*o58vXPHo]XJ5k}<0[~kBqTQ9D`;&v$Kp]{}eWgDkN7`8Ne^(7G
l]Ldq38jKk(<>d{!E$la*p]ZF3/nKc<Y`dJ4Fc/urg%kWtR2SXY/{yEr$iRjj_){^N<{[ONjWa:1xt<xeUruQU5M_RZVQX|1WQYMJ;+ffSLTn1|'iXQ6>u>R,9.i3yTGozd'LP8aF&l=?pM+a;7CGW
b0<&[2Qo(($~Jck4JQn0JLv<x(3nSWitGt'b,s>tE*mhqkEEf>zuZS`_sm&vtAv4>7C02a6z?,aDqCCE*}|C|eYcw[^eeKrEi2P+vLX7Au:ZA^8+]wb_he8bJCk}IY]8}MT?LJ'm86+(M~iFu[+}(s
N4g~e,GK?]<^dwspZ#G]%_M9ng!s,aoX+<zIdr^Ckipr0%PA$*1T^9m5GzWw}kW~AwC5Nk!w/Q##:1kYIgtmQDht^I9B8Wkbxm~ja^JM/q6WO&kTFQqhq^M^(e{j9pT],pH(GY;_ZVyazC.2;Duck*
]ax[JXv6C_TIeAbpUm5&J+S;_$OKhDwz8tYEtM`Z,yNkAj?:Fcm*/zIj0'jU`T&N8$b_x|m2Ur.+{R1Y}j)~.jG4gZ3/?}*/{'0Fa2vMV/ZNI6g;:pp5&U*MdamT)Yn$kv$H;IF(.xNVcxi`zS3#Lp
aP6+&Z?nIdnCj[g`fy1+NY2W]9jEV;cAc,q|;DrV]P#[eJK0,T)ytexC[R7F0[5crcaP]EOffBsmU0BMqMJt:~PfQ<n,D|`#l$[!yZ5>$],697fqWsGI>C[Ruq6S0Vz0=L}sp6WlqF,#wc#UZF9?]a
y{)3MJ[p*`lTq3GOS01+f&JDgljkfy&JD/3c_JDf1&S=rt=me?8[w[O5{*!gJ_S5Mk6w^&`dvYM'CHf85A~/=#7GoI[NZ?>mF?3`=sH[}Jor(47,fThThFgP`$P29QfZaOpoLF|3=1wPcFH+/edm2h
5kjWa8?J/WtZYuNP{$65=aDMh5cI2':E}IwQA.$&{9l8Sr_:xWA?Vpqy2*j1uP0&fq5#7G,677D#8=Jh_Xo`'~~0$roxU^Or*4:&LOP(>?}{B,O)2I1sFkHcjVu<VqF$cE^7*UNA4Ow6.q9,+?lOhH
'H'eLK~LcEv2~4p+wxq*{o~VDV#Xs.v,_VLs&;=UXynY3lFDUn1PyBQ[,wFa,~sfQ*k:k0B%HO?*2Kha{103LNmeO24y.vH6_KXmO;%BR3|!!?44.77;[aCIvR>)ZCXxj4vM{Ta$UJ=twYOaY|KLSR
Si,/Y5BfwG]lOm%RBEPbnY([^]3t4>pd5Adn(F>Du2niAA5Rod}%pjy;9dP8ZM'5/pHF|2)NT6?1IA2*DmG$nfT_HUXte<3vitv[A+7g|P,=:hi_[e]Nou8i}P76fqe'wWX=;YVu<6r)i3<FfGJh~>
a!Dr}yFL>K%0.BWx3e9jF7I}~G5?t_kX4!K.ct3+?;N6VcV)5]$*.nM<k$&7yqd<ZvH$|7B7tM{P;6V6e,Z>}s>b~_Z`!`_[.iSUSjm,a[RaDH|8FN$|T2!:v8g<C2J}<(89hbATZGJa;u3e(N/7(x
qE4UOQu$UHDZC?FV24$6tHrx/!1Mpt7L}4477:!aj<pThNO7W6JvpHC;A{.!IT$8Zu:s&/]s_zFPSdH#ea<]^M)#aOkF_YP/3&AWn4sQB.;8.hc's,K8:M_aol4]ct%iDkNh33*^RjLuB>SNIrun#h
nHBs0j=vLeJZgxx5n8!nU=GzMLuegK2j|;&0Paj.}nCy9M7aL5Cq)_PB>*ThX|`9|:*H1e_MvtK`<BltCmmk=wD)HnQ|amHLac9B[7qEl9dD*QIs)Xw55OHPE(v7[n<<P*_dFZZ.bvn&Wt%|7gH$'x
vTE#Ph1a?YOK9A+/)M+nCoQbb32Y=Zp2/WlV+OfvUkCU1xSy,K&ZI)]e)f*`w3RJIGycy1kGn.EvLN[uzwx?Wm+8szGQ|d<8I=Qd)%39*S][`qpLptO~8UfQd^eME,jJZY7TsE]zsnk`^,2SCA.)^f
,uPToN|WQTg`9{62TVK%<Kf+JJsUk;wZ`Y{}G_aX$wZ.f~>J^5rSAjm})sXz)YQajNg3.NB+)s#'~~AnWJ:3]J&VM!g()(e,I][0M)/L}[&.N!k]R;'Ftmj;.:tr7NE;_r(L,38>sMDdcJy&NHIw1T
wy7<:qZ*!9W[p(3=8z5z7+bRd`eTmCLP%Xs0FViAZB*h5$=4)bWFd=*<.GVX[5_SnjYVj}X;3YpXq]p}0Ju_$]7A$BBCf0V65?#^O|MF2f~J(X.`}s`yG[G+d/Q]QxJZQcPk:^<'J^7/*+TmnZnRNo
I:P5|gQBV*APwx)Z^SI#e0K!ImIAF24%`ZnyfE>?k#cwqBg)}]W5|t/IPs/6L}2B=ni]+Efsu>.*bKW'VYGcf9|.'LJPU(>^}a|T*|LEfb/mI1Bxzk,T!BA#?OCL)%DaLUCvzS.#V+n_d'B*qu?=e5
P|~/g[3lm!6UejN]Q~zVvf3hQXpR+,ko(<R`Mrj;f+#(X4Am=00Y*ZjX4DuinkHVIv>,SWIc6/F{U']^i%G^a|,)Py!}xw(wjJtc9Wcf?+{cHfdtv3_p`yI5tWmj]x:1ZKdQu2ZW0__M4Bu>r/{g`O
WLMeBse'=_zGnL+RV+doS^U%cRhrn?*OQrs.&ZL;/.KB}'~SC]nLt3op3BLfMgmmu+3^3uWLU2jcUEv'YF>j$GI*wTfJF59l]c^coLLB]=Br8_[|nPmfg8x3uEHj!,}T'%g/NWEI'8E03$N#Y|#+x0
vitx{Oc]6R/[691RK6z3J_miX`JJdQnbW{(rUlYB9gftiqApt.#bl{FJL]<<zrrEhL{yiokrj(/>Nr%Wm#BZC[dt:O2py*&<iednEq2OQvn14=PR+8MkC8Hbu:NIeF^Gb]l&u~)W=No^eYwyw;L4}h
t8k,taECjk.iDUfV)NYT#u&`f!gA62P>uc4U0JXl.KH#2N(vE0f(l;d&u/lz;t{ml=I.M*jZAF^e8jEkR<R^=MQ.bISfINseYD2$v<P7/j|^B:*M$;d$rt_lQ[Qgie{TG[mhl4qSK>~HYJlr<!9C>W
Z}}!J``+zW5b+rJP_g8%8P0,by5+P<r5tl+Tqlbr:TBz$(n.b+rAben#|c`o6z!~=NHv'?,/MbMCp<!7MdK~6m%!7lF<J8a|BW?S.7Oj7RHpQ&:f,Qkvkm539{?Tk/ZNASDHmX7Fs]8$qytBS<}:F^
O<}P4M&9]sUJVU.jcg%_QhOC}'rln*r?So`w|oaVo}K[|Hl_FjtPZ!ral1U='Xa.Z}JY}}VrXLZl9D.U=lXqS[~=f)lqmVMUgf`rU]]#QDz4wH(o`VS,z~6zjreZgH/!gY1dsT,GWNF>ofeh}u,2jz
,z}=hzt1lcDY}o,+&`'{9KDMz9'z_D`3S)G_)CviU=g4>+}veV,J!?Ibu)#|Ess?NS9|QkB4AQ}AXv5QK'0AUfFw8`:hl9n)XOJy%,M6/B2f>te6k95.9^S*/%=dro~a.}~K2~?/&5{jTCQd9+tA^_
BT?hN~KX!lgYy$vV9SwMdSi/7i}iJ6mu:/TOgO5t69omq()?klLZ/p96ruhB5brN&t=w_VU+|_T`*vQq{j7C<w;+b#ro3/;]f(6ct^l:lE}6zSE#7b&p=/|c#3%nPizQ*/i_9GDlo.TU#vID5VWONS
Wu+f]<w&<%gitH{*t{qQ/A(P4tE+,QB6}]2x~ljc,$nZt%4Xrd2G(WNKvEG/[YFRJhW)ly%1Gn]C|>JPgxmt#)m%*jHHNnTh5nF#?`5#,C[ucRhFBm,Yq~x;S}lj:)QK(tRP3>WhvS!Mo>X<ovvM:M
thHQFcb~;MHoe^9&_8`/{1!*v40Mhip6r5>N|y0<oDU64$c/Cs~z,}/ynEkmB!TwOrk+_/QA2)4%5,P6%w[G?AbCgy0TpKdC$V2my9#5<_,iRAGP{Wu;n?=)zLjfh9s{e|Rw*XCSDn9BQvn2!!Qvj2
9T)$HB:IGZ:&G_|R?IH4NX+mucfKW:GF<yxIdz,?vzsKXXXn/(.1}}b)9sYALo924]v!4t;L{b)m7m.rv#~:AKQJ11`N:b>4}5ny=!A+lP~~=yB<&4|N=pVXse2F>&uENYS:qw?v}e2::q2OCD!?ls
h!yj9:h?Q:2Ng[t]Zya';o$|WjoT<`d]C^J)Sto(=u1=UG%nDFjb/O{;T~l0[o>k^253KP8*x7%#(p:dZJ[vrR5Is6|k^G].>dpuNTVY/%+W~VMg7YH)uzR{)An(C|<vt,a{^1|EU,6K6*g#zYRin_
a=`Hwyj3?K;IE(xVducn]4qy~*Uroe2*og_6$BAAOESr)^l0J_9Reai!xZ+y;[|Wd`FBCbR=RGN;GtHGjaOln'37ednD_Wnu)((xCp&{L,48)k0}dS4IPEMm]+%EmE+'^%a^B0,7cO9(:'S6vLS]k(
H%)^D+SSpZLM*h:1NnW4#BMg1p]bce#RwwxuH;4<!YWTTie^!(vYX~^HE_j2tKA1?v7ySz<8U'${[Eo&jT(Q'!Z<{Eg$s!`?btYu`X4H!E$/>[E7.=FwS|c:#(6|5&L>mg!8E&,4={2<oG|}HvTDF:
BvJ={={2(nGWs#th%g:;hYi9gMUz+q[/63&3`&^=9cg^9?NHpM6D'2P1p>aygp#Ro,B22jw$sUC$J#yrvs|T57aY0sUVr_MaDk6BxmX?W9U^bO0+E']9FM'OD#P(d8w<t6&iv(nXQWFqE~1`m'aZ$5
IzIO}!qTEd'BN|wG)CyhXZ+|vMVX#705V:at3)3]ST1e^Q%~m7i+9tDpL_/o}^HFPw:i)%w6cus?#zF}liS!k^kj*8]I=APdc`k3o_9[{J}R%T4|ecibexl4GQFJJRN`Ke5]UkhcTuNc+,b#B4)sSl
tX9*2dSUKx+Qg:U]J3WFSl|Y(1Wv[Gu)apUS,P#eV}'}?5cbp0}l}gm.dUm8ELXgCL/YGQ6};)>ZE#rGb=iJW#Eq|W(O$6`qT2d#H{2k&((ghC^iC,8;p3{Drdaypd?!jN2!;3{J*>*v?v:^{$.{_$
CyFf.#gMFL}XdT.0;?z|]JLN>=:$x2iv:4.zJ`(LhrWwem9Y><mWZ&}(GOS!KOHX?IujxHctXOmT=7|myS6Iju72}A[[Fge28lcC#L(x4^g=,JOfK}LjDQzPV'.mOiQBP*}SV31^QF3!TJ`&[I((AW
Pbb}uV8We.F,_vgzp**8}~ZvK=23z}PN]!7?HBfr^3R'o!=}s/{1ANTr7mr%J=Aob*UhY/o{YoMV+`pus[T+apV<XV5!HII[$Ry:i9,0h.sY4sQLtnq2zwVn,$Ci9<U%<.#gL>vAVjX2yve:_sHQf5
Ttc+ghMT0+.ck1N?v*8&7[DPZqEb~d^<{WS+gFTvB3^O*P1bxW,P0VQ|A)sn/o}URp6}X*:aOru~4R%Vd;x`#F.xzSDc=7L>oV#:lGmem&!Q%0Vmxx`<c]c%qZYu2GT(]a65j*'D{rB<~.u,XFm>?a
,G|jMk;(_0R/TQU^/uVZ)%:hhgqWA+(C1of1F5==i8D1a=f~#J|~A/l3*]MPT?%y1%0,IY`$}y3yb8FxN.c~c/&?X`Jhxu[4(r_Y(UX6Pc}jQh(]/H=?SDA5]?!`(E/;(Guy,yjL?gt_l1XPQ#5<%U
(`Vc|dX$~=29OLGlw>==KCHPBoejc)>F!kjDCHl[nL>m+$?g_Yt1v`h&ku$=1%+i|giJR;K>5n!Kj2j<roNBG4ig$umG(!qpQeun:_K'w58'nxRSjZJnj<C>SJ7~5,jZ))4>u$i3Ca]1NqhtD0vT~b
[yqDw76CIJysr!TkesOYY18<{:jye'12h5NXfFr7zz7P[Cqn9))S+$=H5zZy~vmJ[y]g6St_{T5Xz{+!6!;O3}AgkTrk!a*paAVofk7/1:KUP`bUQU,&J)O.<n(LviS{32a;huwH7S!`G{`WKt(VUw
Q+q,hg(yGUnCHSlE`7%f|g>HJZHC|zpQ:g^:;o~Kc<SzX9le<Rq0;cGIa1E|8*m2a''RLTd>]{pg'd9DFTq&z/XWQBF)'.MuBy*EYLJ+wC1<?$N/Dw7[Jal%x_?v4_;AZ_xGt3d|JVLrzdCy9&QR[s
*]g8my&TL$oZv_K;?;Dc|q/2?,WutX.*m(M6`$/TNYHFT;QmV>j<nl{d3}9;4b72d5SW]7+_zp$NeymmR;dZ8[,k).`!+H^Gnxc=YNnHnH.*>A4zEe4K|_t9h1[Y%JY;I5V^P+Q2edI'93K&sTZeu_
vm?,l.DPH(_KG'33yT+KoLay<~>}+rFSVV'[H<5?1c^b0]dS;5#RjL,)Dpo=O%v`.9u`R>4$02'x}jFz+w^hJYvQzpl3yy5d2.W'!7fTy7IPbD$C&D>;tjVDwo>qW<>/ab9f.'i}e~0u#B$fq:9P%g
2>;rlAHvO:x)U1$.SO(tH3'50ZyWn*SCSt)M%ISy;?<8Fa?Nt?#HMW|:bnfDSbyho|l=#hT5}`aj$*H)}y5rJjacYWqoWS7U>]eG/H*RrxU5x:hQMmKD&FS,+wo)IN]?Q4i#:D;Ag$$Rm{TZ4%|*UU
C*Ybg[5>L^M>u5Ljwo4B`O&Hu87X(0r>+7hGsa`_U|E)jmH~m_i]k$VfU=0HJ<V6TT0Pg&!b`C~TS2l.'g<^gZ}[O&gd?p]GGfUlxR](b$DC_ao)=9c*k~<+MFxt((%_1I'RNMl~5nc,bVv+J(_9N;
z9t8*{=Cwj~d,X4BtB+;!gF,MW4h4'(}UZw*'edq+Kos}4oMg}NshBv_>Y]EZNQ){6A:5*=d+YBw<aWRu#r)Dvm]=1Tz*:y[gNxKbXlwZ+1[bLbr(]1}kKBhAd=bjW]YW3Q,2GGbq;`j&n,ReAXn0q
~>3u_,*6s<F?(|E*NQzu$CN{PW5dYwNXSMS1#E,TR|L~>H#K2ft1G>ZRgDktUTO=PPS+r4WrnAC$d8sXy;3x<lsT<5C*:.k%?}k*4a!0.DXN+~l&rh=O|L]{PH[v~_KKW6t,(.;i,/e+lzt*qo`=O3
v!J>+GTI?kB3EkMAR(3T|!3/$GL'kY5I%DI1)di3i$OuWa+SX|B}>]8Cj!6VN*oP6;G#584haWrfW5uso5v[+jkY,jD~1gI)tewP9.]A?o2r?WidIbnT56RW#aM*'Kw,_EajP}GGS=*ZLqL.G:ysH7
QdPi=3b=G}#t,qQQ<pf]GEbip~?XPj4N~*c:j(0ef'y1}*d842]uLLL9hQY:_w]]rUHn2XXavWRbf[G^HC+LsN(eouzI;Rw.bjQw);:wj`ZR~'{#~VZF>KV^FprVn22p>sDOIGVA5=q6D=VIB/.^',
;+0|}Ln[*;R`1u$e|a}T5b|G~1l;e||WFo{Kge'&Qa)nBA^XtqI}UU;S|P;ybLP<!T<edxMiMrbV!OA<6aY_`kqV<2g,B&nlO'G!cR>>mk(}kiYntoLG0Ia3MuN}F~(_TTzJ?;hZ0~wJEsotR:<7]G
2{T|ShP^z&~6)FSNv>})&C>/moVnC[4Gl[lg.^w7pz.qWW6796cbofJ/8#VW?%i(EqQ/=`92Ia9M_'OK&eN~wDBYyF{edFg5^liFkTB<2DUc1G{&GO}Ui%q|tkh+2S>rU=S;o5_l1sochOr)8KbJKD
QB'rAC`d5E%YHbniqJKpKfkJ`$7*x26c2U?%xe~=_oB8bYf!/`f}$Re|/3bIP6eOZ(^[LU/4yh5AxNpgxU({hXJV2tV5`.cS`,gmZTOzI)(x)fueH8>Gp%}9vOZW).mj3pLPgdwjHgM[5`enp8%ZSK
yLMzhGch!)S&?UILgqE0_s9N5d:m_O4l^;P~>Cn&HI)pbsTED_y/]OX3>A_v2|xs*7XFAz09zs8*4RuFRDLNRxadd?KA9zB$tI51$`<1^V&`>3E&e*J}8ZcQegcI<&]X+|YZnCM1w&2e0doG{[|9YS
tvuA8SMQ$Tr.~/+/%uP:bktpY8rDri%4(r'}n`c_)MeYbPwU)iZJPb:!:tiKO`wr'JnoxQ=U1dTjO;tkqu[ews8zDji[S]blr%0oi6J0b*njZtW~+Mi{Xg#rnR2uKX.Ut[x[o}8D%_~<nj$c]'_,L?
^j=u=Vh:4G$9s&97/m/nz=i<hMbexNfa918HY4Y_^JDX:$S+&X{)I|ODkoNW!eibQPS0p00=^8IOr`KpB}6w+g0&C!|=1]loJ+2LQ$>pXt%ORbR{C?`;Lc(;UGuU;TcN2}[|`aN6}aMdI!.PAvRMKd
%_?(%A(#%pV0::bXKI5|<V09!U$oQ}2Iuut#p6an|QJ.*K,0+`'0k%6NWkv+ebomUITy^v620zkjw9%ZFf5`z6*WY5u|V,?bC3&u,]vRh8.ovzVtpRb.BN6p9HjNuf0)&ahQ9E{~aJ8/Z||wC</#.$
WJh1*nt9?TF(:5j/Pi5KV4;5t77<[FC?7}%f,bGv31aV6wT]Vj=%if!a*lfjd0Rx1FwF!y.+ZK$kIx>xCRH`g]Ybk^DUM/~zvwyC~;B[&4B2f)r^7#1'UAF3XoPXqYSdF;erF5LZM4LwM0/.mk%{o1
l%b`njJ*QG4{rr{8|oxc~7'#vktBK'K303Y)FS+PQ]9jGa*;I>l8N:B5gQ?qgSFR$ffLtTB7SM),yYs|Cc,!5?u9]1Ja;Svc0cY]5?I7D^K!6_e7~;G;0~voXl/V}awOCs/zAUORZCU&xz0sNz2aa=
&SNM+ei9JRVg[/sIM(A3HlfWw!zg6sBKqC?_s!TSKOzE6[sqTR7qxK`V'+?jT5{iWk>t[rHDi5rK%8B>*$4/=M`|`Jnf3e+;=`mq%dzqo2T,yPX)4,/)rcB5uByHIV}?[)h]z(]yG'cmuYB2.j$}l+
*,SiUyb{.O|4!wT5l!v1vXC{W?p*tc%RAI.V{QA8EhX_oI^seW>#&qIsv8&S+(Evz:%^]ADussZbJMTJmG^{(j{G.k4GcXip(LQHcccb&5kubO1_fr=k^s|V+Hl5$9+kZouxU:~SZz1~Rw9XfMk3|t
Z*vo~g2%EGcv*q{8$c![Ze$RCI_i$E*.E%{_eVnTZj[Q|IR3%?!CD%LDH4uJ]5!'Ph%2/hkriHsTVuq`o5SBUl?z6Je4,8PU4lUo22]4iR~py::0)[^$Ett5nfQ%B9kZR&WRcabqb}jMx5NPgt;yrD
I208^e%'T#fJHC?G)'wh=?V8z;pa4ltncj}irvf%f1Q!GY?`E4be84{q[GMV?f2'.F#~l(+fl'~8|pI7D&/Ofdh0ZQ+HEku_0ttrm1}8jv7WQv4`pP<V.hUP63ekqzqbisf|oooDeJ&$baQ#=jq0E2
&dvGWgd7320)v9CvPqsvk{Due|<Dr%Sn%B:T;(4#fGn|CE}H8}.}Z]D31lQD=OJF+:H4D>5WhE5hH?+H9rSL}P<4t:4';<f(}BN2QJLZWvF|FKTrp~ZrYA`+=w&Ir5NO_EB5V0[B+v6hKM+Te?x'~;
B2O7ekK>%x)<t;r6`(DWA,th/Yo}<w?%of.~L/0AB}/{skjt3(Wu^aSxb';3/|*CK3bh/6J6Rr`Q|O/1([hW4`WO7x'8BN9`:jcz+RW|BbOa]/Z:uddyKj*|oB[j|4H)]:anfQ;gzo9oCLZ=NA<U^2
!kHvaTfOO}M%)9=n,es_+~_[z0V./?zo+#zK`f/p?P8:&W;N}LZ:|G=+aw~3g>,^)G+/Pxfv5A$w4Q:c8_Y=k[2=l)YTQtQdzi5]Dh&ra'c8Ql:#+]V^?!YQI?^ow!<'#'_|S_H~{1wQ<_auya2jKF
rQ>n(kf53wO$v_7*um{)^+gCqF)&l%5AU/Qy}]QMRR9X`7FM2O(4cWrQ2OS45}GdaAPzC:e3~6YBsAvv'I%N~5!?jku0G,{YFC+D]8s(6UkN18)ILU/N^AC/*RoFk9HE_AFo,!]``E6)cr.y+*CM0p
ay7EUf>vf+g>c<[xIFb?'>:Rm]tE[2r:b/7;KK4S#KoTm<r!*zPqBg!C)_[Dkv<T0*kTUo(4UjmKXk^mAqV^yBZ6MQ`1(kQ8{_bN:65)K|~*cNFEuiTTJ5njb:1XX5f_UTV)7wvtOzx7XF]k#[<uws
X&[u0yE6VG~0]|d)EHH*5hNETWX9[~Lo|8Z#3Q{Q^[dw|~2h}P>>p2gN78.]A(Ulm&$*nBTjE?:/n|e^9Kw&GA?4a&r++{wcZ21AWL~L{nE2ud}U&jwQ'20<#73DmK4+Dn<IoH1&R*,gNKV~;/I[L]
R#AoT:GuLQy1xn!y&~P]|SFgU9[KCcZbD%Hxi/ap~'w=Mxbxj;vnFp<;c,/zuLM#QA?yB1$_<Nmwj5|qQpVMP~uhY&fG)CcCqeb~Am+.d2SduPD1zGxC#zMG(zcOg_T5!0Vb2'U`PbU?jFlKh!&EFi
!dyB8X|Lq?$yF34hW2><*syGjY8UkR^q.$)e*l:UF%Pp'{=xZ,Has|I#cU3]k01aucn076zaWVCGD{{{=^^]3w<7<_4!/$h#&ZG4ehcm'8iD!mi8J^I4S5F%HqTXlsSVMGR]}Szh2WKAE+seak_$T=
v#57kDH*&17<9rP{CjN0:5lM;pD/H}{vWc.Wc_yAcuxK.,ZFK{]Nxh).fa%6^l9j?UfdCe723+obD3!!`CvxG/,U,'q$cD6!o$uW*|>EZ<#|Tlz}hbyVuXW&<QX<$WXs_fgPE!rVA`3*ZDj&j[lC2=
II&gH1xx>!+l9eF+^x2R&~.Ag:8kBn4Qv!Ks|%t59gD.xvNUDyuvETmwm|C_W=5a=Zr]!rn0|OeLOpoVO#<k*YVDW_jB|nd7rFa7t3=?>CPt2Q]LuS&#1;u3NK/_dR/*Ir#&SOPOvz|Dcn%q'Rmh)K
;in+/7!%1;.nwZ^E[ZDr;Vy1882??sWsK&#0SqJ%+{~.XK;$$G_Xk`3rQ4$xK8saAWYz3VQtfUC$f#9sCLctN0!!y[o#7GC~9u{3M3JFmntuVmC2*d(zIG&es<[8YJr(E55v=,W%h9XImKkaY]XM/H
b1aTHRB#|A``?s1%q%%8)O`/xd5N}82'qV;uK;^{my'1pdvMJMgS]9*AQvop2?w|e8o%8eWC]3[VLc=F08YL'X]|O:8y&3Hue.OG<!uw.3OFDZkF3C6/VcbiG'I){>2V3k$CM^X(U93_is8O~0.yZ+
.Wp6XsGLFr]bpKC7tOTi+^A/!(tU[r;vq/_CRsx;4aIgUuO#A#j=)1u||XqQ3<6B^)1~BjVax*LJ;%$<_bRhbP5}rncjGxIRMK*pRhp,;EAc'I8Q:d/F+`1.:Q**Ax#9n>t95|~iFEX{b)R;3M'}oN
SD~R_wANOa~EesgM?>%3xbc1t9wHPv*+a(k=1]/F%CnZ?SF^goq8*>E^~n&g;Z4>klU{i>0zd2rK](A`v$N~Kj:3VhvS(3{51M!BSp:hRSy^~3kYyKJz5$EHeVdm=UU&'E^PDHg!1M<'ks(.TyxPaC
;g)89DPyRh&v4'be_kw9F~]XjpA%XP8}R3Z6RT>G6xym#X|f55bPxf8QlrvleQH815Y[qfLPfPX!0yF4[w&<`V56%/~Gvbt=]eM%z7Im8JNMU4c9gB{[s,.0{gF?zdIVP&<CetI0zszDzzpKteASfw
=.A/L.5`Ab2#R6j>~4Xc![Fq_faVFEztz%V&Q./_qHd)kMi1NG4VR_e.[i0`b?G#<^>K>i>PqV`z79Q`i6sXR,Rnzlzd7jsJSMt]%n&NC=<TgkK^9N=,Lj9#/5{)XTcpjt;]&8?.PtFfLwJtu0s4pF
+kYchs`|cT?ltx80/I/'3tSIvpI0Tm=^kLE'Mgu|_%l`Qnz{u!^k5hW4Fe]x=Mxj1]!lAcX2o(l4..MyQPf8h_^9<ToP^hUn<bydxYTLF~YV6=VQD+k/K1GtVPZa2:{C'ZBNOC3x^1]9kd_c{*5vsx
LWba+/fULwy2RZX|B~p{XnU[GDKuaIGg<8p$LNB{H:)}MCf;.ijE&~ZLY=6d'(!WPS77v{,B+K[/(r?dR!v<>yQ%D0*dz6NbJ,VKjR0P)Jb)*DN/}_U;3Fq0RT^kLFQ8]0MpxtJ,vG8wy!qSkZa^O4
fj_L|w21#PnT4V&^y1a}]%G%f^mL:#[<zsaxK|FyU_YCRlT,ok/DLk!rF'iu+~EZ//(GwleP#ihfiLah*tgPmPl9l/QPK&/(L0EHPc}qJa{nO9v^L8YIlq[$L:xzd>N&`VDmMBh(7x%BQ:HMU`RsAP
FZ?S/M}$xBPt`jR8o{Qc&gFbDLxa6HeM},ltoo`.bRG=Bn!Ht%c|F.1~vH.cxh[;i4hnit;7;BoOI?sq!FR?kXxr/+S_7kYUX0+sSIPkWMi2HitW8U2m0+[?)I;CPX|JFsa;86P)t/^sln!nD<ooP0
_RN9F?I?a<P<m5c~=uJvn:h0di>^5`kY4Nv^zay;%:r9&eMo(6>9qZB;l[GKDKcep$,%G}}T*a9ey5D!6}K)syG)*r5_hKi]fBQAg;[;jQgN9x2g[TJ+RFV_lBKY_B:'H_+8R05G|[yu+7&%MP85]B
?gAjDZ<DtF..5_p^m6|7V~}5|J{eP|[.ec6oNI%b]6%nn9l>D]sZ7eGF3ui2g2{#~1c2;%q|852(sQB&^<l$SY7L^H}$a^9D4GqRxVUGiM^bm0X~auo5DMm4t]qLd,UqaORwnFn(,8GV5:)8b:`j'M
~SvHT}%F;V#EsDiMiFu/HkC3cBbw/;%I3i,8s$q*qr{Qn`+lotYM(EEKh,6h1ax[.sOqz']=S[ppWe}9WDEE/D,.3XM~28n7P%(MtA~NR0h%e2+292fv*'G~$Y.1lE2ed^X|>/f](69sHm9avck0^e
(~nQqb:.HFQN]rCAzyG7e%wg7Gg0s_c1o7y:yrA&kQZqQ|?<y:>ym>I'f>[6z7jByyZ(MHdEGX%I'Dss*0`naj[vuXG>QWaYH1Y]$MNw2iIKS:8IIobUMBWh%7ba?_Dt2na%dI%):l'jk.0po5KufX
,]sfq&??7p)j:9MEzm.Yyk;n`?;^8IRzY<X!GLC|c=CCtI=8q/q_j[w.vUZ:7z^>hrbcM]Eryf~.*?Axri1KQu|./eO2y1X`BXGe'QnoEVY2&'*VH</M>p*X<U'3.G&lfM`A{cQa&KD<PmM(G9'DR?
&u:U^uKF_XRLcrBZe49GB'x^w:7L:t5FKDLD+}nM)/uF1YJCSMokp}FVT*qSu;Va^}T?g;eAIU;[JaT'lDOxa($mz|Z_CEFxTyK(L]'a53<)#V!:9R#rGh4b.4SjI}lKog]n:y;codm2!HB5FUuP,;
H(2.G)QV<QUIiWUnKcv^meR^Ojl#THh8HCzMLg(jWxx}+_U^*z0QF;O)'URl?VDITaFUm2nEBsN;KqQ4%a)?ikbLPIU'`Bf=!S!=2ZliNF#PzYh$mlp+9h:PsMnOX#iB8:H7JHceMXr[N_FA0:AL<Z
d*Kq$fB1f1JqA!c1vkmr{)(MB3vI~2pg5ri503Os^anF*R#:Q>asDTW`JN31i'SGdhul%H8vxKNNV{&6El~&Em<|kITzI?V3Pq}e9!Hf>sT~c5&CKHcd^:_/6P[2eI>%B%:xOD$d[qDmX$]{lw&wo,
5fAeT5jA}J&1#y1os&}mgaJ'Rdb$3BMJO[?mSh47Mi}L<j!3|>cc$&5?s]=0^ZPKwCGv!4ZLzG$PM[b>T1nIw2=o2]4P^;*S$>aEj<+X!L~8[kU|[rdH*jhu;)EdJ0T5ZH|9JrimSzYy]3WX+KC+0x
STA.)5<$X6'r!f6!UiEGGQ%icm5ZG/*=_5f6TZf~cwDUBHalRp|9uNCYoK^>bK63/AWUiHnjd}d_Tst2=02)B9NBo}cl#|g>C$!O2}McL<5og<(3E6;(;T'AgK1G1$%3)Um~RtN{hJWIyS_eH%_VT'
Ws]W^Ln{TlTnxE`9pPKdr;!o,!b:qz+b83?>k}nE5BsKnmP?f?SYs,=4n],Kww%mFl&0OQgEz2]<(Lh<X4`]7jxOq5!^g6IlHNr7*%=[SE?MS1+r*0|As_1;DWK97s=kh3IRN1rFU{:3|};vgQUDq9
(`Wv;Zr85Z%gYw#lhre86wjuOvQAv>0VG#Cf*L?I4UUp2XgfahI1g2/$U?u`.Q)>hK*XQwA#r<8H9GX(!<2yB>xarHO)%$#v|V{9m)C+h+F`$:%sSMTOo$q^7z|I89}?JAyW=eI8MNY.QzqdznfB*I
Aju{E]<)}uQ|vFvk~a5[)=(nm?fgceFZ[MG;~,T24NlwN)Z?T)G7VuYId3rYT:{}ZyHYJQika2;~~}rWH5D&D5u!;l^.1w6ac/J[W'k)/.?dE&kYJgZ00ECW|~kYd^&W*WP0)Rim8POB;!~N`2BgcS
A!:5k]H*V0Agx:a+oV6h%Qig8uum6PvqbFcH*___kd=s?AF!b4~h_A8J}4kX&:Vx;og*op~`/(ysMXVnSEa`m8=|m0;WJ<AhKm6s{QqRDb9dufl64pDwp!q1nGWQJx~*9[8ZX{;[xSFI>dNA~CjnNh
(7E^V![qo&VrMl9Zx4;Bpy)os>G+u2R__Q9*VW$C#[R5B*wK}V_AI.EJ$3:o&<,l0$Oq>ZB'sRkK'}'ceEGwL?F9;a1I$,r1]9QA]!UN'{8[9XP;}_UY7I?wAHNa#|L3DNZ!VJIWH?(g97T.c{Au[_
h#c;F){3EJ:VWMuD8MmbL>|,0=?T0IXX0X81JXoK`<Og;Z^MD5p5N,f+zb9U(<h?p%~>8$/=!cS#Q|mss:lviekOR%LM=.Gb~|%BdRuZf8*N?N)X,67WI+dD}NAbgM3vbX`8/BLo;]}S#Wd4V~$3+P
:D9AZ<kk%oj_W{J#<%)E>X92Y|#AF^4sc2dyQ+?4&/QAlPZJ7~T7jp=C8MSwNz)m6&`acO!=f6p'.mP`}ceb~FR!P/evx,OVWcC?eR7G#,t}4TZ*N$co|ww$7+9L:OG7oo[#Ag9zk]E]S2e~.^$zoa
*OUjPBUAu~p/WJ7VU0ElZ;q2%F1zuBWdC?ZT6]W0RUVm.{D4|7%&M*(J9}'0#=&]%?L9myQ+R8zZ)^3|BKMbH))*e&K%P3fGeHk^Jo}rJkL6<]XCXQ7#>=,}]jmV%g8/+hRwz[Say2aJ3MmZuo9.vV
vo.u$+Y+O1{lCU=OlHffYC0]zt.hkaiC~;0Sn$w3i8cS,2UVqXKhKueVa|6M:pnpE4ym!nWmKeWRV;'{x(L53?Iw~sox4~mL{.>xwMpG`synpQuYg5[/zO$6t,5bzo?SV0_>ghp5%=#q*[u1#So}}(
dSj7ZU/Q6%IB`5K|?AyshR$B4apmjA>h:l+:y||+R3,hsth#9Uq7_OjJ8+m9%bP^Y>n_2|CZrKEF>lO&)6S<+$9xrkr4'&F~rfOW_b}63?.e7QVnqq!(PWT>*uXU37m!V&|Ik8aX`arxfO*<5`eLX.
?OrBu,$}&bQRcw=~iqY/3//:S,R}TxR:a5U.h8]r{m?K7`{098pd9(?#/VSp3},NKM%}ars./5[,*FK`}P2tU]iqrwskqyi$&#QvH[URWp`Tp.y+Dl>IrM>(B|LrU(TT6lvIlEcMjk*1TH/78>d^Nf
8G_Q2`d1E[%EIe4#h?8QQhSBx8>*C1#O%vu)]OLu>i%<MGg3PQ{|.UkcDe=;Z1A$qV|9*AW_DvKDg?O6bhM44y'F%~}?H!g8%$d(ud$xGyeJ,ikQpNqX7f!^*HpkwF;>>PabGLAinFXP,y}A5+Hz2(
HM(:Y)_5Xz_^*VaBfszIoHqPj.2Hb~mLE9h'hZjXYdBk/d:,`)6dfw(,l%/te/;8PLG12kp(_Ei0U}E_/C<kgC6$57]d^$]`1'm5w4OUSIgJzd'jn&^F./=bej9h3;|+',fy)[`yGe$6!qxRat6mqO
etGEd6}lct}x{XBU#;rreR75V}a'[pp)dl!Pt,CtgNS_Z(nNpiq|735ueu7Ns!qjEJtj9~=r4|v_K<?:eAlgFo8fzApJvi(]YFR9QAtSpyOO^p3+0GB4HvkCZ9D^Cl!')e=S_Y!c?S0|ix}<Sqe_Dd
H~l:S>C1IP}^uO#4=u'363=TfR)Ao7~7+j#?ClUJubMV,uz(A=Ds`&glLm^F)L2;VEc_J+4unSG&`HBS{ni&.y&k]]?]VA5lO^PX#+;PagmEJS6$[iDU8#8$^9yn*{$sk[ZBR#WSdny%R4rX3hv}5X
<_xx~*#b&bD}]Me/SfFyaDBKs<%kiXjbG&3JyR|(1U;:2IfJ[M,W,]_[)phT1&ioY|}ld=!.YZ#~AYLpsG$wJz/|XBK4Fx}eqvA+js=s`4~+q3U6i0Tvif&Aj0>lO`LHQ3?cY|JXTxm!#J%M?M1)`^
UoELZMNOS5PBWB^<oCkuOGG3nAcmN)XIz+u?[E0qOb'E'vh9ggd,1w:qJ?DcBYL(SF$k|&CB+yF{>a*9n=[<>pB}~~BY{Z:>QM0c|,!NU=hsY]SV&Pl)*;9na_`V=HE7|}V6Gn0!Y[e1:|%n/brU9U
^Gm1KD'X*qI;cTM$!An0oFavCOk~^',jg5rTQ~!o.}TH&]$$o[p7X~4Dy=gxg*{0]R&#gCBiCTH+N+^]M^[|fLOT=w;8<ViK0{Q~)/8hT6p>=/Ne/S>YG;~(tA*UOzwDxF,s^oeMO){5~V|EM10R%N
c)jz4X5$F+1~'GQWf.o&b9>o![zGq]1P/dKM=Y7hV|UIde?e!x{pMq>KU$H#<&6whGHx|4Yr^%[nsfh5RxM4R}GOwu1AQW])ik55X/J!iy}U8J$8w<Z_V[~}`Ey`4%Y0M2w7yAf(B^8Yd={lrr.*FY
(^sJEF:x{I=t&OBuojzy$YcV<q_GRaL>Rh[e.fZ>x2rvCo.SbA^$5hndOR}Iv!P*?vx$0?^is?UUn0ooO8>3|/~p4s^R{h=?GCbrUSfW$N$KTX'XpDU*smiJ;R^ICzYnKQ}B{B,h?ix#6i|1Rs*WTy
M<?)gA<JW1%,[Yxre['5tv=R/53'dAIqM]3#o8|O4b0E}Gw}z6`X5)=vxuKo+u}Ag<Hbf*7jm0|0uZr=9J7ho#:=fEtRNwelg??Cj7o5oq?}KfYa,SOCK;x9RY]:}7C&'[4>)m)yvXHl1LI}dj5ns!
E1ak62gNS2)w50;6KrQ#~xl8w%^,)eNf/%~[&4.um04}FZn8R1wT|>Ck%5m$F~p[1u'A9|CPN.C=H.&;?+EgzbpsQqA~*5Fx*u)ZN<p{K%zR0,WXN{dUK]]3:3{:AQiH^2cU`1C~874j,P[L~wx=!T
'lVazF?|1#],e%|>xL{S?;}^V*kE.`/8PD14Euf/|oKpd3:wNn4^gh2L8/p=[/4AK/ef}30Zs4Tu_sXdnR>lR(sv7>Tl#fujSC9MVxGGG!+i?14UM7I5RVXaN[FOG2Bz(ah$/3=9qqJ,Dvqx8],gIn
*[;,|PV~3l&;Hdi9HtGt[G+,tx1&81Djp$z>`,,]iyvx{%i*`TgAj[9=l):|sjKlD9/K=lj7:>&EuS^snp<*]7,/BUPE{tR,5E,>|<;X=zz<b!*2_l5A~`TV*[0k%#ye'`H7ew=<,f4}h3ZrFbs?Z`
AI`RLmu=m01>H)FbhqaF>ZM?cWtini_J%|&DYcXp=Ln9k#*sc+W&$lo':7c0.wA)cu8i)Y4SC%!cEFWK[1|qA<vf9)6Qu665H{UWnA<d7H3;z&c0$phZ1/}[anO}!D+M#nAUQg?F`/*sO[G1&UL0aV
t,(,QxD$.Qp{mNuBkfyUrI2k'i!$m0z<s`]v<SZne6znB7?n{L{~KmNFiD<a{~,73Gd432{&m<zsB?IS5ak5p[FZ.bSy{}bG~Di;08CyG1n*Lk*OVb~{^;8_IVid2Rh~g1fG(!Y%o>?hp/LdbpubcM
lS?|Gaj>`Du&^B*K/|Ad4P8W|o!vz;gh2Y=K#![XxI+|xl!~0PHoCE:2GgrdtLS[FNr<z?5H'jXX$RK6O%Ae;Fh7{B?j|?Zp[L<9WfOhCy:zbzg_a=n<3W<49aUJ[z:*e+HLrhFuvBfri=.es+fvj2
$)0DD>r{6Y2md9&u;RQ1lrV==/MaIi/ozGFeU+fZm3Oe>prKW.frelDb|d:TJfUHA/*u'h#(j6t]d)>z8kYH8_g*#dWO||[b[+2r;0,9t/zVJLz9~~.?5I(~7j%UI&<E&#sHRETBitkQi%$.6v'=Ht
],Bv6<h$);S*6Bv2}JdHx;(YRxt<$8JH|8<T)g&z.Y8!rT:kF|_0'1P2r9q^jy,h8Sp'6;XAnx_bb`6^A2KXXac#TcaF8eh/K'.,Ug?fc`:=Lw8aRWt%AJ<~zsYed25B_1m(Eq5)<]gt#V.(oD/y?5
h=$]>b,k7D>aoP?NIs)1sm]uPH2V81_ErDfFZ+Ng1k}z'Ws/z~?E9_A]W|vsAZTMGR`e5x*|H2k{R<.$fUlx,m#b6%Pf}RZJUc,(/R%Dz^^x3Y=F0#s(HT&8zBFE5d,<USYDd,UKXX?U?(5*&jGTX#
k;i9t9]S.(gr7iLxV,1#`mky%'3!Eng%>xC%bVjo%r^QQ'cXd%~p]1pVd[%Y?Xi9M4cI'&s0rEX>{(FUYz<>.,_{|qJJ7EA1M8ujiu2Ffc.%+oHVt'p^zAof5aT)|ve>]zx?{LhQ,p'}vjjlPM}sBe
U&Dw=7jl71o4N:Bf%,;HzWqR6}qzc!zx}[&I[WX]jTkgsg=khEI?Wrs(cJ}e$kUh39SGD+N?tKsM+g8St041j59[U&AMP*#?:'Q6$y&~x[79%#7EZ7gAPdu}uE<;vS8g<9i.k6Ib7.$EgB$&7fNH+q
1koma,D{H&k[_p)`B~e>r.iLcHGSAtM4*12TAPO17It;jAjMoW2q!1XHKEDQ,W75}3&yV$eB:x=yDx;UuV#h.y39De?D[a2%tWWfXgPk|$b_laAvL5Wup*/=5wI`kC3o,xJp|7#da/Ys'SH=tSen#c
>OsZ~X<hr*ct?`&mKG%w+2k]&$,^lZ]UyJA6:[JI6#=`*&V+`d$[T^]>cDn(~,ZJ1x~~A5%}Z9$Fz2t5`m{X)X?>fEs%zd;gb$OsB&Gq<!Dj_:lF)y{`58A|_(ogTUj.Sipo7=ag|~Zt,{#>bLJIr,
yP*S$Dp&`'1#lyHNT=2p6{?<RPr0[osP+i+4TXvx)vmxAsOe2YV9PnTQIL(#bplvH6|2*rzhpNPUhBJ1)a1P)dYgztXdZ#=E2;*MSOmO_CwWq6F%j%sc{~~&f*hkjI+9ctsu?5{Y0#jXpO7HK_oTgb
r6~=(}Nh`Yb.f,b>;R,HOv|v>Qb|i5t)(4f$xA5|=ram8oC(RO,oiO]8L%B.9[Y=_<7J&Bc<Xt,|7:}RkRhFA2(yVnZ4;RxbotCd3>^oMXYR)]uUziJ4.pt~cwJ3~W9r%HArp`]Oj187M.OA`AhaX0
zuXO*n1($vp/Lmp,bx}2Z[6j>2$hgxXh9w%sxQSVhuheZC[lt]POx'0ATG;MEil$zRmt7Y:$#%HWB]h+#3Jn:Ls~yEIg0KCi5ijr8/zLL*HZSvFT`WJ~}uuAktOI9E|0o}j4yX][yG{_X&YUc>{#K0
pOAZ^[*lagLmR{.)|!r3^M?n=UY8hd`jC(fe^K#^1`kBcF/g!,=MBjGfkRqLC9&D:Q~w^uTG?&'l28JCz=*~$:8g7>4'Cas?,^.w]AZ#ef^j`~[uN[]<DAz9.irL>}>ULq^o01[:l<15oju2t)B>GN
WLTq=JVg6:F88XEb67bAd?Gm~7G>[6AH/p)Tq1Xk~=6Y#(md3W^b!&+)//i6Tt5T7?he2$IID{H)P6K[}+:^A;cqIx=|4xa?uZwhI=P5J([wbaP,CnYfJrH,Pi*wKJf0_.k,[;JT<tXp?Nb('=,(V5
di~I|x%f;?8_a{x#XO/TRP$X^|C3?<;^RL.*.4r32YH=ll85nQ8Dr%,jgan7wYR,lSfGZiB&HDgBX>]x%E9Rw(0slgK$WYxb5(jBC^aZi;RQY>l8_fC~=Rm}lT1}[&{NS~2Aj]`vkdu>~W^3LB!cH`
Qo=k'Z:bN7QF._Te?T5[D(R#GCx>%tzJZ0[XmO,(V)w*AHwod{_{DMtYm>4IH9H6QI[acOK?4.)RXTi{6:yQI^tLC$CB~gu!!H2Py~gF`;uz3VbMQ9`=T{a&N#m~/kaI~v}/$}I=X2Xt$t3oCD=ft4
YQw&KVe$dX%>|cW4>PU&1yTta)c.3iKQGy3`Mwlb[f;D,*i)!(I,mwGEM}>%B:A[|_}vdN]apnnGw}Qd%pJ<:1c::N|}s;w`W(l|(6>:[EHRql,L9^;o;Qf&.tRCw0;_ru/M:!c0I3[!j0$g7_u?Dr
~w&cYgSu?EuAF)Wg8~:acP9_zWP|xC]bkqIwWJ'A[JYsZvYP=]F=tgbm7+#od#B[`C[N+E[5q7h8C5P#:)M>n;1_IWWvzY3zw}P^+B9YDQNMJaqc**S>FCAsuw(o'0^vWX+TDo1f9,z8vDliR/xeFa
<by8>RT^xT<hgrB!#{_+9Zvg0.Ob`1?WsM?rgbj^N%+36>&&SF;qKlBam_r28sMZxvkMgaLtsH!RuIF^hC*Ib2S,<7<HU`AcV~b%*yaH?QA2PGX/hP''M>omEn]yWz&g4vL>rNs)I%FoDX[Cg[<?WN
ePH:PE&}(2S't$Hm]hVf9MB~{i.C1N(<8}Mcj_#_&Z)[b.N4T$Hf1F`5D{pTno({9ZA$8Q)x7h<n8}k6QZ<in<O1D+3%U9M2A<v!tOb2`P#fnt89'r9BN*pttRUhBxM0J]Z,Pl~uB^)8TbRL5F~6ts
;dHh0=Quq>I4JdBVhi:upsLHIcMuifPjdkzQq[icssT0dz!E,LWj3M=X!vS13>s>Yg#n*LFO{02DYLkDi1z>?1WF=<Z.3~L|2y6AuLc{nqSYuK1I5T3xacJGWyEVvZy?=<}8#M5E!G!#Ct#(]:)*w`
mx4sB`UyPtI+{EX^'6'^dH?y]0*Kh>N#+jPHZqKV1jVJI4T%`l5mpabpYfLkf85l_K/SYep%C{9A1ig,/YVAxbabgnkNPJPaC}esE2>l`!G;+jO~ET:(iv+'p&,czpi:aHl)S`'`mBQr#5|!IbHyVA
'oW'Zb>{H`n_><;w^#yTR~zk3771O2<y_?Wm*;Mr/R_sL{YH$fxBDKaJa=!{FxIBA&KN=#1_A2N0ndI#5X81%d,g8h6ep#:.T`vATWgue?dENa<lI,/Pn35i3J1I~LcZz72k0U)VUj473>z~{%)<d,
lv?`/*fl0FH(fq|ntCY4GaJFG,x6HMw+g,#LQsS({_5X=C/t+cjy%Ox_sV%}~od~F3LsIf4>84ikKy#8E3d,32lK&+0E/5A+|U%]BrDc1'>Q:sp9?d01i)$KSb;wJ6;:j&42iC=L1Ak>r)GbLRnwzh
)yJ(wUyZ{Il<y{[~Ua4Q'(Ys}Hcezn+(kC*MQ;EOz{|xv~;A|mn7{{;.Ljp)&SY/4^)uo$p!sJQq{KJBuoYH(1wn]Hn<g9Pcrn}u=dZ]%~[IT)5]]8lB5]5,[bge/z^>{R9Bz,>}y.BC<siOTedO^;
i#F0.Ktn0$lF}bdqb_^W2&9AkN|Q;W|tfk&[yklBoXB%V;dR13(q%JHGq9=CdUDA=m>6c6A&Y<qMuGehM*JDK*V2nbt5fiNhSM+.!Z^%d?B4?9WZ=u&.*gNC>YEK7Eidzc[0,rA(8_Gxo.[%lp(Lx&
A1>3mn|~:kV5ai'a~L&eiDmJ8gtegLL:v(xm'|N|^I}3[h%e5JWi<jwpac8BdB!8m!koTGXENdD<MMO+zv|K<Kq&~quE<*BG!Ol0:`8vpE&AYn%&yjW8GT+WIdaqYfGrvF%`2l)3obzma'{jLwR1Q'
XGfpVW<AugulU'hd)E{t}iz%i0(ND{xP/4|+XX`t<.RhR&b0~+madO`&[[d$F9B;rj+S|Rk3':l`slCrb:ITiliI29)0c(L+kY_Y91$M,^WqUUeTQnAhE535m*D3HFYgw/R'lEjO0{aJ&WH,q.!iIQ
#UHEU.P[mMkDsPM3MkJv&T+04>9)u?.J7(*<b+_N9VN#ocVdM0)YZ=vMrbTKA<0PBspA(NXA_P)]7#2/C2Y<!qfyn$5wI!+t9HdNX3IM;gv3%*N+WPx{i71Go447]P,X=FiNi`t~m~fK,7OIGne!5Q
*XKk7zuZk'=X[wFkyYUs)d1PVnQIg+Gm7e;g_+J(~NE:Z2nAWoES,2'Z]_[V)/P9hZbBonqsoq!Fq9D(5.qyeuhB1P;N&A$t6GfM.(?<<bG,v2q[#2SdV6LN7vZUaXw5Hk?TqqCU=$_S*Z7EXDCH`c
EspL%[<l8G)2bXdxdOjtdS]P;wAR}1niYTY_;?D1`)`BpgXRC$hbhvNa6Ve~DZ4ZbshpXequ]8=;&8}uk)(8,6_gAK(neB[oft;xd4LqL>/m'dkqL'ew7{6cz)bE;XQAoujqbkxqXnlpQFMaV/R;rA
)'4+49Km+f0/Q5~y'4VWZBi;pVlVz'Moj1Mvz(['tl~Ua7r8VyoN;(NgcUcXtFT!z.+t5vD:fhKG<IYf9,WuY}WcDe#+rx7B%z,LJ'FXx#HFEnON`mjVdfdQ1'di_w8oFl`(JSr1{:jq}kpIc]sS%O
h<8Muw:Dy8_j7;yv]Gc(<3KJY:?&^H:]:DSKu7haq|*MzGN%C>oo#D>MnxV5Na(<R&?~Jo`{K%3]5qT0+<Fa]Fu3(A0pKqxL]2)8_uCBt,C~0nHHJ*FWg2a&nwJp|_$+7MBv&sZ%j+&ESR(.g`+g;R
=MI7%c*!|fdC*D.pfdb0dUrQPZ2[Us+qZ>K[/.6q4k])nW<q]f+*5N'u[4h9*,Ew5D5Cx>7/H8GJp'`g0l>o|Ss<,h~td[AbFu}r=m`yaxloB[>.ozqUsd{l{.l9SPA'XjcAzs+E^IX;MH|1D_&&MU
|)|GY4]U4_pGte!i0&yH*tLzJmG?5.9]=ElPq0%2N[|Rx7E}Rw|y.qHivloqSVw}:jat&%=e|u'&ojc/tdYg&:K3z)?~hKuW%a~{J;+L!.'z%S.q8WX5[dR<H1BFv{`E5b|MfKy3<c<:{l~P,^uUk0
'zY/Q_0dPw7q#]WTms!!a46`hQ)!.ycL~rslOd!]iLeSW2#)Chcek8+zq:Xfp)e;JIQ%3b56(q2qM%ma~aQFgH/3Bj?PYzrLLF[WkR#g'It^?0*.4ulOi3=r%QsujjI_:oNKl+SW!EBFRouwpj?Hte
%}xj<qh1=`u6)Ad^}gEkg5pW2FTD63+d,;<n{!rV=+UV,.j0E{v/{#.JSsRh)On|c=p}K[clLOXCb5Dwq$}Vh:3J~EesPbO+;Q1_#TAV3^L|&JIM1r3jyQ9,dgg7zMmn%3WMF!aiiB=h(DV:X{YR2U
w$57UJ3juO411,`(]gn/Q[F!O&q?^Y^<nE*nk0B!L?'N>~RhxT!r{Edvel1S!6x^=6IMQdE2HD~pv1:(PWUP08k#hEl:N%):>NP{R)`^#}T*)Ed=SWiqs0{7x1~IniQLjc'&[fIGVByMX|s!pAGx`6
O/!RMrVDmV3Nm*+ngCCJ.7;P}AQyat|m77>:tZta!_c#c]Qv;1j^nE=kdynmQg28[>M?^JR=nav$vj.8rMQ*^/o'2^/)%p=S~{WhdjF3_kL%%vZWm5dTZe%%sZj<7Fx/pMh0/7t2&`3kp<fU$32]Y2
+31sJUo6f[)eKEYrq#Tpv)r#(~h9URlOz*>J~8.Gc!E^4Rz+_u^{8s`#:l^U0w))Gf>{NS_IpjGjU_ZC+)T:zEJ]bW9k^J'|(xUbsm+],7^o)RDnucofn~rtws[v#e8lm$jW*m)'XSq?_8x^2[D;>A
1[3GXJ.l]j~%ETj^GI[]gD=gUuUmb0s``UQU_5y3[`b:=D^{cLliY[hCRY'0!L[kr8U,/.7v9(PHN,s^QAC'Uj0(X#d=#eYmEt?O<gg[1~?l=rN3Y[c8z]%V];M2r^{%c2K/'7`+e[N?r*Ma[oHk)v
|[tc}t3YUi0kYQ1Pv0]~Y)#cmw`Jl:IY'}ZL>WwE3_8)ihfZnvl)'!/_<+%^%I*Cqf8gt&Yr^Cx&bG$~>),WfXQIt?Xi~><0a/mGbN|9P)vHuk%Qf.s}GK+Nt[x!s8k,00`hbd:H:LQgIMgLOh9nb.
`(~,kNap>{]`pZsuq8q`rQ%YG^2B<jFV4;DNf(B(sf>$+46:#l)rU'olUoc|B^.^Lxe,V%s%79/<x~xBd2~R6w5)jo~Jl'}'LR0Q{?Ot+:isi|:9?nHpm7?ko[9!]s#+#!X?QMVIK<ZM_8]sj^>!D{
aD!'`,Xg>aS=T_~h'O9u3s1(xt.F9)Fd0X)6kiu*tt7z}I5$s#ZKtd||awEf(8^58o,%R0*(ZcuN3E=m%BK#ZMm6=AkKCOm^A{MP,'t+*PfhO!u^ueXdS}c/Ef<4d^Su|kDwvw:Tx2zW?p:*s;TP$!
oSvrQS5n}W8Ya`US;&AVFv'Ne|QAYG)iE_?4uK^=h]'kec7uYT=x9eF%7]#MOQmYotg4#vgbEefoPzMF2s)xK$|Tk(:H|e]6Cpa,s4)AU_uB'c#2vln<1&xbi`+}]wXmOjVMtfrDSDZH5('%UrW/k9
w:Y8{;j4?th*KhD~l6wxXm,jR>Hb]]k?Jr!4&.w2)zTt]~o]T7Jcg/_1,t=$xuM9Z|_l/?F(eCYkE=8F}!nl{^'Y|.:Hqh6:K7n~y()[3B+*9pu1B+<e01#c?/e#Z!M%IU+aY%#RD.trj1l{c$J:`}
c1/b`4m>3y{k'KIWo9z%jX>Ov`o0X<+speWaZNGL!!+XS7}D{tkewX2T9jkZvDNWT{k&zja.2G1Qal+Bg^<xuihA}87_jyRZ1B|JJ0bX*`;)g1N2yrh)j_rs8qR+YNQdKyG5V2;&tl3NUqTv=CZVh!
S&;^8V.|O6xo*L*F5J!>^g87&+7M*AR;H09WnSdo5(8<66fHsm'm5$QtzhpU?~ef5^&1vdA05Q(V`NO[d%Z~9RRTktjKbI!r068_u5S(4HUu{5)^_q!|K4dR[9jVVY^T6Cb7lvz+LfO+ayD6#2za_a
Cu'o#.d&zms%i*P5k72U4Q>DR+ce(6.(k_dsLoE[)X`FL:VsK/esZ=<G'/9[9i(]j1&5'wZhq_k9i}ghaop&E)]2#<A&T~s;hHY!fE>l*GXV<w3^Or2]q{%J=Mgf4Gaonkrcn7?^C3Sc&&[/z:pw9m
)Il5&AAPIV47941dlJZf)HFfrEA)OI|BPn'KUO|aS;mRzeIfgQU}j/R*m^MBeG=]wcvZ|x&u+5)clkdI)oh_!<=,.ncg#*!'s$fg>gaD8NPPcr]h;F`uS$MzX4sL!pm}L.bTgBKd$$BB7^%0v#|{K%
zmGnuq/1)gB6zSm~MkZ^iuu.CYIjh<Mx`U7XN55p#Y~fb9P3%F3B>czLM4vpqxn?V!!uomZ[6YMAo7#mnzpzvZ%Aan`+{RVR[V+~LfPA?;YGP7tH5!X;,%[Q7g::P0P0d#E/*MsQS,t|VBRwJBQ+^V
jgwP?gVk_U}0{2+>n%dpXvDc,xCWf|2^[UuqMv/GMc4]:z,>7[Lq|~bStKAOSm[uGB,6#)FRm#($MV*sr#K!F%Z2|mxg:y#dfoW]/SG>VV]R13v:6%ie11HN~aBaCtV$]i?nH+z<BrT*/B5uczf^j>
za~OSpvkCsJY28LbgPTBtw7vGA[?e6U[|c9fx:K[bv^%IP0)c]ff`J:q6u>96=M|`V^tgf]Ls3+G._A$<([vS=1v1~78:<4tpS8=K{H={wwu[q$'n5tAhsTvV~}bj+`XuHaCCYsAitB&u3*%S~`TP`
9FHAsU!{OXQpD2Ingo&<|!,IiTPF|o^M.'ALLr}=kxG5=clc)]{gXHmeeMg5|wYTh;V?D0TEOKUBLZEr#QH,$K'(M6wCqcCC0WAqm'%%1uvk5U{%D'fmA)Z7rV#KQI:?J.>!03:QmQ[[$,c|/_72FR
]8,/_wT$&54P`ngXHplrsvt9r$/yVEEW<)SlE*>1#kzkF>`bJI|WC$kQZ{:iv16ff*7Ta5.XHJRB}6l`s05GM}<rB`>&)gC+j+^vh[>p1%r;5zA7oalIFd$MJhesC!Q5obx2>$MuZ]y=d/NumCd~Eu
1,(/):Eq^cHI`)70)'P=qCxDhI04`#KllF6Q>9U|X^soBMl0s1)!d[b{RWJ{lvfOmSLK=ZNL+awxVOrU'FnqU3^omHDt_]Foe0Zj0=x;+nV_OKRq+[*k+Y;8l],mS?29KPcgjf})y8V]m!p.*P&PM6
'k;W`;liZ]d+m'J^WK/[3E.QZn*Gp,F<hx`+a6nN6A8{SB'IC),>%3%dHo!dq9);mIuKfcr4dx8SdU$$~6WJWL6{bU:zLMsVA+=;TUnAq#p'IM)~}[wItlrY0jI;JZVDw!M7K;A(r(Qk[Tm=+GDbq8
>0/$>P^,yX=F/]k'dr`+h2ju.MmxH,jEqLVVrYywLECEX0[|w6Q7&Pq))zJq,i3DELuRVN2B>()MPDWZPwY(2T^P/}foy{zT{F>W{9guu_E0y7Kd&Sc=Jmm2Mc29<78!(K,NiN|4A<>!H$JqGYg{c;
cCPX|e=PtX~(0lX{|Ys=RRFFm7*!+x7FJ[ik8u#L(,'gDLEm.M'#qHW{(LQ3y6`>m?L}JYym]V0P!JjY'L0S&Re1?dAr:81dGp3{kgppRz#s?|HUsorC849rA$7J,yOFRU4.i^qW|B;bM:2dv!~+%<
r?'6c*&.EiM[0E(^H#ZbxJ23Yu~7_]:PT~o%#/.|{DQDgV&x}nM+V4]+SK48IurGC:X2bOJVoUKlDL,)WyhfGm?jlKQBJPRfQ~`cL3op&!8[q$Z%0M>8~cYD`f9X.Zs)35,}'aG,?11PkK0M%USQ|:
U>5Elhp0Ypu}#a!,(gIstFRQJM%L}QA=k8[VV}z`]6<oBad*MV7.bxD3XEOS]pO~N}q<ZvOMqVqEVHiKXXM.^E03gsgh<HAE<&lTNdE6NIv=(n;N51KP^e!Oj]]a+>L6.Q?Ucqybxr58NCl/#0o5*,
hbL`XJKKsPMB'.g+B>[5h`!E8^'P&mi5ocD|9=*ts'$0mq8TvHe>W}dSpn>qW$WjewVvD,1wCXUne8y]L3Eu7$?tqcWP5bx(EgW5%:=N&[{,Owd_pfY%Lf9IRmucdmWlKdol8'=|3[T'mQ#f|gUi~1
B0_O5*hFc'5Acyy?H5>+LCeK~7IJw2YK6LG::E~k|ldH.~wF8}:Zm!EDneR7c^{l61;qu$R=QTXCKFTH=np7=,RuNsUav;Jed7ud|MLmmh]DbjSe^5jG_3!APY~S~xHKqxWn&NK2lc</rbX;UB*a38
P:Z&XG_Vym#T`66`?U~6q<3;o0P+o+dxNgA%33vTF5UES4sy&OSx?_!*;:(_(GT0E_>wQ%K:u6PZ[1{r63epl,#e;^!/JP$iH4XvUKj3u#5pN<{wlp288e{5$/P<>zPt~xjsP`GL;PD7J4GAwH'QR<
&KlY)A<YCbJ/BC.7w(eWGEQ7OkH%!Xd.3:avzucrqFu(Wow6FY6fp=zdF7dJ%r(_Fz`pEKHJgdS}!uzCPIY7O+USQG%C}rxaUi*/FNc]FA;wJRW9?f27yA=j0d_Luk0OOGz%F,Z}&E~T7:*AbwnN'_
gMrXkV;$|dcJ4Fc?A)LLxUT|Q43._%DJcdxml91.:[XVPS.GDo%>|0^U~gZdb^vd`L^)^s83RNL'|o(a`v~}/QrqhKB1H|$XPJeQu~(^PHw~{O3HkT]lA2e7EO$g}AX~Xf!D4)|5x>/#&Q&F`h~iR4
+vWbW!a,2<A?$>puJ&qmJ!`.:|~K!cu%psv2{!p;AYb&TClQedpHJpvfW;CHBbMF.)n]GRN2Ll8M0wI,K:!Uuz%mBzZ`FJ|9%>0(4D$Ak_V+H6Tl<7JWp!/[u;X=[MRX%u{a_yYWaj;m/g4nq3yT}]
'e=PRh+9hY6E6N2dDF!MM<agiE$APv=8XiZ2$ta6%Z(?Q]_Fo&CW)W:NVf``#6Pl8PP;BIdHG{*<E*vz,>H4KQ.,I<s:Qlbn}}+LLFH4]C#1>LtaiE^b<Y^8cxQ}#g4$YhflB/+?)Ny}T2&xqT;'ZU
Y_gTY=4opw26!']X#Nms'p)'x.8b],$IZS$tJUc|u$NG[hpl/DG,$&BWbUeW)d4o<m2F|3{+m3x6O9s_sRL}N2CXw<R9mt`bzShV&:utIMdSse`v1)iDQBQWwUU8RF5_IwbC$dU.VBm$651]=K>>|V
ORy)t)zBqR)Q9C}iy(jH^{5ZIzy)`$x`uGF**3^T|lfb>ZzyCMcDR{4Y{Sf=YI't<_w0eg'79FXoY=tCnAF7T.~GrV]B.!^gT,9#:P!GCME*4Ns'7pL:w^Peu}~PHTPpfY)m*dpAUyy|rGAw?78hG|
w{9M?ShW`;#G|10,dLcT#.1Y1mg/wMO&HwN.q{Lfb]Q4=CCn~*/RY[IFJtirUyHOiSZsW(ga}4%|y#/#[YzP{}J1?l!:'2!/D$^j~_a&.I;,Q?8#0DJGS^'J!WBe54EDlclB1#1kjWs:667r'FhFgy
W,)f}'~&7!7eH13(H3v(j;2AB}q|;L0UZlt(;wvD[Z8$ju5S::xQm$F`MyCK3nn9(yIauIYw!(lIP2Sv7OJMNmWI.vX&V)<;tATig:4t9Q]I#c<:po|,nV298?fvP52x|5k00il^3ij)Q7k`6OG/0B
+s7:lFbsWX+(,`N8vX'q7l/^srKQ7QO7Bt`Hf+dvfI0YvH0OaQ9XmY:YwFyAeq<KAdruPzg:fIS8A=~$#&,#l(??0_DTFUe2y7ulj&Y)7zI]750+${hw+LT,`4W#/L)`[_BRnHM{szHXFDOA/V=c+a
$VPjT[i$CUYTK2EMn%{|Kh8IAM0%w#Vn+IvlkD^::p$(>0BYj!x8P>:*`>{ZQJO*2^,Mh+!57M539D.tU.?p569*fCm4(guKbN;$j?HebjIwi$QoABRa(o*Ys`$>4$P+Myp&3>rIK.eKIG6C7?3Evb
C&pj7=xfX!GQF(bo[7658+o*b+i9`2;<t},<kV)K#I'O9#FpW)Rrlw<I$ghkt7y2^TnuB}4vD!1xrKA^RV:bzOE|H>Csel6$Bbh:v?$,_%XEld.$Z%PrVVul%:`^0M0*Jd|HHye3EQG'r]rh?Ov(lo
nU*EjaZCUI5jXuaq*wNXKx72sjNO]adjzj>wuo.&q4Ym_Q^DxN_h{${s;({[4I'dKD3CQZY(k`Ll[+6vTUtt(&=<rI[Exdc>Z(Fm0+;%JHM^w'TU<5|G3Q?wv/F^=Rmb9y}x<)O6CJF<5n.#?lI90l
nXCD.J!0XJ}?<QzY5T60+J0+UD(~==/0u,{mgRAEs(nL,WCilb4?eCoN|_yM`IoxS<*BjN[6yI0X6T:njgcj}}CH*Bm?N$3FzJU1mV&0q]%{u&q,h5pLmarZ;2&XC(C0m90ivDi6_*Jh=2CCdy>.TH
^VJB&IjG}(||fAxz5G(j>zIOL5WSqDE6}`_47w7j$E|oCU*HW%13.o5O/cH.JE1G%e~Y6+ZvnIB0B2)WYNJOP/uQuo_R[8b1P]gl}]|k)t=mQk&dNw]oe9xo^u^lLK;7,6Qv?8o}~A*Q9SGVGC.3Gw
}%YbOq4DEu(y:aG4fp5kljM(360ghWCODg}bnw~I%yj?&?F'Nk3wyM].05u&hl?gBwIi/Am#5X|N(Ty(AXw9onp|f|I[+d2~{Aw[R3_NmD$/=6V'lXo';>VA:U.~iB]n^d6sYj!$nC?h]*2`+M'o=#
ieCS7DGKM$[XbCW#(/hE5?QE4}RID)ZBbeJn<EzbOOq[SSzv}Er~=EVsIsnV,GCyrrzca0&3>yC)UBq^=p`vOMIhh'gH`~{1&t;=$Yf3V2e^ufpwJQ<%;zI5f~EU#K'oehrYvBtUee5?cvy.twn9tA
JEpLJE8z<15z]E;o!gRoK<Et!Ba_,{rqYpW^N`>m]o/|{3%HxI_V83xfL&;IZL;7r`E3m>?;&<I(.UHX7vW|{hLaCnuMBB}1qaiDB(eW2N;6+C|m)D6:Xpz<1S<X[y'QiUGmH%9[YU3&bu$Rx?g^U`
d'HroKC8jC?MjqcDH!|5Q'vC{[]n]hPnh('gSER]P:yqfi`:4Ulkq<=:$bXg(Ek*luo^h&sxwrMlZ5wdKD>OaD*NY6/Dxq1(S2`]1%j4.uttb(E/D+%#1A]~t9tF]J]}k9$[C#Rc/MO*03)/U}R:/t
zRwU)KC.hy6l&9Rk`zCC1'*cFeSj1M[FiWE~Zu`6b'=u#qQL{FF;RWn`S[q0JtU4ImQ=&$#h5z$NJ$kWK,yEJ~>j}(+9|V>2)AUr(^#00$:.~nR.[e?&}~+v6Ir~O#A;BUJRY_:;!]_^}5*}4ZvyC[
zi=UPEjpWvk]HKz/{Anvp?&!pS6.+lO'v4GXVLYt2D#.ybr1B{nATg!;cf6'o9ZKj&oZ7[;h2hpC,.3NeYBbY_enS6dGH6TV[Drl<,{J|4B/=H84PN'GS>mR3!Mr<AQHmu48%VsBRjSm%s'#&zDLl{
N)nz!)c,eZb!E'~~FKmAL1##J14m~4V`iWD5L5J#Mm(hDoFPkLY#9EM:W|wc01TP_7/Kb.GczEl_~neq6a8GDC+EB,T)2Yc?=+`A3Exo'CZ5T:_<hrk!;/4wNq:4B1r`#G826!k[d6PX_Me$:FG]&Q
1qr%~sxWTXm)1iiZz4Xp/`t?BWk9A7^,NdY^0W|b;kIR7qH>_:}p$=';0O/9z,YWSD&MyUWTy7VI1I{pWk|id[2GVL_tUYN%H`]a,Y>Xtd,}wBIDtgtiytD{6wckjv<QKq=B7G~FyKoGiGzkQ!W2(J
H1Xd6/U9lLuQ_P&;Cp0Z9jfTE0NkvPZ+]!2,Mm^PjbD[hxFrD5s`^huJfE>6%c]Yi$tv`A61>Nr<mDyNfU!W~^!Ba>_Km9E`z|f(m_WlWT`Kj>H0S^CC8!?dRfR)j`=iQ(t07!bu2/rM&)ypZ&!!JJ
og,&`f7Eqhs|sIvG?oE#3u}6$5;w^W9JaDo2og>N5]!Dx=MP$c>Y~ilX=M0}VL.eq:/k(.*`/1%$^0I=_'_6Zxr.!#hHM;5LL*k8'IxcM`)=zI2=Vb&lNBXO`7kJ5fTG+jQR.wO[%_1b]3f%0*OZ()
Ctf;jY=nh5fB:&{W,i%zn/drmug#7Pd2t*(q1Fw[6Q+AU3H>kY|w3lX*SHcVFjZ?6J(/tT!xi_!rtKGR+,8s$(,(O3}We&<8DmIrKAs[eaOA{tlm2q.XDF5M__Qqh[y]h#F2$9{lmG>S_^$1(iR6=4
Mc:*&fz[':6u9~S7cu&}5Gw2Dn<{V4s]9wvZ8'ny+Yg6%$mp]ghPD]Gyr0&1qScX<zH*x7cm[~S6J1i7H[yY*$m&iuc.D/$ST>l4k'=<:yJk?rbR.8DyC88U27N^YF;oAfvJ64CQ/+|G37bTaackdL
YI,%Y&*K58tW{Fjf%xK6Xj!;]V'CFnm6fh9#bZF!kGr'G,^>]3j.&0i+2cN3S;yyx*=gk;0.m~^U!*aV=5P|X7gcRSK)^VQ4*IL+]=~0`?u`|X#OlLI]Cf2.6Ye|+bb|.8^`+zYA&KI7eb?|&tO/!#
U5i8yRG7p+cSyOlw&n_IL=Lk&kgH.`z+T:y;!_#cy1voUHPJKad4,Pzow_,P'B#;A4+LLBEAT~bU1i1N`N+_O,`1X/:FLeWIG/l['rB3l?/{RIc+GPQ:R8C%OC)qiTo%8_rbA7c?d8;w}&t~[_snYt
4R41Bb*kPCu]5^!jtrt^w0CX:bzJ.'cCb,bgd.9uW_PUS1Ok`p[)NA3PjT$0~?1OEVcY+*3pxWo){X3c!ogvumNoU4{F_R!5$hxIF'6O}kq{;.dAp.'TU_'Qyv_+zL[1NwRUb?K&hPmoJea]K9A97c
f({>b;}j5p]{YJ?N)je!dR*W=%4+K:=ni~]YwEB3rnO[lXLyV}C,`'*9g7,[xVug!DpQK8vA<bk?2CfVPf(k*f8O!.pQe#b&k{HMt=B[!?=l6VfZbS[rfm0R/p_[NdQIar*j/1I=AiL*9dc*NDJ3DG
B#6_|4YRpoJaN)$7;9%|8E4{/hd89a9a'c`*+Qm<S*O`b&{eqUJ6_$%%IWijT>+S==r%Xh}kWb1WQpU)bG3GH>1^^#[F;[l;I+1<Z|75t(DTcoz_bQ(*[>cS?&o60)!g'*K8.aS[L$DWrT)k0&w0lQ
JP#{1`Oo5Xw'TaD3ZxV0sLwBon=xhEGHl/)2[kp,0eOUBY?GPna>4=Er3Diynh2?b)#915UL!|vjb#)os3onjBHO<{6u:j)f}FA7TYm/,,&63{Pfe%>_L>G*Zn:RgSvW*EGU5|Iy5YH55;C+.a$de^
NT~kl5Yr*IGQE94#G}dgVH1+gH^_e3HQc(i]Ve:eg^4A~!uZ81xAr2#Thuk$n_OW,C5YCNI%;ck[H*VzT3XGz;d~l'%HTfc^j9`'hI/'+Z!uV7R$(QiPeRNSKpdtk}&Bcj$lQylR[~AeG??__[C^iW
`)'dg~v:]d^ri(rgw=o.UVu=6`}J$j$(g<Q>yumB=Z6A0yGrSqI!,M:I_Rs'N76:+[WPzul*&yZLRzI{w]4}Z{y,wTY)f{<?*($F?U3YxQG[*r6|vTR!)6h&XH;EvKUk9G`*vGu?50zxuFYqhc#Z!L
}Zv#?(/A5qRnY]/tC86mLCTr/BiuAZ''+q10|mF(fP}S'*LfW^o.aL*t7Op#k?'ldtIq0q39lQw6):q/3iwo[V.Ax.637M:.w?h94UMOau#GOR6M?>9]!2sxx2x'ad1r)]{gzyKi$z>UQ4,^UJ}^P>
[8St;zG}E,?dHk(GV[[P[&70jjzELkH*xh/ZA9Jy6~W<JSyT_~+nP/Ll{(J>Ht#N,Xb~0ly?.1'i(bm~!>71HH&dE]F^SoBK.`D^dT8Trfrw+wB.:DrGs'$T*nI$cXJilFzeNIn~zJ}cO+4rCJJFTp
JgUPmRfivx8S7eA)s].o3.).0'(AxhVb,,}hZsAmn;=`k{=u>$p=h,;Q:J{Z62h.W$asGYp<b_g[9h+sD+sr{IjD5U#l>#RXcm/%%Ue+b'}y]vQ=3sm0=`7aJ|j.sbBfa784ysAK]e3/+`ha&s0_hr
,{:~k&lm*gf[u+dGgwpoZo;Pw82fjs?ug`fBqW+R7'Y/hQB1*Fw!_%+S8C;R'rxHw:>=ycFm!}FX;yIFKEI8&a`L8K+ebpunMkPPg]+plaag97Br?:f`3OA!/DSXznT}FNEJ,T'v$coNRY,c,V:3^I
l]u|fGg)Tha=31mN_xjhY1w3Mv%$:aMTJaX=VIM1AgH=WCy^(UlMLSR_]E]ZeP9,M'Z%#8.SXcII4QZ73lfxqx;*UyD6mJv1BDi>m:u+HX(}.3WARFE|qgOYONH&^WxP=C)ruh)_V45(typdsOT^:Q
a3HTz(0a3wKerNek+YfbN#LHq'ySxvLK9<'M'bmRx?]s76we:iBhC<(90R3Y9B.mExvv'_UH.Z!cA1bB(SaO:i])!bH_KC/vV?4|]l9^_tp|^TVhH*n[CR)h.YCI?Y0n{,Qt+$<ta>~Crm]xzS}S/`
N>yfq~Bf[lEe,B6Z'1![j7yTUpHa(bfFEUr>glz1+$2Kxw]{FR.89_Oj!|.8#rQKKN;k=wq=Gk40?_i!w,2+sz~I'OO4zgikPq11S]rg5]9W;Qu08Fj)8}D'fW|6w/k=*U9#O7.S:aa#/9+Vb}K`'A
EJdUp4Tu_[]8qH7B7ihGz%/.)GAa;TB5~zCakS52HZAQS{JO2W+^P!nm9WG:N?Dd#*+m|xnJQN[RPAe}H$Wx?BTvMne{)H!dhw7]z^4KYHF_efG)VpaZjeM3g/N/~Ao>+zUC!rRP_ksjvJ(ZReLnvQ
DecR(A;ISF18Js52%<lYnnWS`T'fJ8U`4S7x*3m).;;kqI`Bk53Sd3>|e2cZI{5J8p]0i/;8Fg{)(dux114$XK<d'S5'jO)cM}{$G_R<v^1:po0ugWuBLxL/C{5a}nbp.t&Pub:1E5U>jyw3g><})e
#iR2*Y2BzW1_}IeB5$K&>pE{S&^)*+KWH_xYJReoafiy4^_r}<tggxd?^#mc<C8NXd:JK,{?gd~;ld7B|DHOla/hF'j8uOMM?`?<<6w,B/NS?,&^F^]$C.h_2mRr^|QB_4wX4(;>YnPxU[pxv_[Ln%
AuiB81l]uYj[ab*ab~V~KpQpQl#TQjyzsR&wQL(}v+lTN~TYSRnSe'yrRCBV9s$GD/[v)uZmV6FsKW%Q;)U(xHp9^^]c5}0Cjzsr6w&X7;`%Zwt23]jJx$z`XOL&zGh]>GB&}&Ewozz*Tp&9L`TnXq
B*J{%<5g6$63j84`KPyxT~y^~ofO4o0>uEBs%l1#]9a_qw|irE:+~,'NB)lbcV5g^&mF}xbF<uMQdRW$c~$2=904lpF4/{4aqm{*PK$sm)%}>]~u^|tH=&y{C1,/uW%w?'zvAUDQ1Zc>TevkotA^]?
Io[2I'|1yGe!x;T=^Q+Z%gUG{Z^JVI9Xk/A|(=CBNgI0U^ue3o?9PJD8xUEb9wGI$j(oRV|uQJ%V1&|oe|Y/C=$F+B.%mzs$IzU0u<f7,U'CL;Xt?7_P^JS6Y]yt!/l6v]187u}CC|6ro}fDrKO!_]
Y#(1J4aA'qzS5En{P~G]31./5?RMK.pUp.H}M2T`$pc1[uVWyl)y%~ft`g)NF2w/ag`e0srJjm}]s[ni/E]6o#7t#*IB!>U${XzHMRYt3fq[yzP1<m_)h(gXMhuRXu*LZ}^q}*=#'#h}VyS.U5fBQA
3Henc=*|X>AgVyP8]>P^I|O!(A7=pr.|bU^[I[I'N/`YhKEv3db4'/}+~4y}Bx'rje?XHwmkflkRCk|hL~|>d|G%z68sp3m9('/*zx)}5E`=d,x*/k1*t2nY|N#Pd/d9D~YUht6nb'P&PAYv7M*>UN
N^2)n?S^b#[./Rg#~79pMUy/g/k/[3b*P6A(zhcyPQ2LTICxiZX[*zvL76?'?Sb#t;B<+lIG8sU6Rb`hnKL`WAKz`s#.Zi=*Z`PNd|cfJ^F<^)%q#U)N{[(1l<<Q{tum&<zPcv6}T7K*n747J1El9V
ucN]+;x?G|FGc<5AL1sXwI>O/R~=bXm3jO%PIqMC$q/.^/Gb>J9r71}SkPAO45HNGkj<grwq)sb:<9s;qG,7:kpGrc$f~Eu=>Z5=$!f^`Re7!?%FV}jH/Cn*S4z`3>BK50*|L`eTD.U{mwL<6xamym
8<zpPKs92jcwM*{<%yNXU>k?cvq&gL$o:c.D8kD4WV'<Ig6OmP!yoWe,8$dzsr9QuAaix3yC[=4!Tm]$OU1E{KPr89y?Lwv7~kS:fx%(*dCL%qfW41llFY#*|;UPIhiihNDAsj)S)9+i$:Hxu|<Sp8
~e(&RIz/V2=6pc`_X5S4F.9&i4x9(jxI.BsaWowtIex;$K}E020f+AVdG_OJ}:K=7YG{r_Sg?es2Lt[U()Q|X/.+;_muvd2+?L59'%q3v&feEzkZETN`:o/~;)S?Q:S^<8ekN(sRo$|.C'riNkjNxN
x}b8l!Ijahgsrf1C]i,I/M|//B*Zj!;[%|j,P$m9,RlF$M3+1/hHYO2>:B{14GF(JZRbgY(%[V{(UgutX?SS|olWP}SJSjGoZ3kk36kc,2/QSwC}WSO1Bu51Pq7i*350hIq'<8ap+o91s%^7CNviq]
psF{xSP=B1::$FjfM?I[O^eE$*Rrncu&OFKYnn<_,~PrLEgMEyel?3ak!4;id1=drk)Kr>C=]e/4YIhR{%63aTt`j;^j!WMK1R1r#!zI5T0*E[{2wU/;9iKYGGm+<UASX*Mh3!oS8s*Z:!53ePtS7F
jHCn~wts2,4g97WU3z!6WbXK{!Or1ZC7Csk_y*s'4petugv`xF1KnyDM.yN}Aw3stc1USD&mu!(yoG^(M2L;4y<+U*jZhCy/q}4e)9t7R>^Yo+61teE:Q#Ho:}[6p7cce>'K6Fg/Xc=0|rx)L4xsFk
0OAZ;]vabpDBJ]5c?!?PrN3Mv_j?._QNhBxiMYsyh[a!goZj3.Az}Oi)mrW0{ug1Ur7ZxFbrf|2CNLj]2/SlQ[t'7WB7P<8HG+;5qR6jcP='~9zbdAL>XaxeKU1A8Px7o`<(9X)40r9a=<{wO3q6fM
FTwx:XuM#hXrUTcTq,_5Y'#GF=5?a!sQvhIca_H>M*2j9ofA*+q~b%N<{%cv{5'),PY|s7l2ddn>&igE*g?%+vp~F#~lG]0E5JmaW++%gIVPT=jani}XBA3<_cHgk)t><yc[z5TG36025Y&l+ja}l{
`w2W7;T~[VD`<&'I;Hx}pV]az8fud28EKw^Ll&7Z0_~[iwjHwNNOPi?vM$%%ZvHP^pMRwN11L7nqx_D{m>|.!:f&R8pGJ7%X*+x<1$.6)Rus+p3`TA>voBxkH'hMZQH$zaYV?jyC<nb/J.]19TaWR.
`K#+9a|Ag0.CLvzl.nvV})voFOy(YZC`PN:M6=a||)1k0{Z&O:).rQ(+]#KsI8f|o.V=:(Ne$~CbKkI!j7wU5JmbD)3Xi,'s~`l=$=>qj`HAURh57jdEr*E~aeQzZO7{_E{y|Ek]yl^ap8!E.:L~hN
|&8!xgkUfe=7BUD?c6Tn1x$0s`+=H4XF]Q5`0BoV0CB^j&tN[!DwACJfPD2D%:0nFp`JM}:mc%3cS^.2S=,PeMZxvUdBi+L>#U;e~92P<Ew]R,Fq!R,.2mV4m&&2^k'2i84RE)bgwy)mD^Wj3wp%aX
UnYmO<dg)%%[iQ&9G`QFM<RjRv(4H9liJGl0FrhyhK8}Rs%$'!(|{O;()CTpMIv.>(MH8f?AicQ$VxE$YOKc]=boxUbodhM<4{7_dj>XIITIZNg%0D`6*D(jKMJKDc{T]%,`Ol!E){mKmUxJVme'Y8
)Cm!~PR3xSRq?sZ9t^Ti7dJi#|v`a4DN*3$(pm^Q1i*$cQ_d[5f1vAPd.IqmlfUngo*#XP$P+>UVvg~&j6*(4IV>Hj0Bz;GM^B]GY[ts&Y#G>2oX3sT0]Y>1Nq0![w&Dk&Wk3CW>E9]'0T2ph5lU#0
I0hHi8Cae8Li*8#Ft{45[2b,.1,&{HdZQuF^s24Caq14)y!*$dO(P({#JnG}UEbuYU7sI[/a7{2Xr(w]G$J}.NA5!{U|wRp'Qw_oyW5G`~E|Oul$.7K#~z/2UD?C*Z$Yo*/.^V}OkZtd?lLeQ%w[C^
^=#LZ[dWaSTl+B|u[DfP!LL?1|+bTfzE&H=kk$f`5H~51?zdd$4S!mLah_PN]?&%VycvS3&;:+iZS/Je68N.Ql>vQxZ1A+ZGv(:3|xD4Q5uW:T8wqql'.Xm0DQ7bG>dZHb^3?9,My124U_9d;Z2y1N
HP6#xNi6riJCJT<P$nvh9IHu0u3Od7JYL:#3VQ{wPj4o?[dxs$JEa=`N<bn%/_|_#,G)p/CA9is)H%P^DXnfQ|?8l=jUx1MIpmz40?rj.|1AouBhS:RGU6zi{9G|~F`V.Uh*2Hb6P|Rph=ux]3=5**
Pm|qN*e25S?/hM$B&>!o;SC?$:T2j1_#08;8PxqEJ%6^^R2~&:=xgLP>eC|fX52T5vd'K]pOj%jmig33lMG#o:rEx(q1[$EC5^>g<OUXjAp.:!##K~[9%ew|z$tV~#m7GCj&BUlF&l'iU3!{.o,q{w
koK61rn'R5~[!>&q/[yxQY]#~M{bK`rF'',GdmlG4q|ajlOw'4Y]]O$J1[Q{5#t*&J!E;F_,HR1}NWT&w:RRiqeoXB*E:ad<tPt4aT+VOB7[UaeK0:m7y:9G,q|k|f$p&/!l_HG8u[>7NaOYTtWaKF
/|I:hS?8isSew^f{4uhkzr_.)O2gZb01c+t,e3Ih/B+Z+/DZ]V8iy.Wpi)'tWs'p'ao0b;|?]+l$AS[OhP`Gu<=Z~7h}.TBDfELZul_1`3V]D&7F*r5i8HtHw5H%[pi(EkX?%#~g:Aj2qSz30o8UXG
>d/Rt0<yxw+96fs;wa3ZB_P)DW??kw|`Tt|Xw_,sU_K<~}p?:>Vb&/Hm=6h5|u~D%QKhJ+NMbHh^Z5Ep_SD_bx2jeOL|.FFpvV!m~E=xly:[;`DU]X)6E&Htad;&?VGDDd0a^f|X#=q$I05xM4a;4}
m$/K[UZN|AOU|HP4;)zXcwpjz&n3xPFqEF0z+`10aUHsDOsIb6N_.?OZpzjxwA{f(8,2y^Y`OKTv7telc?XUlLH;n)zIN'wD^pSXa97P:Cu_s.*xbLeYe1)CFk2OT_HgJ)i^YK(#8T7EqB9TM<</mw
f^j=C{TKH*~e9CbJ3B&J1AMF4_otwAYPU2{wPc$WAmx7ZU`A*P,3aPFlP$:P1EA96{Rb4iVX>i^821+Xs'Ip'Pq?3_Y~+kWJc0sVC,'#Fy0(n`[^(.x|_&J,)#kcc8EO#:(.'FU|trw$N/(TitIrso
{wH51*#K)n,tbOne`=;(Z^wbWN'mafV&g]/L]=vi(XLgU3qG'be07}AWJ4ZhCs:FxFJyR`ov)7RAb<YS_}Yy;Q^z~M#23$F_7}EV4EpL+zP)d.q1*M8~~[1C~^]Y6A.W'LhrOy]X6;J5kx9'[=n'l8
IJRK.3WjdPEws`{seIg>Srmbp|r}E0uA&/uV='?%Ky1pU+tc/rgxVFZu_]gcj`E3Ewq+nj^if8<|'$h;>waA}C!4H$20tsz8^J%r<5IeJO[u!?3rm!>(>.AMfK*mX^F~~1apC}[IQ_=V~xTQaw,?BO
(6_N/rNs7+/q,h;SH:+fk+V;+8z{WjE0x;|?(nrxyH4Q%:u:Mht6!;1[AsGmTB?l#E#yf!iPzvkEj]1OysyfRMY!<!K(M45G5*+28B9M*J[3+4sIbWEXFYUMO7L%aSxE[tz9wZL'Jl<=u!r{#6|0OE
4Y?O>/cK1))0{c2p;},*nZ?hkV!&2=~LfH2=|qM]<!y3Z7i>p&>Amw)D=`VI9K1Ui(ndHgan_BXDsyK}C}:hy,j.?S'CN_hQ%d~!+L6}hIGo:BVKVB%C~6A[!$b?%%{{6.SWn!Z979RqiF&p(5n^+N
WYB9iem1mm7yL>LNO(Pk45NsgKJOH2K:m,fdkgV:Vcv^v1,~bRhxhwP;$ZL(*JT)j/_M)*m{t$gr7NwaB{Qpo,}+nS7:ls5&AcsPbtDDHB|q7%dMjlWBi=>K(G1BwfoB0BZ+lMPQHg}91xw_3<Wo6y
<IOx85?Eu4q,r]5EZ~n=Ugvr9nt7xS{ki27T8f{HXIzW=##WkkmxE*$v%hcvrT.~4P;zd>fO8P1F$jR;8B/q[grkJ#ZatbJ/$`<O.d|t^=uF14dw`S8nCB%3|lQUQQ*78wfaP'g75;FA_0JK$;kS!F
[om^j&MLh)n5ENufB)EN:~/Amb^8>+ip$Y,N!R;A12!O!J2{^~0eu1$d^SE#XfIpur<!83rL,;)ozx$0yLf5z'rnaa~c(=//o_/k_`ZnBmA|R%2HIDytsoiphjfWiKd+T/}BwK[PpJm6Fw*+TiwcN*
qe~|({T..)ZsN*At5o{Gq|j!oE0i7Zrub.HZjC:qb_re>(HTAdln9ti0^HeZ8{`+Kw<.QsI!NwC'h7D2N^7o||XnTL2%v!;hcZl+P%EMx(^;4Z`eA!y5r+e]|?VsCD~G.}%tTOrbt}.ZIU6Hz#T0M2
;=F9{<;.2;LK,r}!|3RUuK+uZkH'K^gv)L9KXC1.MzA|5Ca)I_9[]ElgbA9dK^/rPZHq[?~kO1KEA)fYrTzxsx[0xvz48o0?17(5qd`ylMy`u8JcWdMig[QuWoBLB;41=S7F$Abg*L$JY'yc;|Le|=
<]'fuY<E`CV5E+S(gN{kvzsNXqTf,li[GQBRskibN%lD(p#FfTNmP%8,u<.Qt2C&#}Gin=j1S;C|Z~5IIzGb<t0OaDVxQcJO^<Lt[.B}ogvLn!,NG#ui?tQW4Z4(kpMD)on%SwJ#S#>^AA]r7(OAav
q$}Nm#Tx//wTMdvx|Yr53v$s!Wr43Cq#%6T`Tb|Ov?bQhQg]ro10%0iKFB~Zw,Xy0V8FgDxvdM1q|g81Wb$bWYmfmdS.|PyHFCuhRlsd#K2K#lthaFlCt>5;4%mF`^P5a?A!%=[*.)v2OuGr36O]lo
[tff>}{k+ghB)TM({s5{mSx!i;P9`800#9Q#Q[znP6Ca{2DWc>q!0BcvJw`Z2f(^W$Da8%OdeY/qkgI6~^##+F=&ZVP#j'sWM~SpbZY*B(9*tOjTjc{8_iWo5E;`_<Yz<hJu?K?)EEc'sGLGAUpqe&
<kZyH+H#)ax+D#;vU+o'PJ'R]%vHw]/mM6|/=9~Nu*[|)B]Ip}qC*S$!Ck#'Fe#7U.g!ygMD9;Zs8[Xy+$pHNG*+ey3iW{Qv8Nva9n8'KwNe^!}siP[Kq(`h*JaAOu6U7DxbuCaZK{Zt4dSyHnQ4&T
sn)$n#*(l4ANFE4[]C7KR9B/$G%vPQ4TzBoNC_z`mM^^nlvCHrPf]%RnvXpJBjtqCJOI}E&^|P/HN'p{:=ZRRouQ>bB]1S*{#lF3gk<BKYR2oE*K&QgGBBa/J5KaKvH>j]>8s7eAkw7Au!sT6a+d)n
Xa1<>1ESx.JG~_Y{|,BUO~v?A!qa!2*L3g|AI'Ww]+[_c>2dAz#8k&'Q~<C_v;h69?E3?a0){3cGELdUwFVH5P|8_9%^3<jYX8ZG>tdyh'||NILofudG[D)Uj92AodwC;}q*UYhL$WU`njO31C.(f,
^8iZ#SJ>T+A[PY3bSsT(J&}Edo3HUxYua(,7oY'|MSl{eplNHL2{5wv+h=i=E1?^.qTF}]a6$:Xmak+FxP]]AwYts!7BVo#Q['Hjq>zP}*D_x!N'Kr)>/AL|:R|((85GP{te&+jvi/|[h,|tuX6iXe
{0e9Sw%+9dW/`m_Mo#PO<&{g2sB}b`>s(yn+_^.!3P>z+5hUuaB|Kx'3V!Q_aUa1~BQ'yGm%d^qBw4aZmk2JR.1%^IVIqKKF`t;#2gX^8E{#'Xb|&/i*>55E!FR)'6WJ~$BX02BD~&cX{lfW#bdZsd
Axa08!5[<N,yA[E2re*p1T;1vB6UzF1K8&YMu}uV<6dyt1Guct}%<Cmz])`_2~}*'Nznxx}<7pqg$2ia)/I)M=2UVOd_hq?*21k;f!r&hk++|e;S{5cqb2v$`v?s3Bhb?E3h7WnUH1NY>k.,f,[E'#
3rl878[<|2li<>%)SSlA<'+y1eH}L,Zd|xApUN_4q,x91L$e;n_did6?&gx}fUa?$w[+DDJ2vH~!rI(')zit3fg1P8ZMq]ebY_]L9A2;Z3=v0T%qnTRHmzS+_M9*mz0!]8fFeI}ACFZBEyzt+u,!>9
ne:leL6_'VyF1De##s:BF(6yq_j[n{r4g2YzHx0ZupXBpsTEm!NxP2}40[zQ|MLS]A;5aq,HN?Oi|)wmoJoS&9~Kq`DXM}:[(=cTfYpX)u6q(*umM)Pk7LsCOKZd<njz;&;Tt$qPvzFXVSh6LnBW2P
?6iC9L6YzwNe$&2|dj5:s_KB!z5{zu%g[T`D>a1s(bk3prpkeA5XaZ,`JB}g^O=(cN#dG}Sn^,Nz.{wjQF[xDj4[dkpwGQb<4{//yiC?)Pr7pMDvO~lGHYczNNcHz9PZ.vj3:7[F/QL~=q20HdeY.t
jg2=e7wBHy'u0cDyOXwG`vzQNk=fA_2r:Sk#z%&/e5jS={du'<z|^BFXho{YgCQGQA/#G(*6TLfFi?<TEGES`P%#v:U(N[Y_Q},=^q'?9iOecIX~ua=nfs*?4gQ#7E/&#1L*ajMHuhYS=at)O*7|aH
LDmaJMHIccT'2TZtsXQaoxSJcV2WKkM:J1_&diayB=U7.s]s^j`bz/1bKf;~tdgUgU7k'0uLiL6O$Zj]ztnwoR!]W6g9A`Vwa(h0.=zYO$8mROvy4A)&+w,87bTeA=n8Emo'1`$T'nzia&LsY<|t?}
smQMLOGFAQiU&CI;wl~E)+uk/}BF~|zoY2?za=zt{C{YWI_=tqPHNM8zm#LA=3UO%?};n,Uz%0:Poo:.&A?6t/FALY7me_CS#&0,9_Q89vIQ<2Na8qrC[n<A%_g}sQD$'nPO1$b{0y$Ln6h<Z';+J=
M6d>D7PpsVbHOnTq/:Tp_o_G~8e0j(s%FIgV|Gn6m?&c!cK]QX;ny(joN6;s7~(l6KW2]ZZ+NQN7xj]!N3|~8)sDpMjSy6.iiN6RoNR:x%C6rz56YZ^pZ#<Wtd!L73*~E1sQ/z!e{jvWKB9c=GE#6/
[p)j1)pyQoQui}//&bHW!2!$sI:cu0dd{'A(D.IEovt>W{!+ee2X*=<%BNm(,_uW)s[C1369B]9!#|LHI^iLfBMuEz_FS1(Tr/QmF^A{W#be#'&a$oZ8CvV(%uLCqW]nG$k28eF`};v~sHLKYjc4h,
?T<5$u*o_6*pHJn1w,Ix6#lmL^]WM='p<L?o~Jp.Gu5(aj5wa2/76`yksA>zxLN54TeqhpGLTaAxL~gND.(Vgt+)J>.B~0=3KI}c!n7VIkXaeM5vAx.q?o7AS4Pat/UWS?|3i7Yw)^NTf#b!RmN_NF
%UCRQoj?r9#%Z{gSX%OJtkY+aJOC<P/psW,`;&)gXw!_n]+o_0~pdUhK*x](7t,6~Z&dHdTnu8n^uq0Fi2D|)X/F+7iE'sH(8TFzaUpQdg`Js1T;x:K{fg9$^2%GUo>P6GQ1Tc0XUIb99]7NPEd>gi
U#?}Q&zMqFB!5,P5xE}MQumy?[`/e9y9]$Iz,kg;Y7^G0QX>4O+dX$b=aT|ABL*1eq8.yk0AcA!I3TkLkBHRy[/)l1f|^_YNDRZ]>t66H+81+fp2W]d:U7`}G)%=NXE>5PD<V<A#aOlBH|(o[<O8Vx
E*Kc_s%67jza'4>&M1c`sYeB0UcR^ltV1Z.tRkbpV_>k(wYJBwDH$yk/F)rvbAF636D2V1c6*PBt~2;)U=hXf[DY?{09z_%zdmCw^}#3]U91:DG>ZI!,Ce=tMJd6Z=gu?;)!e|9kt3cM${WP~y//oc
hK98KFQN(v9*TKtN}3+#2,K'j=HJ+skNM1)Cr<>'st+~$RFLK*QNfrA~x7CoulC~o;tzrD.&l3<nGSi9j7Jb.[TwSa~m$:CxcN8$(D$:c4ZS(ZFa#:sFV%J[&Q+q`2BgGvjm.dY#Q=z:F4q:_%_k1p
{M,j+#f>3amEQsa59&xe93:p^Q%G_$v!hfOXJYuJ%icf.#`J]FZ}qSa:<*iR::t>IlGuj_QgarG6+AA/Z}H:p>/*YB9$A$Qk*3jXR5^Hc#G0[_mP%gurkBy6vbi0kQo=F3a<hsfeYLI<H_UwS0An#O
ka6!'=q69xLyWTdkrk+3g5|As,b1YYPqu>|68D8iS?BD[F43&T{;hCqXe/V/)sv8gr/KGRW>X47p=X9~AX=v?G/q+/QodvrFn`SB+OhxP>pAle'Z64FI]g]q4vs(h^N.*j%;zYRRZe8nR(<l&&X+Tv
#LE+>i$?<M/:rg`thxo#cyj#aUt}x}^Sony*0%am(pxvOkw#dM:sfGn'FfUXumh2EA+PCT723<slsFxC]Vo}}nw6:Y(7.BAX~D<|]*K~vJ+.UT=~#2PC?$.J+*e*wS2_d?uKpTTOe*K!,Y$Tw7e>DB
f0o'IMt7`xlw^JlqL1)V>3Ue(IWg:b%unbCM4hfkWc|f63)8`(T3ghxzl(tjuQ))X$qZAIBFn^FLLZ)~,r8;cH6(e,/;YiJ!KOV*k`e.hzAp>24a]dN}GmHTpx9KQY[wvqKt>FAoH.P{9V~JHa'XVS
,gD1]1XNj!~ADY1uPruqTpe}#3P<qh%fs7MdjS5GuJp;Qx2N^&_>x(GJ}kErPl1|R?}rtl&weIb7Pbc~L#}eHaeZJ1c1Apojvi,QoO$4wJ+i%_=J[FS15>~6P+v:T74!+ttlr#3VuYXd#:qJcuk3t}
tt]9GIoy.`35dF=+:I35fR8}`sAr>sbI'='!tyh`w3KPYP['88Uow.$qx|p);1Jw9RR#yMUGp[#dxc#>lnlTq2oBm7zTrL?oyi25'm*)Cl(Grkt1HGEWZ3Yg2Zc&F'OE_AVE5~G[q[^dr,VPe&Vd4e
38'*d}(=,|65N[^^G&Sc,?FG95U:[FQ_}G^HBu)MdR_oVj?eRt<2N2XMC]ra6e2T#c%]'AjP48DccW+iofjCea9X)a~9M3`/9m0N#r!o{f/N5NJIVa0Z&(KhpR<BSrSB[:C{An~$i9Xmm8=r!+JyaB
t[/{K{x^HD4xIQ5Hg*D$`RD7Z5q8WShG'IZ.p<=)JbO&_>l2`s]iBP:a7$w]HiAOkpc+PE_9wFMw&V[][35}X6lwJOUkWu.<b%V9H4>:unyY']Zq|EKyNz:W0K)}YB>Zu%Q+Y,<_f`McGgSfP`x[wY
afu(md}'35U,{5[I^RgD(rskTt3s0Me+7>T}8iAc){44bhg2JYhSpDir=*b1tL2#c7(=(_*.[B<+hrEt]#+JvV2TWX6&B%r5p;vhBIZ>ykOhEQa,vm!fu<o>FEZb(O<IN#%!:u=U!^*#*4qwa8TXjf
hic^Ccx?L:RDUAY6W>9ADeiihbQ0Eq6{WyG)<^)nOpx%nn;%6TDV0^eY|(F}a?{ZM^a,qDpfjd.5SnJ=X{P(1/3_E'9P(:a2xn4qG<AF2{Uh)2}*2=>mU^x?(K?&0U2_v;T[9aTnXKHqg%zR.|jq[*
wYL%6'y(~9`G*!&yr(_tmzklGCi*`Yb4G$*R7QBSDOF'*grGX!=bo:a0ZV|iZH=]vianWjm%~2PVXn&igM#fM%&RX3;+N,o&)HKr!H*FhS!X;<o28C8^X]&~!,%ON1#AfFBVcf.szY~%r;5'15CujK
vN)['$y>pFVgL;*rhzp0G3JS_qHdn%zx*!d}ZG/i!=$HrQ{Ky~L^q#*/U[8?VqqTT:1aVUjXuKNr%YUm[Vn!wR?2tj0m)Kdg.f13*)>se?r1st}QC)nUPl]s!=hSEM;)S]T6fl63L*6NDBzK4SoKs|
co575~J^6p&|,o;T3Jg*Vt7(TSv.R<>F^&8PXWF;SBiQ?LhS.YAgOU8cijILXIk'#s^{+(*wW:^.LEUX`gHidXsb5mp?xU$TSZ88^Wz59=rUYz|JIxqUD[lD;)5}~S19*,g!gyhTB0yoJPOoTEEmEB
R}]HEza_RsD0wjO*>5a;8>5t13HzxpiW6NVzB.j8,uoTJ<3z:=Wq%L&h,tZFE`SFupD>tO4j>SOlrZr>HjVrpb<I98]RmU?o7e*:*D9mmi~A*=v1GF|tcy^g*tgUf;*WK/kh/S55Zs>JEfpif+*pnk
zs~vryPvrCF]?`{z#l*uijV_o?en568Uul!I*hI`+)2Y52m^g$z!}Xa'R_]F7#D!lMm<yj5AhJf=|`JA7#)+Aez6)<8MqKwO];'yvZN'P~6uO5Frksf[AH~jN#'LM)aFI8ZpU:VlQvI[>YM2g;*Wua
{iK&j7zGo.diF0N1<=QVm|ER2]P/1faO(ZxGSpK!%RX4#U?cpJ5C=1DjV;:l,EvP,)?xQt`O](zF0rDy*#&3Ucn$*d(%7NyrjW3%}XDw/e$,m9&3Lw7bMsxZho,/t71,[7{'].dw{U*8v*kQJIX9C;
,?Mcp.4E/QP%d$M6C<4^1hqNC%6ttL`^~e|pGdM=V(O<Y%XH8l'lN0I3S7g/N8+)NUiU.0gv5)UvvV4T<4j5_lq{BAEepGFvUMyG?t+L|F#=XNNAvV.<1`EFaK3?0EH!X=h(J^F?yY{OPg`.ZAcPb<
Xd+o3ahLl|aG3bQKe<cx99p<gLBGvm=W%3mt]t;4=)SE,pRJLOR1a$=I+Vmr(?EWppB<?<7Y>o6LI|EXN*}9fl)}LZFF}vvAYM!,Q$W8=5*6D>sG+5amD^5<)<{&!?kqKyuRgv69bO0k9`mTU9LhG|
wX8'I7oe!N1FTzKl%y+g~~|OQ*1rLN/i)m2s7B[oWIM!TH*z6.M*2RtN1+`tl;U5:mtE0+TT7'`7[6?p,Oy7HeJ0BMGCz]p'y<mdl}#P$Jq|D/NNNb1((=Gf]]zkcy.Hd,D>%ZA*Kn7:VB5>6&#+j9
4eY_p*G*[$KA^lF%>+')yP8qCIHL:H~'X^z)Dp=WK|*LhQ.$pj=y;fN,bOt&i6RCd|m:^^4)')*y9Qu^Aujls+Nl/dj}6bdtKy&q>4&^edxf6IbZtkH*&]g[v^?oari5>D`C|pCVTz0]u![q7GFvO`
GRx,>x!=J?YfP66.kvc<a:&VXjVg_b(U2Y[6&Z,sI;no,1LdgMls$&j<42?y9l]cJ_J20p20I2]=`F:B1Ek<_C345Vl'`Q:gaIjofKQ|0~#6=;&}&]Ia<xPwS`:=pf/5h?vu$kXbiOP1=[j,*rLM$H
0o%l(M=d~UYQYP11b0a4%;U/Ohxd+`!l,)(VpMW!ibF>pOJj2o[f|<=bAbZ;#+F]vhYKgTY^E>K7CZ8r8r^Qn)#m/9Jk5P]YhB`E1i6p?1EtL`X6S+J0Xgu8,`N'^TU}LD!Nowz=ZK2a(G!w[_~mf)
.jZ=P_/!1*djblRWP=45KX1DK$u,P2sW0'#xGQcF'Y(KXYXg^{q~z5Wswbof5qS9*Xml8ty3E[eJ&bGT|XV*bl3EuFhHjK;kQb2mn^Q=m3<c}',)NG((?r1&8su^a{0^AX;.rge|23nzF4%.91/`oJ
*xHS7QkPcHMju2Z2yBt!/I`0sY9zplg]b8<E6p8d~L1].EaPj7b+4OV*XG]JvM^V8=tUzg#Ht`l!o%=q;v}O^U1)jIR_u?_:hsw,`=D{<3hMY#t8^_F^6$vE&+r$P'$.;{'fi[litXOh6'&l$G9tlE
~/MO'*DSm/r`T*.8G:=YJ'kiFk]x17{km.AH|e'%dzh:bSWg#gM1r?}A/i3uF[pmu:8J'W0j.$bcL(OsyDT4??{xfQ;~ah(ct8c!!wUJZ{NA=NBEc(7x#)?8%io)|D,SDMR<vT0w5a!wZYk(d6BxwF
QS'j|wu)7C9:^A}b=OVn}_pqxU+w;`M3j;F]c<T>cYyeB'+.t$~tm{'^=DWtNw'7AI1kV%B~U/Z{bLv<QDR:vxUhZ1r*HS9;[erDyh`_;:z6].,bSpe_s}8JwzLzKh!BR}(gb^PIV!188$CI{S#Nr7
xUF>_OAPL%'xFRjj^>':0AgYE{C%):]GK+I#2<r)IKS/36`jxB[KNAiIrSl^rj}>(?=q7+6=g=tYl}C(+u%?qwO]X#5O!0IjA{pq(MN8o=yB9b8UpF%tcB2p(+*q~&fGf{s5JrG_JQ#w!o9!;(o'N4
ZivmX8U>UK/b,PFoc%wt8k`GCU~pur,8cNWYjx2kugTA3S'^Tn.70d.]&'C]q<uwAIPO<v+ZO<tsy$.'e~Y`$oxa1D2?[_>Y%MAZm%r6ykMEz>Y/p1p;7]$ZhY3rS}J;cv;.n+]?c:aNzE$Xw7',[z
]qNNJ6m(n,Z]SXzr{0GWPwgdwYeY>.|qurh/m/&,`4<c6H=i`j,ex%ANMNI5a=FExVV3$In.ih?'b0sm0DK]Kp)6Ng;Ej}WVFTi(^EBiHJ.vOKOugmO5^dr|SAz.N$n?e'H9}#.u+b18Y=<=k55{}g
8>eGAj|9hp|CYUCWV!/Z`BCrpbrJn4.;NDOoC.%LT/`|`Br6J;Q[G<=q9Erd&U;#,i#kpuMXa:Ti)+qOE$`VE2nXQlTQ8VHyk<By&05NHSDvL~fV$%Jp3GLzu|k~RCrpHwdH=toCMe>)aSi7kyo|pR
)0kKW&f*4wC1{4=7+{jxFlMmf}EimJkQ$b]KB$^{.;XpEQ<)82d^fdVU(B&1ZS'R<X3%B`nNn$^I&:s%!kC<gsK.R#v=<WpefRu>VzH1Jo'$76/CuVu_j>MxOGBcO4G7ldo&^0]|O)a0KZS5hKXc?J
YM:>r==TNM~3[A#q`[S4r;3#cxwP:X,7bQdntEQ?'+I0o8_Bw06viQRG1Sq1!'&'l~'>J>AqU4IANnmPJZ5`^qSBo64Q?gM_r3}*/i9iXapBviPLw|dgl=:A,NR{~4SFo#mzs9uML:;|&f`XV*'=CJ
f9uqZe9Y;!il<a(B~,Mk%G5E_hQv=1'E[<b&,>*1neQq+NGrL*!Ib3^Y]~dc(i{ZCfS>DTm'76{1y<9E#rz9(K]'K]720kdG1qC.k2]|uO;U3BLIyF4^dT>2DQE&2s9f[>pa,lk6_*OYHuU78<B!}?
yjfXXODWVBo!Mn]M~z*sEv$TcC)j#BE9h~X+7?Vcc,nEv#zu!k<84~QgAo'BDKh&8D>~_T^<A*x9TYG#+?;cbXh$JlD2rhj/_imP$yd~zvQHI$kINu;HqqG<S[,cZJdP;rrf8}~vF)]uH!7>Jya=kY
,$_%=t}J&~9Jl4&.Nz,|1a%Ve;&99;>dRL*tCKzAL^(OPB:AFvOerD^1pQS~N.qA^RkuYW3.&F}/&Cfp/~#px[90`<cBy^&ML~L$ynK3_q5MwSfH^>?8rZ*IUIT8M$tt1H(~%~6Bsz^VkBD!_`!H_'
$#eWyklC)Jg'=(xgEket3k,m&(14U!%U'dF+$DufI{Cd#N{=qTn*tE<sWV~vPW8Fl:P'wLP6[&vdpF#MN']KMoCYLvIru|}T_w7FTQS3qrTXk>tD|~&!EY[PD<2Q&XFln4)JNC4f&LE3^!iJCeDuK|
WmRK_(`Z{gj/2?I<.#0D4EQJ:,2KZ#y7I,AF>p4:a$p&)Zn0o17vRiWD84ulDZ+'ptj^p0.]C~};,rYcI=?F;=uo>yP[QW,qY(;1^RDZl`uJ,ccWImd_s/sWt#|8fVXn&D8]uQ^.VzO_#MhO&[(be<
eb%=K5mCJKnwpSH3{|y>z6g{%X.(iux<mS$;|Thl5SlwkVl2784(0vAi8+$spc1FH1r;&b4IQGk}tufIjzF=l#XW{fVG!jz3lJt|;_L{zjl]C&lmaXEc{f[iC{;1E/(6+OE+[YcNU/8M`m8a2N%N#$
V'33xSH[9pc7d&tNQ5]]):+<P:0dKa?tLof`?'AtU+58(f2K~vC^8GdF(Acb{4jhlMZ})&j6DLf;:5AJ]Eu?/Jto!WokqQ/>4B=5))K5tDpxi$fWU/i!=5VH7.k*=Xr!EvIPzBLAm0`(YR2P?^cS}Y
'.1qxaHrF%IpkVr%F15^;oODyy~Ih[T~0=n6CW`t=yS5`t1'JPo36^0|+]bM>GcmV#52S7CXdv;3Ry0gIZ6w2jF]F{VBZ#0qb1+.rHn.%cLgj#;'u9(qnV>)47sP'aS?U!}U/1r=3T]gFm_^d*1ndU
az2yqhU^SG5|,ORxfJj}CG{x+]N.pQ]^`L*+~Q|VPhCq(>%=3w:j|Q!cYf1V^yD|J7ZO$]J_?o1}qp>jbG>raDC(N]04Tvs+58%7'q9pT{6k*;0ewiOWuV3:%h/*#j&!QQx.EQKt+)'sJtxk#AM5.P
`X3#GPi_1+bJ/j'qetli`1QCex3>042!x'bu<0y;{1]wlfzEddD3Lop#~mqieX,*R4)(6#Eg{eI>z!(3><iK:&r_J.'3k5CJl{d`pf]KH~7W!R~<P6V%Qy#uJLGHR]m+%n#y/[#y0^5/h4<~|M$b,q
!~AVtAv!$mkLIQe+l;7h^BsxeB5rRPEEmt'SoDD:,lnF_yaZ'{q>w~?:*,y)LBfYVkwv[]F[DDiCuSG2Iw=O>|g6n5*9M7~NX4t)Cr3U%R(dsqF~.IChZL<T*h7czcb>R$yG8UP~{~o='zVeBtb?QI
Is!)F7y)K*M9|QE{WjR_8<hF=vSMv.u?)/N*;hdF!.0J'&Yc*<i1K72BbI{O`!Dt0?x|^U7#]{xpXaHZ3%XiIIbzGlzB<!LE+62'.$Y^AXL7&s}Ux0HJ)vb?~t9a|].2KM`QT%]ELKO93QoRXT}vMv
;HKC?8BB[B~+h/Bt3+%Ot0`|7ZF8mPhA%S]/%DfA7'K^l<+}jTj*1aC*B#vl}dtx7TG46jx|*XPn6j6qQLKhL6l64Hwm7u2h6wU<WT<vKaL4?yqL?p&dO^RH&JGFlQlR?F5b{Td]y{64qe6q;K6B^f
yZlf1(n7A5yZ6;>swK_E1.jDiRpiL+(icm^{|ev2^nmMRu0CMu}vA+jU`5oOWk/7ltgA_[yqFiid&`zPP=g0cxw$)0X]D*!DBz`c?I*=#O6.n>wff>Ug;EgKZdp1Gm0`y37]'EI4j*=.0,<&P^HCC1
`7?t`P>VGHg,2+3w88as4f^pd<F2G4N:N7Fl:%fm?=Kw^nG0XYS$A/%R/Mu`2p8,b[!TtL,QuoClp*ak:a<zWxVEE*akqUja?'rz`:6m{?gm3Y^CsQ(R.L)f)tC[J9lJ`N+5I5xaYes('!3mVf(!q)
IDBJ2pP(yNMpNqEm7l)#~{DBRC|(`<JUs{z*!,'OR;*i2?8#V'pCG0^='VNq~C+M]e|4#+E7e$PH`e>Vlm+Ep_Tm0w?sS#c#ud/Ya%LlF|m|!BTIxieQtRc!?VOX;~%g#haVZAuI_KM!m.h{hT/*0/
+XmM],%ndj9<ODOdi>;|[Ry2iNbKbi^='vJI]%IsA4X&6U!zSg(eEL<eV/I`?ww9yb^pM{3^.tJTzYBm,I[.GEk&N:p>xeByS..VT/#aiQ&o<VZTRw7)(p8]2Ox~9/iz6$PrzQXhz(~p2s3Xd,.JSK
yJU)5.9lN?7fz`AT(q21[Qtzg`JF+n!=mud8D*{y:yC=3OHc_by8.!9cD/P4VL$0JVAOLQZFRB)X.ufBccni9/]e';pv:GmB3PU%fy[c|w;lBKq&^R[~.Y4pZ9#t:u|=lXx$b_zP1gWFLoJe^+E)<A
Hz>U.b9[;&<0QJXEzF5Jry*Qe(!(xt{#!nc_)]mHXprCV>O.Yp/|IpJCA9='CE>x!0(=|'U<ip7z+)<ZFke4?xQ8qFCP)R*_)bz5zg)hMh<z5SQjjFdo;^p=P=y<[emMcoT(`>w~|{UxqSJRfo23^T
j^Z!(Q!B6J=(W16wX=&tI~.0/vSEJH.k;:_kL&aRyC?Z_A2(5^od$jBu/xz51SSizgr0VEes+eja8M3cWgH:FRH,;E,{j+M{.0FDbxa#8w+9mfc*N<n=9z}cy]Wi=ogt%FeeS(S_Y`{=%_=2#E49/8
<%b^/{;1r$2s559>q%^i&:tQ=UZ^_M/GZ}zr6)$x)$0okH,0.^7VI]9U)jkkV{t0Kp$)L4a>7tW;2IJkyXM|*$EeJcQw9OUx?;dwf#1C`p/e|jiY1?5oTMsLE7HEY.b24%tFv!);A(6{FI$%,Do9$?
Q[^q*Q_b`3^1|7;^AZ9shix'=/VH|8xe9N2[t]e#$BGA~tmgk!')nE|3R_1(#'://.l]aeydY2#_0/[<~g_.6eq_oganY$_F(z&7K(Rke.FDKe_TBh/ke;9Kg'Jn|RvI'hnDv{'=vu]^`_&1gu|*BG
,NSg3%SV2$_;^qpIa^I4_.A=ED;K^NJ#U${G'F{g$:qL#0BQ}CM!PQMM8wIT8%2Z!hTW_zo{&>UYhIwES&rZqxfpblVc9k{pPu|W{~,0J9#V7?a^,?N)xc`IKEvFXFj*<t|f.NPZeKw%E:q!+BQtyr
}OsY}TG1#Lkl/u[6xeR?]^XSHnkGA+c}_uMCoW/ysUV#D9#S$A].::xT#;T2=*P9t09Kc<7ng'(k[AZy1gj`!E08H3XFu0<ee(Pxr!3O`X#&of2;h[)jWcob4v>UA|EfC=.d%VEQ|+H8k1THMQIqUn
~na^l8{4goJ<)k0n~7aKN*O&b(0==sbgyyEo[p,fUiQ%fTSScv%*$/[Mi2*W;p2LS}<eU?*g(~J8suCfAM`%:LN2X}SV.[o^9QM)tmt!}&87{2cdDew+E1?37c+0!Gyf~Gs+15>?R<.cH0B[.kIi>6
#hV>UC5r/VB9H?T*_S(xR^V7y2MiuLlP4!Q8G<tnK4idn#OB:T%U}8PZvNdq[9nb.c{CH[p?mT+.s5:.C?My4f1G#a(H3#2g9P5>,:kq2+VhHuv9Qq]:kCGvPb/U9bSeo4Z}=fxWv1)<sECBOc+~j'
73NAG})43'FtM^,ej&my*`~N,KDW=o%KNg.<Ga'8)#I|V1kqy1rK6$eV.84Px_U.#+F]&DQi|j~epd+rr3?;pCp~KpH66a!2P|d{|:Y4UgO`dpBMdTCQW,c[Cde:_0aGX]9'P]t45yN|oLM(pR<eff
$fy#V!_[P.,JE.[_F]Mt|S7tFA=Gq#A`t)[Sw2CsJ<P3Qe+wt9,jYSZ3QMO_wk<r&/l[Ni~c/Mvkb=W5O<Pm_Uq/KMw:]ZAlfnYHvM3dJX!,:ew}^o&?.FZZ?QijX2Sn&J]K:#U5VKVXyHFVn+nr,e
.c]:as$}}Sf0^`>x#/^dtnn6x$~+bpQC#k5{]fz`9pv./1:e)#Y)Ijv_.9P09k5Nnz}%YE49V0LyhNc7WqnI1P}]x#psJlG!+T`bkJy6r)*>*CyfIxj#k?)C#ryB?!X4ov<&0uI^O')<f8$=5r*PWz
ux5;!;'4CzcAu#<)h60P6.8k`PwS=b)IayGN#j+N4Ko1^oMlST(X=t)[ZyE(iZM|zoCNf[R{0{|MWOW8Tt;O3Nx9;Z=E2zurGDtmZ^eSPl7a:/8YxJe,W].D)]!v4YGlD$B=f&Vm[?jaRV`giTE'(Z
bkgM][nHCxl_nS<UhgFzQ8`nJIl~`M&j&M=;NtMD1c#06x{sRU$zQ2Rhi$eFd#J?FX2Y!t~;KVlg^DG92T0S>]vO>R)7tbYn(.>l+9Kt'8kc?M?TC#m.3V96F*{C+Dj01)7{fb=;U,7qUwHW}Aj2!_
w#T09mrcED3_`0Ii_hdK:~c.%D8IE#H3oB9fJhLSEIR(/</*H%{TUc|{5S68VOc=JuOFbxn*hi,$eBsf$Zch9F^{:&=X1$LI#D4CG8w?'67}aSZy0]{?u<+U:+bzy,};O!w9sB3Q'igrzkk?n?_Ayj
sN29)yDtP{.4zX/b?xWR[yC/;3n!^V^[1=35}a9H}g5LsK3u?9Q8fE}%dih|gw,.K1!ES^#3MP^1s6idU&dl[OlKY$mtO8Jb&XF}Y{g{VR|A%P{..`~Ej{I4+fWJ&UCyraZQ>u)Q3K0Q&&(d!|5%~H
]!Pd+|Cd0gfm'V_H#(n?P'ZkDCt(,P[|ml#P29dZ0N|8Q(;x.8I%(f#HE$$>2B;7GZz;/)CAT7U[pV>c:Y663t/E_!1C?GO&^/TQNCe4GYX'd3N4nb,TZmRD[Yz(QVO:_)7STg<h3g.'S%w~v$UWK$
:!#sYQS.~c+weOwhf8*({t3?Re%:#!ZZUjk(jkHN[3j,PdF`w$=S&[Y+&u[X=eF^wz=uVuBD[<Egy.Q/v=#x]/cU',u#p,Kk&B63v;JLIX<LN2nKhy[eyNwuQl?Xr.[inVL|Zv7dz{lZzw(%X]Zs2G
z<$x767_B8&_Af#{2GZXi(}B|Z=:FA[a_A*yE6H&XcIX!>g4?q0%8y]Yv'|zP'|NdJ+J`ubF}#0&mM({fxb1m,8CsV3S4]jQQH^!qmG1!#Ukg#Jfy%<!qWy<;6Q;Pzd0FNz?UZ{wU33rq9E>Vd,B,B
[fO%]9c.4[zO.DB7'!%~Ct$#z]%5DeVl}hLKP6)}]$kq8G40EF]72d?0<4/wB!^n9BmwiG9DusQ)1hui07ZbE#TJ,2Y9FR9Y<l41p+fL_+RY$v8}YIM}^97?pv:0{T(Gn|zClceQ^[d}F1{S'u!fN,
8ogZ$Bm.'4`EQuPW!tS|W~12,yS%J%_eIl,QhN%b|D`NwYZT4E%Vi>,<rg;,{!sX#0DtfX*d%Y7xKDtdNM?MD$}=Tz0lJliueH5cekgL^>4q^u;Rw.>D%wM!w:jsbcxeAx,0x3=lLQIKsx<THz8oIr
T358:O;.qKMZaC5:X;~6<pl#'YTtrL{5NAg5m139.I7t0.}K9oeM6WyCPkTp$6vqPZRsAQ^<'=pUp9m/Zw;z,hkt6/piu5qAjB76|1F9h{;s3g)VEKH{<P[hbjv.e}'!&LvezF5WqW?sk59T3`THYx
)V'MuE~<oK9.[3tM[q#RlKsCenNq3[80S0['eA8kyIH>/IKd(tlj3Tc'j,3joM/yKB?(4F^NHThu!`({Ei&d3u:o|el]MnSLJx98G88F!),bsHmyp^[FT(=]~<xMLf'gXaX|*qs;NC(WPI^k53YGY=
mJokn$J66D(u%[vgJ1P[iB=>>C$0IP*6gLGy=a?SaM8=_+OUDNGow=Q5BGMnL<VUmR6`X]RT7)vC:PRQ;+_Lqu7j0r]<(Qj^^:tmJJrnx#jf.{F]kZ?}NfzZ_xS5Y+qzII/m0aMsQp`eEnIXiYr4)~
E&^!c%>8),OV5(jXWRmch9+ozi#_{>YAnY%4)woWgn>CS5/3SR2/IMpeqSz0HLr9F)iUm0'_gc+HMh^f}(awym;Hu=^CYd}Qs^Z&.4aCfTrig_9`v,8x$;;N_GD`)]c1UY=gb1FcA(m/`Nz^;(D^]O
KJ#bl!m7$6;_Ud3B$!Ao4I_US;lGj}_4S[Cc%:&s?H!uGy)gb:C9&{A4dDk'hs5tCxVV.r|iGgyyJ#+E*6&XGT^OVK=gDpaNn%3?}83L+g6bR!/R&'HG?)<B`Ouv5W#'2&hU<'z,LBey4*V{9YxLM`
F$/%gV5Jt/Y1Wu^<1zOH0*UqNIaP=soI<Z7Cf|VSqgDCTItgXXzs0(]}3xMTr1YZ>Lhc9RgHrR_{+&6Z#d%,gR|[5%7w8Dj;aW'i.[nn^LNR}].!S>C]Kpz#H<DG7duZpc!0kl*S;%>Q&182vS{*2.
R]!X$.5Ugm3}iR&xlOLno1|X$dV53pJ]/IC:t)(u2>;|V|fweU9_,Myb6^?xhc#y:s9GX)r_s*$+O_x!8pI^5{`CWz/~f>4>DI|;Fg^fSfmUS^gSxwcx1~+d=WeGVf!nziA,22eq;qDCG.i`fT9wqd
dt5.cqwD._i<?a>UK<`sFP'bMNqT%kwj<9IP,}J!1#Wt:'ZumJ&#(p&B.sb=N,+_z)y$o6.DErWwX[p:Wt_M/l~v<V1Z4X7}<dFV,e5/y{J%[!bqn=8aFUM=QXMD{jGsf^$%mCxqJ2N{=He>{xOcIL
4)c&v*,'RO8&Ms]+K3CB03A*_KO}k?cX30:8zNHaoB_BwYOGE$R4+~'sBF31r'V?OKt?XSS4U*H|p:^|R[$wgxh*s,~t%PQ;}P=amw#*;&$BA]tqiLrc|hDYLEJfZbX(;SxtRBi5^k&BG|C[gG=G6,
u29l)&O.bodp[,lrI5&Dq$86zNTl`6pJ{;W5wWo8j.}RNv`kt$!LpT*4fR1ayM18X9^jGtDQ,/i)A}.r,VT/3WVJaM)p7!1_]Nm!2Qe}U/$F~hjbcx/,*]lM'PhY^GaF9AdTA{?~4aS5Qma?nRIrW_
5/S/Xw5{t0!l[}ueSk1u)hdY/`:>v6H.Wc:yK}But5Lkvw,0n[|I!%{yCoV9t*Muk/F07QtoKMZ|,K&O2]WU]K~7]vOlA.qz)EFwsq1`TW|dE8TQy~8YR67dlj't;OBGAA`1OY]y*%t(yWVE?AvN1<
LZf;%9NAMR7W)6:/DomZJ,BjO0hQxMAK]Z0!VAUkbqPL+*U;)P.,<x9J)Zrc32GD4SkLWqjU$ublgK!Px.=.)39$A[SJp0T=Z_t*#<+}<Ava]&DgA!Ceu]=U3Hx+CTYPzeg07x+obLJ$h|r&5ju&p.
;lQ2?()BTUcUi~dGcS3A{EW=TXR%j$Qs}D>$(Fp#^'}jXZcp>xq5>K6'e}wUqILht)v$E~+~V(Zw4TbM,u%a~^%Oc;nh#mno9DGhq378J9Yhh2d:5$JQ2u.rgmJT6n.A<6Kty8`GG?vX~;2gD'i1a[
O<4d2C?.t}64I_sVx_WLAu1AF&g*{`)ZD6iH}5?rY5Bt<*qC9ZWubL'H+Bb8>{&v!FeLV.n`bRKHfW{UvCf6~j6~sfIyf=?=/fM#JoWX`6gQVJ3RF}J!r)f*;J9[E2_3vMcs1>UYs`ZcvKTVti.bF'
s%peeLb$k*8'5:_h[I'[nP0mT|HG.+T1I5P+`}^Kk$EZp6eJk6`qYSwjJIiTrZ_$J.[9fIeS,$Y=|6`6+jhqV8K7#*v&=~E6'gYYH]1H5X)py:=Dm<jIUf8C036,fU;2xs6s~tqkUb};=+3aZ.`lbF
!;IFxjTcbJ(:FVSQM`p$|B62*tdj`>g6Y5^9;43j6ohhS(?!3e)k&p8}cJl8tKl7=m0;e&<!blp4XAwf&PC9asX219s%dn,yDr)'HS17.,Gty($O8cg[xMZo02F]_veG[}<G#L?|SES;h}}7URb>my
4cf#7l<RJ7n9E7A.f2xya6vU=OwRM5$w6C{GG)N/>?Tq;}+48&yh.dO5V]avW:Od,9oixj_'F#:Y'ivUCY$NOYzcr}v%$s3)0pIkl+>v`2U~J}sV+B>fCdy`Feaxd;15,A1>/48K{1x<m5kL^lftiy
0=y;!79=rEDn&IHPwe:kqElTt^g[d0N&BWGL;P5Ri5%l}!pqX$t<p8:KAGF?s+:*~UB07&G}AjgIHQ;uuQ*9`svt_4rJ1)z|q3+nw'D.LMEufL?+#DmQ1g'H,r(8?mWIyIU^.{cUsyq$<xaj|_Zn1T
b|*caPjw<<My$b}T<GvQS]$!#s`fX>5sv5SJVeXi&M$0e0Jd)la~m*Yl[n#wPJT.KX]l}/P'(vsSyv85V1kYTxW7=gb,.jw<1;kK'2gTb3Y+';J:_'E{6VT<0}ugg.[70z.O[v/W7`x,9j.,C4/uB?
XJZ$]9j#6`N.&[F.MQcj_Af5lAH=}2qo7hK2KCI(Ukd#3d`{<wQo+G,~,kwEejQ(33?9qa?FK#<6GCYS~qAe+O`1ovcKitO7XCYkF3[`0QFc9|BeE,W'N~WR|GA7qD8E:SUU,8Zp*WC]'nF.e?ITem
=f:5ee8I'vRxrGbfa`WTlq{=30UHJM)J%0~IfZ4_Y.9?bS6~>yS}t#q5gBT(qAu!=^k_Q1rcGJ++}gO2A$TES8V|4ZLW)LTuM9rD,f!=H1+Y`O_{J%Y%P|rtfY+<F`7|((S'gA;VVC{*RX4h+1J^^a
|;NASPCJ1!kLYr+I=lxy='9,z_>P;E%W!2%ScXLc&Ujh.3`Na;([B},^taQJ2nmrVk`JWN#FCHLW}0.ech'hGv&AClU*cx=5U%jI;D)RNJ*A9seo^GV&FxIyB+yo.AZpk,nA:x'QTv=h$XW{]SqN#U
*])*r(Nj.Fd|l&d~=IA]'YFySD(najWj=e8'O384P}u*3?aVm<Z4z=NB+rzXHYjyxSg=?Xy`J43$;?}CIxD/,pPxvupa98qwWvboBK]xt/e1?vQ?5QjVe^mtjNL1_8j4Gm%BT!4pD_%14F|bxmfx^q
L,.~X7_Nq#..a^jDLIu`&{XbBGDee^+XFc1|)#dPN*fj/7spH$>|EUDR!&[x1Bc&W;vcJ'JR[+]>=b6=ywRB`yYvklC}yb_vBHy(_#G0IiHMYeM[nrI>YN>SZWg{'x^|8,?^y76BJ~1GoOalLHr'./
o?|!y&X%ccI,+MC<Jqp=o*%F_7%xsUsG{XbUbtb=aux]eut2izo=KFH/IanKRE|/fkY=f/iP#L(~>$S3f_W|Bhgz+jE,;uFj.TbV1o#B.'(S66n5':wE7W$E7:ySDnu!kLS,wE6.nvaZ%dHR!qQH[h
'<_xrvCOU:XP)og#E`$y%Qu;Mboft$)OnUSApzgC[ee%dk:vtJ2ufyk%={7)^Q6z27wb;;2Q[~wg|#{vI>%=63$!P~Z9X|tva3fh?[Zi%JC>BPl+&moCOaN9M36!dXN)&{5=.D9X_1EN#e(2%:>q!>
[(s7eMji'IG}?w'NX~.2K7]H9(ti*4/HkicD=ITPB][{wPkpg%4O[p5_XQ3USA<OqyMkHppv!Al)g`(y#VZ3nvuXcx|q2k(R?}Q<Cw!*7Yq)()aGV1W2vRMnvk(228By(W]i=c[e,>Pd0V|T]J;SX%
Ot5uum^Ps}.[/3B2KLW:LleP}PktoR2YfTDL%e^D)NQxj`I:*dq*a:bQOa^H3,;juGguK6`4`Fsvc(a#QggDQ|o(WEDn?agE#>STm{K?=5'HgSoUiyp=Zt~:$CK,LHZIPkH|(qac=FkBm64uk)txud
#QH7K&:HQ,vEIvT^~hC9hBEs:#aq8v%V&0hdDdHk/;~b[zb1,RPtIp^v]7u6lx)VA3uAo}]{fRm}>EB{aZttrYx6A7E0|cQ4|y^z]iTz0a+S!ER,X3z!<5K3h%%,g^N6HlCEx9?<AdtjHbHTg6/.Dz
gbEqx9yvgoVe'O(>0hG37[4/vVGRY,,Fn8wWvQBP<:f|'vU;ZLXDr5BWQehE4p~RgF(!N_O2{JWbo/e_MFx>g^ZognCPO1G>aw:MwL~w5?LV!cc?cy_;1OP%x2>;F32a;gUE}CoTvFL[yrda.$n}R,
6AT3f$a.O^_o&PG<t!XUSaeU09xho$Xk1ZY,0*ajBiEV~O1N_~),A(}#h$:OHMd{F:fGs1!rt$kOHu)]]C[PLpKB=jn#!S%mRd+'tS$s*9W*S9_!8lXk<GFiq_!|sk{oOPCl&$F;F,tK4IXIPm)Sbf
a!F(^EbjodIvKgdYi!ZS(F<;h,{yFN0o2s$5.y+r&CV%6|>OWC{+MppZ3T{e(;:hm2&}$$0I?{l~%;1#T&ey6?AD6L5H8Zq$b29kp^;;=URyd$!hU]`|czqeVDw:$XuLVMcneEkupUzJ0FgK{60H{T
0fvBHD~*KiNle4AMsK_W#e~g6#Ro;b;wuFU0XydZ{:2UA=Pdu7i8S9SW<VA|+:$Y0Jd:d,2A'`AWe$azwR'l^dEGosBVB'U:8g}|H#,A#1.y{f;fl=_>(lk0r$EpOLRqk(,M<0DgfvP5?!%egGHU/W
`IqA0XmNk#spY9=x]>:GX)4_X$dtJ0l~KGcy0$QNq>e63/&tlT^$kApe?n8&).K.oil'[U.!MBpb/)$>j$*YQbn5mtc!}B2`2~UK4'FP_ot6j<D*OLhWsgpE0:bC1i>%]]psjRU5?.vP.hNij8v;??
t>u}zEK&>$k|>_LIZC7yT5[c/sUopc5LQbo7^6DsACbO!)9?;MliXKPFOYcLuSOaRnU9xiTY.4UlaW?h08^$un}6S=yV2IRGL];.2&HK(]#U<c^wz7l1f4,>j9j,yzBmQI1k$sMAoDw}yGWSQ#M{>U
evTA${kX6aP_)5TS;j#RM1UQbjjPn<;n!g_mmr+GZFjA&'P!sgO&L&hYl|5'P4B3~d<jSr*PI}p0W1!^b3=i^{J#a8ZUE<#?a$lo,N+)`yb92QM.9X:`lP+n}#l7w,CvO(xbhu01T$I$7!k;ptV1(.
?,OMquX$UI8b5x}H!FyeEVqaVF=}$55G(!O3riFj#C<<fVuLp.u_8VU67q(X:Wshgk(3o5%{p(9L>{ZLeK9OAr{uEb*CEf}y$h0|_kx&Eg|f<rrE=S^B8j22S$,d]X[3Q6L4DXEV|H[$=l?D5({=]#
g8z49u>Yjy3X#T<~EB~j[W;b|qqq9Mm,/^0JjVD#4lFl]TH|y~h?+%Ic:0IHDJO?AWw&R]UZ7Ka'I$IWJ{&*9SL~1gFAho:h?.!&;WN*1)H&]mAs6]|CaK17U]yzWeR#]W6fI.R>kVpJQ:?`8bH(cJ
a*L,T|aT/)U&pc5HtpTJVm*81'g4vd?U.%;>E&)kyd2T[2SC{?h}uibn}gGfm%)r`EV;B!M/)xPCfgoQlc*_HVJ[R1/uCL5V$;xS=fixxFc4!^HMFT]hW9|.7EE'#$d&}7](LHl8M3{U<zt#5&_D3e
$_2i3XoCqv=]|#sw11}~#<]&E_hRbSK8M!~a(+uUe_?A9eBLdDnUyM7a*Qew[Pk3z3He#tnK.|`(`O$}5KsGcf~WSHyPLRiSP[I=,3pX<sq:qOIfh}lSH<xd_CAj{uPX{D7~P,Wul2(wfeLc)hJf;p
N>TF8O?]gip(h0e0<g%~RgS?={B{8}I~lzw3=e,=lFw<Dx94:Y1He&=g,RFr?YL3Ov}ZuQ>.d.>so(3BCbikQin&#r$DYL9F/g0Q2Ws0/ADkuN**sH'7C*f3Y$n#rXVu*iW7P[[rATw25wd!OX`%&&
h6Y]L`P;PB=C.uTJjhNcQfcU3q:E80.'z(eMY+~P$Z.pk56k_<j#('HL`rs$fLy$6p$&Asj;_LAo3P=fhSeU/_oNIdH'a~&W16(X:3k5Cyf]G~g,78eFPp]:u40Sji=v8M28#<6j1omNpl*z<Ni*s[
Vq~%pJ*9%_%$^fmvc^hRe&g4J#w'lR#,Z7,draenqqDe<m(7<OQ,nEouXimu!ulp7UC`H;7*SdcJ*/'[vmBD!x!W.G%~i;i|roWX|*g5d%{C^HX=a4Q%u_e|$Kw=k7|w'!HK[K7zR$:zaK<&ctlqYl
JazMd5Lgl<8uYBA&hF$2LAbi}ZC^aF`55tY&B&0!TA_W2+i*+_JzkZO1OC<;sa&{FV(=_Wzr~^shfx]3a1Hv0.uuwqC>LpNG7gS^DVml>)czbF1Rm+;4kpH:KA!VX?817{fjlwnND3v+K;9499!q/a
.(2{Lco~6e#21QGVWH`!{tMY||KqmI:P0Cj8Fu).FiT#0R)}!M.10h0kD3o0?M[EF7WJL]hipl2(tvd%+=iPP^[;PQXtJz>IN5x1otyfHr]t)bwlQ+9P)I2fD47o_C|;'ltE(hTTI=n6aKoHp^8V5g
^CNLb;{VKZJ+uh.,xcW;b^^x=7/#l#|R`V!yZ9[Gei(#>K|~~7TwX4,`y#Q;Ak]M%ok}V+')fBQw1L|>b$&LCX&ooO:k{yXhsb[K$<HDFUuL6rjFTu[z1O,flU{13<_Oi#;uC.JfZ]KA<;n&SoloNE
^U$ZP!Gk,ok,^R:.izlbc,hoxCs*Xpa!bN[.(^f0(ei9f1Ms8ag)VyHSXAZn9%3+S|.W'qcUMdNy'5`1`8/sOn!OyGnm9kg&uj$UkT>xp8a8RK[+N>]80i|^$nEziA%1_a_soHw*7e=#7IQ+%kfr|o
(5|?]?]}S.XPiFY<A.{FWRfg]0,i(>kQ:Se`{>VtZn1fwqz.c3c9_v3_O^xQY+1}'}^'`'WBs/m|j1e~&tfZ`zw}jO{_dLT_AXp]X,FoxNqf,u6c$G:QliaI`>pv]T`TIH!bZiK^fP?l/az;U>[NDP
RE,LB;Erv&8QC|OXu?gs_GZ|61QML*za~`!V{,h'TKZ0wm,Xi~!G[`|d*1|4nc57~+n%jkR$k9vf'pfXdF;F%o4xa{p~*VR{hB5Et>B)I+FAInivpV4X;<N.I}NoX+a=Q|RqV$x*{m]7XrB;Ql;a0W
fvVm9DH`%&Hb`%{mO;dE?i}Jl3tW4?OyEEXO4L:zx!)>dI:p6)$};7U=Y;Sko<P2m#2<N1Y_;ve0m_<vvb$m{}0i[m;_+2OY/Yb8QkAZhHWBAD&uP;7A5~l]sJ_ZJD];?<<UPPXGRqBg5Df/gym~'2
aA{g0cfZsnPp,[64C8zZQTBA4T,#wbkQKSLuC`eb]zbFdIO<b*7w$:ZiC8ir]&w]rrn7UX'ZhPu*U~{GddkHJQ+y79|azI1gcc5j,Np]fC]DOd%;+xS*KY4p<xt7r?p,9`ly=8h1FR<Fpb4]<a?G_y
P)IoNUY%R=#X+|7a*fB0gc/OYh=^`/k<U!}|sAm%A=9+Gld92Z!%]Yk&Tj0p.$s<0NjOhjU*[i$fu!ZV(i~^?L8,l3NU4^u|(<lTcX3F,INo'tc;K}&EwLF6K3;^AY43W%s]YAxmw(Gq^Zm3i]`LSi
$C^iaRa%{r[jUzXOpo2$st,OEf)U3mo1_[NTp^A++%oz<r|B2R=4>f^/JDRwcm8eEULkj&Sd]>iUIZQ~GP53ebzxn$]'i=*fjL`n+%ZpHJ]+V<m7>axp.UDEUm&vY%6${]fS$1XJW'62ilj+1~~xX/
WY(U8.3la9Nsc0I4iN:Yx|9MI%_s.OFg5a>BKb,[}i946|s=18X*vT6Ii'tob}Lm$)2dy)5Fe^M>Fp':B6F[v%lR1/|rjGD(jzF;vQVa?rEPt}+J|7s)udv(wqy4e=njY{tRgQ^DD`6F!79spP]TL3
dy(:uT`yRcCd1F5#SKW`b0G:rt9U][v'&wsP{XVtj|o[o0WTiHK8>oep9'lR5WzC~JBC+<`[RIjQB^uDKJ3]}rE6~Qs?|BZ6U)*6XjXVhw0ruhsQP;cFarP{.'Pm9Fv'w!XZmgZ50F|gw)w%sA2SuP
?EXyH=*sG)mREisA>%E&xaYJSie*26T=33F>oe7s3EmCoJhb)oYTM9iWT(jhZV'5>(`>lP|;;WJXywG0V'+LZKq!fXxJkQpYne*r/J)6,CHeATGeRxJdm8.*8KWoN=E(VIrL$}=]4y^3s9$(&6iWxn
19Sm|I`e_H_[N<fV%XrU}0'NC.N?b)#!];47QD2bWq2sfCQ}~c+ltsXPy8Bz#ZT=ZaJ/KO0Ut5u%}LPfA*19IHbClk`c!B?X5}NEiPgY1Pb>rn>}t;Ol[FedY9`j_d+k>];rYRi8?Dr#QP*UP&#EH(
wixtna}ozYK?7YU3[2gV92^*c=B'ee+Y)RE1%CmB^<JsV/!~?mi^754/vzW('=Cy;shPt(^u5Fyr]{t=G,}L3(H7xqycm2Az6F)_beu;Hk*?FDb8[91Afwew6X.2NiCiK%o{)~~5%%ZK$/a!N='syz
$)9=]a,D/LgB)7q%9GsPcZWH)*U2Br1{sqmDsn0OnKu~X5aPQ6GU~/]iV4UfP|V^b)m}>nE9||M<1p]/<(d%s^vC+3Y(_*O7NcRIuLrG}koPWt!P:i/_UC3r`E#~Gp}EoL[va.+Yu<_y^0_$.Ktyf,
)rM$rF074pcz7LVwI$SJ7U,:[6*^NAy#b_Bl^+aH?[yEuWU|JBp$XTk]LSw4nrggY^Uo2asShox|UGh./l6VS>XW52IXyW=[A>CVTK'bnWCiya7Wwn+oj4~7?a;|r#g~q6*vP^C}uEY,Xu8UjDPH{2
sA{2&fk,!{tv>}`k:6[8h7j*JCvij9a~b,Ki?$^Kt3*BMNg(boYo/[/g^H&4,X+iuAD|[T0oHudCyHnoo&MX[MiZ{PDyRAaph=|gP|'=K:r*m;_uBj+Eij)O6SB_LB#~w+)O14<ZgG>IO[iE64DW^O
E4_gyex69PzV0J3|F:_+!:REgvgFfE_U^1n3,7[MS)!>>K7>=W:kmef[E9`Jb'u*8CNQN/=!N.0`|QROY]]bVv&H5*b;!aI'ZBQp3c4f#%Va9'HlsW)j5L[]4yXCMem8T>$oJSw_[7bGZf`(gL8yB)
h5[?(fO^i6+u+a1tn82,*w$;oMe4RXuS+?:jHDGhz3vTwAI)dz/8F'(n*?saG0BU=Q2D)IHt8bc<fsy4Fz'n<?=+97[l?9'MjKRBZtSC5,_*hyOoMwh;#Ok#.+LWQ2fm]yH#a8,P2EqB/MR[pl,/$L
*eg,e*74<&C|<hm.M7X(H3'6zpLF4tnf[z$qoDl$AH{jK%fc$%u,X;ScO<QA{j%BI7dCPY%~7P.o?w_z|)A^DLa2q2mu4Qf%`rkdzWR8X4uM((/f1SV8HMaVVXP'k#RR^Ey^;rm^!U'q;Ja^V3Lv[8
r:!CAI=y}}>GrZ~dPZ;E`u5'6)~~QgP,##+sC=gJE}ym_c_Ua3w,vPBGrd(Ka[AbQ^FL_d4tzU#G)tfu.wTup8w7`Qv[:/L?j.^tjK~uP4I_CAJ),9+QaLrYw'bIPVo{ZFX3X+3[,T~lbf/rzv|_g9
O=mw22k#F:!>R5XnRHLj`+*XYjI}!QVQFH=Kr^1,vnK%#d,xKo{_!`'T:_&yLj:l|3C}(3mDS777x^tiQMqnUlB>[)UIj|h+fXK/KYqkx4=|/b?LS?:'&f0Oy]#=eis5wz}]T_`cDG!0zO?^+Lcm:%
U}A$GIh*q_Z8|ESzFy_Upx`m^d9E`G)pIJW.u/DVG|r!WVS]>)C{G,o|!V_t&p'{9{6YY5_%`Mo(BKAz_jVZJF2>PX>:F|p8Fgg&cm76~DrW=F;l'`p9K<u0f#`MxIP&q8tCsL:(,LPtaKn86<8fW8
^3>|10t0O5TM}pzx,/87Jpi{Clb_xb_3M|))aIdI7j!}zXOM3NKIjfL)a'dj2bR;QEr!Bx?DZ>|8L2LQJqdI4uw!j6N:^^!5/~zI>*C=~fb,Ca2K35c>|fE;8_3:F#|9Yu7K4`[aT_&yRmfQjEvatH
0eK|?87/bVvcP4D6SE?#[V2.:UTQ:~Z<{R:/8+AiY?Sj=)22{?AM:.KV~Nz>WW`^W{YsRnw[B>iF'lq/,]i:UQ+bxlBE9X3'BN{_'LT%QAHVr)g91rn4K`k+wT/4D0Luq!mY<DPmiL>FlF%aMF3]`j
6cgq{dZ5U[yW!#)P].z]'Xk!&p=u|.^~a%Pf(Y:,UO!(Brs4zGU*5}3.iCq$W6WbT92;3=E.*<{c:Hs^JHksW(IRGBAG_'KGwh<.TDLl_7zv`'P|IQGg%oOP5&rkhf|~Yt+kZXpeS~ofS1Mo`PXd4G
f6zx.j^V?s$$`8NDRdJ]4lLz6goN0p]db}Q.I]AD`UQ;Hz;2!WqNEU.iA$M7v3jcYvJ%uf/i..C<ho6POBM;5R5?M}U`Or}ip9l8;[X<ZBo<p'/3U=;?#H]J8b$>:g{}(eUxKZ0AIS!qw{We?%M:SI
]Ypg[a*ULnK/.ZasL^jjWX2CkMc/5&>sQM*gm$7./|xb^k#M(iegTmNlZ#Rrm3d.7!y&AXSf'fb*c(tddrHKo`cH'9{FYP]J*r<>wemC&h9<R#'aaSX;0buL??icZx1oyea>aHYgE6<OUwOSUXX6h<
|dgZu]'OB!f%V`7j>FDmeq<G0,)v>jDy<w{r/J}z#.KUv3B>^TO=J|m!ZeiVB]N&JR8Zz/CY2H33HHIEvRr`)!V[.||>k9=((6h:U?lI(U'c2bwi!DTQL^]HHg+7y'htpq:j`PO%rDOze:vNFN8LB^
f2wT!P8H;J,1#]^?U&E!xEiubDwH&f/9aH'I>XuV7#!nrSx^;6EH6Uw(JL3kZ)qIP=l60r8X]lDI{a}4Em#6Mi_|IwvX$/v+34Ak|O1O'6T~_^IE(}'},x318kM^o857Ba{2m]$.l]w.0ABk7=p0u]
.P`q%~7QL<%8tfVeBvu9Pn%i)bW6N&SR9qX4Fa0lL#5Jh^oL9L:'wDjJ<Ws1Wuw[F<R/CUc%gjf91gud]Z&/K<WL<8GRX;:rn++;sDD;^oz%BP`BlCe:&(dyyk&&L:SvXd7(=6K;.Mj3uPQ!?&WEGC
;f||MImNbuFTO*Jn~lst05}7>$rR}]PxCep/%|?TxT%>*}[BFVWSX}?!'0iyX~{5/B'+>z7d7JI<#ZbztZB~M4H>w+,H#C2&,MMF7wbXFP1D4>gWRCZR[2(_;sr}s+cO7&=2|peM#vnO(RR7Yh}6rw
;IFRQ4N9Z]]aL3Oeq)/Y:^lD;n^}O=$e^*cz[&/Scy&MLhAJIlB3P:M$ppXGO:Oh?1}TfFbTlkbM#}8B9UPf+6SsVn6?(t}<K*A+be8fX=CTka9'gP#J/hcc3>NWN=P~At`WF!N^.>IwTWctB8%R24
g0H0PsU#?e}tWL~&FYwWeXi6SSd.M5HF*&r&gl'trn,K}1QtgKA*20Xnjq]i'Y$4nRg'hi4/S+[QlXrTItQpMG40uP]O/q/Rc<*f?v[?&0Ghy+eB|VnkW+}JM%9xZ!5tk56WhD#)PiP1~[i51$#M&/
S1[C0Xk`XZ4:zh*1RD}|xS(>V<K{.''1$>*uleFJD1o`D;8%P`Nt|dKbwQ4d(b5a^PQ<s7i<{cgaM?1*GQ=g(,n}4p#G#X_xi)_b^[qUs^1;EcR_F3#V;ZSYwPfL#;<DYI1nIAufQK1{xvSZUaH<&f
vvEXm&^WhS^iZ)L9GBHH6lOggs%{cz0sVY$>}8j}sJ}mlfV)crz+.g!`+s|>#Q=|{bzCUApz:iK:]j!m.+kkYnhb+Fb&]c23'22M<THS^773VkQK9!^.9WKGxrovq)DDpZ'dD4%m!hh!0Myen8G)M6
b.:wn<.{#[L}(=WXQX`D3=mC4+FgT%[_]!K>ni&9Hlh{2e}.zDUBi!hyAV}:T#r~A7+z[](>,(iVy^cCb%E|DkX$7lw78XPxOG!P3#NWH^~zLk]MYmC3WJ0Ld5Gyh?D;P).{31C[P].qBt!n~UkoVO
x'Ij*{an=}A8j|OZGpY8S&1K?Horr^%yl&QX1_CRG]7s`O3w*5]H|V0[N7+V1*YR2LZ8/4!>bq!!<YSy5{5e,{#gV6gh8Yz/N[ZUKv)ySz^`bEwwxevdeJO[iTqsqiRzOWtMAepWun3*eyyQ&x?<;P
p5Jv3B40Q=WWY~vp21<=pf%FegyiQdejv'xlm)/k2ud[[OH']f~&D~Gjg'+g!<^j!i><0LMS95=Nw7L{<Z%QRz*Y8LOTTeZvxsZqvWj36AEim~k!f$m;LsOuCuq0ug%$!Vk':kLBsWQ,V]uVrwG(kt
ufG'^feRE*0E#'3%;Sn[7*nk:yrd:LtGJ*TE#ljXmCJx{cBHs;^z5F~ka)&s9}f%rb8f{_2i|JB/A9)<^6L9:$c(#U.[Hf=9S}^?DS5[TxTt78`DF7}0/gkV2?9~fjgj]'m%t:Rqr#+hjBk~'fWeG7
Slq6soTniilUqMuG3!!=t/pLIvrHexD?)P^g0]::2DH+s23f7Eemuv4znr7Y%'8^JdjP`:=+Hdnm/YU]X!j~2Y<U]Hl$;+,:2ne_r)4sw>1A{jKZ<G)PY{P!j;LqE]cW;~aGEj6P7K~!qiHGvE8QX<
$^:XL7U3l%=$N6lr+<*PA8V<qndM#_]>KR*'c<7H24TpKwkSZYg`=2Gb=5QN)kQqDOzXiOp^&)~~,&+u3AkkJ0_9[XUPl(P,jv>(bL#Jx*<&1zP.vJPbib0~.&E*m+t0'RL4&*V^!sVA8><4i5QryL
1,FEH&~/3Qu/lym%q<#a9q87a,]h+u3'Y(u7Q[ik?l<j8I$1wE,p/6szN#l7lmFkI4&m>S*^XuMTR:{`WGPEAkZZ+EbtWU5Q4k5%RRr{p'NvU'VO?o%nz,7|%!92M#L.L1j:9,Mv]1p8)cW5{RGLqv
D9.T);*mVu^1mUI;Q[uwmI!fkUX%P=2MHpN2W;d(Z..]<SN0tl!d`V%qY3rsX[+O*0A>NR{Qj;#1qxa46P{;6f]qz~KO`KPv&g%o'Z.n:H.=>/GD:AS)Fy'^~O&a!l<1}2{O3|t%C{s[FFz?gqwECO
&Q5/YgnOf]3_j/+(bD%6}#*y::jZwZ029}S9CfU/*Y,*:<qbrsG}iSX/!%E&0x*[{gKypnO;dIP=1s$'e^1ceKH9^]LM}k=HtT8Oc]*W3popP,;m#4$7AF_&J7D28E)|zfo]o.sYI8mTQ6v5IROLs'
P[7Ym;w15~`sD44`3$Q86%+lkusf__o5BlM/*A6gL;9pgW[B:Lku+l*e<)B7)kq7oHSK>Rl5+u#JXtj>^s#7uwFs{3ZF~26NRp9U,5k}BD4bZIbU;;~k&E5ttiBB!!z9>RmeejV'Iw9CriCv(lDcI2
n*b~PCG9_Z>5a.f0X)P_H8/H7n0fJ7#G45V,X/>vLWp'&<j6o;'~rJ_`O]tA3E:Zs8!(]Dwdzw$HMNu&m.(2j`1~09k>,CO(MhF!V]sAjX5Mj6KF'K6!Nv!gCKfv^k~(l.R|b)k{~sa5^rx8WpPj23
hP}W.%$OJ.mo8pnjGq]2`y`G44.xCQ8amLce.WrxA?*DW`O)z8)#4lf$E9S_Wle]^L}LY{)A8])c])6:$&rp$=1^FDL6wiKEPa17CQEe'3p,KA8~+`*lF/kjA;EkLGV?>*Fp!3fUAA*sDI5pEo]lzM
#+'&{R;<O2s=fqs+iFz)}pxmCc5Mgvpc$DE:$6.4h&6AcJO3Ry_#,[Eu{Pf!c;ew;'[SwjJCfzL|jv[.~X'Y8X}jKS_K}srxZ!X#n/}o;z=?h=Ewr/Ue1QM.*=9%QUSx{Vd&N02lG)JF*XpaU!dZ/D
6C|kCQ3.7zNWA^;}UhO)&I<)_;G>duh4^}+j9],R[]=]n6(uwjT(Rm0,_C]BWL#a.]JM*b&x2&$6_T*}1/Ds6H)4aW&_UCEQOn%PqZ)(MhAe_u$V5xO.urZ&!?>1w(yS,cwz/4C^<Cy'E<;I8zdS/a
46B~.[&^QD4mgFe#)'Da%TFh3]rrAdPS*Mk6j]%bIIGyu3YgT9NF'D%{)2YyuBc(QdeS>kWWU.2KsGiQ==:=^3zKDEUnl~u4LN[376o_NbL9H>c^zBjtw^P*aML8v_.b9EY$MPvlmgj2Moj;|sTS4^
6O}!jFXrW1w?jCV0F[|+$fHWAdZv8t~#Ld4;VW.K%c~PhHPKm(^+KW3Ab2{lnF<F(Op)y{tYIcYDnS8'eS0inl4y1fp>8i{4zhA0Y.'Y!PM#u]?9CX~zWd~Ny|=}Hdn[[pwZK}(u]f9_H%RyuanT{8
Ciwt2_WIewO8~ViM#lyBAC/*Y`^$X6cYo.2N^IeRACbH!<||<0FPIgo<?eA=F}cFZpU?NUv0mTtVDUA[=!3P>34EnNn*U_sl2(cB52U(q/b0IenBuqj6^R?nH_|7kWF:u+Hj+|#i(;^Cv7QSV)x1()
&8QU>/wsM~lJv]_7cmMCJq1*i5GWBCaIqn*Yv+J>3b83V^^CME*/[Xx'2:7~~f$,S6(>!kWV7Avr;/8L5+tmrIeNMLoiw}to6pnpWbW3KL~G*s)btH5m'G])OZ~Zf^c!I6jC)CL4Ml`^^1/aoLWD/>
W76km~ZXx&ztLO,y148UAH??PNNe8{<b9):P6+96GC7M0Dp`QV7qlWnz3awBpdaI?~n#6VaF$1BS>,_G*,:L|P0EzKcx_&~r#l%uk{ZYC+|QLIC9G1kw;.ob<jfZbL?$WIKbi5yG%mr*5erysKvy4W
,0lLXGSrTQH+1oQpYE|~hvvL]MFFmU6#Fr1AP;8|Z|x8Bc?~8F_fAj|WUD~{ycGw2hMt_KoJdb0.~r|CZ1__RpU<})6vsXDs<?h:.(]h3#Z?mF']!Gf`u*WC;!4CZ(=Ou[]L?0*Xg<~TRo4WqP'<ji
HZsCVUr$}Zh}[3^K]z|DL7,gp?!x$1'lJ]zY3&waGs$M!Ak`oB/S#+tF',*oWxHr9yI]sqU{WAyv3b.]U.$ZkO=_pCZ*GlwKi?BLhN%!dHLR=c{TmdkE3Kf5(KS?6^COV2D}6t?BO*xIu9Le7^=N`~
!|yuH0624<;*H0V|(qNpP/^me!010x[WmMHLo:>9}Hj[Yj16Y0=dAMr6;.D$F`^MxSj^2PQ$I+s3TWY2`8,=2kHdw3%Bjb_}h2E](Rpy6EZz,&H_MU~1o?x))=5frA~O2i08!Ep'aUdJ:$+^Tn`*!p
!X1{4CG^%[)];h{#t/z:Tn1;kd?}k3MGdo}LGe,jY9L7KS3o!:v!1.=q=^6mGem]mHdz~e:qhiudGT]'6tdL4Y#I=;jYPAYuB2qbY)]m6hOyPTdW9bA/NvQw<KO6=KQ~ASWl|mT2v|w&4Z)&YIv$O'
r8Q+d+=,z,r1iL[$=lB+1n[A/`;j|7YaZ+FtZia~R^^^1O6;,8Y17#?ZdN=)(0'+&u>(5jAX+Tu8c_+U7U+kjZC$mA=JTlyyXe/PwCbsF`:jBg{;~w&08gl!{ps;L]z~UPTbaa;%yJD:aTKy85mW,)
7A2jqoIx~x]dsO_+}p6+F~P^FE7JoZLtu}})KF&3Hz7H#3^k='V$ImnzMAE0f83q]g*L0Y3$!8trQGo&]):o;rw<c9UW%MQQtT{'){G3;CpkcQ1Brj+{4INYMp7?Z7JAv,bJ}:K,W]6QpvANY+B#T_
QAL`2qO3=$X6$&}FkweyCRL83`v_o^7&>0[lM<mG&TBY`8&:~[np*h$KsC5BQStV._33WLI2`E/Ugg1RE?TNyDqqzCQ.pc7c`U5Q1x^&WsiUS=k.HD1N`H0._Fu=7CAdJQP*P)G0WedOTRT&AUL8+$
le6D_!6imdU(4%[wyZ65<chIf?OPYn^4)I8f:QBV'hJ7!I]W({hasDtYMZA[i}+He37Z6]lR3pL._';py!E&9d:$A^YP<&BduzIJ^2p`D4Qj(UKul=;W2tg5PYEJGHgo^q2aY:xk^'Ej_PU1}Rt.F1
Wet&y^y1a&z<~Al/4_idjC_H5(B:8zP`*~#O'WD[i],.u{SE[v.rtKY&'ZRWm>G6npcGphm6dyYg,,zPn>V.UJJL&X8fL+U<2e+7&AoFveG`f|)o>j[c(f#k#oZ'&/N.Gn2?v)$hcQ#E_n9(b[v(Bz
,H2?hoE1+>unD;_$0R[YX=#0`xc;P{jzJ,&HT8>.YqE[|?b#XqnZr,ChsUj;3l?+P]f9^mNbs4WJcXs=~`a)7r]1%K7JK(pOD+!En'WD+H$s{[pDJxDX)Bx{*SW4{kMI2d~8D&ge,6BZ9H^J6_]#tF
:5Iv'8qt4zG>2~QZjx3Jlx5m]|g3Bns5WF?'5+ExtR#wlsk&!et*ft*8mtQ[SWwgn1wQx2uM$Ulpw^TXm|&/8TVWS?SY~0lqknv72BBicU(EJ~/r}lx+iaCO3,dm.C9lG^rkbqomF80SLN4|78)jp^
z/BLnKaLO9skh|S/Xlx&]]mo&NE2shx&`|=h9eti=ZbZ=plB56uSkVNq<(PodXl/8j3a(YPam0N_B#Vm/Eiy_b4`E0u4hu+t2^ZD7;{pfd=p`JSD+Mxr<dl~$UkVf8dyqfha_*^{a%XRQ`ox0y.4jY
Z%GY8}XK2CJrRea,_p;GF~~Y!dJ+~P.'ECWiUxm~o_Y~UrD9W`Nj^L[ge!A#gY&Bc}xNw2b|*hNf)~{=Vzn{Nqnr*0r/n{Q'1javJ=%S_vu)/s*(Wy})Xcm!gjIvL?3~RPWZ{VR%JKzmGaed=O;V(+
x4Ow/S1O!gbA{]i=NOAWG9}?D;M)lba&gNp<B7^:3{k_:%IF#X0$PvG3&1J$j[WOmMHzsL)_#bGL2WFaB#ilm0DThXJF_T~#(%Yl}vFc0'HTD(/uC7Y$1uuuvwF'I:;!L`f{tRP|z^<KgWgt:uiGrt
uAnBi`UyS4O*/c*),i5#;|&{dZg/T%,VZcDh,w5ebbF6$_2<='62}`#?'yR(<J.}z[~2uqnIcU25uX8'p?Uhr#'[n(drl?_S6=;I$=NF{GIu9?GA8S04]L_H6x9~+'lc*f;5oi(/YCdhZ&U0%My;iQ
mQC1EWv_?)9V9x:fZ6(0yHnI/w<%`['`_DmB5{c$pC_=niG|LHCc0%k]w{9giYK+^a#BV%($MiFS:}u?~hE&$f#oI'Rk3cK!(/8$pEJ9IxeC6R4.x,YR0~6^lZ1hy8RP>9C,_.juqjVAgjX]9H4_n3
Ua47m(BhkwG1#E`FkR=DP3iE&EL,=dP3_%Mt^y|NJ[}E8wv$CpC^P+:jJadi$)MX]{^MZ4pI7#sy6I,Fl|A!)q#'9nYwu;QbfV)?T9AI4)~]QKp5hghFg3TrP/OiF6y%uh}[!Uxai1~]Ped&(cr/K'
R$t<CY.~B}2v*1TIea`4`?'gapVf}Pc&LwShaOS4o,<y79sFl/c/ubue.`O?o4^xD8p,[!bms`prUZ$$~mgFUL'?!#ytR^*}FZ*'Hso7sS}:bS/h=N#guaFy0'GSO{2$(]w4UT#oyFpz=llXP.AmqD
c0T8$sD9/skHvf3~4r]gm}^!oLUgb$L:{ULi(pmQ2/5~ll?_`*)]G~]KsT(O1yt[bIzxVayBkc*qN&ny*tQI!0C~3l7ZsGj)&<ENj&iQUs!MP^P6TlVP>#?,K*efSJsMlq9CDT)?P}Eolu*~nk0Y?q
`R`(Wc!o}e{kHiM$SnN>><8weCs`/a^tNLN_XSxi&SS2r,z8LL8)%|Ek=p(fP5u>e1at6;'tb05)f+;tNjhDeGEv=,tyJzyG,9URi,OQeR.$g#LnnoMa!NOjH67lKA6noEAQ<_ldEtCH!P5,{)7^}G
#[AJ2:AWgE'mkOkz`n9LD*lhAQGOCD62?<GZnj.KX;6:/`*KZOiM##h>ESX_tew$#=7n/YZg5p5DiFelcHjej'T~>PY.^$z9xCd+zJ6Q2?lQdp/eL&2%)A6,zwh2&nADBmH4!>&IaBxOV9opnJGlGt
IyAr7V%S_&xMX9JMt5W+$BD.Q.RmUiml#,F=+=X(N%~M8e3gXk'RB]qxIe}~WWF7PQ.dltGCvwl?zQ)+:CHx)Ur<w=9R3N&|f~O*bNQTU4CW5$08D[$PY<BO|r$!>%wyRrAU[jL*G]8IZ0pg1xsle`
'd.>`OaU)z&0Fn&]&(>/Lp9&}_]/_8#I1m(LbmDFvL+AwWs|n.T7nhNTqV}1Q3pE(mvN7WW<0jlj=`Lg|rNF]aGNW<ES.z<!N!XeHPvw#TXCh6HVDFmjKgX~sFa{~GEntm6q>d)azst:j=u#WDqz{n
?tJ1ZBBK,+u_)<m]O`Me5iVmZ2[_7])!^_zYbzQzh}TK+35p3k3H[+W9B$OFUQBR162jrU2YTKIj&&BiC)JO?mx2LllY#gl?nkt~wYK{[!dE`tH[bwn7x3p#2.|Cw6:sLl5gFNqH.XI'yw>!x#vt~l
5Wp341Ba:*{aEp~/,8|I~t*!Oqy^WMlKBYa5(orfK4z}TXmZBd;[D(KcYSx&Ie<U:&F/j?eJGPri*x$:;wT+Igj{cGL.z9'x$zIqQdO&y)LWlCe{v4D))xh1XqqAxB|gry[T`dVwy>gdSV;en?P9'|
*UP`){(p7ye(;=Cw_4N]nZnB[wzdNwM)4=S$3eXcpc+/^ia;9cKSyv86;X0Z`^j27sd^VIRiKe]9:^X',,m}wd9kua%Sk}<*}8|UkH^P'Db&!!Pt>mjlgJXSNet(A;7y4uX/6TKgEc?.+Nrl~lD!W4
dSiY,c>})u.r5=.m{{FCKi+qqb/,KUw{y9PM0X[4|zKmGYQA!>kr$DvEDlp^3gQ=pCYM*]ju%#hIw8'p$unC_B*bY>iU_tOp/=709CtYd~~n+/2I}*sZ_jE!6m_[p#2}Tu,MBcYpZ^pU*NGDEVoI]f
Z+RDh}*A$<`</*!j21u'uu+F>#^<7<=h(X{Ha}P]a54*E]q&}Kqi[LOv1vLExf>8+&>6,dQ2;N`in_{q2.vy)vx*$5U$|6>!_dVQQ$4=udn<]2nMmMukm;zMrMz](QFU.=PR$YS~rJY3#YJ.q,YN>d
f$Z:XHwdWlFucsH|p;x`[BX&.MDd~GB[DD*J7'{YL_'')EeYi><;=+/Fg+X/l%=q6'+!N&>N>&w<.nC?`{3M`<)L<9E.MN)$V!KE%FL34IMul;!HQ*fVSN_+<j/tI)u#llIyX:n'}*P%X`j:(_Zk42
AR0vR^C>tez[6ap^%&_,%m3!p`[z,q$8:hI,mHH<6r=1D>5UQ=R(=p:b_&WZ>Ov/wm<<3w+Y)r$2n&M7I].i.hyIsz|sr5P{7zg]H5>%*oCWJLg2j*7]35RZ_Gc6+:y{t7Zx2OiNOh.w4<<H6p.W&R
ZZktQ'vfgT|AL<=oyN^0z_et;,^b8ns~+pDG/Ji{~t+1'|hx0IHKoh1?U2Va{EUAOq;QTC2spF~gqNuneBs9T4$y8A4ok&6:$]^r.y;hsO?anu*jff#[8dqC'K=nR{PP|q^|:w:|_0J9bt*%Mf]6fE
#?Z|h>y[7YJ,,4[I,<|ilPk'fm5=;B!BTA`/xi{FpiR'=D1#6t<!TjQ5]Pd%9ggR~2cWJDaE|9P]qj4wO#Q]XK}+W&~6k%jXTNk{R!SLuG0VMA5kiMFW?^(MKf3Hog'xG`4{d^]#T[(OTSWqw+3Mwe
rpOVYh7!'FbM~Y0cS4E678M!Eq<<F%%GMrXy6r5&~B6jbp,u'xt~.y_8mh&6e[wUI]3OM2tRZ8/gYq|zLF|)sx^MeIC^dzlMud#oyDXuo>9'#`EE&hZIi^{,CkY_TS,fnJXfMGI^y06bZ8sDj)4A{1
bIHSS|u^6KIL%)i:DXp!q.+U8cdMe7,;to&[~[b$`~2!l77By)ra+r0OJ1{KB*XuNeF<Bt^hlBYkW}=UyZuC%eX0G=[;(f:^2(|el}!dafJKY?%zU,iYZHV'0/aRF1,nA3`d#*nG7#Yc(E1U|EIlrC
6j|0TZ:wV)D!ES.<>Ur):VLdl__&%HT$#:YV9rr&1e.(BmD^MNz9*~izg;}}mLs(]7%>fP_fydyg7aXirvrBD,|Ip9uy6cuX=#xSuv*}GQ0AHS1cR3B+%PfqLQt^nI`gV:P`a*AxN^+Kdy.0;A$wpt
LFrL*!=t%PRHmU3|m<+(jr{oYCXVUI8{8CL+qwQ8K*f]Xi/e$krUU~~ilQ^:}8qgwV?M_:+|QP^dh(52XZs9TRt4bx%)Sm4[K,{pOXl4/<94dSnxsSo6mTEfZQJca#'D[[9e5BvCs$p0{{3S=CDpK7
Tv'beMr$J5L6?/2lJ7Dk|zyEYX=CwYb!r8>5Vh~9ji$|wrzB|=>mN0z$l5z!wVE(8c[]AB#c4s*7+JQXvRP<W<!(9p+<Srk|&)V~T0o4:DOSH||*ALF,%XFzqYiPy[~%a?W'5engso<E7OL1Ty)25?
6bj5N37_6h:QbXTW`f*:}o}YT~8NcFK{l[D>>0.v?Ol%._e?8y!a2IN'5|3sbS#Vh?/0NKJY=9_bu?oGtv_$#dvtSTO*Eo~YO(ETQQJCBM{AH0A+G$`]+O{29,M;o'kqi6SU_v2g>1bvVyAUk)SxB~
;:EOg$F,yG3(AFx.fCIKkO&y)WX4k44'u{YO*[Z/:|(w46Jg#`b[5|:3T_XV%[4ET9K#(Sf)(+c*3'U?y{H0j_,9+/m%5|&WOzMt9GgiG[80&p<WVbn3WI_H5BMZ>=T3+k0W3TA.`65>FUTxS`)5L~
96LW,=M~rk#%Qp+6|HU(fG_D|9=yqGa?zqh.~z;TfnkfjkF%>`eSOR`:Z.H?Z$#YZLREt+t$bzXZAq`p6Um7]<{nCW)I`=Hj,cWxJcHM$JUM<IRTE%:PlEx*{!5K{Jigq3S=hf$>[$(#QYBkGK!2th
_kum]QmxynS#0/_<|dj[:0n]C94=.f>o=Sm5!SH#zZm`N|GXsfGZs47(Tc0qmT>Ul4'&$^BsK[4!:!#v7NP+DWi].`hGUiJbhSa^6z$rS8N;HYs7Q,TYqBW[>]oPIFqvU/rqyWiA*/u>zQ;IpV^S6$
v4Str'mKa5P6704.T6`V4l+V6MJ+M=1P><Cu%:QxItczj''6V(yF31K#F//mk)qGv<=AxqTMTvt{c93W*Fk+3d~`DkXg<)|(ERHbnUC8O!*dr[t)!Rcih_NX=z*aDSH`8tp2>|2~6zTGXBBUK6`bhq
*Vb|.Y78XVzz?e_WmVe!LwaSS~qMH/0MzgfK~FSVkDh;M}YwD6,DsF4kbxyS[7ow?l=M&Nit1Ce}tGA{mA{t~YTb/A;,'?WK%^I:U!IsIA(W??y<'&9(Bt`I3T.VeH~N$fd|'sNr0ltrrF8r%_dHf#
>BUsI3Wm37m&OG|:SSoOwB}<[6`O3%1+Hf)cbkQ2q9pY<2Su$nV2~PO.MKrX>9xN&z.M8H,v~u09DWfOZFP90_!.8UWK'}|#g9'.(e_YWXz6Gk/T<37Hc]GUH%LHdtyK8N$*0ZvYbGUV:kI,_Nu}8?
{5v9[|;_J,$b47Kuenna`LMJ8oZ*vQI;nf:bEV_JgqH}l>*m!D+~K$R8Lj8AL^E`Z5024U&Qo6QW7jFql)#b]wZx.$3&yi0~k;$9z;U=0]Tc$Q';Y]{Ly=!g>'[}jlodAvwQ)N1cNSuKk>mnP)mHN1
~txL]bP'>4(9s!W[2q7G'kPq2i:25fSAwP_Vpxe;0)X3G=hXP':z|]Vv&QA%VUkJMpLW?[#Xylg<qI7#F||fsU0A__$..JQU#0:7ON#M}&YM#/].>OwXf`83_|b^AV}O,%'L$Hrx!mY}_cr)N|8IGu
?OFX,#_r3W0`$Ua]I<,?Oc0TmK?!_RFvwhP{cu+J:8!L+:dU=K2Vkb7fxH5`1MU+*3fu]^%a.!<G2TlX1Uc|TXv_i];'s*$]~G1y],)Me[UE7kHN=c`P5Qj^<u^_J=e~c#1A;%H&JWHsk|S=}8r*rb
.u{uP_^+35+KfzC0%)l{rp7YT~Y{r2I1B43IDQC[0eX$AS?7/Clo9A2l5A13tr,/gQwr#!7Y>trl+byLF|AD;$'0YbiY|.oDjN3zPS<#or^uw(77,hWpe%kmI$mzR6zVS#hk<4bZ}n&>R}q[0|lhO>
M}XgIs?6~*gb?F?gZ3]xKD:A/hwTlx%j)yja:iQ<wwXGO.z'a25&]VJGmm?Y;NL>BQu7,Yc;m48OSb?'%`fJ:o`DVK;&f.5ce8)&N_XsQQ#e!4H:vK{.j6JnWNhHB`1{<[dYM9X^k}76i>Q*s_~~RB
f{vd9F0y+nP_>B`TZ(Zuh.y{^_!J*]/MyznGmhq)uI>r!,GCCrgrY7xlc`M)AZN^`+44peB+%DVT3wjP2tW,itV;b)=CyxMDh?qmKxr)6Gw9/8IlO$}5Gra68$y9e_g]C'}F'cUs$2taNR/'#qa(^G
H4XblXl_qScuux4BvvrU~6pQH2?7Tiv>L:SGo;GmmU^PO{B3EVRBM4f?[#VJ}UP#{AWaLrS!S&(fVc>/YV)/+ZVS9;M<{zyK('7sRxYZSwIKFF0bi>Y=:R5R7&wR(a]1$eqiyN7/;j5<e&K,x|/I*7
%opHx)%w8>Jg^{*ig9V_vHJP$uf~a+E2f&jm8O&YFVyU%Xs70AL6L?dWk^Ztl+MAid&O!C8tg[[[0'^,k,(rU8}q{t[9tt:>).`SbqtBDmQ]z~![6OPYS)6>IGg~$8EqaZu{wOx9gv+tP+Ki%Ipuk6
bt>0c[uP.KyySjyf+/slufqyEN8~e~Mw00P3|euO3%l<^!%bG_lV`()]G9]RMBuSGp3HkU:Cxz3c*O^`]yu'iK(z!{NmN,Q>+KLR8oi^YdpvwWeyW'1c*Q#R*mhZ`7s^:!*2Qvyn7Cwq1L_*Vak<8<
Sv#w^6<*e;'p#3q|iEol`7f'|_/ckt`hL??%#tmQ$<dV#,ZUP[mxkWiB&+9ts~klw<CAKO`EcI=#^<hwgXS9.!~?/U8wL[*CiXAL!YX>s2Gam3hA+&s7pB7A}aMUx:v$nHJiZh4>^hxN,cTU8IqA2t
]K71eK`XJ%Mg(thn{uTu*g'!>T>A[xvxRJ!3e>kF?bQzn!2v?EYrR!69kV`V=b9HFKS>,gBlu19UV*vYAd0?ytyA9U!52R*=wCTpqJ_4u<H;*rK,5O,7Ys+rIlT}#S^k_(kn]OWTv<4EqI?w]U$E3!
U`uM`3uf7(P5pdO]PW8JkD..$M|=lq1Qude=NTPYa%Y0DQ]S^AD:q2<xDP4'viak!sFk&nPQ|sPxL<d>px5]$KeE$n(P<1xFlyQ,3fHugIv]Wvv3MBvv+w01hCl4=E%cqlX2hFCy,H$`K?n*K%6?8^
xZKr:[&%)D$<]3nDff8X<>I<]qr3X<>RF^9(Jjw{(0J^UdC_;.:0o'}V0O>~SFGe&w:nZ{gYi1K5_ebP[}qa$5U4/W8'Jlf:vjuHjexul?T|$zc<$#.)`)][b<x&?g#IZTx}340+Iw5W}DwS](P*Mb
$1wJ,fT(5Q59|}Z^DhfmY7yC:w2,[V/NY>;^sw0Bn'PYDkh^O^bQUr^U4ZEMTJ<0V63ZbCYjr2`DVgpFxkl[aP6=]k$y!yON)2kuYJ#{(dV0E5H9id{WK#VarmI=/xpcEV(g<P7ZOQaIBEp%onU]#e
27LyvJ+JB&]w$l8208Cr'1.D:tZQ>7e]|Oo|+:$3Dx%FNuh9n:.xz+ebVKWb7TF;lod!|L_4Y!0twZiI:%3%J#k{m_lUDZ;E6:]U1ncLQs,x$]>Cqr7NEEl=w)p8cy$jA_N#opfp6]ME9S[j(:2P7X
K(AhtC?+6}[~|.T!$Lj*?#KUlot/NhW>~d4.#vJsve|Z3*,t#hhWoQ+JwL73hO*yCC*N*tlHQ]a%omkIXl[s(TDh27Iw%ZqI2ns_s45IM8S&.st~9.?+H5BLr~7`~^,iyRrYHA$15OXefM+4VN9C6#
G{V{z.0U>LthPNa<d*QWNF7Upv4eOpiTBZQ9t:Rg~tk(0<4|$viz+6>P9wH9+,kpfQ&v5o[R=BnrTCcyDf^Ugo+rhYbWXxV:}K>!=v?$|vyDjR]Xhe6~yTGlaVHmN%0GI!7yLzogT!f:^VNF2}RXdh
_qxCwq;Sm2#p4~'gBam=v{1b{^l8e_lIA+_.jJq`H5FEj|BAwi5mN_?Hu.s):Rkx6Llf5M]_H/]MWLz,E:y,w~!Z&5DLFTf*!>[(e%Wr263^#W.0goTlO2DBHz;Fu%igV?Q:dys/:?Y4siW%EPN_$(
E'&8ry8k^hI,?e[N)Mf&Q|b1lOzOLZQsMeQn7C[^7K)2}C!3Td7~3HanCP_t$rd+D,.gjO~Bet,MZXIA+(~5$?>]UtW4|9Ufdg*X}:Euz+c&bQloJg3lhZiC/B94cN/9GwF(Q7hsSK$p$1&)s?Ts4m
pl8F]Hx::(*,F4rN_^tB)GR)#/&_MM{OlmV?;kV2~7PEB~sNB'v:0[uQ_mlYH$$;Cwsf5+cg3`+*(4^Y+Uzi'}&22!s[eRl~/B_^~O45HC0MjF:CRJ?sUh=3~OdPxVfJs)ES7#Vx(#I!(=EoH!sHxC
Tt*fz>7YF7AHAZeA[W3:~pKdry^2ufDyd*O0XNd_0ve#DH,ct!}|,9f/.Kg%,Qi9^UY=KPr4KQCLr#,MPr~[AhZ?w.[=,f~$#x^=OL/HaBlTB_3P<L6Wa$=E0N:L+f3~bxm?*9Bm7;!h/Va!1?]?)1
%$(yS%Pa#`E1bu0H1/tc|4W7(naVp[vd,_z0|axgt+GqOHoqQLIZ&fC;cO{d5:/?I)2%9}}Ch9>#F?zZn]nXG>ch=A'fRe/e8I4~ax|K(t;N8,YR(~J|gi1Fa8/.DBghS7tRiLmT}^=!TEb(3Z?E$l
Q,S4iN3%qDCk}vtHh!yQQ+MV:R'gyDi<>n5u2Dyajt{8y]aD?%yMVN8VRembBq$xH)ja#_yq8T]QqE&e(uUqQL#91Uo}]1Qy8>Vp2x#rov>+<aPyENyfKq*b6n{a:;'yMA+|Mj#RRI4'{>LK7!!L=u
4oqi:w4%yt4?!mVY9Ke_^qOz+,W2>OZIJ)eMHYe^)QqT.0'D8^VN68ps$qJ,8)d31'3V5I.<VeS+)7zucsLc4O66E~H=JvF]4Hgrvn:U[eRjhs`AB[OpGrt`A$WQK;{ZI_A)2.7/R%epjlPaq(cBD.
#Zc=NtrD;'pRX8i.<`hb!e*&[!]D[:zI5WK012Q(9T)'=Ac>vrs{(U/b](H+XvGRh_${v?6Vi|m7Lm8i<(VAepf6lkiaJ{1pwF5E6F}OsNzgHp{7{bB,pGs%M:!AeRNxJUjgLLiDd#$I5VVX89CP_L
~./4fq&,a<#rf?%xL{?FzQw'[y48.s6wrLf0Io!&u,}i>f8Ct%YRh2d7INJsPbkGk,]q5F:}vh/WnN|<1cdRu<&0wQcRI_*mQCk'Z:d=e#qn:vL|}8S>d`+,5)rTLcFx#47Zyxxr0ztPp8%stCN4f5
R+Q$]vn_8'>w?SH3SmKj/=9XVqe|Wcs%?AI/?`x*A!TZs;wKx&Vm|dQ}OqR%N8f(bTU9e<{U[7.)2|=e7O?W9CKa2gFhMz!Pn99Zlr|;BfncmU2?<BlAA6X3RiE<$S!3,:`{R<6&'qYuqF!nL=8o<!
%(K$$jytuGG>LHD#,6lR2^(<C>x'*(!l&ijvS=f.]NEaXK#!Zukmc|M2NZT{!t=]d>DxzaEW:9nKKq`{vxps..E^i0#L|RTIP_m*UL?{lN^EMHeqlJQ/pQEo,4K6*JQzW%lBsn#pZb=kpA44Ffu?t:
r5wD8<BTt=dxU|*ofM[Y6/!4>+ZJ*csc6:^(p.|_#]CZYjZIv8MBH.1~OUO#1BJq=Z<DM][ci|ImW#6efZf^rA{Yfe6C67oZlx]T2h`.U&(V}MD'&1Q1zjzks3n%uE*v,e(DPM{eCkug37YSx*XWql
(MNU2[Y9jOV<t%GTBay{!+G&QU4DwNmLH82()_:q(Z*[OKSLcD%X'=[|P|R2K}*P{1DB2mN1Hjv7<<35%{%5v2:`0jNr**faf)k%j51&l?4+4+7zGLXL_|Ob5),t+1WwQp]oZu9)eCr1F5gftz4ke:
[o|{8Q3eQ1ycseTsu,>OakvZ~z__tC)_>k4vU*Y{dY#8SC^9nM$ET'bDW<[iAwE|yg496rYAT'!iwNPTt+*d(k+2U}Bm1p8o9PLY1'R'smWinGi4bcJ!iKT;iQ]u*V:'`a*[I&kmz#Tbu:,_AH$_O_
iVe+^h9il6Zy_M`WcpG7i~'lPQ2(|9*/9I1h0TJp#,&64)i`C,v9~Vm(`lxO2&7+lBF4kY64Q^%LL'{AFmfutE4:~%(`UAm)Q:l]9gnZEA6MbRJc)tv*`u#{W!xKfyf)?HMHopEpolj<YO1'Q^kZx]
_e?P^Z6bpuYk^C&l[bH7d~KV]m)vFF2zsvUkyw_)<+rn=Bs]<wy:g6$kD15&Z*8h4$rm)V[b&e$EY;(UUA!#;{*uW[8VH`FR<CTzbXNM<d[KusCc<j2XewXSmdp]6|.B|d;=Y'3x&JX6!CYgS+X:7y
YZ,lH&4M=i/gv^=Yl>Zb+9,!cvhRc!PMU/?Wci7qA!}3D^W<I[{5Z9IrNsI8Z*v<liX(^)os/ZH4}xBVxD~xy74n:n}9K^;:}Fd+nuo5/Rr_A*^4PZIu/!ig{$w(z`iL6F0{cviwBkpX_bN^1.w{m*
Z/8y&.(e&mCl?{]+,4>yNyG1QLg3'y0q^))i[U$xKJz<~7)v>TkV(g*z3jYof{MLq}1+W?Pf%|6Z+/(h<::lM>%Ht]/R'1>1H`=/OsC)0A$!#xxtaMP/;zKd58>^,da:3jdD$={.iwqcmZA,x:mF}e
=q}CA*0xv`Uqx<Y)wAPuHNYaOK:3Wh=p|!ka.bcyf`bV+QMpemGUgUu2|Hhh&tP#?IFa}Sc]0Kiuwi5(lJ&H:Vn9BLU9aB_s1CoOhW.>eXG?{Z&W&de%(6`%vjb+j6#wSbNPCzYyeHRc}{o'4Y;Io(
)HNo$%`&zmre,%+5jwDo3C6j.Br_otLrg=!$+ChC'b*|6cyjOP1:EViaM'0b~t0OJ>Sx:%bwRjQE}5p0FIcg|68Kqw9t_>0g+Xg/*`*|Za<V8hlV}+5Ga.$7]%._Q8odi._~jpiwmh,(Q+4IJQwT}Q
r__xyYpHe{CC{3Tl:%?>LsW7x>4A(e4XUqojP2xA?;NJnCZj.dB{xEzGl|S?]A|VrYJ8B=2M&Rz)Mz/a#F:]RmhXt[wJZ%?+f$mBO2]de2|Nv%i8h&gih9]Z[hNum&gVr8oa3GrR3%dGeF*p(Y_v8z
p4]J_vo1%|7`|6tds#wXU:wce{lD]CQ%T*vBy7P4;^q*zKekusD)^`|w$|(t+a]UeZNcz*x:3mR[7^^+=hu:z%Gm&Mj,}Z5uSP.sHSV#URVs(A<KB[ew;J9dxJ%`V:v,_yuya&Iy+:mqxT7swLn:4i
k<Et^Lid:;%p,]ESm&,<Z+mtRdo,pblT#_ax'%sy!h|B{*Qw&ys#p)JPAD!>na,fAK29&7Swu)|<WGy48wgTe]lQo$vN#|V*Z*AgQ[gft!|'9d}*vbqw;=7v]L:Iy'tMA&<Zh2BP96l2':~$?]IR%)
q[uDW_c:EY^hCh3Hm|6s5leACzQiY:|:FZ=S{0cM}s|lQ|RHZ(/7|YMeyUh6i>{EpmUQ{2CCO40y]|V&D1cO$Q|}q,lBG9l?=:&s3iV/Xm|7>(ni#O}dcwig;<4`hid^4LzAiQ>ti}mT:B<2|kElne
jt<xgnMHMfQv:7_1>9l.1]HO)FY`[Nnf:e]u%$MI6l6x<aFDY4aR{]C#{?;',.rW0^j^O4?={IO9uiy$z0mr#f4gO*MD#&#&x_7RKZ5f2GWu%Cb!%HVMo/$ZwdaZ6g:5|9+'5pmiAfxq4_Dq>|d~L|
}1GhQ$4}&x9JVr3qJ,.Cm%+oZhqa%bw^5xS1<}Bs#2]EQNH(sw1|!G/M3ZfK1{JM9NB/qm}xK0z$)<BStPg|UuLi]qb^){T/%)fS`kxmmEtR3'cf+kfPve]d<fw`tvf|o6?qH(QZ^V9H!={?8!Huw)
!oy9:1B'Jge#B>Y|KI+t*C{wZ5=gT{u6F:uA1hoKBbRFn.)zjIb116n20|Q|rOhen6GW$`f<=#l%*.oyTKV%Kbqm!mh0EK)b5Z0dv{=|sx^JDn6|wcE}RfxvIoKBh0|$:Xg$fWFIj44oP+cH<l3xsV
Kv'=9la++kaTi'_H8'3*m`>7}}H>a3w7*hJk*[f+w'M4q%+~|?Z0fe2%E(O}dtDJpRyCv`1FKz6cB|Wk}{o)kf6:kQe'oPM$)A?Zb,D&AW'qb>>xgQ[!UT3;p<Ug/Z/cA?qyx<`'2r`A'[rQt!q'lw
'xQ,&7R11X[jYb5HXSqm[fLa:E`~4LWxZhK{jgJ,``N6qo2SQxbaXI3P&mkyG*h8Xi^3?~p$DC:1CX11{9kki!GCb(%G6o)n}TVZ^&:Z'N}369Z&CJ%!YnQ>Ed+uJ>~OPQ9bALy</m/EOp6P}k<C;Z
(r<UxD+}N?$?dp]Mg8sG~txN&2Xi:L*oybCNDPzyhaSn#W~'^fW62/Ywrj,bqZhKi~~g^BxD30{b{/`ZDV$n2r+/&PV3K`GLp]kqj0tnMT*l_TzfmU'SS(`0y#&G0O/5/j]9/IzAw8S^3gI0h,DgT'
BW;mgNNrRs8}3y>MaA<~w&7Bb)MEpcwuO?gomUk2De:Juwk$z?Z??sGg){0QH!sXH1KvIiPh,y1{e6%2gWKE%>]ya=/sw~[bP&H=enYTIaT9f|OwF/r~}Z(OCT;h,mQ5u!g_V]VlQLzak#53!H6I|N
go7MU|6n[ysxrD^R[VC/$MND$6Uv8RNMdhXKD.3*^%Qu8hcjnN}%u3DW+a6)WRoQO+n+{+(NyQ{s*Z%oUTsyi,1(>BDdhv<&+F?PVHbz#aUtuxkMC?9J?Qyq%H`Iv|013Q5HUrT;!!3+ZksySqJl%P
t'DNe<Ybvlo2B4C#UZ{8f?K;PRX(:?*(Kr=(fM1,/yu/>b/V;L?NUbOgftQl,,E%rk7g/6Z9F[=F7geEt/6ph+Y_`^Ta{hy+G)p^^=~}gxXoz7+OhZg`Ymo|Z}KyjwsZs^1>uI^hP]C1+7ORQ>O?Gp
*(d&O3}Fgc8{7pP&VPD:o{m?P1o}EN2&jNYyw7)&a}`8yv=iQYO5]wS)/GDErEAr,X{9#L3jlD1v17xS4v+0';Hi#TO1J<$mFBuXd7uW|}b'G~M3xW+s[HxFcV4ySXSou{,WhTyN.`I*,EgV}&sHjY
LDMt>g<'5DCx+L;|FNJi{s|P0zqEuvvzNWv*Dl)^KCv%qLJ9qCiO62M*gQl}s{a%uc!Ku#=fkt&o.&D~xdIzy}zbU=$'})mTvSsZ/9iB#nF:D=KXZ[[pa}f?}:MKGxS0wo>Iu,kL~Sj95mmrV0M;/W
/2X[zQ'8cd=g$#klicy}fmloN=p2Zm~{s[w0`o.U2$OfJDMZw86dO[6%/_*9'9YV'k4f<{v4lL$sAs{hr3+(?pJ)/bZhluOMA%e_D/}1;qNz;K+6QBnkkyFWw4O+2Rm?Wzi<g0>:VUm_&!J#qXDD=Z
s_]8AX)P`c{X|:bv[taEjX6xd1,D$f*+^D_*9b~VymQtJrRP;F;n`!*.Tz_M!9b6I78j}8dh$|n!{b*3%L}He[p.]<^P+mfguK'hZkxZ/BWB8GY[>oz);v[lf;4p]cUSX{wOpDH(XUk9D&u4rh6;]4
`#!MvRK.T:y9`asOp$9zkKivuUZN;BdES!nlXpd]w.5%E[':y8RMx}Ph^n:9E<+CS?OUxH}pqJ_Ld~tt_>ba}D.haI>]wg,}cseM]:)0RHyC|$bQ^paSiHA9~BW!/Pw.ZhAU8:MSV%op|`1JK>YkYF
Z!h+eQedhoT[ao&UgL%iP90jfiGl{wnGpsR5Dcx,h{t`ae:f%W[OI6s2>#'[({XSFqMX^90,{V50o1^o/8/Nu/hOl{gM>(9S$0t`z5/LaJ[nwp;i0m2p3jYG~QZ.!u[EC?!sO,cG(IIJbK1%8?JKE_
W/$0812_BE%;`~.tx1=9Br,/OQL~FhImZyD~pBg7q*{S9;Li^hz+OCNoi6BC)Cl8Yd=*86*7OXkFKi^0t.v;'nm6Gn4{?TX<%r?S6L[^lur^qoBlm&q~UUQZ0j9M1cG$neoH8#w>8.KnVcWac}_By+
7.DboUEQ7VO=KHTdq?b`g~A?/po6F%;}Z$=ZqRWT)HmU5pGFRo,SMS#C~d>h=)FW8N6|~s;m#7[#w}A1O+?[r47JkIqR1Y9kb,b,&Iz:ua'/3lOWI&X|<h?`|~mO09~2vy|3Nc(]HyEB1MKn'97STb
b`2(Z*{j2[gAt?e$^OLsV=4y!AhFgnx[L[yT+E,r:G!P|6ayY2x4LCGdN(?rOYFh4TcTU+I>Z|}(.nVjkWzR]kpxFOOrMF|lAvX7iC]J?!z0Tc|ys`$Bs&Fd>LX!KDHAh$.HukIf{S+W'_Z]39]4m9
GQ(ydG>rVm6jiZ0FunU9do4Dm(F'!y&tF/*]D>phG`8x%d2Z!|jCaAa{7<iK/s5Bt$gB7A3F$TO#Z#X:(J|Tk%f8{s'XNaUrcXa#Z0d)%yoIoIq4&?i5`8X$MycU*E':=B4R#fEiM35v::MTPc(pR3
n7pC(.gNyJ{fYf^^qpQ=Z)t4~8=GwiyK+k9qr+Vs%U$OUC>V*|<;OhC7&cp|EkLJWXxFU2sk3ZJ$a*Fa#68o*)OU3`1u[0eu;4$J,dAH1}7FK}Gay;&p5Au}[z=K$|'C~d('4/8vd=*%;k{.Y$(mA4
Me6Y843G%(a:`[(VZb~4{gdH*e&T+|*F5m({&wjhYD}H/]{di8<VGC)=TVRl3dR`<d:uS~{b|eK~_7KD0Etf[[OY2j]Q:7vEi/tM:%fVfua4wBI=6{)/[D(3na}O7Q0}N!wO>!hoXv.hi_~BNrb`$c
$q)^vCNVwn}zH^dHP413AxE[x::H34h3PeMWqDfEo2ndz?,{L5J4X'uB*QF+.FeIr258)_a]B$.Ou01#`ht,4Z*oi?NMEWTyeh8T]1:`AT5}t7TZn|svnTE!cv)Vq,a|WF<]VMb61(uzZ51wlW=0eg
<U$No$t$B<<^7,&gCC!|6!HbY9+dh~9S+syr69M5g+xQkjRuWGimj*r_C,=a+u5f1D03spI`vtI~D1FC$qH2+aW]]i=QAWnEwRN')vx[KL}wpx;RcEs~{)4[`>gF[nc9OJ#%_K77&r_8`4!d~h(}t0
yU<_hTMf.0j>5+~F+2+X[1|$S4tMYuM,FMSO5Vm}<IBBmu>[gJBC`j?.{c)<+,kpZih8X%4B>/I=V^nJOrd;6i9[nv'013V9XB[WsR7/EU1oV8`]AWd7K}?kV5;^U[`[5C<'(6%a{MjZl8opVkCLwa
??d2ZP#O%Sg{Dv8a/cV>6C(>V99X7SyC:tN<^AEswp]~;u*Oo:Wa4PkqJUiJA|^q&G4b_e1XFfEHEAM4%_zUP,hC42_y5oao*]K8R&|Vxd>cYuz'(}&Mn2r3A/{,8';/}<xt2h.#n]g!f*IK}zqp<g
NT1!|yPEJC|zPZ2sz<xFWYhfd(QUpg0pY6Yrm]%t|0L6N./Qke;FwGnZr|hJZ`P|m`=^]X+BN2g8md=(F$AocID}q/A>+R*y7C55^YMTi}!_Sb1R8vkL`,^35aItGKVWzt6<Yl_{O'P$!.Pn3~Xatl
l?qq,;RQ{kU]!GX)Lb/,2mLILE`r(=.z;`1q7I_}r`33YHV%tV5k3;!Tc[eC<LyhwV<TR)>P6U.A#1cg7vTt5ho%4+7Y&DMZ)X5z+OBPR&No)<uP>1ot`~KPF>G|.#xD1i)D[iXOz3Wz^lxaOxm1~d
8~gkKV(9M#lfAgiX}?w44t,O^H$VzCYV~2fbA<SISkq^s^d|m'5oChthqL2J/=#;z'Zbf7gtJNi>C$8!F]RS,Tqc1ri~SYB.5_ENdm<hC2.Fy[Qn3*jED])vKLgOpZdo:(m7#mb(MKO;aA#QDc$!oy
z&z#Uz!)u%apU*4pooNavc[~a(^_gr:fQS8rc7ibn|h&w6I(tt*,MsE'hSWi;0U<Bkv?i=z.Zcm08VRnuf)!*kl=NT4K3X~yQGW]B$UUx)'c&G[&{Fg!]J>6hx={M5gUuH5t.M{LjQZjn_LH$%gBJ7
uel7?Q>In`xxj+aGA*L{]`oIhFqQQq=SEdcMW32]/5`&aCM`fI0({zd/HZ|FOqwzH}Gm*;.rDNyY(xtd4+Nkxo1+^*X{>_}|uAc/At5=*%!>#D<Bx}X?RfYi6vR(j4RIFt|51Yj2o<(pj]mK(+WDAW
)N^'GU[5'yq[ccdhh!:vx/G_9SV:BgWYly.O,XxSw|l{a;opYEFsVv7z'j0.`^+<TgVd=PP.drI*P?1Dq&QwPfvvwP|PT0786;+,<PnNu*3HDEBoj_554CEOyfq6'z{T]J;]4hU:YtqbO`r?=zyH:Z
[&[apkn+i#ryOy#WH'5c&H:a#`^V^a;U^$drHtCZ5EMGC<YumkSatY;VOjc?[1JZVzibSAzm|~J%N8rA]}IGfVE#$8?3IHutS`&`[wuMd08zQv>s&I7/!K3}cg3K$vT5kyZdQ!B=TnP5,7IAW#l]fN
hf6&Gyp8o>ze;,J%tn&|$:,I+/,'6>cG8s4_I[vZC4)`Yy~3eyZ$fP_mL}P_i,6vrQi_|Z+T#]%_Q0|&e''/&{Q7jByXQyYF<Oje;Wk$C/{xWrvMwEZ>$^)*QUgceCG%HiL6>n=P'_RcGD%,9))[cz
PeqiIntMva'Ur4(Z*T!EP|~6:{wu^H4T8gzI3!O]n({GOy;m~l'E5T_aTDJ<aJHM,;N,i*a&if;;G$W=J1.olYhs$x]YUI`iRnRNbc3D/;w^Gum^P[nHek<a`bY39#tKarMmBV,RW/P03A#[mmy*Cm
Y^TeCrCEfY,221UkA78Z)&c*a{;~QVFg>r/1UgGMK]')Q$gm0vgfv(!bLQbci:g#7u3=12PX88.BxpOF$?(>&>qqn#=~2Dw{Iz)=6:it1Z9HJZ=!UC,~/!96TTuLO?0hVz1_xxAJcmQ_=TipyYj.*j
TnMk+eU6C)6UAh)W.#%j:Fd[%Vxk=h<}4<Tx4zV89^%]OaN{N8xrH.a%}p?fgB%N$SmFpU%Z3AR|%]X'^Q.S)Efb*ZB6Q!Z0Yd)iPyMpN7}$#kfs?19ecn]EIif/Nus0s!'*Ld*B8qh0I~B&/(rv(z
/)$`eJy91hqp&!$F?=;#h|{_H*67bQ^Cy~Ndo8|_2~HbV&+>4d#psT|:}n#1d}$OL,I3Sh)47*e]8o>:V11j#N*NPIms$U(GLPXC(8KJNZtj1(k[']^9NZ/'zTO0R`(x(eV4uOS8tsQh6x_Zg!T';f
RCDz]^_RgANl06gWG&$'&dY.&Etluks=b3bJj]5a%thuw2`hJW/N!rSi^&xxA`'0nf8Ej~<oE}1qG+xTxQ]t;4sEA*83C{;:Xc9B?SmEVV#o(4TgA}A1Ur|PW20*_Nhk!e}O80w}%q*S]X!ZvCVKW`
LcNBQ|%~sB.A>vbIcWTS#o+I}!8/V~,9^as#^YYy]dVR`4zd/)yJyP!}}wg&/+S>N`_;I`LPUzj;W*aqvky9J4KTQKxbd:zH%IsN2N/{Kd5]'$$=QbyYJvv![RH&~8=c,gJ.2PD~h|~rMG%X<K5&3h
Z+vGSMo5?aZRsOjBy,m|zq~k|pyq{w<e07P:RC[s~De^v%9{S~_0Sk>p<&$b*'Gd.zr!7nmQAS7e7hcw~s3Msydh*igGSLf*]t2a;'n#otfhU94H6}]2/W_Cwiy'xhpm4TX]eA^H1<2.n;p1t~[Nb_
QkTC_}C]AIY`br!k|'!q+uOMXd5T?3Yv9`7jvfGk,PPcZ7bV,bT47%(d6h}YCwdi`p:`EhtWlH1oq%wB[a|>9lJ{gv/:Lmi[90KA:N02f6O:mdo/A=!8+#D^M#$.cvJhgwLA7WWX%')88ZC9.z#W#p
<:1b/UqL^5vCtpl:(2LUNMHuS$_!5kdC={Bf.Y`+o|yHLG{43mG?KQ14P65uYY1qWAYIq?henW]6yM]0^e106Q*1ZN^c|KqN{}$[4vzp,HB/VHkiJ0<xQUd4.Njj+7443Mmw/+2i>e$kZLOV$yoPpy
rZ_1UdNHloLJHp3ldnepxO_(PqqQIYMunOS$Z[y=X,TK(^3{d8Z=2(]dmNa;%3esp]FnKjqYa6q&/jR=<$sbL/cb#7!D_81J%(SG9L&)bh;kM.tm`Ze9Y[Lvfp'qr+o^B>}yzodG9j81N}D~/xvRsF
t^mC|AC*]csfQJ^,0kVqQ5YG#!.Db>t}cJBoX/EuC<PN&YR{nIDX!RnQK9LIpL=t1lVC?VyedPja{;hH5jvtu0SPG3)UbB/TiH$h<0]35w2I3PyQ%YdmivWO&<#nyB{}NVMjp[,4:*X^l[6A{/#%tZ
0>eiHSOH6+f/le8LfC#wyug5`atroY}wd`/XjY0qj3XR[qF&E$ju5_#J_DO}4.yMypz')E?=ZD:)o<}Tnkn^Or=S[pWAyCSLUMtZR?$GM|*i6_$Mbd^lvPW3*k5*`^*AJetj*(<B`j]3[,T:_ChboU
4$0/!]<o6#.+SAAEw1/9:rP5UU$x7i>chb~UE,$`#GlK=rLEll^eZ]}P!v|L{OZXN)3?j<l$3ezpBhCkWN*x!|pH$<ZNcxAZk*zKpX*~4I~kGi6bwnP<,/=8;7oH!xh6'1}>[`s*4A3aBTnYmFKbmE
1c{H5#/s}54<F!/N~etE+gzG4Q[I$(alRQ(4s$HM~!U4Hr0g2w&W?66E=j3`>S#k+%Bu_``pKu}Eq^my|67aXc~Qj/tk|!]!*f0:I%LZ,$8#{(Yq#|^,z:&NUIr,lAZ*J/A}sc`3ojztM*(;,C02c]
S^<UO2]Hsw!HN$R4&:6|a0#PyurJP6wPvBIwgC7/kBAdMHP<#~{Ac_;$/K*&H(d%>f_J}SE^gZZ2(_3DqE/4f3}]($I2}s/$C/oPUU4S4zByQ{Zh`VsB}/AeAteRP.~YiZmLM%IuY*p},9r(4U6$_d
47T%.vCHc,tDw9#H1>.`SqMY^t'yZgggY]^(0$Dv5E|~5tQWXX,}S84~hdC9w;ttj&oVdGic^gr0g8!J;)/F|oH[Zs=(%oW7l&oOn'0)k#G+<.vN6z]ja5*`|y(R/4'7j0g&r?Q!p4?!;1p&?2d&Jn
iZBcK%OmUN<k9r}j{3[SzauNyWos+.{In}=0R^wSb,Y;r59r*H8o&VOeiYg+H26rtW2=5=P)QfNo%i)xFgh>jSXHj~Rbaa1d3f{UK:8{3jnE6~BJ>Czida3F0VW[Qsg<FLInhpS*l17nJ/dfodXduf
e?Te?}h?4HQF.oa2!>lbCD#r.W%#Wf>xAwL*>1;hXq^AX/L4N:P|75'd[b6&*Pa#4.%5ck,xOK*L_tICtI3W~r>rXA#b4]91^|6wcjz$ggHnE.P2h4qxhPUJAl8~D'D+2Zd#fu9(rcA/dBYpcj_Jp5
#Ud:AU?3wvr97h}sm'fn/Wx}C!(RyB?*#am4h^4bW[qw3K&k>eXx{dJ}otm4j%T*ZbyEBO'8IH,:C2)s8LXqiMc;=03r=ftUEsrKJ_Xf:(vH0{%_{z5St8pyLz4BDup0~_sI#Pp{e,3nv6;fjxwQh+
{]'|V6GkOqZm!FD#(:14Vo=ja|~g)8R>bj$`!2FTc[)1bMXx.Z8T(70[}#mv5msM5tn5y,X_N88=<mlY;b;BmQat,q=i$)?hyXCEAC'eIvA}Z&5}`+oytuq%a!l(,rRiTj!hP&`?Gg5dIfT)_T'lkW
mw^k^N~~HW5|.'yzjGwU46=5G2yTC~pl^rHBN2as<,3~&53~$EQza);y`$:+Cl`i3Tt{Q:y)457p2f0$qkd:|)^lquAa}zT+}?L'qc8eNtr%cf*AhS9io^+Ny__b(bX/+sQ_XYTFmw0EX<m1:9N&c^
^eT]~?*JLqbC[*wXV,B2=*g'/zcXrO_pV^Sw#sq>%BopIilC<xH?x&+#f3b#(C1]mVIQ]EfRVBSLJC2pEWSmbINb0bf:+~Fh]?El'(~^Av8zYx_.it3+!C_|Gk0A5m^N>{~#b.?jyotJfk4_>n~=$^
49r|Kr+PuE>P8#BLvZ9TFfUeV9Z9.kEm?F.HSL2HFX^&E6l2vRg6/g_5]Q.n~sm'Cjevu}rA5b<Elj#ssLKf4A{gNNuoKhT*yJTz%))W]ysABrcXMB?i9jURSjt9u#VWP]I3intM./vIX]:$ykXrLX
bx'w|Fd{Y.<kJ;$mz(odI>'5a}X^X#J6E7_GH90V#6D#[t4^#ikPc2x6XEzrUuUAx*9?<^kY~UhhcLb.^ws{6PjOQF?N*bS*PRRS`POJCA`)D86;M%/zmU:;lK94V.!=H{E!0xv(Ix~V.S#TDE!Efg
sC!AleN8}=z0xlt+?(>MJg/d=].1.wz+5I2}64Vs1<Ng:<[~JQD,#90'p>x#0zRmN+wuB89fIx!TxW>1~R'Sa8A!3'c*<tyuv{XXX0|I!7%x[HC^n{O2|X4nBJwPyc{<:E|L:#ePD_,AMe~t,7A{J+
,t~#5&(Q7Z,>|&#oH`=rJ}>>;mtgh.Vu9<??NJ9py2uyMTGkTu4BjGCo%v7HG:%(~grx6AN$&PwW/,#DCc[mu3.~>P7T<$$Ru#WI8XPySsWhGXb[(tMv,i(b,!x<q4aWc+B`tx`rD8M^x)W1CI|CRa
zQCM(*x9._m=S7gZymYR#sQanT:ML.B*eO9Sj;vo1k>2Z2j2+~&!!K!+GQ<EH.DC2Jg6tk*Mfn%w1_;XS!GU+Vu&~iy+lvIp.m|Y4bbrAY.pj(vagm4nUUPQ3G}3d(y}|^duofzAB?|%~gf`fn,?jN
;[v_KZ`WWP%}Y.X3E;?CI#r.G`PmI2s&inap/1~EEc`hH/},m4VGhJ2'%S$IEuKvS+JoIKj9fAOQ8qlCG9%C9Z<'=:8NF#/7GDqAM!!^_zB*%PKMEP,}Uxje2GDgdQ%s{7P[D580r^;*n*(dLEQ+A?
,kP7]F^!mTyp.s8S$O?x<>UOWa|kmB';!#?A$BRQN7jSrR|TAfUi;k:08WcNwJXPp[B&OU|xn_tA==Of%=tC(*,3)e2Rn#Oz4{K#6=;)&GM?!iKRp;'iAL1uljs=P`+Q0m^RuoSEGxEV=8(Uen7s5|
c?OwFG2BNg'{N:MH6=|z6f0#iAfVq~Z~*j]Y90OaO.eG^p3IZvx[RZ>oT_ZOpJ7rs^i#?F}0;U<6UxWkmquVF[W_L<`/k.[OAVTi7wbWiTKX<!}?J:|^%$6O6]Ya5PpO^w`d_f8r`o(!<UK^~XUr;;
7zkUy#8Dh!3v7'Qa5S$4[M6h'H%Pm0eY.~:G`b%2g7B5j,r~(o&2jg?j^;%wosj6rtP#i*u~vFOD6dd!Ewi+uLaYF~#E/_HBw~^{KP~ydd5H!$AxJ(`C_*sWC9[XrtgXbj5wbkW{)rr=27iDMV;srT
Q<]`zI}EVAME!:l^IdexwDW}6z7fsc}2Ia0X$=k#dknKM`E,Pmb}}b}V0tBK=am57eG|rHc3*?PnO)J?XC.,|j}p$X#UXZR7LQ.V8LzHJ~qr,OeW,t.n`837NYkT%3xiHY.g<=R0nt+uqUNdhMe]>k
u/&<CI$X.PTs#p9?RwhZ9uDG0/UWy_AHXH(H`0w#}H`Fu0xKuzqu=VU{tN5'o_pAK3Z,/$SM3XS(gwW'w[>P%td^Acy?!J6=x!7gQ{>(pi63HOmdU0M'q]+q8'd~py(By62(o=V9V}}i^$]l%Fv>v#
c=O&ys{Y=rO%8hQs?sqx}c4nSGTH76VlWQM9Lv~`j5AM9GJI#&BhW%>kH(%=Y4lWP>Ti5!:L,.+9rg6hS[]%U[8q,*xeG/<f3De6?[jJJ/X)&ita%(]pcD1i2,TnSpn(zOa;b;~x)dx&35_NTpnP|Z
qhX~Tduv=Bj=NNYJI{bU!+M6*YnFPIlM!c,31V[/4,M2AMn;talItzN#.%2NaAG%?(0)q7;t=N2<I:}TuL&ChU}.dzpt6*Tz?+K)zL7Flg(mY4%fjZBPkk>Q+)=Meha4K$Zs:n|W{{{,n3pBqF4,_X
~/h0Yl4d*zDwP%:dFJ&zno>&I=YEuh=Z`v;o'G90Cf7Jl}*G!T]>%[|]FENIaQh^yK`:5~ae673ymW%e^qK.h.Gu)1dh[HrHUrDDSl,3M2SU)Ntp/a&Q[q%CTyUoH1^7csdbzTE<Fb>W]DCy?Ew$vd
]2L'#}zRGKBgq(Py.j{E^gD(Ij`stVV&gD2V[:697u*o0?8znw*[S6{^'kcvyzDP&nIKBv4_J<atQ!Oor[k$Q?XI*7{Gy=P5bsDahNH14q_:1rIV/a=,0I6~pAOe?CF2]$m59S>&^1R[bh2WG#hDuU
5.R0FEaIn!yRF$twJg:$8g.Zg3m~;}{Fm{..Z$*gUaI<t,C/G#()L==bpSh7Us/>+<O4.T7Cm`{9gK0o!(goM}SY/GY+FkB`[`=qx7Z5MJbjes!c!6OB9#e?>dF=ICO)7+t'#Jv|qclBJn>_J$F_}]
J7#$D_%[gc?kMUaOG6IwaJy};lwy,/}VXA_?}}Z70Vki`kn]=XCsOFSLi~O9!lH6G#zAUzh#Hh8zk0,XfuT)/qsXX%$Z:Y)r:^MQ8CJ/OR{8#q7`$NOkH{mO{,2b[R5v!:]V'^ezRE^UN#.f$6H:L;
?pg>PbR9RX4pP0g_5|`gp(zM7Qep*7M{7}9;z<?2^.F:,h?lxN$_v/s3$wdTF>nh7BB_;)?}Bz`l9A2p=qOIbjk5|tMJL/6y19$fI7O}3+}!em<MJ!IBEM#*j)7=N%._MoU8zr:]S0;q7GI;ak/X:Z
iuvq(%8x;=0cl^|4hY^I'':hrxt/fE`,!X^`C1nX8qd`I/8xJ&cs'f(zKr51JzvGq4lNd+FREGwH$dLZJSRErRpt3IlJTz(fmj~57*8`2x*HSQLmm[QX48$,Jnd+Wp,b0N/pN3v#qW%G<$8mGm=eO%
VV3|{G/(79=Gia'EHEDu^WJAeh8cCDf]`Ss~V4f`ynMxE_Q1OI%BITZt+Heu<S;<+DoB.=6JbL{M;|^9(op)YTrbppETgz>0hmKk`.Ggg$_]Dv`e+rht(?rxl{W~{#(74uPjI^>eL>&]Pr6#M#q`FK
p7T=:omro.JG}0~LX,Oak|w`V<KDR.^5dBGZbx?ptme)?,Nj?$I&AuBtVL:'4[AZ*+4sH=F6mrFB~Xa1vBc`r3ZfxGE1n3{J;<B6~#^;66#a'[_s^06[!.M{RY]j13o{!FqCk5Fv^;S&l0hC$Q9x*v
[e80'}&O0B%8uyg4D}3er4)F*!6vh4P!!YL(EP']X,PRT^qR!|'e1%SN|N'j_Ed.QHs:3VS*Az)r=[0|cLZsCV2[=e#d(ILy=aw<ps<(ujb>O$Z){V#!Fjl_dMSDBlpzwxG0hl~duM;6?i(7>A!7kx
oX}!i^HqsU3v24Kk8ZfBou%O7d!7r7|WDYR+~g}nM6B^hw2aarWG{k.ds^C]j(3hE3,U5f^pHgthW84u|nC}yGJ?Mn!Q:(FG=D8[[A?be[4+t`a5Z}%<<k%?|]|P$1uRy3kG^FWJyeE1TBDTKDiA>9
=P}CmlnDD|!6Xw*BFVd%7wz+MR[q[*>$6Sj&MKkhVoy{'z$92T%216w:*Do5l>U9_.FMSTL4N6.8Z(dG%d$;IlfsUk]O+&]TkR2)>=xEVE}SlgQ`NfZ415k?UyD;C0aRaZ]G%N#B~=}Ga|CoeV~O#$
33G:<6kz=NU7/m0YK34.ddJ^Byw56tDMx|J][Xl:U~VCQjxj;C;(ilQ(_e`bnKF>=./C$YKZ?l<oVLTDj?DpBOi1P>R[v),5|3H7th*6vx}I'),XyfV$6z&h`C+rEFuGf'P?Z21i},yq*#Dak7we$|
)_KdbDb7O}_mL.[)BGL+|E$A!cU)iivtL6IFQ?d0}y`#*tXTK?B)[{#z'XDk(cS!]iB2O=<QeNDoK$FN11.Oq!vW:Zp)XC^+KA09&XCD>3QB|'M.K[me5qqzK=F(I/#IMM>8&HV=OT,=ROO(JBPxz^
H*AJK$yO_z~flJlY$w~o%yQhl9b`el>?IC+~PW.#dYR[g=MbO3^.?'?KEncIQb'bUUh,[WDn=./MlGI=>t[_UeYur{6a7&{&M?V2&{E`TUpSXqafF:n8#mJ;mEGhIBa?3U1rIUcm9yYz_Z)b/mZZ:P
6(lGL2OgAJuGt;%o^Poq>E]n994}`l_nrxx5=;Scz%Qf7^hfbY_Rt{pDn2<+K0!|j8zDp(_5+dgT})Q0HRLY(Q08j{kEEF:sY8g%x~D(I)E)Fv4)TG|4p7y)[lROOcd?/M=1E;fbIis.OZR9QHXx5M
;cD=2uNM~GF8lK_:.Lv/=SMXlZvulV0t9.MmALTHWKD>CJ<EB0qCH$X/!?Jtbi[O[1c!+eg_(jO7vz[m{BA!YeZY[E$(AMC~uE_X~lC(#<34Y6'W)mds#e<&+8_LuCej[HxZRT~JX%#e|#<ONuP$BX
h{|6ZrK&#&LV7'2>.W'}Kf[yxkCAuorjJNMce}B.|%r8Fnf6,o0EY!W}B6{W1Ro+ifWd_}4ts%XFd'XF]]%iD?K^x3yo0a*?7xKWA1]9*oRJr=.!ct!%nVBNDqmu.scBWL8i9XjkVd:!k3,ef09UMq
e|y^v6/4f7xclVTn~.]Z}[~*:6Q;idAOeNo.chxp(k.l(?6+][apEj{=q3BiJA|m4^)Yic?wYp.(am}RyvQb9vyOoC,M1WR|nGP7i4mMrb3:B{c#$J0pvc^LBmS67p'e/#mSBd{L3}!9j#d[2%T]{w
RRy7ce%_VN.GCJT>%.<Bn1>8NEXN]$+!ijF=GeBkDdmH{{<YkdCXjPv.{)<l+oZ='1K]^kj3~4j_6iyQIAZix)Ag&1D}M.KO%*vE?(_gZzHP[v[Y+pn6pO!|fb^/CXv9{oQEo8J$ND!Z8G<Q6&Mi]x
JZ.ZSuh|>047rHr`l]Hv9=S`=!h1:f%EFCCjlo`rfwEN]{~,6;L|j(K'jczA$3qdGEYoz#;+*$SwW>(!(C_S3Xu6)v)22`4xFldQ>|t$X}i!<8}b{L[+}*[4L(R<W'?fjz#&(<j=m)}+tbP)*vz^,i
u_m;i?_[XifH(`}[rcHu<L`#uT:Qh7!JcCBxVvGYaO=u%o!9iS/0IDuJlpdO~*jGRLTnepS:gHeg3`{I%rvl(SqLuDbCm/VQ#sB(5V`#C`Gs!)yHqUgf3K(aMsw:qLTaq]:wX9`+76^nHCV(#$$^;q
rKW_(xP2>`Adu'}LyYNp?XAilRY|)|i71FqF#$OHfn}k93ns>z3[0NTqH#4QY4C8q!Yah:?a5#xElW.h<sKW2O8KI~u(S50|Z~e6#i/ag5[1HcA~V`#jGgNTc1#L*a^;6GP=5W:+Ag&$z7K:S9Opo]
ly%6t7^;&/+#qALoF,Qr)gZ*~zhIJi%DfF$&A$mhk)gh`u1g569}TB7(lPdru!mu|R9W.=V|uvB^?W0.[)ytZ)fz:40^Aq`}&hP0^p~IryQ'!qnPL&mDac=i=,>3)8/jkMe<$#P7vQ|3T(_^l/NmO`
omOFVIz8HsgUOOt_;J3}sJl;l:~YSX3Six[`vOIt;^{!uVAe3KYlO87#W,(x(i8WY8C(u6ug9lcBHl5B&Y)w<NU${TgE&7_%+BA)^?'z''dVnf%cJA|/XGcK4jJR(TH6#E;/{|x*+,KN(y`1;0ZHa[
;kix;A%Ad<5Y.V':4tT(BBT_Ow_/){:PR.va)kgOV`]&8{zDr]V?TDEa#c#eY<38x*n=232(gt',lKg3IZc|K=+KUNbz2=rJP}g0e;]6}%t1$Py,pX4Hyv[_VZQr/~K?2[QuNI<v6j=bi^zA:=X<6H
BZqzjZbhkWKyQ]ig7?r`4e<U3*#Sc1YOt#*ZX1_Fo}xR0nc^o_TnpVQv.Adk'nf}Ei4S^_*;O:T]=2rvKBK3ul9=O)6vW6e[l)zd1_a~^;,,g!_AX)y/]ofE+uKvcd1!~9G;9^rfPK!%>tSDr+g!ZW
'j(r.(q1fF74kg]Yt4fC_R:|s!Xgr3UP;FRoH?XomQwlGQ7DFlg!gaZj%{s)w;oyE<:B]Ox?ec[|Qa0?t#nE7xc*yrqP9_9SkCP?Cd=v]a{H|#1GWvc5wYHw/OIwiD<_XqUL0HQ{O1u(G|f{ARo,VH
wY;THr?=:Ss{TM#|VtAWbWutgdb~'Q{!F*LnZHR`iQl9|r5Gsjd^&`:Z=L*!Dus9(G=v[nyupz$t5haYX]:T52vN_M6Z{MO+v[BP?3DN!c^6OBxe=L&,5:yyo1Lz3e!2H:5N~lRq5/0r$MHU<~.hRH
8x`_4_ZlnNSOi~7eNt1ur<a+[j/_`60K57+De,U/{KwgO';2qkOF?.}H]pV=5P))<nt62L~ja5iTKd<:k)EG>_w}uon:[vkg}2S[!DT1B._LEd.flK?8eA9BPR$2EHEMf}O?M8[.~#v_9MCx?*8xHf
8z<5Zz?1pH+6l^C=yXFE[Ns%wga#h:qHK6>ig75DvjV^e`L(:Hc=/BrvexPsR}2&ShZ&<FWP(84s}2Sf%&#M7:z6[s#W<dCLOl~C3beH+8&yy{!PsFDl3ZOoNTY]#I:5su/G/w9&K+LeLOukm=`;}[
h>,_fxcaov++b'0Rdcn[)8QHQIN*!~;(|Z.sX^li>_N}!X,Njo);7^~554?c#:1spk7YP[Dydm)o~OB.}5T:I`+`+su0C`._LK9G?n_(4[EFKDMF/^q4B2M00Q?D>!$]dTQ74?>s]WucDS9>[.m=:^
.1c;xn}3JJjm48Y20]qvII9}jQooq!.p{7Qi4!vdQ6A+h1K*+?=nVVjzP_LTT'W99]6aPsu#fNJ:+BwT<I+~MyJ_UX+y[H<`Xj8;+S.kd^w}769=Dtp]>A1.fQ;sZ2u?>cM5u#mFd>Y5xyq9lRmr=E
8kf;sq%,)|w|t&d+MOFcdOf=RU+Otv:wSFx7F~;9Ih)>&V9B'B.l$C!^4/fTelMB0!P0UjI,%3fv7K$H^}3e&]8+c|AdZ_W4wmMHY/mXo*=xP:]^IRs(m2G&)&/8([33vhJJX~xm{(u!TT[drHmEGp
Or/keDt1X1r_[`&I6m}(p?J:[QPu}Bvh^2.ty{t.`>YqB{A~yBnZ~twr4~:R3s#<04^d=qi;%u9P]rd_y8p5|me8Nf2<Z?Y3;?Qhf+f!B2yx%K1;7=lVJ?A+tzs/}Cl;4y1'o&4%aLlM}e$$=7jG>*
R&VMvs}z3UZcwaOk8AUTHuwp15|R!q|(hqQtl:O!(it^5dgMeZ;].3jQ2/{Xg26&khHFpGW+?z79A,~K8s+{_|V(1]ZOMwf/W*#t&zo[{HQ.YrLa7ld_Jr[k<_.>F]Y=x&J9EJ$7ap/?jXX;M?j$8W
lZ~cAT>bKfEVH>2X;(dj1/N^d^~ei+uD;,v,vf$f+pW~e<#k)4B(8L!l|>aUxxQ^ECt.1N$'u'(SvNj0{w%r^3_QNL)Ebeq]y^SP&6>KiBygl[4ykt=MM3*ZnX;cQSnc5OGen8B9eX2{Z:SGIdypQ9
~;^2XR{#{#>Z7&wo)hEMd]M>wS?G^diAZA[2Kk&kt]uck^Sl^~>`q_5:2H3)J?$11f6U~}|+%47~8H?y[1y6m{+*/|A[JF9+4Qe&]MR>dW<waSdl11DKF]x8,}2'fGYx76]hXKFb9OFqk,E40dg'Aq
dh[4,+_#mc,ks;D,'Doox8P=owrfcK(,f23pA|U~>3M:Uci38(Fd!I,TC$~=:$?}W6FkD*3jo0r#<(Ie2[&W{i6c`$<%.L5z^`=zh1|i9BdmiY4pPl_WW'ay4agdN4=^f(ZSry`PfkL;b8WKO.XF?k
z>oQA$y3{qYFWZw`F~.PtA/p:0|EeFAql{tbI^urI[u4UUhf.BvWO8V.(#c(Afkb8>&h=k2o/rtP:1Lv~<=VXwU:~sw}gx+!$dP?5$f<(FT145!>2H!h*;Y(:jFr}^IuT'mP[FrHjhz_Mf?E8Pzs*^
Bu|&TDO`7r*)Xi359%zD|DcZ?a*;t)^=}vjI2W2skw[jMd#Z$DD2W`s6kjz}/g?8;3.^s/aj2k(I8n(_KlSL#xqvQ4v1O^3TDUz$3A)b3vz]P=GkPHD58i+zhf>3A/do{fZzQrQDjU?(Pcq<'U:+Hy
W%Mq]?xjA<Gurh~a8of6SiE}nzrz{*V_H:&O0A'!'tua(!Ww].jtH%INS|h/$`M)?X'9%:pJT41&KFq6tTJc3{[}{SqdugSdtbB:KG+$N*:#CS,9T}ZD=0]LG0H:X1x)~`moE}Q&5vhG%56O;s9W'Q
db);Kt`44HWzaIu1]'x:`W!,Eeq,`F6wmD%X9T0u)Y*gkQRkcz^.'J<`a<Kq.TTXIDWblXfkzTQx20V`f,azYFhrvUaVGfMo%)2;&G`9%h*Y6=}>d8Beq:'mWk|tGv{f0*Jut~(D6rpb1+TGL'zem8
(z;1z<'~GANW3<%]?vSFYbOGB?%u?8YwObQWkA{I,)gXuw'[k[4mm,k}`Uk8!lyfA|>#pK=J(qo3s5eF.ix>:Lf+M7qAk:r(#^G_8%ndg9#ZjXK02cEjo^'QxL|qM;Ko^Sn+UU8~sLrr{upc{IGOLH
h`4!7&Rp|tMR0aTf{U<p1bLGF2V5c4j0rDy~wQg6B(JS2W}2[]0=8+~YAEb~~pPFY%o8j_ug28t#mq:4]4lGq]^pA3E$#Yu=OFp+We]N#7}%BV8zc/!kN4996~(vBS2APuOrew$H<x$aRen557LOw#
.UP$z&3ySJaoz55Oyi5AHxm'*rd%c1)jhaPwW9GJ2hhP]sH_C>c|GaVY(KIxUe][Cwun}m[PL8|nolp9D~nm/}G2WnT<*>6:O3o/,R].U}?zF)EOT&dn'Zhp7hmh=V3(C}7s?qq52n8kt1{he#0h8$
sik)8VN{6qosJ,^HPx&=mz4*Refa5&%w{};<^imPc,#&T|7*C}p*Q{2.&/<JmH?On*uZt^)h(w!Jez`(R{{1o_I=&wq>zUM7$OO(7l1<OD{D's8bQSKIi$p7?1Phv~RrN<uK~rS}4i9Xy:4v>`YL]h
vF)oT:9?i,)!.X9h&,>iw+c~adwlc]m_mjhxH}.PGRB/83UYBh/=e)SUyQQ5lT)wKyiM(zzubC)nJoJ;?A0F]f;{q`*A9)3]Y;]w`3o^ew5J+y:m=Fm;`|b#z*r6emJ,yQ&wTJlVe:{^Er92cjj#.?
n~zV:{rs.yL!iikMGB(SC5)1m^6WlTgXa2,%i{k<PV_c<5m,e0)CmENSho/HBT>=Te'ew7?^KQdYxD)g%%qyreV8#6':?YnlowgA<&9}*YDM;+C5=4nWDHqsL%=.dTA_)`qm3n#^K7qMllfwRb[wql
l_'o&OXZbzM^Mmr.>BvT*n`=YlgA4=Sx(//5{2H+wkDg+I]I_s'O,H#[irp!OO%EuF/tp1uf>N<1SIpLGDt.`t^p/E3^K6k[?{9z!|Tot<[Mhk]&B9%)tQr}8Y1oOiKw4.d]/RB=`OcYyYYc>n,=qb
{!;G<qtXH.>.X[*A9T37mzdMT+^$}ThYp`d<yfj=o{xmM/Sl*=Fy9C>}w$1k?yHpHWik|J4&#NP?*u*1ZmNBawNn?;!(R;}*top_3np'Bay%Us+UdDppjN9>}4kh5A$XdS?,^8}4YB)0?JqGKm1fR&
|~r,gh<%mW1Knv^F'bx0aF^TKdywbiCsl1,.PgWeaBDsoh*{H.n[u*7nQ94Y3Z(1`Y(]rn_pNuBv%!n][blQr[N5e^(%0{#+arOB+OmtVR_O{1zr_d^&JS9Vc(?>x!$;e7bj)zWlI^F#($_]N(L2.U
=NVqV(uF<W5fd*&:8%>R9;7~~Who3bI9F2(s5.)1]c,HIE[;or81/=nds}`skj{}aYNmvBD*qQTLw5db/T7;LU>Upx/o9Ho0Yt>UTt^%RvtE.I,<#PRyss?<`Kv}vv?hm>zYwL=#93F#o7CL,)7;j.
r&GA~$2<BH_wfXXSH%:OvolRL=rI'#0uy6dg0:dvEFc(V+<5*I!}c7G!$Eb~{h2sgzCzg*^TI}e5(of3&NcR/NvI*<ca#eM;<c!cQ7d=hHkB}|J0kNlCMa$3N*Dgb+j!O>++ymlevHa:,)(iB&qWD:
+{2bG=ye$kWnuLd4Q2bs4^3Vrjh&6!n;HbuUa]q>%7_,K1#r[(lNVy3#vyf9<9GhmnH:pPA~aqG0DzH$t;*{OA.AfAh4c`{R&EwV[*OutRKgQ<IUuo$(Z!8W&:?wu7kC:ivCim(U=jU+fwG(>Pz)tl
_x;%hes%_YJKG$L?^^*Duis^pbU;>_'!Sf0c$Gj`{4LN+ycSy'N71ySG6RFwz%'e(9Zu~g=|F45/dM0a0/jj!O6sv~+[Ws1S.Uo,1i7<|s%u{x<qC+aWS8L+f;0cz4}.2I7ZF|Y2T}'GfHCE|C%nI(
t<.s>(WISUZ#qa8Pm<R=0i}QmY4]U,l0D6&>2;Lmv7~nYem;baGFEeT$1jL8p[/#!8'<uH*X9dC4m2BrH]8d.lF7sCTfD2T#Z,D0;?2VzxqM'd=z(^Y~ozp%3H?1=}_:U^16gDTnnhbP2jA?iKLwHg
`6fIMuTWjiuI`+zCE$&)K%vw?=kgWP7EAVeo{?F#Z01NR9=sL_o5C|f&l/tQV~f?l17>8<h~_s>t(xwTC?`s<$,#,#koZLIP)_lU??i=3wrim0pzCfetspDn`')4VPh~fw#.k&^;jHe3+{9Upv:ij/
Q}tx^TIdPgV!10YC$#OGOnH*m{qi[N8_NTD+RU)K/A_y~lZFNi*myxR4HM2+7OdNF0o(7;nA%'sGKT'o1]pCH_<?%Q:(F}G5d,k.14zA(F{U(CmB|.9dOKm~cCbA'+Y]50Go{1m7'W(zBn5w=}td!=
DbS|D9G_,$iUET,VtzEFqf:6^Jhn7kxWWL7$<IVz^z#KmT[&|_/RDfm~TL)&hHExnu~f{)/|Wd&nCWm7Udao^:c)&zY%]a.9_*dGpdsXWTz%b`oQJv3sm>gW6LZZGls:;j/::{TR2N4?]H^lCmon;r
zU'AM~tN{CJ)k=xQK<}1v5?E'tj?F:1H~(p:O`l;=(l~{sK+M3zdl,8/q0}py`0za'SjT3#zS#JYv[+&>K{/KwC3?D*^;x1&/i>1uf9J%L=y2a>WABQSQ_`)R{?T,d`8E%x3A:e$}{SZD)g'J%}^J,
[=zn!M^v*DLSwDdEy2oxYPmtTV^ND]~&APHkE5SE?LgO5H!]:uod=%r_8yz`,s7^w7I2aT[t(M[%rNEC2JroZ!TLX#~,D/Xj/oarx^<E^8%L:={?Ra$txr~poidFgxkSkD~+oC)vRjU]E]xo9!B;is
sgS(>]/U0g`8GNy(6{t!ZQ]KY[t37vcbY_^P/ARsU/`n`FBWW3LU.wA]lv2<6o9|KREKIlo!A9SNv|$HzdZ(w)~$9RhDzKh*^XWfU&19{rO:Ni!^_IaK{O+5zDs2J2GKzG!5TZzVB4=:L3Hh9Wv}Rj
|,va4N}De]Wq>D7ijjEzw~<O!%,wcw;Hk9K9$%T~m0C&g!:y.7{cDfaJBE4jec|4~Tv56R<NZ&3h]fRk^[<q>/32Xd/+(/[lt3=.Rd|*gW,>YdF{GoQM?2H~A[2PUF4d58plr;i?lP*4t5){/>M[.G
xZ[V?iPFh5)99wY{W|uX(?9d5(m,iX*bFCr.7Ut>Xk]ujk2Fozu`+x*W>FYd9m_6aVOIoImQyB1?SqJ;gd)j'ori?;!<_*b0{sY^l3`it*vFB{wRi6^GbL.O6BtT<fgKBvdV&{W=59p&vgoSbE9=G!
>XBh,HfvVOSMM1kOX^Mf&5UcswDwdg%adVAF2m>?)W]63tC+9}97Vy&]:6F/oR3BFgMe3YsC5wTUf5(IF244>~NJ``Oh|^DdOy;Q/a+2IyF9#>wzaeHux1`^#IFrq]b;Z9O52|_RzU&%vd5!(;6jvW
]M3fDWYk'Uvz$VTrgLQ0y:w{YKhDR*&[<xV`kO/IM:A`WG,#K;ciZLhZk#/n#E[rKx9#w&d_?#!zEPAIt;Q}tFPHNgBXu{BiCdcL)1s/|aoHStvkOl00aG;WHhrz~=I&]Pfy9G{L>`>AYV97FIYyjU
B8xg[1OZGdxVdb2X:003.2.}/+WF4/ZNc+0+gsXO&,_PvTW=nAlQR'*!e9wrWbWE5KO}9FS!rytET[4~ByxYhG^^hHH>O8und{Tyh1^PB{fn=H9:9!W+.$46r3*gklO&U81!Ci?;a|6mQAX{u,:|93
B.clI;VA`m1J9AooY%(8K$Azt&Tu[g]efE?X?pkOgol_hX3vYZOwIj0_t~VM|d:7CYNCRJO4272uHh3'I)t'mM*RwERMc_M6x{<]({ePO`Uuat:*?CE,NGa54RXCP]Ocj3a`TIYdUBlfEHe5Xxf11`
9%*^YyCZ<44;2lgpA;z):fF)1Nv#f|>oVx&CR[8e<<RHovZoLV7w<mO&QZfIq}HMQ}<so;~'eceM`:ty)ebd_[BeVGZ/xY~OqQ2uiB^xgh#{GU9Yac,1xH{.LT[jfo.jd+f;QfmJr*3utE^IFCU9zF
}Yp*(<z!Zv%F?Gl~t=*h}VqsFFE}p.D2yJRmJrNnvXhsC]F(NhPyC2O%k16JM>ZfMX.3a!~/W_aM7lp19s3/6o'&j,>)IBF^T_yC|:hf!$rtkjuhqLP|',PQiN/*BBb5P~OC~)HU6GM7{I9ta116>h
(i[g~l&8>*|efm.W8RqH;FHP9(!uGjpl5;N4}V3I+PP#oXvF;%DI=$JUfL^nQYFleNcA;AV&59s)!(O$<?u$G!hV^t*d~uyC69EWg9c*N+c4CoxYcP$x=?(ND0s|)+[]AxvIf05B%{|AJoE;O4eV<7
%|Iy5&6d>2R*L.;wxBe*.Ytt?SK4G!4d,1wkIKKi`/=YJ9;WeMd)'sg}Ruv(>m[60H/p`03sc1T3H]ozxH{`<n7(UM?8vgZqX9vWd4JxzM+waF_%,WPk3<Heo{L~0{7]1Yk[:<z{Mb&uC0R0&^)%Xx
MB4#s1Q~w1p:x{cp.JtDrr3KuA%Tv,WzAF<'Xf?dgmu&U}i[n&Gz/e!7v5rG;i=!q0W$O5bCYjHe9xP+k|xIp!du*&sSN|A{XhA/HLcS4%9u&'v.4Li*2*I4e(_aKf?l5jqPbz4k3*$}]p[4}r:O5b
Bb}y)CFgX1/K)OpxmQ7WR>ddO'c,?|){=.V8DA2dxEMIkS2f%36gLOu&Vl/*JJI#Lt6[01^t,|`>G3x#Z.=^~T,IS;vtk=s`14R'yn5H9HQAuBW4g!L.oJx_Ne3,i<iH~yhx?Kx.#6s3=$^sw]7D}t
jN#1sk__5Em%_|o9sXo3bTPoX[c?s/PzKGW%f/g2VaD&g.EY6sFNP:cP%sH~>Srm}^!!$zA|*$f=]XY&#s4iUrgRyMoTyH&VraC_w[8gopU}:=YWxIQB3s%X_Qxr6iFQ)c6rN|((l|3SnOd7^cN38o
*j;_O<gjS/mOp`tBNk8w[Ba~`'o:RWR5.jNzHuY9;i/t6XTY3o|u5p)$,&29V>&4&Yx7`1(%BsWM[_)XRP_fUaR_[z21x>^R4dDs+TKA0gym*_f2z2VL*affkU2fF^J'tqe.tTpUdM2UYtsXN!$Gj8
XSzrLsBR*3`#c3j<,/i5#V+f/VVjn^0Pj+'s+BHXuM=L{=m5Ik`=X{nC2gQBb}FiUFYOSCE)&4nxwJy3/RBc`ERecgr[$DOZ4avFvHeW:2d6tM^/Q?MSTKx#0^IVCmC.BjxA=|fchf{<S?8ToF&qAk
hEc8vU`zZZh_lMM9Gr,m~to])>7pbkq8/GbJT1Mje~07O}=8Nq=+v0rD3v:5Og/>{hXD27!Y=q_]xiTV0*di![iPmQ/Cc&I2lve60MasuZX`3C^Rnbw3c|s$A~mh:s`Wf5p<S27vWC7[#9T,{[Gi{j
qkQ{$8DQ.`(/IpqQ01wak2Yir]['xw>=QUx)kl0q/S/v>#SU`HZbF<j[GKsh+)s2N+<xpXi[=:dJ]D<rGx>:hkWIb'>*fh.=|<_HCx4%v>_GtH~dw(iml+6Z'>iqp8R%4SrTz<255JVeR'_U0UkuEH
d=N;|FqM{Y$qgrvuXX>t`0>bHMT&V|wXaiG{?2j(xuA<5gf[bL;.p_F&C4A&7?2nK)_f,]W<S%!z;DD{>;r5_3xmqr9'.Dx>ST}lMcQpjo<S|fu~.f.q/z4SJTl.Dt}KBd`Q$HP,z|,JYinox}U_'.
ie,eqfu2].ir_L9]D:G,:t:0U]JZAC0y?%6xu4[Y07&pUlPpl=7l8hEPSw&<v0(CLdQrvL8~~^0;n#NczXy8UT*,^iTweM0Pxzu`KD(A;Od!P^#eyS(orX^~t%eB>BB5!gwZs*GC|=[|K|~:XY%&TO
*TL_WvSB]ghPL+jC,UEk1pC,ab%bX8;.X(qiqW*imXzKPzqP~4WU.&qCj{sL<NkP(yt=X4SCgT,o!S6*8D{<^`yw`L?b<5G1h5Z5?Ci0T8ZDKN7|Q#gYLmP3.?dU$=q3(>^3g0;wcPK0.aU.xe=&Ew
6e=',}=8PqY+/VXCxI!P9`52[IL'GKnJJF{ba'#?}1~tZ]r{>e~/:Jq<&ye39Xb7/M(O}gHVIOZ{o)P0`naHzbmwC4.P_AujdM/+g/7ZzaX{%NTSgeV'2p)[das<X$RLMaX*glo?6Hfru8Lg$e>%Bs
t,WE^t0hqpv+%S[/OucP:5PUHp0<ByDs%>_:ye:|iwkhr{A/?Fx)pmbIr,nA!+yz7:?jC[:HrR^iU1G1+$=NTXaGtXCENW5l4:#WD!hdIRz#BPt2}8c|lVte~|s8'Vik'Y,?%S~#i7sO'=g03$%C+r
9ekyY8wux11)9>1VB4oEuYK.ui:!x}/bLAso|yh3')Qw]|x#3<=z6/O{J3y29i}~KaF`D*4uWG+Fx2N4ir:C3A|5C!u;^?(Ia8M*.92bEi`6}I$dpd~WV1i:lX9eNAXJ;uq$kBUe0ZjXnq+B7YWG/W
wMc(PPKnNpg+U5T/=qee9'z{Mh^dvOmV)}LruYcg|/lLt1X(Cp8V??24Qmn3}Y[F9WpRT*[Rc_/vbR?a8D^(:2hn$U:lMnMvVC/l(Lj$o$;!ETuktVVffn4#JB?{E1<iKv}=p[HS}|nyx4%:.gOJ7u
,pOicgC(#>d#?D{s~V9_!x3l&x|M/GI`DAs>hhKLWcvNk,;C}MP]D|[$pc0q<$LM)exZH[vL.W4A)Vj/VWHn+jV(E1;iGg%Ia6x?elz$Q1p2#t;%wUF0`:N!Pt+zm!![u,g<>gB0'Q?oJ>:#eN3;~%
K,1<x!nby5;T^B3u3D&0Q!GIoF(.JwaPW+T[xX$IpgC{rR}vu*9,z1]PhS~3CGH;}lR>_;>*zMf_Vpx{a,5H=ptje)N('H/?%kk6D>od/'o=.t6Dq!b^dTr{2vEA>v_^`Lsg!,oOJNr!YoV!1hx%Y<
,PGN?0`=_sD{*_UI/A!{.<pwg?b`#TQ)4:$=<d'*NMG(J&)PET9Vr7uQlH`SCXOBfkR,m[K`_P2:=1&IJA+Gf<?:IKPmHe~JU5<e/j!sO{B.CH3;XSkP$mw9_>k]~]v/X7;ojy=suCv3(LGs9T#[k*
:##n5b'upJFZpgt#mdB*'7bH[Vdc%nJ$Nimtlr.n4]v9%<'J0!mQVN]KkgsDSM}CiybQ<oNtn`7L+v+$xD*77=&s6cy&*kpG:)dpTMLz,H1]APfT6C=kYN6A3EJ7m0y!`N9eEewW?t%Kda9>`A}(i`
r_tBR=r6m<[$yCOa+~DSkt>p%!KMp*|.y~D]za7L5^M.gsoD(>t~tZ_JV!ihUR!Q*]yGtX*uARK$j1RC3MY^O;B[cn386$G)T9afWpQvDb#]/iV/J[EL(;vSD?]%Fr#}'.cQjrvD#/f*kW*,{Eg+Ta
7]/qtVJzfHJf|o!UROr`j_%Wd]XJvOD[cPhmY;C>)nhp'^KHE&F~o{~9lNX0q)yu4yDNA7{HbUtshFuSFuB(8Us8tw`VGHhu[7b%1O=j_Gn5f*%JsZA*?4dk*i8ml]PR{(j2,N;3Xb$HG41OlJ|(HH
^&'H%R[CjA.%MXZ2WgD%Soby=11{SaEf7CA_?FRwz`;AjPUvwS2n<ghBw>b3e:g&sM:k|bY?WOn9!s/jBBeQ6%Z<<|FZ}c|`k`s)yPW%_LI~?I+e)o(5_PThYapM+9%o2iDLInV75}D;H(M;Zh|8bs
(t7Y|'4}f?g'n8Tj0n~8Q{%4MffWUct1B{^IKwRjUqw{(Ipd[{qC6aF(gh7?L:)s2H<O!6zMG*h8>e>IJ#;Oo9IE~XE!UC[,%8hz^r>ija+<^MYH]RwFd.5r0R:y|+c|c+n_%!o,{:s7T'kW!&xt;G
5=}<Ol43n+^7iy;#B+J}lfbi?4YRq|ka%xb0?QCP/0>[(''7ZqqmEtAGjudrbmOdU;&m.OEEi(}{ew)hv6A8V!Ffg#(d>0#$7%0Bw%0%`?RS?ICOP;YD>j?Y0/(iPjbr|K_LY$ZWo|c5Yj2ml8cH5P
BuTr|CgE:Ayy?{{W|?+<SHsj7LA5b^<[38odn!9g3n&!.]fFCZ9REZ:SzX`EJ]R',g.NeN#RxZN)kX=Z^>(}uPsn+,t0s,$H%M=A:*Pq&DfC[}<)izB`rWK1JXn:_W=o(Eoh+Q_t#|fkH167mT&|IH
IF%[*4&(j;[*.Jg0VYb=#d),wa/;_~y)<+EcyDOG}h=pli:p=Zb/(D>EoA0Rq:'(+{W]$DRL,^q%6,jYeQ'&*P<lVSJDOT?l3I:H&21S'~dpEcgmPN1[Rsvh:u8s75j'JJjEM_/tFm;l.Qa<jmfits
$qE]l,m5NaZZ*([Ne;FK<n[+{y<r9?[rlq!SKAYL]_i;s$#t&`gxkOP_2%rD)YxW<{*^ek`Ih8>FG'Wd_f&_:jw`5~[HWjx}GB#);V</kPJOb9&|ahIGwx5flZn8z(!o[2pR1y$mrYpfB__esKyO^)
cz&>o~3^XKWANo6F,iv?_NBPC<XnAv=5bOQ2MKwE?;}zPz,XJKJpF;M^;.&VzVzTmjS*noof=FcNk7?:4>y+g3!;z{Sp<=^rX11EPV:hwNh[y=B/m'2Raa+/Id$TSZPVIGi2/:I5W=W:k5Nx}/on$?
ANFoaUkD7G'BzF2EBO_xNZbg<%VpS3T5P6z0Rrq/%A$ot;eggalel#R>BNK#Yy2Kzx#g_k'k:T?~/4Awv.S]H+Igd|G~ibC5+2wg1BnF?I.VJo~/u9,|:NFvxKNnVzr|KsUul.u`rEJxk]RXAu]3<b
/E_Td_X!k],%owzXLDPm%sbF}A!~nL5}VdkIoNn(U:dK)5`D[H^E+fZ5{ZE.!nvOt5cjp|CSD}{)Td?Ci;r[8jE/EoK[J~qBLNeZ|,yHyVkVV~wI<0B7|3JiYiSQ&}a9Pq&&BDrKv=e,IAPL+zoQLj
lA![/|QsW%+n;_EdmU#grI/pFj;Dw8x2A;C1XC{m%kmO>ioz/Y>HQ[mEc^V&BrZj(f%L+|LXtpbun?o.76n|jz5|1mw5+VgfooU:U[vx8D`yIqKtSjw0Y[9?TH+)$F0;6~B7HB(^!+{:jqzWG%(p},
dUi&R)sESkt.EPF6;<kV]02g.71c+bH;%~S4OxV6zuy(F:9A0^C,IN3z.ag$O}6Qh^yQI#h]to,O7j|A4bur,(eyO}%^'6$2x^IPNYxH=6*=3pZFo{Iq;k,=xo`u>n=WhqVg{}xx.9+6VC&$x}><J[
p.seM#&6>xX!Jv,CD#^lo_O4dLhEhV.DrgNVqo8c2+;<A`e=tUPa{$*>8;f%],e{yz(2E,3{0Ne?W^$Y5HezSoep2S2uzH3r9owNGu'%I)TcDYX;Tu5ZW`,QLL|&<wOc~*R5o%~v+|l>(^U5M.0h?m
b[pZ=Ao.pL#Bn?Ji'?qihD5:?.JJG_'J#G$;JX6GO70.r3xB+02[OT+?3K&e5f}g(t/m,[Uki,m`Ibb](!QFTGWR5lfP4JZS?`rZS$z5/mG$N/AyR6b]K2ik,*n.,Ag1ETs(N?Hv<Z4%H~_xpE{BKS
8,wpZmC:E]&h}X<k9P!U$)BRComvm'`u4yS](|XmMvt`^1JEBr?&UdvGSkbQ*u7pCY/le?,!q(0|l*nl]H%(7QB(HpQe[UjwLbJ`fLfV,Hw&E/DVd7=:*1Zy(C{LFl}WxtNDO/h.}59q[z<}UI~R^?
a/CF02!bD:zeYLVf1p$^J`[9k#i7eg!0'9%$*aFBHp,BJ(LjaB*d(}L6>~*#=xc<];ZHoaAYz.jB&8qbh3+YB>Zls&IaQ*%l;ED&F&)sa=w&E{pM1Fu4TFPEwc?G]'w#B1wAVp]'re[^bl22YSMD.s
+AtJ2+Gc(:3RcrM2HdwT0>nLNdV17Kcr/=LiL;L~~I^Gf!Xwz4xg_2Udi%UhMiF_9bylwXJhF1BdX[J_1qXXNOAW}zrA=YaeZwgadP_gkzZ6K{r*p$`]I!^t6lib,k7M^lVkiWMAw}%g%$8b.2m!4V
`I8gIU$Q_)y}y?CAg/=yfmTJoR9me:/ZRrM1u+EO7wO6D>$SE>u}lsR:T<B?:'W|nye($nV,fqg'rXF=LQh8e.({r`'s>QLN&Wij_x!Vb00=0C5.'fgRR6Vu{lzH:XspO,6sSooN{y?IT9p[#f[+4n
0$>E$_':V3#BO4NytE%,$=i>H2`>J>z~Z[ow1yt|4Wgqv2nE/zv_u}xdJ30YUzp$EuB'Z2Q6/?+YjqGA>X7s!K>+%z,a)BC22<s/5X+JEpMygh^hIJj%Q.:]`f+Kw<uGa8DGUIb_$is!oE]y[aU+_P
VySA+W7=KQ;ua3{V*JSha*7Zo|9I^j906x085sJBR~=~INZfbks%7owV(Iz)9ExvNs}w%$>G6jerg8Pq9FTLW(Cv_v)w]GX^=IHH<m%6up+~Mbp(/D_Bh+j1s'{I>.b.Kxia=EXB$1xPHE0uo|5TzL
w0&^S*QrSNu3k?v!1sV*1B:Ow3|XC?b^|86S&5I>;{xqJ8X,I$FwQ3FvqH]K)f[4R{5ZLHzERmQqdGIfk8Xrh`6VVI*hW1OSl2%rJpMxyu08X#W*qqoXO`h&,D3x?HWQc,m5<x(ikD*{qS8mTI.5(1
uxA'G)Bg%Uv;/)LFMxzMXu5DSoZ<wsi;xT^^'KMLUC.cZ)E|ePBb`z5J(8r2K_%Se];wKnleW3~8QcWx#dV9cw{`Cu{.lG,LPO>^I>1ZVFho=p]7>Zf9+)M!Dy/>zGFw`meb)(xEsvO.0&^DCPf^n/
8**l=LuoR/x|bHHw&t+!j+Q6IMJc|VAbFC.0Q[ly08oaHDmu[!;DIbaZZq[/>VhuQq.<;bl:1Ad**>|CE(iSaRmAzkZ`;^H'xgxhk&[ok54%e*RD*Vxh:kaSW_>ZR?R&Ih'(h9HDjGX09(wMC{%_A%
4),+=9l_X9PIQPPeMMN(loKY>!3rLIl/b_d6oS6p9nTm&1V76yyyA{m3Io~~PUPdqt'HsUNr,nV:WSTg[J?,K$Dls,./]6U&N3_>N,o0on.*hC>v2f:poHNFj?yJT|24jKl]n?`;$}~sO]Vh^JD_CM
}*s|t]i?!LOX!9A:)}|l:s[<.Y(pwOzfNODT]Gufi?gO++=W|7(n]G2(;Xx4tAjVDTu+/r_7z!h]*pv+WnHI?H6b0)j?{'*J|s8^YJ[AffN<vi*f`8B)LibBG~B7E>s,2wT!'B$D^KU'a[N70+7{,L
_Ok~A|vSV*};^Iur,=1,$oEs6/b4~w}wPDKU*ZW(M+Cydd{pw?(G*pqq#C4tN#Nl=t1Ycg)_n*(Kk)/+q3A+&m`R>9YlC%1/xJ%j([pA]lhc/PEhEFLH~g>n&fD(jHhDj[`F_C]<p5njl~oaOZBjVa
|)<u:EceUl|BQYSh84SPF<kMV7$%xPyi'}Y[AW/PlvJs6`AHTzOMfnnPPMwml:bnZi4jl!&ouen.%E~{0~0lA$|)zQpm(ogkvgBulc2ihufY0zgv7;R{~T=9s:;FB=UK~su|BA)/5Q=l$3|;U#V|$|
uCL;6GAK$aXQC5+bP$S2al,phWR%eax5Pk?a6j/Vlg&!/3/P}8ZSvr7}esffW>E!mXkqh0RQ2VMm[*#LZ`=js4nryN!ID9^4r797z$g'UQ/I?#oZ9T0mN.6o~%wc.+!BTl&Z:{QDeIc;$C,#zKx,Mg
HB|.92o`DVA<!ntvyTd'NeU7jS^*f2di';l4zO(v8#p(PQX3Y(;W]XjSNx/quSPgnYyrRt?O{#)+[(DEX+!qlz2({J&PjelLrLWJ1p7i8Q&L<r_o4WM0n)K~=TwZ7!ylBBuE[qxy(mK8iXd^O#fClG
qV1(<QpqVpIT|u/'lt8:(2Pc=:mK$[/T{D,/Tb`2DHH&K=lY~LL^cY#?!uKBt_uilUdz,P/./6IT.|s%2GLij(&(f=5)C&QG{%yb,yuYw'[KD|0't;sBtXv`x:B6'M}qDel}P1kc%qV#6jT.&.1t)y
~dff)!YShh/04twm.)}N^L:Z]k4}i4}4rt&J03#0Aju2XLAz58]R%v{4!UHwx95uK=|o*&<WfZxy/VPBUomwm%z4O,b1XRrR.P*7kjO.>B,zLd8)5j?1zVi$M29QZ]ZitRJOOgW.K^)N^zcT:_%1`?
lZ<t)i2>;Om/4Dt,amLqDhR/L(Lvqu6)ZgBLA}u:gZdufU*'/Q!p4<x{I]s<v{9e9e,jff{aMLFH/r]q~u*K$_4+;'!4_hgzRFHFYGv?kh_h=WqhklpBhgfZj4:[eX3I,UA_|k|~r`]$VbB#rlI72%
}Z[7/o{.er7'MLKW1)=Q[c'8C|cfX1bO{zWh/nk{F[qs78(ZSC1qzlA7f0?a}liZ~+i>jeX^LB}4.E&kA]#+jr>PwEM<B3yE^yJXM6vC#dFO/iV5v*Z')4!:fA_Z0X`BafF/Lpc9FT7T^zGGo8lJe}
bgk1Zp|T$mh5^6jAU_rA6oa|<sPv|(Mw1hE'E5BkO(J$bDzHMDGyDwR%:txGSGp%Lw>va!K/x6vSYMVdq!I#2m/s{at}|Vvsos_C:{'(cENAuef}S6aQ3^IXamtL.qNr5y_CnIrF=={O`q}KQ/B0[+
[y3q5a=9'b7y7>ktnzmrD))m0ej;GWdEfrS)q+pnzzua$snPxQUfn]?IZt[.&,Po8B%p>IdzVJ0]Ojv3ZOX}.BbnHrifN<?fQi[~^t?rb_^Nie5l]E{CN,k*!F`:H:<(ZL4xK^VZTMdbpRlQgt>dsS
#?F;d]vux<hSb~`j+_!K!`NSk.z4C<pKCVMB5{MrZz+'Eor$Dxns:iYZ5lVmo5J1QUC$&27OvbH&EGK6JbAz=}qi}qBy<6i'WaZx!E_ms`sM,QYH^SBgU);%K{Ht%&J0_R.PAQwlby;qAAg&!:VTRp
h58OTm>}2!#Q%NG~`k#9^FS=i$'?*xl0Zwiu#~kD3&cRCmybG^Fq?h.[*c~;T:wOX`q~6fbun3ntT{N6*$;J,_>&N0Yo_n.ICc,5#Lrh3tHza,XAyuIgl8JB2ee;v}Z+]W1Y&6?nX4!F$b4IrE/.r`
04z8~xph}?$>e<g1~lVpY'vo,cLli4]#rk7?*#DbD`]XRp#PVIX=/2E&Yk)oh;7pw)F,w[/q[~r]7_fP/:&Yj.:LDqy0f)aIS_6FgT}lPqYMnvM{8+x0s4b2$`P`~kp?sJH8`)I>7]c&v_DP|'!,>1
<Kuf:cA^]`k:_(0qxXJ>/^$M#zk{T/R4],erF'ow(*_rRs3f5$YZ8j^Bd>95vnPCJ#YHB%W}:6,y1N34I_!/1Z0>!z7gma%ylC,81d*r9WB~^y<NUh'EVkBeRFm]JmLCfrsHF(^Jbajzwj4I3lfA7t
Xxgb#Q]m]m]i26V+4|mJI%ruMY'?c7;Hi2UjiF4>%eAhV9yt75WEYp3z8rXxX<#9p*/Wp$S4.NwF`X%Z?75olG{O3P+i1$Hlo$A}PJeJT&8dMw>f<r=KG/&n/A>xE%;oHI..inu6]}C,|?3}Bh+`U_
NbLM$|_t{86()08'LvQSBBU:NL:]j0G5jCcb;CTm$1+kvz12!meX%oBZ+Q$udQ!bv^9):)Q.~1d7}8I6T<l]&HC?)|{cn*xUZp365dP5b,ueL/#<E(w0TP&xb8})L%S,1CtYM1!!80Ip0m%6kWnci=
(],xtT9?8+G#sEVACMH;!5MfT)W)eVp'E{t:&'6|lqaFQ*d[[R8Vd:V?K4dxexXSCPd(S(y:^%:[u|RlvP?X(LblPfFt<PfiLb[1DI;3/F2:c,~E!OgScn.<v|NB^S0ftENaNcf=Cl?BJJ+Z>+D3Gw
3BZ#;}xf*(AMc7x/I3vL&Wg_.~4P4!c2pC?PB9ul5#9c`sipfq+`y;7LAJtZz>fv6)fcIlhU=Ref3esQ`gpTQ?`Z/+Pzy}[<bC1kq>PclB+lG?r:L~u3X/YH'4G%pFfUubxb/DiK;I'f5_tFW{pxC/
O)Kqx*=qG~SP{aY$3DA{5=upgT$,Dln5HEVT`<5!9FMNS?.LrOAICrevL+vzr!]B{PZ|H8(0yE<{uuvC,.|[(u`g}Y#g)VI*xnElG)+l?]Zqw>6eeJ<D7.#Y(P14VM$Bhix*kL*vNV;!NJAbqDts9z
?vb=Kq58XUs;FPeoGUKW7/F?eDwzJpv4BEE#'K[.{zcZ*w|;QpK08!.KK1}A)P8^_6PF<%OS<jJ<Z}WiRtC!BDhkzP3'7II0V5I;^&X^M^n#pDGU!KmHQX`I*SjbE!Hj/=5[*(<~=uDK4G;?8[(OC:
18bQZHukY/kC0DtC2drrjT?ndt[m}L3Bf0weT#Ra+R6zn>W)cH;J.OYi2Nb<FyZ?VZ<Rl|oayqPiTUNn{kDKYGa+A31fxPek>El'ddwcl>Edso`<I.Gx9(IpEJi6^j4`4L$8C)#[;zQL0E0Ek{nl!G
L/RZx[}h$/o_qez+azW1(}1;`o+(^0~(3H:5HIJkbxxMc`1xp#2><u!54v[NZl2*>%:>ooSjne0|%pF$km_j5jQ%=8P0o%j)a3:ZhNw7.eo*=m]hy(Mzt!vfwcZ)X/PTO'wgR>SKe`^PUnN.n8G0;o
+yfDLdzB0nip{8`KThRZ~)FH67s=5gN,c>Vrhm4Cj?v*NOA_)(>CB|x9:LD?~qARY|;S5f!R>ZfXtPhF?.CynQPXcy3pxkY),CiRdNJV&Qc&dkH=SlP(oc?ZUhqC^_}92A]IPn)XmbUGgV^W).SpFu
jz|HynQy^5SGOZnU}$Y=:~R]B0[yIE{YF[}QFFQ/BL2QB{i884EAk%6D`XKx?gQr|.gmi9#LoU_5]NSEJ=#'l~oHq:kV8O2m:C_}sJ$>&F''glQ4YJdaTeXfU+MVZ87*m|80Yir[':Z|:7>}oxliBP
Nd]HN|61K!FPlw*8~a4~?X|'2VhQ5TvU?fKw)d}R;C`GvT|DGAu&xB<eNx'Z`(cj3n7Y.|chWU<XsQm(CNd~}?C~Kha|s[jJdMxHgu`NP:sV:C~{0;NYpQSX9TF3JW>PJ+vrE$rW9YJ8`g!Ao4'1j5
v}N&~ELinfEHEZyh{MT)]>/g+a(q1Y32Ga/!q:LgR+abV0WVK7/ENL>4}E`tBz;=8`_+F.bwgef2d>b:`JLE(n:,DNoa=dr~.f;AYw*;*6Pn9*$e^UpV4=q:Vy?1Z3V6Px&pU3Wi$gK4}OYE4gzLov
FE1Q6(yG)QXxd}ppo^YSC~S:<um~a}4qsK7LQOX{?`*X}!^c*P8x0GhsVSX}vh+`bq]|%Q5Uj/mHP5D7y'D+{_2;[9ER'InZd`E>XoKnj3%d;(%5gjSL7!d$EuP5Oz{fUQL~TL&qI=xI%H;._ixl>S
&[!/4+A<~E=N{*^QNL3NJjYMHjl`Vdfcq8+vwvC9}.Iv~>Nr0T#1YB/<I<5?#]gU*72YX'q3S6$3'L6,kda&emF;#q~tK<l]9~c?~j60G+A^MlLJ/.fC.P7RtV93;K'B|#%itfspo]'ffkz!~1syLy
?}K*s<eB6c,ORlULcB0/g=T$f/&M|SC?=_j#[h'LVNwasIcA9!4g$yd*T}/]HrA(q,e](u+(*KGK!X>_(fH5_zRGr+7ELZm'Na,}T>8N,bR!?NkZG{#j4w*y'S)F)&h,urg#u'&GZv.jhmk)dV#&:9
pa)}j<)BR,Z]=Till1pGv;8AUq<29wZd)rN|=B|dJB,OvXgbufe7F4.TH4!Y97P>OA?A*PRvx]V1gj+2g0#4slC$6,6$fv}A7wj`D<YH7*%5{cm/=~,^9XF$TA>%kb`|#cWyX<qNGA5PKUHLF0]$pW
_rdwr^XZ27~>17PIMb2$9R4hqm1xy'A:Ey~JivXh6NuKkbD/Iw[r1|gT8B}#BAonB4WSi}wHRPnkGmFA[SF++jQh(u$}qd:0jD=NetFp}8'%lx[XS`(T)AqUObG;SR;W,VOl$^=qh>GUgm_(;fJjDU
%QnFEVXhc6s7G;WZ]p4#Rax!3xT*40Dlb243;ebq/8!rC#Le#'eu3!qA);6_WW5|<(dbxY!NsVyb6#6[87nQ+ZB?uLJEC$]{5[iA{rMSXxK0pc|tVVZujMlm?We5k?g*f%rZZ];epvdEOeiF}F<`fG
w/i5:H8$E]MzbPa:>p8f&6giY(Kdvp;9b&.n/;id%6/$ww|.O|`c+V;:Z0tyR[BY4f2.|*{q(GD3$gO<Y)?MkesYo`%0iu`6]r`3a]#[^tv*578,gzpU|ev6%a`&2J]B]6IKt[~(v{^[7JGm!JI1kD
yBZE}5$o6F893!2RPksZaVl5QK_eM`pr0rABy&R|]jLg$ExejYkh%hOQM7~F/pJk~7E':UkR6~Mquz|+x9GFEgS{CROv]u2K6~uqf;?TWPxL.L2T8US2?|j;~?/TX(WrG3}4dqn99Ua3l$GR#5E[.K
=Qz'N=7FE3yxH_EqB>Yi*nlrXD]=o?)#Dc!:L9#cO0S=OE;W*sBYsu0/weIIN;uf#Hr6N:/k7iMQ]LF]V22El`3dQy;s'_^Me0&vyuVm2d|R*_&18(uB3MrM%*;le%J3MlPGW[eUU&4o]J0TctCN{G
ku7dS.QQ[Lg7sT45Euc$=2#)ie:9S52]476vqo?RTaCl3v!sC*]R&/NfSROG|6&u|``GWcmNZVy;_t~Q<.ray%vfEJUM1iD<J9s+>iv/g5KE6E+O>w&zMtSXC3>|$]+mfsJ&$<Y&=*f]+#4_a6UNJm
.vr{$;*%sz}fGNIeOJOg(WJ.P|jsJ$H<Z^/;CHFr9~p0Orn`=KK4~^P1:PFD)7K|Esg0}uUCbuBnc`AbEqOxU*hI?}F}[e#'_FkWY+AAZ:FqvcYPPiw#W[7xcB.!=oJa2Zj!sN1,,>Dej+Q>WY)`Q0
H`UqTjZ`epoJmD^2$sM[N<vMY2jOKZJz1M<JWV_Lqgb.Q:v8)fnB{cmt}|xAcz|zl%,4^iF'hD_.S^GfHGCCF?^F;miy+A'T4DD'0h&XC_xjMslzY~x)!s0;Tpp{D;|y0Ogp&%T4GhrdxXTCG*5c1`
}Z[*%jV]8^sT0YIri0BI_^UkVxXZ/O#'8gmv3dJ3xa/[np%r:QmLjIKZ#<L[;[4(]_S=P:IK`i`jsV;U&Tq,E[O&Up?OnyEra%s_r[R2l/U[kE0'c=Cz7Y9#v$XZ0nzw0.fuMf(VY)Y|YGK*hK75y5
zC.Uh><>a{gHCr5+;'Et&K+)I:#n8&p}{{5?9:9]b$)Zd#+r.2m#}<iurkI&3jJj!4h:hz_ETyhw)T}&JD9WVSOjX:}3BDmXZ54)=M7Kv*#M^}wV`gI^:0^u%7PNokuu_d<LB35'z!:foE$`L^cO<g
Wq=NlbrWha}<P(Aaih3IswSqS:s/[JGYQdX$DW){Zn$?>ali=:Hb?{f^]05*$A'a'j8VnjzWGgE)S8Y0wq^r;!FJ{3FB/CKg.3b{>E_Kxp>LT:WsXSHv&,)}{ArG3mrVTG63W^G^ilv:.ereFPI{GM
9~_j0>+L&gBHB?!g7Q{x]**;jVg|1nlr7:489VN5x~_[,#t'E!*q8~0gSn>'M({*F~gJzI*?]fU8p]|y=aUGRP}E[8pP45#m}Yp}`zqa;Hf1ud:,TLqA;,,lJ.aU.vP5'nsRX:IxFDGD0>_byRVI/d
+^n4Q)VNlCx9ZOTR|]#2WtfWN~pY$E#efV0dz=W%Txc99+j)264XUiL1YO[|9Am5Bg0/#KF.{ydt(g=B4vf/rgLm+n~VnD}2;aB>!ybLi7_?%IoBYV[Ql6.N{C_'$AWz/1:Az;O[_;]zj;Zk(w`'M.
t%]+nVn<~AKOb!73JHUhTX9bLGU[Qt8BMla+akPWcmJgd$?[>~ZEgT8E*K:|ge0`$fx4AU?v#*bGyk04[Wp_](ys=F2xPy%qReJ8<`q^{uoUQ}b&mN*:(KBX^/|>>rqI*[(is1nSqx|T='pRB)ofw8
/bK?%Eb`!GV&{Koh5uR;S$=9$A>Svx)&21=3L9r,Q_HV3,h|_}oH0^pMwd18ipzD}<`iG8]doA]I)4&muvW1wT~V$uJdWw>|kaD>z=bLEt/~GH[:eq<e`'2_e`.%%_A{M/7lJY6Kk$+$~oMMzffooA
3!EmKD:$sEMYkWF#Hg+SmbvRhJ3%H>6HNr,2t4K!6O9hLXIpFm/*PlDx:GR7v?(<y]txZ2*4NSKsbsjmyWf00{X<=}r}*((YLimx5t%S&.]+;$;qX|RDFvD)V#l|g5q}'hL/E!5{ij=}%p44#/rXF:
*3&I*phC7u*55j:2q&F2tvq/*GF^Z<1htC40(<M>,;|vt*y!<z'q;{jrq!R^8g!O`Dqywf[I'X.ef,:a=t]fZBh9V]xm61fkd3igOHv29a`xc)Q#gy#Nh0/*L``eV9}tsKb)[rwzy?<SJ%_6^^9M:V
*|KDY~}far5o)C}aL?[Aot{$b{kR)NHh<7.[fF5rRJc1{^bm4!|&6UfOIiyt'kYy#?R%rSy:%(~`/_zbYDuC:('ns/itzaU_Al;oidp&cF'1l'O9Z=z~|<H+e?VZDb;LY+q|Bw!I1mBV_o&X[d[G>H
6v5yxA9C/lh~WBsVw/oro)g]NE(6=Nt6qKq#*N#JUElXo5}oY3o;xuRvZ0nlD>})#&!7WkMr`ZBN~_u2?8'Iwmy3/[YkeCC%F9f`kv/:sY4Ju&qR_n8_}o`^Af,q#=f&a7sDB&#sK;qp_hi?ktCwZc
7X>EXkFL=Rjg]mnjQU|BE7<NAtn#n'j$2F5fYa;B[io>kT|Ca+;#iEU<Y'hMrNf^q8C}9,|C318EcCJg:}8m>[h:d*aeat0g*5EZoW:_=O+kobeiABAAaU[yr8sO~ulYcc,cw;erPTjbL2'?_lx~z+
a{a+%j2_#DvF!z(JmMON[/9A;.T._P`gaOx6cD2Tx!*wJ[*#bK+l_k*Ad7~!shbl!^NbeK$M,ix;fRl7,3C+61A0ss4Y|D!eVp()}`Gk*iDWCqDve&ZroO)CYCNS$fCm;NPvD'EV01e|?ztXu}k`A5
beyN{3~*14*DezAFf,R1N5y+'zka?PNRQMM<UbHjt5A#QC'T4wGT'Ul1]SgA3c7RbVJ%~JfzTeWc6~'!t5Mn?;6[lgy<(0|nYkWR0>4ex8y]etV`RN9%D[nr*ZulS:T^rvQzYP675&r81vJ]h*:vtn
$WL9<}JUQjn{0(yevH[P,{?9.Iz7Au+6=b.Iqh&BI[[kJgQ)iX^j44p^],tjq<Hv,&jI,8YcZJ0kvB+XNWm1k'x{nM<6B:<t:F2YQFCDkK~Qj_JoEQwSGVls^rsKN7>OJE:?`bKbWT8]G~4X)^ooV%
efLOcZl<Ik/+nAoK.V8&#Le(R)>,E7UT:LCAzSZSy|Vejm66dWv=Y!bH.`*<(u0746p!(r]#,ilSi|]i~{J'W#[iILb($ol(1.:^GBPu3I;q'QvC_keLn#a>:*No]ntdFk9Vd/d^+#aMIgiW82;<,p
9f%uW(CC{0O`($|`wL74_}9P5J_hB$QNb}$[S1jH&5|POjX7#R0E,B%;Hjg3a4qz{)eMz*&Y{)EGFPBosxBZIOQdQQ!Na)&yuhv1!BH}jxkam}8G;|%.Ea$e{V=tgXlAdke+Cj)hq>=}CUad'1Htql
]Abx)wM1DR;G|9D?|Ak4B3Cj6hTY[]cC7`;slzOZW]:8&r0b]^Hn1ps]Q'Gwygx`%{36M7lNRU$P1|PvI&Nthz/Vk6bg0r8&XEQ;N6.p(eJ#O(LQ7=3:!M`FDP8jtkJ0|d`M+kxEdsNf__*dzkV=v&
%OH0zVzL||2vC0={U|!r8n7Ub]ZHV<Am#9|T*<<8_b{Nq(DyK|3FxvO^1b'XlnN%PzIDUMgU~*|KpeHHLSz|,PEvGtjVUQd24a|dYcU.etZKj+/:2d?GN62/bu{A)Q#kUXm/ib`IH%Pnqf0gxYS`Ma
U~y3cx}hg#N]UGA'h8GixgL(v8ZOphwhF6)C}nI?3[K`#<n6jNu)##NlJZqHPZu$1RVqMtYc1RWGFD;R#U)~Wa[9suEYA*MXP#!wWO`S=1F}CtG<5&r8LI4O'v*ch]iT;?NCoEJ&M8[KKy?4<&.3P.
1ZGB|eS2%#K]RWlB3ej$JTo',??0jBI56T=aH9Z7/OVL;ft6!Ww)Z%e&;3WEF=kn5`~PC0_fWUyqU8voqSFN]?|;z;,C5n$q/Az2ptoTQ5q05`IFU1'2d:&%O=^LNF*LCyoGJr?^~p6XF5?r&>+2iV
?T,jm=Ohw:2vPC'hZsXa[s{MgO]PA>CUT,|NcYh(s;_Ie/>7'L3SHhpzrX&Y<pqy?<;+cS.y5mx7xr<u;n<B;|3kF&tM+1vg*rwF,r+_bNJ8xu#=l8P;wm<d&z_sR}]7DFTKVr)YN~;pI>;/7f'tNN
LZDl,yO{50ac`U<jsByb_VtMT}Y/q,cHND`VJNw50F)*TXJe(7r4,M+qowDJ6MPBD6PG$EiK)(fE4(u06g|p`dA2Vnlv[Yz_L[hnTR,g.m!HR*UL;}aaPimH?Dd^CX)Z;e?/;q:A<n'tbjP>;>m?Ej
>Uw*a8{3ES^6?sRZ0y$N|%rxTFR~FC`qQO=Li_}.l]wEXlzSl}s!AI,QZ]UaZGe17gn{nb}>ch'}od405tx$25?QGXlJa9XWj677vr/5|#vnt*&n9MpJ~$o#icHFV`FOTvugnrnbtzX{5k2U&)H2gd
{G]8o#&pIIS+=]V}AQ2)^a9mwYnZtN*8OF>}~6|QIS'oR?<KS63qI9:BXr(]!QVYwOVa6^<I'eODPM>8BFioCm|0*K,K&[guIzg_p9VMb<de1^pfF3pMrgaXdd2y}sYvg5oq'K7F[!jYw|NSkUJG!V
$qG?;WWo|l77HWm/*jv0S+D=rLIA,|Ta3*n=)wLvp'gcP7G;h#MyQ9EmuQL~?u;=sUknzS3yavLyG}3<8$<VF{>&J&VjvH2P?(&dJYPdu]>ymu;%d&KSe2elZt%%2lD!3n)T0~n>Uj}3EJ55Zv:>AP
luZZ6HxD<O'8HN0Y.lf)1p'}lEsyq='24%Q#Ju^4$}<=E=[7|r;/0QXe$sg/glY!jvG%5RBf}C!s4]?`5Rcq%QX_dwOoLBwi2}42$!fXZxB1>^Al?`w|~)aEbm&{{L1K>*5^G'$;y:Uk7dc`6N+>a_
zPt$B9m=3Z'1voF$BOrp3:vfb=TiaX,'}(>4I,bE!)s8~Xj?9?,r~$b>=_2RZ+LX[FCmMUwt)sG!>#a|GiH7d=eJe#ljxmbJk}qg&4c+%~ANQlL&{1D#bMgJh/Z,B{dR[~2S!b,4.?.&xNYSAfS=6I
hv2pdMOyM4{ejT=JgpfiC3cr'j':B,mw{f9v'jRE*G~>3Y;TO:6vT6uGv~QtePJZ|L7#A<.d$wqE{3WhUu<>8Y(rTKkr#u>}_BOfG{({X#8>F'{l^x<3;Ln$e4d;6^_dv1{>07$hsJ_U!%7Wm3BG;<
j[+P'{8dPGr[]b/`w3<9ZL^9u#S+auD=$=>vl)MGjN&a{k#g#R&oHT]XZ$fJ{z|e!i5?u_bnh^5VuLRkh8l]$Y.r5c^TG%xW|n%A;D5A#GhY5H.1c:r5u62;O,:ft|Xqw!Gbci#[Yx`RYAv3TY|}4M
'~CqYirsnu4H<K]q=/kN,awX6B~2p/z]3J>+N|!y%HGhZA5^}WW~#:12kBD4jhMyrAuNPsX.6yK5#kg,V3#xy=<23|lU']6QdQ0A1Iywp6Fla&)henr_ouD?>}U9Kd+fYbs?W!^SOhsC7CpL98`OXk
6$b/n([X&5c|'WI/?2>>:]F|p3%4:KX!Mg$VYbSIbgk3utr=;|sNOs1dP`&2F}'o<Zk^L!j#Pf{8$OSVYYlbj,]G5!wC_b<juBc#%Xe&nDH'4jaw>14THl}yDq}npiv.L1#f]b^{$[=QCLOJ0&C[.&
}r_KCn~kkX?!}Y<9`G^|w::l&qUFwJalxReb8bKakw=!W'U!w{rsS54Cv&~4+GF''+4`>]X5ORZc:.Tq.,'y_iBkp!JG#)vH!cY0So/SIrz7bU=fVYD#(=teB<<n}4Hi'H(4X.Ipj/jdRKp?y1?lUK
*`h{|v'oT_R3J2]<iti*rxvCPGR*M><`5u{/b}FJF`;={G%N&9:DYqhrwjk,UELSpYVnwXDLZW:]stA7.=X7G8+2itg0f)19041u|wRV;1E0{ms/Y;gtsRQ;~a*6=q3`Nbv=`!2nj?~&)t|/2c<I(_
Iq%bE}JM(*Bl'*).U2>~:tr1V`pakuzd!HBD/2d_})nrvdaG%S]`GqK{Sm;c3;f+0DC0RXOU'W<i5lL`?J)Sv^uZHZB5U!GW.$d1GlZYKm_(IK&*uU>jyCu6w=a~dkksJ3UL|6{Z*87c$n}bu!(DHK
rFc#e2A.h[cnI{6&`Mt?&dec2oL(^lxM?y6$=avHg+<e*?q<ONu7Dl/qe=cW3oJi5&8#SiX]vdYR8_~lM`ls#HR|'8oq*9=aC3x)=2Kvg`ClwVr:<(QWnPf}$wNUo*F](S}jv9<4]pU8053tfYH<=u
AG)N&rp)G0#%2dHfk}?r7&zevQC*'R#ob;yla:ooZN97Oj||ta5&iUsC6cW`P1Z&C0lS+TtX6N)LW<lxMrj7HB^R%No/AdN22'x=E,m('4Zn(q#9mz3V=mW!jeU$oLQfze;n9M<Tplf[8|OLyOo+=X
(=lmU[owrttNte*!:l4xpn8c9a1]PR8:2mzxk02T('>G12as[yGiYM!don7F^gWY+|'$`m%D$5A9Rx:aFmi+=p8&?dZ^I+p<)v&(#OLfaTL26KbypgPPPL{#:JT'vw(2o2e]i/rG^xK[_4yY*Zle)i
G&$S}MW!_d$mI2c)OeKi=T*Wr0eWts:TUudo12^P:<eLz&#7!LsjWT3gl~9+Ah*.4gS4Ysukr(n3DM[~ym%;e*Jw&JoObTaoJ~;mT5Pj.aDbMiSk1$:?E>G(%wqCDX}Uuib*b:,~~43%{e2f&zsO:U
En.x1VJKBGb^_vjw?&vC2BLE&odI`%sO+H'B(SNq,<LoGP#A0XMU[h[xKc^y}=y0m9`(T^S16E(TROC_=GCd&PG+]*5}vsmYZs6y%Y[LFHn,pY,ZuuD,4?&Uf.C(U(ZFDl2kF<Fx*wo)y|;9+5anN]
(w)|L8dR!s*%0o>k(p<H.ws_;imah>y8Qm92z*E$xPeX>ai/L~!MkMn+=383du13F&>`PJG3A9j/h;CUH5d</F>5oA7kJQsj%467Clu)ZmsN9RO.]+:{T|f.m80Oj_.8]VirH80t}3!OUwkLZ,o'8:
kUe#Lvh5M`p#&Lo1$LK,V+<CuIT!N;0.,n?vMacf.^|]g&F%$9c`u>2LSGrMr~[K{T+H[[UdQ1Pqt3GPxmrY[ZN)?sKW$;pK.J5i?}A=kh9&mDkAk:'!ev(9j3zMIxHD:pqqgy[&F4_zu&!a}q*sif
?veBaHgbhvs&:[.R99tj[k</k*|#_VAx,5><W8y|QK]EWG3DqR)ZGVW&f8xch<5#_4?4Ch2c4W<RQH~;C;&YK(}9Tsg/1LB|?$NjYc)ZWIEW6'E!p];~s5h<+b{DGOWa!'FViBW9g+DwzukN2)*J7}
h=TBUGGG){BT?p9|nBJoV:4KV!PgtE);ij+W~j,FZBr8f^!IS,,#UB,Ru0dOiq4SiSTqrlJ7S+C}$L:#inceblphD]Cln|z[g1_9K<CBb.(R5ycuT*bwF&|8]Bn+RXDvI86W/[~2*pmbM'g/!=v|b]
]8GPvARS}%!aG4:ht[s$8O76^tu3`{qr(G/p;9XAAJ'F2[rAAN?09;0Mdg!sF>7_TF0TD:bY?:H=;DQ}<UyaX:fHuUoj#FeUNy[mP7Y_wj8ZE(m+.{JwksYF;'qEWtvrY.6g^l41fv~.$OU<DYd(AC
Y4hv:(V!$Z0VX3Ta#6ndb}WXR{ZL/0g1ApP.vNKmG(y)Ay=~8U:Q.$c%>_Ry:6rps5<U'~|{Q=~elQqp=)8Z%|aQ)g^B<R'}8q;%<p06ywK}y%]CRgU:KWI8[Wm#JlwmveLw=c?vQTf%h6_crLX;hH
&iz9i$HQLm}Jg^9JNnM;!=+[!NLT?#oB4[1SbqP8XB/ZL^+bFz%YKC#f^VcoHf87.`Ke5G;0Xn]9b$mqN~Q+KebyKh}qW;;W:8<#TArO&9SOZgnEk5B=dvw+MKBxK;(aqGJ14m%|q*Y|U]{R$BR#!S
q}_~$:5q+vS2MSgsTJ<r/T'A;1pLsz.3U)wsN%)'LqM'K2Ck/!HuDiFFKrp;?T0G]%};&1!|I#UZXti?gm%4t*(m,yRvi=Pj:1A][H(7h|HK{[n_zOHgbUS^Md|yTuR5r52jaZiEn9r;!fX5lZ?$EU
Kb?zk~=8R~!z^n|,y>0k8qlh!.wBrLef$LkuSJ0.Dd,h<x*F&%mTZHoTl<0C'fSkORy?RHy_M}AkPg{6Z]|IM9*3th^6X2ga|.j/!gB(/#d/ik,nw%}N:NI&=RW.vgKW<4pe}fjDA0g_SfgsJA]?QR
|:LGWH1/{baEm/Zl4v$8:`%iwU>sue%Ioio'MY.fHA{'DeN{4kUwpv2kjv!)6.oLk/eRR2sYMrcw+2=:zXRL^.jm2Rg^^?'_4W3L9:jN{vEhm{JX]]1K9tHSF0d&4l=3d&5Y+_7FQk%E=(jFOGw/+)
FkU^Q:bz4(hX3FmT?+<lUbbFa#iRJJ;c<=mW,t`6O3!9aic3N)<*,EJeLs!kNUrlO_.U?FFxOCo^WS4Gs[s1J.P]T.!2Ez9%/yPZ[SPLwtK!%S_1]=lF`dARR^)fN}S39K:k_zvcmdcy{Z`|`+T;A2
y0R1}0R,%X<U&!DEl}b/b??4xWg96/I]['JxUpQ3)wD$v=jDi*VAf+[}>7uRTj>X(JWzM/*rHo>kZ9dgClLEp+b|SY?`_lOsQKDTPb.5wfWiXl8y>_F?erv84?LE__7EP(!Uy5n[CgGq{+w[wyPgB3
C%FBn]%45?f4MemkIA!BnOV~W&md%jTacCoRxcU<{9_5c3(2n~/|)4W)tEza7+~uFgP&izobg{n/]um5?ne;%M+&Wm~1Ut4P7xvW<9AvbKH?%SC{SaN(kb>8]6+!jrl.+,k:%GH%#C?qBdI5Ff6`c~
d)cn4Zu1{S!Y4lLnR]FlSyqYgut/jKoMyD79t0E'LqZ!]!X_I}3LF;71h<I300J]'fKJh5gZ?fx`gYqHt]rLCIbpN9gUPZKbAMllz.#(ya/YWV)kyG;:4<gs9Eyk]YVj^YrThZs}#Lq[:o[T,n;&^x
aihSo~QZ)eP#8e(N=*m#e{=&Js5fA)X4dv4:q']zQzU1PfhsFS2FqT~)*y$4PY?vA6J(zbx._e1aQf{;xXIt&hSyTyQXfndq#ur#,o}v)Ju<+v*f<qv2_Bn1p8d!9K%r=U+ykS9[y=x84%SX~|lyQH
ct4T%3qT)YwAeLv70t2a,y^6#e^F{Svs6$'nydn6k7'O$>c8GP7AWKc'qr1)ac#'atQU$N%=~;+0Z{:c:r^nj/}Y<EUm$v~6DG54MWK8Gy}^QD1=/S~;.E$C]6mhtfq37%Ew]zov~+xP5U,G5XsUzo
^Q[C2QEDU6>mS*r7t?};xs*`&:q^/%$pPXw?1ZhZSPH1PCs=HNvUEg`2(us4t(gZZ+IR6L5Dz|Q9|Rc?Vg5m!8'/#J4>1O}6L&6Kyig+Ihmf_%lmYj'$Uq}nzF_D3Dob7LON)3];yNTH&GU3r2ill<
=L]nm&OrwX$o_EPAKxeyU5tX}kTrWixS)x%9;+'lGm~^1<KW?`0]Ae~pVJl=#csW+gOYq_xd(}9cE~*eHkF1k..BO}gt$lY4o5goxMMN9v!P!'S)<X?`V*5fC.bl)zDfmy'mTOFQ&nhAnyBJS$:XE+
TYJQ_&Sw)(2eiajzf3NzG/SJ0P%:2|XPB4<.]^`dqspaAfgQec8XzvgM7TgJnMx)f'v==/9.jdekY}[C=Ki4tZg<hBE+SZ9KYXKsxE/Ch/`YVzY{?Y^HP$wF[HX&^IGXb?O92qERO3r.`n|T0GVkw!
^}O#hv$Hk4P9?YoEB#jT>;aefVl3*pxiYIo)Pg3?p;sn9aIh}N)w&WeZhX:rh9HYrLhE`L;)AdN9~T`YotQl;:+tJr8TMeqUhV7U?,m0K3dCx,,nvZK:!y4Wnl0R<l9?BAoz&;BI]cWu&iubZU&3,L
%C_JLSd9E4&'3R;`~!!5#WHZbbcpJt+wuo1?E4D3aHL;UuU#HlzHqgF_Q.*U`JI)o^!c,;M'+xzN%tLt?XZtIk~MBroQY`v:O/p?=cu|i)/F'.;(Bpi|&lY2FEq0nAqRqp*M>Q]&A]*{vp.6)dZc_<
L+wRz&oG>Bv^BsplJAm4V[oC{$v}OCX+XSfAu_&2/<lWuf?i8oeGyIa#r%*xd^lHN[#etsogqrh`y?67EA7<6'P8/k$53r<:f6)gpSQeTtP,`(=:.9,Y2}>(loIFz%l7JlBq2XzKLK6&Q*V)Z(Ho$6
_4nusBjbyTC^ftp&{$5CPw1~S?%x)Mv2,+,}`>U`F3a|_f^<z=TBRHmV/6{~,CF4758ur,!Q0{.lD>$.q,8?%%J&bO3w$E!9I$EYNx1roa}xBf]Mi;G!a#Lc0wgS{~$vHXwlo]G7AUlphnL8|zW^m<
{!FBj{`rcxox(dua|vV]iU<,GK}{!f1apH;}vnd34|%;|bCK:i.B2%_/LmI>cFI(VIKUjzwo|$7~(yk?2S~NBsrrPzVJ)d2[Kjnc>[+FA)1!fBiB~&e%^_nVhv0RtLwmg]r%F*04!6QW67PC04T%/R
XhUL2Z;g71vwei4m#p{7D_O.2IA}W:7_f*./VLA~+;*xY0|^3{fQJj%y=;be<uA]nS:E/{V1c_BQu1]D{[Gy?~|]}U5tNeBT5lnV&D%>X+__f`puZWuS:H}'6w+~o|cYzmV_ONpxuug3&Fi[w=?bAd
JWDF5Qzr9/}Q2i$HjOD+|B80b}$g1q(_:K4YMlE/[;%Y,[tAdHl$!]I%/RwL)7a<E/lWt&aGE,na'!VacDTcC1[)_b];=d8~qEwD3d>1hK`[F}f+}p;u{Ifesz?EVf/<8Y$coMoYU5WT$[6]50.IO0
r#b_8_}^Z{wDO0*&lUa!Y#&:/3B,CB:wUr!;3!r<lsYxr1`[tCAF`*WYTtZk$<)1:ml0].t7Tuz_SVFs<LH*2nr|cP1mH67J_E3y<:s_^?}%~n[[_B~5)]QWoY85c<xD<65W?0xp:&tDE{t9*ZQSt:
tzIn<UhIeDDs7Y=IhgPa>J0potzk$wp8q5IiBiNla8Bj69bF}N26z?)a$KKQr?sy'S#BhE0~oj)ePxc|kr=WxkLkXRh2#pE|bdR:K.G6RGD#[%v!fNaXi^&Bz2RmwtHiU5Y.kN`q39zf>vhJ8~8I23
+7;k|EkLjOc2JjeUQJG2;d*=,:<]UDCIRPz._T=Dhb?4kE<Lsliy`+rXAIY.eb{!1Mp/y6E&n~=p#ghnQ^5XX5XZd.VrMW=Km$ydObI|Q*rOTz:)e4>D8Vo?*xO7SUWFcYk.PfdL.f0DIoAkwzkYPv
cU0O4#]w[]%ZnZEm_cZ=[AWdN{&bkqi%D;%DoV$~2j^o78L~6EZMDg:Y*_gxb/4xV7CxgvL}PG.#ObO%R](OERlHlJQf7|FOT~iB6!=+f<i.hlAOoyY'vac;(rZdVV*XHXK$(i{FA#dlK^7p2s7,5!
%,DJOy(QLm!1=>N%4R#mEb>LTGOpDqhX)[4KcL^f^X{5=//6!GbSORaqAbWiD6+(.&k`a8%WP[[unE[Hdne=H9(Hd'D*([<5MF2|ZCNVK0O4,qe){[|=V^]ir}8>7'WJhmbpmzU^$IM[>]x`5{>(QT
,CcV{sBg*4+V1VnntH<s!0E61,[5d8PE9'._%1P*VMAKmOr+s4AI/qwzoD}OjI:xZvUId(%q&&(n74KuKPh6t.C7bK0znjN)N+ur_=0t??%!#X<LBziy%]e}fWFOhr[hr(LQZphiG(l>PE{Q?~F4(0
qqVHJvaEpiXe:eIKt#}1W9EC`4's'jIN]jIfN;/8x#ZI1pMOtU+23zrv/hXu%Tmi];^[%8N`ysRW<?X~#A~dI_hP#IuZ!l*}xR(z2;Xp3T+lwS{m}p`~:sD*$qL*J?N)UwyG+g3x>i}j)RX(0e}[vC
CLlQR#Du;LF3wJW/T`^a]1mHP6z#.$C^#v`K~`;fZlV;*1kn6N{YfDw>DCbaJQ]<_E+cu!`9LA:yJ[F!;|6xOcC5xGAt4X,mLN}77S.Krv+FCHa~rXvW]*>LFX,P_*uT}:1by+A>bf`$k)wc,n5s~)
?Px55#N+gX*DS(Z!d3|[G$jIs<X/;'P!u=N=h$=csnn387}_<)(ns4RkJ]U2f,]05r^YE8~]Sg;l;j+4m^9?^G[oTs]~z~YlnE%L}QMr|]yd.{dNUN7^Ckz5M3NHzJrLw(+Wn~*~52a`3lM7bMGdsK
db*/2l.G|<t7wUFZ]l?d'6cIPWf^G3i<FA5#;vSh~!1slEY}_TUxdb~#,f`O7N6:KfINolHtE|u/cMK+H<,ib'i9i5LENr/MU7Hq!3b77>2yjtuF,X#uQa.F<Lc+6x0onBbFp02m*loJ4t]C}Z)E{L
1}eblD5i(sD7(qERQs&fy<KfgP]a^4^/~tO=~O`L$CsVmJVGHe:_c9fe1WuE!X#!RnJlzW?1{[En<TtqtGdr^xE>:5;OXdPOtg+fqAx>nq;#v3v)J_eJ1x2B.}Y;$6?7PIri2[Dw|U1,q,O1PE||t[
fz(%~s'uVJlm1H?kPY1ZM#3uhF>yurwlISGf6s;5NtOhov0,y2o.T01EgZnGd9mh&^V3UgaW,`M;g6|]>+bL&gPV2/UTiS7&ZAlY$Hsj88pEh/2i'Ba$N_`1Gw%<U~d`Fm!c24.IgI7Afp6v<$;[j<
RckgzV%#$H^qch^PD3ZE}C<y}HsOJ,A*F>[jpv9r>rl1$_JdZ?sHb<^^GLM&gR$Or5ho'6|a%v>_vk*e3Yq*95QD|NiqokGtQFODgQv$Bp>G|(W7m[:j8fjkRn)aMwdk?dx,Na=YPrzi{kTN/A4/Pb
J^3H?T8I)Lw'9/[;chF)<crqH9%%a;[?nk?z`oC*:vil^e}}k8/TkGzWPn&{W?Z,{3t#QLfhY9nZ4wJTktA&9lhCHJ`y1g&bsFhMZ,g|bq=dO.`{qI+u3vq&R_dc)FK/ym2}b.I$0qJ'2*PMV$P2>x
,_!&H&VE$#isvTpdu+]#]LF;{mq%GT:1jqzf_}Xd50hI'/_Q82$LOAY]$w3]9o6j[PvX!RqYMc3C0:7IFOhiG$`?,uRcR]ee,S.F:#crpOJ,CY$pLmS.S(8ow+6&C9wk]tNhXa<M>]cMY+z=?t~Fpa
24FPB4:KMnp0FjVt;|E9+W7kD~!tlm)#VYntO=Y(lgy?BT[]PnHR=47+VI2MpzZ`2[&Q5<<diT<7C21HPtGgzu_N5awbC:c>S?j_5f!}T&'4j]ap7vu:N14fW]srJ4f'GGus{&i'digC.#jouO*CaR
_5K94:ZY[LH5)T9=An]:%RgBipI1lI40p)5{e`x4SLb3k:I%Hs4b`Ui^(urkr+*6t,G[;&Ot>t_9HRQeK){(9M!PQM)gG'MO45y?{jH#eEBQJ,`K%P*%d?^7:{)&Eg[5Qg8I7|CTh^G+$W^ag8B6mK
VV%e<Z}F&}6wqv*_puy=7*>;2b'K^$okWW9[n*qom#b?E]jRJ(K[|e=&MX$cBiE?M}VgNqZ^qZ4n,S}:zez3)Zr1?EOILh'tovd1S4koQ^'oneh[T3w;Wk1SF<3P~08<wZmI1>2g)<5fS;/R^d}^_K
R_o35|VLM+z0b8ke>n%hFZ}EF`O>iP'{D*y7i%m`}be`C,)4Y<Hbj.QA,)Cyt1nfEc5jF,Q%MKU!s*JFNXz'&H8&Z<<7jO2Jb;OF56J4Xa~W(eR,mV{n3RP19NPj~]8h:S:}j7fVQ:C<Y5Ktk~6?E/
7H%VIt&P5jJ`P%AKewoT#=F!%%M3N:=,qyaq]KS!Wf7fHIdZGp*5s4+U~W'H($6h<R=zLE8yl0kE+Fo&A9J&c<eaA60!mVGKS.P>#PA2f1E!Stf;:6EO>sSRo`+m~YQNMl>$Lohd.Ne]Z*ZFaYAu6A
}aCdzn:M~=.st{>a}Sl5EBA/`]3zn}[KgE12E*!u7sG.&,fduCQEMk%{gu!dc{~POh?h5vOXid.9P(i]qL=~GknIkRq{)an_%(,:;>HWhJw|,+MQgt~hcK*8q{od;Vz=nv)rtG,'%V'8U;`kl)yME=
,^=[!$Lrr2l]42?3ciy|PU%sU!Qr&=as&}DUDg?d*B`eE>5T0bh;j)|,;{)]INCcJmG#]vA)R_:Wm1lAWAHF65+mxr6CpKq{TC=_r$umVg[/$h*G1C5K.xTl0h0pj$G|/S?Ym%JK.PkPfJ#]Os:0_g
S:g1ORhJ1ah~7QK/q,o<O9`8OuFF,bjDvKHMX^mNC071Wf.KiB#Yu43Sob&R!+xe8'(gw,Zjl5MpYxIdP(:#*^5eIAg*DD*[2{&28ieay`j/QXLc<inZvv.T?[f]3IT)U_(!Og^w^*7Z#H>h9>=VF.
m'}}7%:6*Aa]=3^*fs$A&_2~Dds/a~ktZcv+#twu~O{rRHi^;i=B9IMB_h3e'CA#h;$__D&S[,StEbfoobH$2qX2GvTNO,<=XR,Xp!+'!N|[3K{Tba2V3OD(ffB>8|F4D(}V.t=f|;ejj%)r{H(sa^
kiC&~sBPZ&a8gqQ_XOIaNG>=[w(o^~iyNT[)lhtGa)`(TV5(z}*E]&IXpJ+Jj/zO5U0T*LJ)KPE7b)|o$i6PWY_n~HF_O?tM^0B!'lBB(/#<RoC1J/eH)gNx?`4C;3_+rUB1U2s%rIc:lyMSg^e&k}
mkuyC'6cNiel*>TR)D_g9C6omV_1^?!jL?4+P[fPn#y*'Cn=#GE*ckRqI8:#4mo_/.H#wv%.&L?eV8HD`;5L4K:N)+McQU*7}Q.M*Wcr4Z>l%_ORp5}|'Vhjte'YHyVw/GO>2h86hHhhN&z;{vv^_$
GR._3.]+Ej4%(yX%ZD'fKdNy8+VBY,?~ygN$7L:#Pj&%F_V98g}1{e()7jXTe+cG6?#'T/~is,]_P:HF+RH4zP0]1YGs[)Nh4108{)s2h5'cf>GF)/bvxv<<<Zry]>s<p8`QjkoVd$2I/$[~n>?soS
2v{|9C_;t<VKKYWNn0K}vk~a.9[>TZdFhvTPfT,jM?.,p3^)6`;TB<RwHQ=C:SF^6|&IlA?1.i(K.+&LYT*Yb.AlwLQ!8NTymvz>eGu;jVR?)d/_IX:lGk.lQCSgaR8f+m:wPH>/doai!pPi#&2.oR
;m+pBKtfU{;a7TL$D;wGN#[g;vG2&sxd4N:x2h';L3{o05rS}B*,o(q'T;>SM>I:lLB86acc]'xX.50tMi}#=z~w8X7Q9)x[t)vPOWCU}6.yvG1MXq#r(dD)EsQ(C5)*k[Bt0E#|3ruTD;mo7TM,S>
25037uvl*0WJE;('`Avz|SNKW[r$7)K0XjOj(BkPS)%7eEx~|cA[%7]Lp85c8~r~ddNGDvBC{h.n&3&ilQ'f]C5MA[gfi.p[vxACSGk{A9T`e3>J'W;e(X#WM0%T5uGqa9L9YYYV1Qt&i*)%'N0Glz
9i]u6R?^VNJp}llG7wA.phbBv/.9Rp3<5l34h;0&hXy6GI52540^[#&ihp}zXkfGEm$ZbvG46lJ6NIHiU9G^%FejJqG9U.;AZ_n!OCVZEbsPW)A1[B6';jD|MjT*<'_hRdVYXxp_Xg9|!9H?+r;O94
qaZ:f9[{:scX4E(.hd?/+/f6yEq5p`DP+xk%*FR3qvMi|Z!0{D4jUDm?o~w!9+=P::jG*T'1tJfs3l{nEHnSG<PrBn~H9SOLIYJZ#23nQ?6*2[|b^I7Z2^i[xct~%U)m`!*8$eN<U{FXXkqpb$'peq
AwmxE<^1g6Gr}DtLMKgD5S3<P:KzQWPjHs0Or+Y05|%iEV4(b;4<oy~6%.=en}S&wBtbOo1M!ts]O$*C{YwQuearV$s$77MW851J[mUeL0SX>7!v.g*K<,I_?:+y3}%]wEjw<mlCQU=#I#Ca&J=gn?
OU8$y+doeX'`a{xzXXO:.N}mvI_:odcPI#GPcR#_[}z~!!byW*at},_S/5I+4h!^|(Sw24Bc7F1WjK9pHttCl'`{X8K:dhGu1qD74M42~3>McK5d[(Bs;~(S51:J3R4o4:MCPsnoK3FmAf#ZUI[f<j
f{{IV%CL=%=Hhoi(>CFUP4tRl/P;8En=99H%.t[[}Y~xHjHnWv3ITOkm?vt4v)rj~LFE/Q5Uv=d](hR:wa}f'zU;#Gy]z!:{~9:.50QEn.Iz9lBQ]lt$D)9Vp')*oX~[w|{?`miL!!DWGB})r%JhZ'
Luv:CjaGS_py61U>w=0I7kw)jO,6Z!jN`=,}3HSC>}<h[3|EQ)=0eS)|):VtvG$ZDHEp%r)eg)=*U`cBn9o$?63Ct(b|'i0C}#O]W6%gfGfX~'2cxi(gG},Gxd&/q_6=|fiZtDPA&,IF6po3GNYI4u
R38TGO3SDD]%.H}2&.N$#5Jfj^,IY^%.]dl{0R$ETY1{)v:x0,*945+Cxh.iQ9:r}~F.gq#QA&Y!NTDoC$4tV&zYu8Ql`(Jb7FNm5A|+&GcUL4KPmo)wQKNDIIT^/(z7P0N5J/gSVQq=I:LL|ComHp
q0^KSYCbMa&JGO8j]ZB8r<V8HUCSZyMZ/Cj#R'Nykj$gAxS,!E;Ne20]>[oQGF'O|%V}|[d:#*vzpbqa'}5&v5R*_ey$RxY%_rfeoq+l+V$691smT:.E.xns'dtVfyLCdJeJ|iNO;s,_*WYw$*Ib1T
>jc%>Y#FOC?AH%2&JE.8ovLj_BaaO/82BL.'pxPm0/4}i5YS/M{G9v[3R[x.>pD'yT0*Tq,6NPD0)VmE!<V8,LD&6)o#mUzfx.=_c<9p6iu`LsEVLW`v=(;3**.owXmD'IU^F&CRD!9ixRe[G4!HJD
8oAmUQQUNqJ).G/*cDdDhm8Qw.=O[q;h0Bf79JWjHVYV=3`=gLSzs{krjr2Iq?judY6!MK>/%atxGDALG12j|I_!IyP1Zqdu7zQV^x1Mx8y%deXA~C{r(6+>>d|mQv#i8j3Gfd<k;?}U&#3?.dk0[o
J$i6e$^(%{Ry?N2+q,E&'!a6WWJ]H}Ku[HPHiP<([3_DSA2Xx(BUN_Vau8OT+.nU,/wrk]W]nTf9)vuKSD3<$!KN/#_}x9M}y*cl9Ci=$>EAg.Z!7.>$g^Up!>+Q=qtrc^L,KI,'hH0*d%b~C|zSWT
SaV%pvHvaO_IJ``3Dy=sv8g<<!CEK`w*WMyN,~l4)Z`mLXL}C]Pn5{$OI3&WT;#EXxw'sb<:nNTmhlO/xQw3m^GHz!q109~bB<GQNVKc,S>#r'{~e,^I2K4e{]EEK)<8iuI]C$I1Bohw32EbDA+nR.
LsV~HP9dzd++~X~S**Z;WFsIf/2:3HrS[K4{}Yn|'{d}s<N4hp`2Fmjf5+c5Qzyaelkao0Q}{[5r{!MW6<;sApTwc,:mgK`&M{]?pWL~[b~s;ik_>Q'/HvJ(Le%P4Bw?p}Au|&>L&BjxVpMb4,[ZcS
`D!,w*Wz#$=357XV(l+rVyTfqD;1*'s=1ZlMJ(?n%P!F#{_zzJyYvO[ga(r|#L']Ny.>37Do+xw}*uo6*#Yx}+mOFvBMYx#n+ls.y$$|KF=y2<oF=rz.o*M%VZIXWkV5_Kq)~tD{cd+r'QR!D}P14r
k6QBe9f4AACg3mQ1?VGRHjze0{dPfODe;g/^kz>n:u2`|$[lKA:l#q$]Lj<,#fbpM`4/sZ0Q>qC45>D'cS_Soc,^FnT?+vzQx34Z3TSSQ#ZlJze!%mL<NJ;YR~Ef9uwC.Io2tvs[Alhqaflw1yE,W9
Ihb8Lb;g3,<;~<rc|C9JTG[fyg>[VUGE0!gf)M6~P~>!dVUEb)9p75nmDM[g[454CBf1WCHE0=untA,%vb[*q)VVY8F92HLnK7t%vEh]ffOcZ1JZ;%_2*JZ/[a1|vf1#`kb.B8on&j)R{Yv]7Ijwyd
c81}E1+yghJ]=!j%QqHzNv+)+O$+l>1pjPEG~(^|M~9B:$/bQP}:%P<Gy`?Eb*(2RtWom%>9GtU';%B2$f5m88[(CfY:X=7Mv:)[P=QrHK)>$aT]qY.>7Ne/B]vQC|E|%Vx}(G*pI<|o!WcHp%]qsg
qlCY;SiO}^*oYLJwg!kbpLAWgXOmqw.&RY=vg69S,!~Bwo&em;:rPDDxz!XyX_xu`JZkdK:'EJ6Hr~G&k#~;{0%}gG0nTei=pg&,VKWoW}^v>~LFvNFvO(4Y>:4Uo'ubLQI(~_CnbwX/wt/ZA5ZH34
%URIeF0LI>t0egKX7k1Z%7/2^OLk4JtQ(:m0U~b_sln2~h6j+0{yV,`8U}qiiYi|%XprQCSE?$zqUD2bvsYRiIKwZ^}>[5/<G0QJ2a#srp$xD+2i8yo4*50Ro,cg&Utqx+}Vn92]$0`uO;5}eHGarQ
JccXu6#<s(PHgl+}q+VOx>[TwuPG'pwvx|V,ub^>^V!g{=R*(fG5=W]YZj^2_]^bSWZ){*V[p$v:lM^CgzF3L{1(3j4i'd~K_;J>6aPcN8X%=<s~A2KJy.XpJuCua0|e8;4dH5Sx4Fh]g1CE'K%N=,
ErpAE&?,_Ef1FSt_]:aOwG!qxGli?5Hu|Ud6?V6}w!pFpiOrk;Dkaum%A2Rs:eTqEd0h>{9ieBaPzVTrBVo*{sM9Z/OdVHKql[4hVRNTc9`LF,6?NUcbpnc28:/9$t`dWt:SE||LUf.C8.2,Ci22h#
b2~Arx^`HO>J+mVT)2kB/nJ%SG8#M]*[5EA[s1>l7_e[m$ie[;XqM|`+)wt0L>Lz8]zFZG94Av0UA&u43y%OdZ0wOKA+SE*$W.sW!e%atXo{~&<='Hd3$OmJ/iOY_o=CmWcl*ldwlgT<M{})hXvWJ8
!^I#IL^I5AmO/#SW0F%+PMCQ5UJ]/m81LFuy397&O7Zvnh)`)_`]SR]GQK`Y),=h{_BXWn^[CMQWd/kW>''[x$'zEAsFC8A,aG}/!u$fJhf[Dll||/r3mjON3YknCmzO*:Sr9xS=_g9{]5YQ%$o?[6
|$]|tzK}6oUd{$u}k;qp0v,w^vX;VUgnSSNBX]d|<p#or^Q<iAYT7Z_B2U}Jd*QlnI)!p`tQiS$ETAa~TLv5U0lO{!rL,Sg7gJXmn;Hjq2jzc.CTaf9sDF8G.ChC>2Qjt#~Y_.69^8#?']za76UF7t
u|2>$qBw8i{P?*JgC[oo}$,yE&gP%0'Qb#|wBR%,ay'.Jo'pP#P0tW2a{q|PAU!*{mGJ:'&:,0{Z0e^o}Xp4LWW}Bpz8L'sp?f=P#^.fFsquF~R&E}m1>Amyrr_:{<K2m>iNH<G/vJ_lD})QJ,7=tq
EIhnX%dpB($NX,54JC,UCkuHYuI5X;C[`)Q52_;#qHD[GtNom0Lssc8&=*!3O+NO5o<%UAG`u(H#+*T(A|$h>}dLLnDcZNj&//i/[oYsOCO:y%O5dZFHp&M2)(U0f%b`KdfrL+'d,MQ[KvM+kfAcks
DKQ;w/o|eUby:p!8%0.|'}wP]:iWmu52`3~}Ht|ymX_i`2[dhIJm8|H74Ve3naI>yQ:Y:t|11q*ljkdHVyfw!FuO**,W[4!b45U.'VOdVEMY?i9m~<5N)#rzl3gDW|X/m?1lWh~,O'a0BdG3a4'xxf
930.k2vzdZ/=Z69F`>0X%7C_#&sU}xjH;h#ovfdR.:ky5tx7zYv$TOF9b$)V>WZ%N4;6%')j]5[ff()LCsB7eV0bHVix4gW(Zr$]5v>v2A[L?lU36)yrPG>;M2}bWS(c5Y=xA;7,pfqLfEn~wK{Q.V
,=dB5`}ybo>Ox:^Jn'kWFL<(|xc|_p]v=x4Wyv`iYEj?ll3s%acsiNKCF78}|?^`Blu0U>S^T+FMuVoOmFC8HkIlMFBD}CrHlocy0)0G_<C:YH;vJ0bTSF?0vC6ZK2Sn}tI%Ibwa)DFfWlJBAzPhoL
YkQishbRi7I4UcNmZQnzADP#!rw]!:WZN2'G`p(uti{I,RXe.|;tj6y<,u(=ViceM=<'h'ak0gQbg,2q{vkn|gViPTweU#L|E(7BlgXM_Dn]Jgs[b|OwuFMddgaZDF!gUWZTWqAKwFfJFJG[4qc?T'
wp6TZzwOK$yaze9&XjYTtVy9I)Oo>Op]RpHS(oXj:Ox&Ntci|zzcM1,tNYRx<ltb[J6W?d#ef}V18trgH<4h0brYA>ly<5Rx:#!Tj},>^xC(FK|LEP['EeM_Rn/~pb8ulfhxM`pVK^XVt~T8?yk(l?
q[KRfeNHx+)wx.o^2m+n/*ukCdDqX6*d;FkOfN~{uxing?X(_|6Wco;!cc/*?.H<<395oTM(E]rV0+*U#Ty36++GlCsvS$aW6[6jQjR)elr#I*+,Ya*_{B0,hQ]4L)od%GMSv_bOIh2}q/__DX!W5?
$1Qs+;^]?TZwqjv8R8lU+a~slmYWN4^)42.F25F}pascpDsK<64M$t1TIJ_x7Y`c,gkT`qEEN,T|+&wm*!wO~M'`}(,iKZljP>vd(x_.{_c**%Jd=!Wg_a_A1/[z<XTsgv.~Z0S{*wTP`^*uHlP(1#
ON[bXuD#]!1[&)I2|b;y~c1A==kw]tdd=S2[~hy1%kX|]YwsX&NrcZE}3ijf?/]'#L+ILX7^r:>W,|:1gD0|CrczeMI~jzoIhxT8[R`it$p8RX+OH80FHhWXo]17A1tP<Rj#;`rBpjkm;_wGfNe}2/
|ItZ%9(i6VRD}`.)PL[{TZHybf~~7Mr0<TgL+9:_NY}1_Jr;FDonF|1&M2yHVK*znqU.$^gXZ.?D6E3NJU!{r'U+Z?Z{V3gkwUp%NL$BR2~N/&=Q1aEWVrf|k[x:?')[pA%_;zo^NB4D^5J0J9)ln<
t!].%z:4/'S+unXtm;KL&:N&hL,k2EI;E&=Cq.43eD^Mv||O'mCI5oR:7zlXbf222Sc//et#H,DV;>ZF4o9u!J*VaFAq(f=$&lXe%eA{gGlm$Y4k7rlC$=ahOro<4FNA6LKWV(.<6<k9#ToC(giPmz
O7%pmdpLX;0J6&H:[Jn=u{r~SFp,Kk#%[Ckf6PQ&{v[Uq)OP)):b;;w/N+YD`D9N5%e|:jV8WdMK%/>+0?:CWjwI{JKtb8H^Kt/Lj27Gc#!3<OS~UJ)r>&w1gNCis5z?;{ot*e!2./VmM[f1dh}'Tm
Jj.uADa6nEQHL.C5y4N{~fBV/hB6d<%YP3dFW<+V9`ChT,cTJAc!Zl+*t)LU7(A?c(_SZwK(Si3PxG:?8Ks$pI0^<3AW#f8]!T`kg3qb~?e~Q)R$?!F3P`k)k>^Apq7SlS=YZ~uSkpJaKJ`'{S'v#;
}6SRf>Me}YmJpy+H`$k[swf}{C3KPOq,cnxW9<KZV`PN*elTJh#{guy=+]A6G~&p!L+O}1;x3E<igU%U7Z~vb(qOMDA%8e}k&cZd_xJh|0_VCD{p(FDGU2,b|!;MjjntnhTHx#&![D=oI,lui`_f2K
s)yidwxx*w9y9:gm/]b?67<.xj$=2jFmDjq9p+n6Gu(.1G8syPZR6acWnB&_4<6GDh|q`|9>Y$H^xoTzMPj9iK|%9rPV]+:9*]2Jf$5%sgx:od^d7[5!SM]yOD+T~04lZ%bk1!GQ>.N{4MGF5=M,6a
T1srHUT?z,x^e/n,F'r#;2m)e4O1kx}]^SHzB}P_$[vQ`4Mg'&Ts^u3&?NaAV(s6Zk^2Vv4{ky^^DMy5%CE^oR;=8#,d<if0a08C[^^'%m[U#+W5YebO5F2M4y%km>Ny0rvIgDc){$Wx=[QR!!mRI*
0QkM8D`q+}cQ.a/ePgcv,{oGL%M'I4&'y+mjKRi;{7#yq#DHa#6p+(;a8?ZfD1g|$t&dkS{vF>V2Db2v;zjmz_{(&3Pb&8^0N`MGB3'Rp14vpMdnL{V*S7RY(4{k2l5_v[)gHbx^vUFZ6lCu3$Js{b
hiVvIkXnyH+&T_#fkWYx1n{Hz}g1d=gIGw7GT3,X)YrkG|BAP#Ha;Cj.dD2cU?,w]0O'5?b#%:l/Kl}x5DPNIS5,x(&i7svz=2m[wf`s:?JA|<bJ>+MD}Tly]L'6I0Av$H?/KIN+O1qW)XvoSF6?L:
.+ffJP'iz,u/l87:P,ROBpA&pLz[hJ&Iu;{j^1`E6<3zvi:nCU1^Ur4{gAvl.lyvYC9Ri;7[B6vWC6RXRJvI3qboQV9'aq*n4>zS+J1AA$aB/&l~U'b8KEy)9:O3#T+Wi?e'D,27UO;mmkD&PoM8`a
f1jSA!N'59R`v*y5}s~8OFoU&Lqwq!b?`]%p8MB|y33dt}BoKe~UNdz442n{BOQQ|+0e*v>QM}W0y_:gX&]c(u>TU^J^>;{*L200G,&J;~zP4VINNP'!#&OFU')abMsKv'e(i$zc1oA9i>pE(y`c1s
?m_%'Km3ph/k;*,/Vx/C4zS{[VeXbE85DYYJ_a>mb,vu5w];O>TE67!,FEdwe|Vt}HbrJDT#~Sz}fe}a_<9n1%XZQVoEq8,m(Yg4DlE8E.TPwd_}z0S'7rIQp3o6>e8O6TsLU*kBXkuL6_2xeFaj|J
|q;8RCPgktJJ'}2tYZB9%2s+WLAa.Y[QjVIHsSC/9*hOxgpYWI76{SbuP7KLx.>3rF+i,>}3rwE3O!E~B2i3=G/T.?jy{8;qJntlny4AT3?h]}t`R+|*i'#^h297d4dXb;keB`+J,0xA2^~E.([,(Z
8SGq|`l){,S=A(SF1.nNq1.[.)3;[!yK{5yQLmb0xy*6UA`{aT<9#xvZ~)aGb!M=4Y|x%AE1Etu4UaZu+AtHd&>KN;1KzByWbV._be':EJrE'JC3oCfcZ2g|a;YJ/*.Y<?mG(?80KXsS8ptpAR1z(s
+rzJE`n7=N+7Fvp~]CQPlj#A,ej|F{0ouE68tYR}ogqMuAQb#d%d=G#e#$OVEM:IC%7.lHlpY|yT5Nr!1B4Qa+#B|l'uh9S=$JDO_trlz~''4ekHm>^md9&`,%Q2`yVJs4X1j:vjeC+#hwii>HPE<x
a#CE._5%RoT!kN7|yumL=okI$vE{u>=S){b6}'(CA][Imp$7+?Cs:YPjvyMz=3NVb`a,qXZiGI`cqSzY]ghD=vEK]aS*=0!<4e!2!_Tld%D~DaK00u]QkrE:pl'P&6QS3H[Z+&Xqv=N3ThXN8TlNAN
2fmo5zYYGyPh#op{w:g)V0%wWMe1iB4XiQP6APUp%YS:X+h|1'r}E~4,q`Da^LP?oH4'!#SK;(ld:fS+sB!ej$;jLL.gjp:TXy3p1tF[8[m<{0V7A+d~_,wI5G5J.Lz9uGM/F^;6[|uzG,i|gcV>YI
n&?Np]L!W*9^.mj'53BhWCz=_fmomD^D#v)Yx`lzPB5dz7c8gnnd=BD5xS7R/x+AWrRD`E{I~#Hyo9,ttyl#(qrxNpuTFiCa)CO73bx^W.qr7*78oT&(g7,.Pq4e#KiOOKb<6Qk|U8R%V*B+3ql/Aj
gEFQe}Yl}+.<$deF|5bT[>4fPE'l]&s)wb0)V5+i2An%g^L!Q>$7&<(jPRQynI[7ffdCAgs]Rrkn>M.p.urqfP({{.*Nmkn<WzlsYmRuP2rvq;'a08la;PaEM,n._L[t+GyzRyV,PO)wB_b4%kmpeW
`68G4nu+P]De]#d2:_Vd/.Z[=4=*i`<zCuUh}CNGs*)$tQ^_:d{wekvXPb~81cadLq3H$3AEOn42fm_<hCN4Oiz60/[7)YD8n}uk!c2ACcWu4n:FM^)Lp^<BF30~GVa2g2`Q>]%,CcSYl&||#lSCtN
&fv[a[#1+/X2wwFLtHzjpis?0fh,R%2#h*'fP9YzjSMH/V6m!>[9=PJ7_rC`F9HFm=.505L9xKtaHCUicvRnU$NpzhfgvhMDKX_88UfwyfPW:H*Rz!:QpB,Crj1*A#7j(KkOi%B`Rfy;t3xg5RAuiQ
%Q+jS=:fi9|60leJjVCs/TZkvd5)|2Ly{tG>Uvm5EN#/xOsRV8ph!)Oz!KPa^j((=INp?SIHuSI,V|&fCm6}7|IwiX^>6,X7}$*Aa+^WH[jrb4FhnU|}dj2RhflKh&L|+Nk{kJeJK6H#hM2qG(?0,!
33q0{~}gvop`'uM,&udbZ,tDHs,IWUcy2Ei4,c%IF<R!!2zoa|Zb3eTjCl]FqIeFyv/W>KR+Iu8[7Aef5rCkZuB0<U^_ns?;E8qS%h5Ux>QMH%8xB5+vgE,2WKHFh{{zdTR::YV>iN^F8ft.UbMNHu
;<$CI6_?;x$l{#$B^qMw%/I[s}lvPJ!((v,*$hlAcyzRkWZBChQ;G^F&&bhPsEP6ueVUooT=97^iwkU]xKpgRr,|4d!V=yf!djT|k/w1u~xqS,s(~p75'ZUcpT8*oiP>1m'N}wV*|TLr;o5flXAfkr
*{?6ALo_{A.^Lfqq?YUY[e}br}Xz!1*oY(ONJj{)Yxr4vw8]9}Mho/w1z0I>Ho;($t;t6#lSqw.iYy=/:V4JcGr2,r,T)]o<}=Ht+Cs9qB~[='y>{:)4:kON4!2,uvFV7NBJg2:QNnV,h|[F2gCW^0
8x=^UB;~C$<5bfI4}|xK[E|FS`7a.6I:%kcR7YH,wQoC_rOjb8Y[rf&h~%BX_<fS[iho%&>zG=9hE*KM}}nrr|v'}x`4T7+|!y_`E*6L~A^TRB2fDc!>,Jnl^bhrF|SvIulV(?}oa*#MPB6Ep5VBF=
13YfpPS[3]NLB:7VD0|~a.4L0>y+`UdfI5u6vr.CGQzx'&K#za4I,y}5e_f{nSPD8Wr5bSAl;37IfuN#]]W3/#!>o=.#%3[r/SQ7C/xv6}./}9;>,Y)kLuVi>k?/:0+$MmC%:d`ST{gp7(i!Qap%b7
)Ev>~|I#zPcS?:)^T?)C0^QJg`{`>FO3YF2jop$j__{W_;KuN}ZhNjb./z!pxd$}jQ(3jR.1NTEK>X50:.E:$~>Jw]W3`{'|J&7r`1u'9U%~!}LtBDENBDge|eUKVJwe;)tL#;A];fNT)}2}//T]HB
'X;v|xAg83/.L<Y5[z5Ma:y_IANx_>[ruxo8p14?8aHosO4ml`VYF,dnkuw(1YhAB1N`AlAP_G&H_~*4Chmo#x._m(7w^uLLF<oH]YghAW5)m'ah.6)`5;R}Aq=U73o~g(SP.K}Widq2lsHFrc*R'M
Nxk'P=b6bhv*'e:Pc!tRFQHMX}=K#qA/<A.:FJT7I[M3qzs,g}nBT=?cnF^%5n=BylelIeFM*V]j4t(QNZ'pq>42hFIWm[ls;5kZ~S0qX2936StHP]+Pfq4oQ#Q,D=DDoFA.MF)<NHEUp%ny_|nF&C
k[sMc*&mwxTq)./D|l(n'M)7_Q!&TR'Fc`VdZ5dZ{Nca7CY#DqmRJ|ZHI>0ncIr[7H=pMrz&j>QCJw*xxv$FbocX.QqRT^?FgTw.W/5<;1:`'8aH8uXKZO|*f7)LM[w?`4]fPL$8+,:FrNWAFSAXx!
KDHSo/W]%)17jAc[Ph98+DDZ|dSJMNxPmc?=9xt8')iY4F&rB,Qh%`YQ{):*M)bWI<r^Sh%/M[{u^!4Vd}JNE<YQK)h1Tw`]pegBJA[ymR9v;H!uqsMlf$42YZ,XLC|Wa+;c!>N>$'0Em!9&uil]87
nTS_k]f*e!Um'}g~j(;Z,>%6H]$IA>KgmZqRwtL4C['eFWd(jx4qp[e}Hw]se1}|^SK0yLs_=I_D&=<|[8|ShSdvF~Ys`u>qYJC#{0)R#_`F*u.^^?*S#l!>K*K~{>1i$G387<r_jY|>3sh(ej,+K:
+.E;+PDlY'Pi(}I3{t3].R9%K,AtI$^Tlln#Ph%HuB_Gj:D0|JGU*N6wOQNYA_;er>zuHk|1oI0V?9Okq~{jrv^9ZG'QQHnbjHA#[Fm5sBM_L_}TfdMLej2AQG*c1S_dSfLZ1'/.Wdv9ssCap74t0!
F'maV=5qyBO6ZPq]0Z?Dsk!&5BZP6c!Fnuh|:{63k!M]s~7Hp~N39g8cDacaJ/R:GYDXtyu9.g):}nmDam#k`%/WkFzpO2{#Y+4Vur.{I(ZS{C,/26Z$;Bth5etEeTx$xTr=HZMI_e)4YiqI9tX%R1
h1%=Y~uer'rZ(Qrm|jS#B9=wj+7<C]|1j}b[tZ4_Dcu~xla8eJ?F?BPE%7t^`B:tQIWh=}~#UKnNI9]F~zG9jKzXY)v?u(|mC_0!FR8VM6ksAzL{.4k/7xPut/s!oQ;$!M);C<JwvZFv?_:('}%A6;
<];o`/,Sv)j'Ng4!A,N6XYkfXPL*=dVhxF|MZ6'D~!<K2t&SLIfroE|poMO(=3vN$4fzRh`GE+]kV*Wh/vb#'z_fP<bp3Q7li&u7?qD!iXXhfnH&U%hJ,y,rt>&VUQ8I0n8<H!yOg0kw;$]po!Gw+0
kF$z+/<3|IZ|Ab!ewgG!7^lOqV,7qL[!|SIkLVmzr:C2H2XUvyrrK=&nyc|PCApHzjR9*hr5JkJ:7Qr>1D[6fMDu1Ecr(|gEpvj$_bMjdy>WLDzy#WAbd'b~W>'9Bq'OJbkO^vCJW~x;W/^!xuw{kG
8<?enUQ2;;fDjsBOe_ma`&fW[W]nv:lAzgDP,m|1I^V8G(m;^{K+P,Lo3<9~wnFZD%;E%Mbp>EIfJvV2BAD0u8P3mD~y}/~2f^zd!xdoN+U}5waF5Sypm7y~Y4zK(`+0TLGCCUuD}^G7?$5Ma?$>!y
uDl8%E+/~UXSGXDr}hWb84`,|vn&<NAJDkm$MG}!F$rPmpX4od$:}.GKGtdxe`iV+M86;}v_Er`uJwvX|c8+7]'OGefmlyA+A4;].$yTiUsnK|zL4Cx*kY_#bq'&`gSF'cdl*7o?<`K|n]s`ZmqJD9
U],l2$'>z8vD]Yr.[dUO|.,bXk,U^Cs9/cS:7<8z:.CC9[FMA`NU<3m&?b,VNaLi91|U_DL;$JH4O,u943Y}V:=I<bLo9jrq+VAJyR`/#4+2n{qNV+}O`cB3:~%Ri/Pk?M[HuKsC1nRIUg[=Wt7Fqw
~K}wMvbZmjDxZz|S~r>8!6R/+;+YFp,X)'C`ONxB=({9hS;8L11jq'T<WwJ2$~s'A1C[)&1R]zvaInqz;d>jl*(}.RYTDR:4QuL=&#XU1xzuNhFO%$Vq?xZEN2:[5zhh%Z}%Z;oor7)y31fS2VrdzT
TU7_wk>vyX>{ml}BX=[3zOf$TB~Jm4Y$]Wsc~pl=`P}+jei~um1:C5cWUJz3/u9A1l|b/]*t|~_BD'CG!yQ/x{5ujxeF8y;xKklq4`}7/%5XtAJ$.(9:3tG9z[Tvfxo[.K:%E.gt$T%g:gD/i?Nx;_
p55U]jASkmVTfR1P?[gH/glW!S,9618(ttN)UCam!OJq&7GFtEaM2q1C&bQjJJ03x|,[UG~O>_,Tq'X(:oQD_bYYLJ7Rm?ukZGMcZgUjDN2C*b/#J?(9Qhy=?yM.t>D$0+jmy[L(83VSUjEWiy]A?P
,ChYSrNCSN4BpSp}_LGHhh4(3C&6F1OGyfP2iFs8zo,Gd0>=]Iu`l)oSAIhFb8{]V!w^J<U.FULWyvLp%QLsz4_5*hJydmB6PY:Ak|o_IPswWoyXn$K$qsg.N$'nHG<;7(aulNLIVSIP7xcq;4oIr:
I*[=W7~Vs>A2G.J)uN>#mvQ&wd3EA^*7ZLxZsk,kHpUMZV16M.p|7Q*V+~C2;%k{h);:jn!UOyct]FZO8gD3Hkq(|gytnjbXeKQdU5deeR8=DjU66f(0!$s7j:+3_FTeh}`L'w[.2T~3]?hpCLEWR%
(nLZD~C2H*Q'+Y/ue`2!$#BzXIgxh/|vKNO#((Z;oNoaPcKOrssn6oel6/e%23~KGHVd]I0u{)Y00LC3NNX)10y&.d^kZcF=.;j[:N:#d_vEUi<w03pY:OqU+J|D.fp9hw(hXDqM<o.=9||7Im/tf5
0VZ9cUYazy{l]hjBO1H|WZFrb)hBFiWuxcxX;0=2`4}Sv}}uW,,^Xi~U(cdy9g=mC&?r96obw*1e9|98+?,2fjGOH~3$ZHKY%w>Nux*IMdmCkuZ>~Z,6&D(I%S(,;!q$XyQd&9%udeMp>g:8>2)z}'
wK4TfmO.#yqY{<A+rmkc!+,5h0Ym<2N:YVtY4rp6cth,?f{.['_Mjs[P/1?+N_5Ali).o4v$_v7WZFGSH|/_q,A5^zfi)knC(_x'X)bGy'M4HS''O#pd#`0IGD01mLI!>:(&nkX60rW'Fw7>d#=9k<
O{|]}UZko7RyNIbKAm4kPe?5!=a{iMe(Kr[}<ca3.G5%3A;nzj#u~VbUdGi0dg?QoA[QTUH6UOdH1+V4k=Qd,14x,^ea#)Oq|rq)KwpzcYtA^dW:N8&/r1aE[;zNXi$){uIep+>{vTQnc;;l#zW:eG
7Sor~|)N2)&4]OXq,H4wNfMZi'b!P.*W}0?Pqa>x~~>N4Xj8B:Z,/oEM1O/9ZiYf|(]sgqP~E&Stx,Ly=1S+k+eAvMOrU>M|~/+P^.TYw>W=i'FLw7LxouXdRjL]:?]Y{P5tH[jQ;3(Y4j<,4Pbi2b
3R2HG9)jFf(P$|:Riq59lNjxBW_l(/Ws1X?)srAgtmBBb.yY(tUUl]2}B2VG47K(YFqndi9bVA6)6#IMjMyWQ]eC=`b!iIo77reawppd55(vT0uFT]o2~ZR^+)!)jZFzqqm|B^&?.fortY^KXo2qn[
1*qz0H#1DDYWg+B{vZxj?5GOOK]T7'9{h9Tj#%MVtcZJ%AIZ*{XlLgRPd^KWTn7j[(^7ptL+{MeONy<`wL(D0WR_6?<_a^)U|{ENF{U]w#uoluTlPw/lBEz:jLmF:R/'tSi#8c/Yl>Jk.Ih!uaU[cE
w{>#mDCQb|Y?%5?pWfzUg$eZuw,G+x3##7/k|`Z(1bZjkNg2_CB>3>E$aEl(.(Ji1:s1vg.mnX?j{oCMF2RcHd$Qm27<<%9d*{(P{o+neLx8y~3Q.:gj<:0:UK9#LaQt9Rfu,A(l9xe0q&s''LurE}
pI5e(O+zy8N>_al2Oy(%>l$LSS1,$^rPH`8+,#m.`~/Ip>Mh|!M,PXq,yuYtao*s3IChiHQ?H>`dLUnd{6ZUf|w&c=D;ET4KJOy_TM[yKAHTOS0&[jsB2i=BGGfj&^q`MpP*VMLxRVVrfd$GrAZ#XI
v&r]ym,Yw6[NY}7bX=AdK1by?~3AH*,_^Xo3NF2`lvKfX$&1KJVhagml=8{kp4H$P%,^(F+vYPz#o.;kW]:<B:xWxlGT5O{=FNr.6?ZOkww6({:*|.uLxkE4.*QtYs0]S[i.d/yR&^q$KF>l:woNZQ
<d(1QMdi=7bp.G3jcR$5.)!pC1nb$cK,kYX5`{JBA:pt(Y/iLkDA~+UlgtweBuv'ah*;Z3K*cf>tyt}rTxD!5iC0L2X4zr6lPdJ!{VJZfUutDSMRP&7JlP.>E.x),MI,fh^>4T%9X:uTn;9x~qZ0Ji
;`(TA[V>{rM#FP;~KUR#7cyq`4jORE4!9.>HUYXXEjFmBt:_ydVACLjcC'f0]A*{s7o?2x}]AM,}KtrqLPZ0755]_|cC4HjcAFg+rNUX_l(=rtL4l}Z2fK[B_]4B30vlplz<Q4zDwLw$v5[s/Hx!!5
xBP=IzSc)Fia'Tri,i%C*P.SNs+'bZ/IN/Je<G=c9,ZS.%{:]E2v`Zw)OmYr}9tS8lEawP7Q{7qofo$Cz;OJ)eO;YNXE>jlupiW_oAw76JpM616)(}kLW~hxU8k(#e0olw}I[;z=+EhpXvgaIqn,RP
zVxP%q{My{js1]U6JRT'4j/2vz^>(z#j047)TY)JivU4btPKZzXA(9<A]R2%xYC|V!b!1C=ZfC`mjb]QAy?V&pyzHM=?n(}J}QWOIP#T}n8ASO*p<(#gi?5n*8gqEr9aw>g(vQvP.n?F?PDGH!Zxn2
NZy||1|(Y9<y1Zh>Xnw%otBE%')'>.{(y(1Y}K$nX)r<n_1`/X>BwLGY3OMrF<UHKbqCe1pfkMO{,0L(9+,S`okuXVPzVcM&R$VP`?e]$ks$K,G4<|!a5+!tXpdw{uG}>4kdtDS^^!%+%d}7{N1a2]
I`A2bBBq6(JT2y'0N6>8DpUm_a;Jl+)qv}Z)|m59V}966GTxjN',dNNQrQIpvZC`mfGYg`%zV}=}0J<qTRl!b<OYSZ)(Jqz,9rs.V|!Nc;nZ''^B*biFOaF/xf.?$NJRRywPccxV(#E'y)<g(%Jt3E
m5ZED$V*(vMJf5F8Qz|>OOos2U8hZ*_^YD9'HB^_(>8_8oL)he.yc^T0T(Rt$ow2MK?FO92fO`*u8+Cdajyk/3Mjz/kzI^3$D$By!AY?{Rc&d~Zd'5>lx_XJ<?Io4Q$yoCpaP+oqeL/PT`U/9plK1R
2F!A:Br+&+?/b<8?vt4A]cXK:qa0+B/Qr[{FDXfm3YrD%u_Y;|Z'M+'x2)+`I_1Q|D.x~qO_IsyC7EPDhOONWUo}F?`TH;)C;EZOjaG/0_KE>r9a)p$Qao_0w2Q~o~[Gsyb5QQ}b!jb0#kJG5d<JXz
mq9_hQ!0G?Ko,_(sPK%fTNw5zM:UB,>p2yDZ*8=mqC|87`Krt,IHB90T<}/Sa}'GW9s30Y0`:Vh+zHv9}ml2p<wnbQZ7n##BQ+3jZh>z,#4(c(,|M)5'qfR+B:vE4z5u?>_RXU(C5x=Ni_wB9L1nKD
(!p,4#uuk}4_/CN'[?($'nyC!D8CGt5b8a14_^kv`QAg=48b75]:}6Tuu]B8~PIWP&tTcsj`C=0U4eAtwh/Yry4tqG:vgHM[<y?''}|HAddv}Lz*fqJGHk>wE~s>Yd_%^eo9+?6f!I>?#jA1I3PTT!
:`wWMBEwg(*[0xFyR5PhTt%~$)Bwk/&'aiMKRZ=PaDPw%qHQo;'y0mEJ}m5iBhjBu?BWzkBsed3)iQBWm^[7Th<74Zn0Li0!fT//O{*F}hbCy{/Hu^Xz>lw)>5ap.5^<&P55CVaJ.BV_2nW44+N.Iz
H|s3w#N:&0#Suyc/z_<Gmb>4{sHoaE4SuMt(v/KV/Zkv[6qJ97mFDDLzo?ma}P0?)S9%R.`UA]Lwm$a0qsJgjkxH{Oy0d?L(X3AE3{%~(j.NDMC%}:%:9,H,=)~9'IxiKG}g;8.Y1&AVcUc)vBqP/>
uBi2w{fD{Cb_Sg,8kZ+_F0_x'mtp.gJ9V(s>Z#Dy*5qHOoLCrO{^K()80VJh+W/3$^^BZq8I^d#R5BX$evR?$fUHFu6~3fV$t'm:T)k,4W(wm,t<PKOkCKxx98p8#yQmytx1a*0#aD^yCuVc'p;NIi
k#{;VFcxG;~I7[I;1n5w^Y+:g1mk[`IN/gV3+'FPy3>OFvzM9Qz!lrN2L98HIYg}s=sM;#}xUe+d'E$R._:J)~goFCRfh^us6l{4G&auVP1{P<K{v`gzQ4[aMDM18QnDT_Fl:a|B2Lu+V;F+0i((*F
U*2s]BAv^8.T_mspsmd4=C9VJbYr6q>8T2BB>24f_D*;rfVtL6Zl&HKunr^`e.P=KN5dRpSo4?1(SENwZoeKGhKFLD}c>|XfrFn#BdKn{mj(/HpDqe[Gk!9Yb}nYkVE!#zNfxJR1rx}P2;S`V?3$P(
l?]CFt|ev5tI~r$!tItS/uc9yNPgV>taX|=`ZGk_Ez}#Z~nV$dMD4A]9t0&x/F7O4x3l7d9QZ])uISo].(5s<A$I)W+y7=h}a:[83saU0,EYa|j10OtW.z?63]>_FK8ofG`bxKcg~c:hEL`W<kbuzF
Nsfkt(8/F.Ac*cA#kHqK_aX%4/U&H~x`_3[*H>}5)^ixgLm=w{t26.OH<d^{um2UCe'NX0]7Z.XEo]m9.<2bN+u.gAy,0+1wDHN.+V2FbuBZE_&+U#:l=zeJe:=KpHA}<8ykn7`cUf,H!9Taq|D#W^
EsdM=mP'iR2Mf+y4:D#D4tOFw_H<pHo*by#tu[|4l.lU%mPjT_j;T5q[:v`QUWx1^U$.MD_9Qv{YG[zK6v{$~2`.BqxAsf{1ll7Ex*|oHQW`Lqyif?}sb>E~~L0pO``;X/!2~I/,nP$U_M6SSL/?X.
Kz/Hd6x|;CaFJQ[b|fq9Gei/BQ<#9YWHzNsnqeq<cP9CbK?DMs^{J9#!?a8ps~t6G`~Ql*^V2d>Vq/>!o,1Jdnn0#T}+5]#b]<3|G_ed<=)[c+hLZC|(+%M}%T#.1r7r/znI)+am,f*2?be?4lU+#7
eaHRcnvmeZ%M2NOe]RTXp#mJWQoT4S&=3z+(d8pr>rYbz//(aD(OZ;$dXU?wgf'*M9a$=<JFGLW3<kR]Dd/*wrn:6qqbs+f*E!F873M;%x+%]k7}S3R>z2!#Z{4E}e`Jd0&Ifgi+9(:<`guYGsm^1{
5$P[^ArLS:0gBc*&f[d{D/w4v1^*6hN4#kTX7N=}91JDF37uWaY_{w~},)3{7U_~NclM<ou*=i)'h_*sg0TKSDk1|.hg=*<SJ4/F+!F8VVG7N9AGfYKa9N!f4+GV;7Q3WCw+iM:0C=X{Xc/'E5`7q7
<Ch7l*jV1px[*c~%M0?G7rLs7trRvAr1{[z7hh!!}&PR[=okz:N*DY3(RIv)L!Z!=I?!nw5jlPJ|i*Y/`og$ULMp4Fo;|Byj3l!x=bG8N%F{o{/Wq;z^|i+EW[WmM%^:s1#DUgaG~f~|(nYEuEfleK
X[PqZ+7$TQExhMKtLm(Qq.5>9sA~%kGtDK06>%0=q'8%hq)wUz4>rlO4e&bsZ~m/'I^i!#>&Fsy_01/E%!BDiLRpYiI<K*[NC#Kh*EvT3Pxr[oOhMMzCG+Yz386:NES)0?zOyp/6~aoM`hm):&~2UE
Yz5KeTYiebWG.tL[uMqe$ed7w:!q;gmgkYX~o7&ZLJYgcNoDTO8h;gkV?.[gZwrw1G%CX6KUPDA(,O7Puu|4A=sY|6r|SYW)8T78oe!<6)aPLZ21q}wVF>D;TxTV!KfVbU02n0DTU+bdPzT:$a7|b?
QeNTU01wte/}/<P`$areL1vE[Pcy6ro?<6vw']K+AyKVFhAQhNk;td(LB+{ulSn;ANf[IgrvA}U)Vj36uIty1'sDtm3A82'_%dr$:XiF8'+XjmcG#]SqJCX}e|jWtjWf.07(C$m3x/<fB7lU&M^zfQ
v7gGuDo6JvVYvF[q<zM){z^=oi?fuZkQ~GB}s3JVIab9TI#_omXG'q^0qHO.B}_=a88Wm0Edf[pJ:uH/Fe%:H#+xl`P5%M*Y)a9+Eoh4qlTDZNn&ZK;A95R(cOs$$wAcNpP0KK'8{5lK$W89^GK5;q
7.3L,iLNdyEmd/aSBK3B1&ANuX<qO)#ihr6I~lAU(5+mj:f9Kkr,7EBZs~qO7uEC}ar}W^4#1Q($2eX1;KkH8]lB'U77_U:r[]7dB2&K{9DdQT(mSD}~Z5Exy:VT,|(dIme=hcTgp_?sgUoyLNd'7I
HC9c|PcB,LrC&/*ejv%pqa4plhBFyqBL;/;W,=*+LM#gZ^e0[7/TGMw>s5b06Ei~M#SPute~$wbXJUT6^[K6F|L#fAjV&ImJyhEXkMsz+pbvDxx`ttJ3=&apNm4(XYX5EQE#qiRO`n`5u'~aQ]W1f$
|{GSPGC>oN^8^xEqk't?c1b*uSN[A,cDcpDQU]A3SJq=D#_<fqt+(^K{fpSh9m]Sum)H<{Jj?Mz2lYC/sibT43ykLw,4DMDq^hLm|x_zk/j*L.)/tgXjGp/QDe>$KU]y3Hgs9KS1,;b/G;mW}cDBBL
!Bmdy1gnXCQEKxT*&h+$t:(ugdHC$4]^i.G;,BdIx:S_n&(G;;E{Mz_PCC/{Cu^[yr.mhN>77tJYGe?b*YQoYGSM[JKu{hR=*/j}V5M|i6RJ4:,)!Zi#pS(O/4jon%S_r~DY5^dFH#)BykPcR1ZK|'
Vk)zXNT.1]IfaEjndDU#Gmgoj|PLP.Am9*P(g=!tKGpMsK[W4UN{G9!8:AAU8a9Bn,2OP/j/WzF'/>^KsBQfhpr_]y!`,H%Ag^NiVe.+JX~T<mRV]Es*^ZJn?_jaXND*#[WWP`7M:}q*[J6%S]f9g?
U~d:_Hva.C|KRNRvl8IcEyK:0MZ&Fm}|cbh+Ubngb,pC8Dlb^K+oUwVH7I7lDCcopFSy+6lvk~?y3^d]zua%Vj4?F$jrP'cMCWX~M5e74/$5080pQwkG+&Jw(%5D`ZUQY20icKrta0OXF)[H]Y9C>k
Int6:2.,H=a#K<jy:+2sX*N:Xws%e,Fh:(<Ip..V,,De~ncHlGdURRc(O/f~7!m$R/f*1FK0>Oc3BJDPJ*/9s,Ffm/WB(loWpi9']HUVd^eUB#_S]P[6[Boi6(/8>fx*PCF$T3p3d[z_#3UslM[=NQ
}TP8Q1c6Hv~a3H=#rFX,m|!vOW[4{kb6qZuhJU5zqYbZ&.LNQ7oz,Kda:8N]hkoK)7CiHX_Dxr1zJZTaWe`|P0_3~W/2Qv~hdb&kWeN|=H/HFf`Tv~c(o^)Igqk+.wZ:W2%9:MyrM)H|grP:+{j7g1
QH&PxLu7WU^)0/_M[lA+j,6.6y7h)ydz6vOm'IffS5O,~U4H3o8c4xhQPB5Bj,BXqtk+AjD`=F=>gPpD/R<YY=zCWMNaFfOP&[|r=)qhiaHDTP>colr5AO$'(k/w%Hu+rAcCPJC}SE57^1j^pBd7ne
XWY/y3M)Y['T?WxAP{e[eg`)]tGcECK&DDr+|)p3Fx3Cg{Z,9~=0YpFTOjX,EDf{ZXFti?T/wT}+td{{hw|w*I.~CJ~sghT3l(42OtpovIt,)[<`u59W}T?^!5.<xAil72BhfbS=2+%V8*5E)+t2t$
rx:<7F?,&ro%5?vX<&L~Bg}(]nJN0%jDQ?'2B?4/Ihx4YqQCv?4nT>w9i#nz%0F7iIYv8WHPK7316[Wp$P0pb>J^0{aDP<am#KKX2?}R`z3mT{=&vm96ua(yc]<PID{!YgYU8~H^c2;_hyLWtJ1~^p
o'}^id8k;Y+Jws!z_Ie]lh`>_+n||xVPnQ&>}7D$MT61hIb8kcw6O1rbYA!+x'wGHD<Dd4jP:YJEU5eg6:fzix4QI*2D2~y{]i6louL'{myp^v>#cYh_S%Vp,Cz+6|t'l4RZ8Xsw6(Is!sjwRI;^I'
g08.~i<0RENT(F=r?Wg[Lt3q.~3Y!r6+#~Z.h%38v(hs$C+,*w?luRZTa6?CD1$VmILa]v42w|dm8mrZuHO/Dl}E`e[<=~2(rpf'e%2~mD.(&dS6XPvsW#6$_`#gF`k$8I<#[e+IWz[Do,W8]7vmgl
;#^H%GZ$wMfgZQKr5u1Q{/8z(pxN!f}3yEUxy%B';iW#Rw_ccJ]u+0%{y[ASBhfl+h6~{MrYRsT|P#df}y0[/ruIU=,YkU%^5&.7E0F?^0ARSi9Vo[WKv;8WT_ze+/QiFdK]zv*6z`3a9Az66'U}jU
>HXMV1okKyP]jL%o|24HY+r/T.5[gG&C:8]>?X}|G3oFo$YFWoSXvr|D[OoLGi1O]J]!c|K?9t!8ito*r)B:Z2*eSLr7l(<rcK:HOv%6<wBBW^f!{S}6[1S0vfWCNc5<atlR_|vDqAC15`;St)4Ifm
r}sSJb94<k5!(BU|.,8WYI03$._z>{c<5_cWRmFQXhpwx<#|JGa8dpzL,w[yK#39Xs]NOD,tASTu!*?Ed&4F(]Zzc4C:dLKAsdnSRG]u*A+xHh6[J|KC%YttkzFvhztxSC24,|639bQ_}Kr^H|`E,s
z,344x,5N#p`jDsQnyrUSvpH;K)[Zk)u7mdQuw/S!BC1/6=,8y}:rF2CLqg/^$W(wiphz/~5]zxR?>Dw#,wV4/A:{Ac$(T!B5}~tKBc</&Ys,l.0L}o7{1r'+(!Erf#r)W!K>5OEPHfTo'WevpAl3N
kS+kLuPfHHg$kS$zWH*d5ylOs1P!;o`W](.+'/}!!#8PL_$#_?$jcI;7BJQ.)E.HTGfQ2KF8y2^|%%OKZ?>t<?h(3'E!+=1~+xXV9^UD0S{qAo?Eg,je?3D;*f1pGgu{Q&==0rmn}A>0vPEM2/]6o4
qW~'Vkja/ralVCg3WYjdeKC?ICX:g{1vlmYWTP4Wmo/+.nQT,GF]E<L4ad&E#*V.=mF<G0Ras/52SJvOK+<CjMPqQ.a1D:w*1fWjic4mQX>K$(}_WKteUI!Czw2E~T&Teq]gp7kEYmu6[5;B(iAqX*
u3p1B}g&4j$+YC1C6pcg(K&Yldo__`y~!AiYHI4zM?c2zZu3r^=%}LW|7T]U*{X[41!'&/$eT*5Zg/ha<KwSj^pW:O^/XvTI:l7]=v#?FBGblsFmkOf%AG62=>u$F,Aevp`ZM|_LnZG+S|=ydm#'#Z
Y!8PnN8flsso1]RJ~1+s7{61`Eg=bPU${i*$04O'L}olzP!,IwMSv[G]_dCN8{$kh0A'iqQ>knha>=8$Rq5W34x.vJhhMCQn8M][2,I^K)s]yEQ}48=/1pZUWR^V]r1#exdkJqwK[2[;A,lKzjwL]+
EP]UYHs.M!&d(~Rd?L`aIKF+0pv0:$QQ&S+5xq(V8VUYQ?d$q[>j[7!d[uF`I{|9(ugZ:WW.`X]C/JLFbh_P556>K]Y:IzdeLGO>_$`)WMEg6AT5dF0FV:S%V<o5z30s6;<1_V/r9n}J15e{6]J!i>
,.DLY>D$_z]oJIrh*tsSm*!RPL&/f+,?]tN)mc7?BE[nQP/R.$I>_.gV#NuMY,^]Oa?LW0V(aB{8?~RIZFG(.;ihQ9/&(:B|_KX]>&q,Lxi6YWmhuEBk[2v>52[*%_>|)r;iJL`(B`Pu,9$alCbN?!
_*bKk|KN~N;:qp/8.VtDBAov?(.f!s,NSWJRjq^Asg]iomgy!SPFBmsUC#[0.i{aY>vj_E39jWm,;1K6S}DB|_n+F0M+'5g2)hLpVBE`j<TJ#}(_bn+(q3XUy>TRg=.PB7&YZyyC)#t;F,Y7/}G/IA
F_NqQz!jUC|3QPw::M<Pi1=Nc8hX[4oWWVUQ9LjTH`.yoe`oImL]1~e49eiWTg_=Ir5T,=<0/>/aB3'pBtvG+B2>u/=xb]Xd2L+Nv>C!]mMU>8IW1Rx%Tr_vLnY$YRm^<I<TI|_#2v`2)c_[ySWbI1
3Xune6b$lkz*D~rkE3<N6a&Vg?x0|P|MGA]{C'%#nrcf>E^jR0].bdm;gNVE3#^PoBvyL!Lzk?.;H&{lm<h:vwp[csr~|=tBRi3F$?=4n&F8qR,/x^&%vyq2sfH}rFjxu3SUgc?~SMEQj!OYZ~SD;_
_5)|~,Wp8TFyShrNc$d`BJCf{qsb%2}l_?xP]W!YtZ{Q`S+6_KRT6Rsa3vbTvzR:{sl)fWg&P6EpdH=,|b4Et;*SNSoMhnhK4Y>5uZ^Z&,i12}#jL62Ukj$*)]iW7D=pM}K9kjmrcc?{$ZK;:T7YF'
AW0//KG!I_9n1UCgZD}0{:uGsPFFx0Uo,'(rygi7cP*vce{3|1$`Ck0;/j5)LTotZtn!}/>Z71>`N~y>K`pjWy~*sw7$MT?[6sW`}Sv#jVz#vxqTSQebfi{apo$sWqUz+/DW7GN_1m}>WJfhZMgH0M
R[F{`LR;#+IB_.~.|e51%OwJEf'|pL_E5tD'O%YX%)&x%|c[WjLS7d0#=Ivt[.<[MF6<2mKr]xJB//2t_DI&]DeDaGU};r{{=,=cM6jkrMOf|I=*=_'op7,#KlI!M*I+=3j`EaHuAJmB4v^l7R(v?c
r3xb9!fk5w]}m}9S:1.Fn1,z>24&OzF']^(1|k78PblOGX6(lbf(>CWxF3g+AL_zd.77AKP4Vl|Vx+bNG}3`n1>Aty[U^5wpLD{]SrXQK1yCh`cQCctUd.nFg[EsVn9OckZ_oc=FYxvt<$tj6qsY/<
}A^^f9D4&=}J{~s%T[Yx7ONb7.seA.WKimYV%Yvn0%tXo~K'OmAb#2vj}9r);GKAdJ]J2)zUW!M>|8rrJJ5T5t}VR]^fBL*+rEHUL(dBibcbQGNx'<=9aX=4`d.ybJR6QQ!^91RaGVJY:ZzM}}]Gs]
!Vimb$9fiS5lFQ+'lgr^QVTQ`L^Qp(E2b%1QpM~[!!8#dgpk,{A=,Y?x:>VYO5R:;|+dAM#5JaGaJ7k*4kes(d)aAdT)#_]pc*$32SJH=N0aX<97MB#v.,]R3&)4eS50iA'zPDO>A'dM#=3WjCR.g+
eg'K_GKwPw,gjCMQf]75x}k/K?drTvbQ&tfL:$iHb&mF'tBY4H?>F9e'Q3w9$}wp6fjB+^Lby:PRYa5_901a`6$lr053hzp$X9}R4kN}K;UlsJ/LWT#fdiMBq6#SMJY6T#9p^H/AS8_[:~Pamcveqv
ghd=:N/9jj9TK_gPR~Hk6]?/SRd9x|hl6/F5h8sNSxWB4YGWTJ,R8j|>'GDSm*gtfwuS1[GzZjA/noNWl=niCaGhzw(Y`vM!Y%`eVG:ot_MLn:U]]O8=>aWp4/%<dPG8NH%z[}uTu}~qLSU'ejF[gB
5N3Ps}]Wt##Lvcue8n#kr[4Jcb/q:L?fOH81af{PUt(sMOhfKF4W*X.|D|E)9mu2a]F`>g?]z=_.z.9vQsjZ15O:1>hjP*pPiEY)]a;*C}iPX112X'a;1xJ?b;DtB*`!c/EHEg9])!!.d+?(nD[ku^
{;H]2?nxD.wa`L>fdZ0b+z(.}FP8]KC^EG,I!<x,~]Ex?VW_oa*rid[Wy,*h}c1*IYw9PyU1iJ%?65uP#I><l$nRVA#(.D'7lo&C4rB;K;mj~U,>.|+&,+]U2uT7?K8x_TcU/BfY'Z{;J^;?y4tjcL
sD2,<pFjpwhw<nZ:NqEi2)Zr{[D!E!cJ&`h,c!Ala5GlLOt,]T!nig>K2i`<'atOJwNt|3D*D,#m_q/~Pj29M1JYk+CsBBrzilZ_S,0(?#OYkg<x_/7=},T}k`Womsiz#5zq(k/Js{()J44j$`8h;[
*iQpRA8Uv|8Gn$Y0YcW(&,((Y|t&zX^oaWiX?`F,'|.((.z0O;uHN<>duSO}q7H8?S~qWV8NZGj!l!,FU{%F!Cp2]qtX4FEyCPRkHmRi&ZH>,z_%2~':%PHHa_+&NSN.Z:[A;gXQ;W8!2|[|bY>HZ.
dtfeHbKCiNzN`RfQDYeD^XeI3>oEO0p>c!;:*g._G#$qlWYKAzG^k6[9XfKcLLHm*u`!M|n~;e+(ow&sle4J*b8{i1AV`2Y;lQDRT.0R/HSl<,~7$Z7N?FTav89,T(RN$s5N#o]>LZ{7eH[|EOl(dT
<Bcpo0M9!`1,2cZ*$:5I?b2P,24h760:p](6:y36pqhkPxkv.HsVpHY+rqzO_`SO4Q+)J*TvSdUzRwj4Ok/<:wrrdY[S)N5V523wX&kYg}Ugd<T}w9?:?~`og'rku+g|:d1'!9l5]026V{).A/lNk(
O&YPW8N(o38.K`aw~x'L<L#AgtcK6wUw%E$0V:Ie1s2gyREnBz%y4L8/W0<puP96?q:pIEPIMDw`ds3u;6tW5PO[NCxu6.SB=V!}'0(MS&+;DZ5P)g`!(CWgs;NuHfGM9:BP<gMR#2]OI5DY2~i<Z?
5Sfx,mFG|c8~H<H:l8iH)27=y(yclcrb&(4F${9jKv~q+)Q+yo5=o/`V;Q1~%?AB%_<7gSw?{Vt9|TDGcUKeeo%7XSm~>PobHExdw9DMSUcfGL2y0lHPV[2sE&|fP:f>]6*(7>eMUKu2_^(:g|aP{_
Vfu_!pHnt3o{.2JkqgbggNN^Z_;>qS4d$Z<QKhn:K+(fQYtlpDa.0YJ=fty#7ET]G~Fq;G4Ag&ZqCQSB=VbaEN0Vdt1(];)~<aAj0G?b38|hgx>F(uGRSeno9*OKKE[:+dy9}Pqf&&Pze)D``dijJr
4J#[XGj3T`/8%(Q7R;2YI;E(SBe[q_e~VO6Gsrau)O4TV#R>my2/_I?1V2p6Nh(j'CyL'BOy=N&)^9PKDa{d7D'I[^o8~rn^99n>&:em(]tUFrj/_G'*hG;{!pV]`3~jyPI|O|W?}CNS/bK;&s}7>X
CJo#Cf9K&,=>]9u,F^QO[qd]?ccEH:$IGg}kiHZ6j]4LLY{Ug[S$&b7zdrfbVy,Oy<q'$K+e7TQa_0o#<bOE8RVJ]BT4s[hPI,b&q6q{0SLBRQ%yoM3>1??9Nv,n?=naw51ViE~v&)/6l;*uK1fX1<
}})RcL.u8=]M3#S2P^1ta~NWbyfn6jX$gP5a)=C[u&eg.95Fa~%krD~iiaj,vxZgA9[zVJ6?$6Nw;h_5&+'AnwdE]S4E[;s4be5rhW#Y*W+Km:omv,bYXwmRj(;1uDs:98X68vSe$d}>uN#xT*Dqgb
d1)ry<:_=IxZro#}'JP8FS<;t#9r[Lghds>;*F0ES5j|!X0}|nPzCQKQ`_VeBTB}_Uv[V8SS9+hJ7[SctqdY&Z6r6amyZ`2,`(YzQ$NOKw_YJavfNqSmN#A#)M/PFe;$*]+QeLju!1=z`t>[1d$C^4
D49cAC^_surE{!/fzSwPA==A*?4[XO>Wf)vsbGy|H0;XS1_jh%rHEQB8l21XCjul9&%I*}c4i<E/~^>I>L<`'FX)gg_u?iBPw,ei4w5lwP5d6cWT:WI6OTC|eH<6>E}oznW6a$%N8N<|49=K'd_S$z
S9}xX58I,UG?(Ba?FK)~i]%LtF$U`rPX7{]'Y~:LEsitr,z0&FOut!|3ds=Bv;%%%%K!{c{>gkJKj87>m4l/[m<F^G;/I;U:TvI4O4.$wr~Z.HIhxW]SsL^D*7`V]uUCNl,,l?}GBx_o)67.zp]h'#
6s]WhvNxxJ,np_oQpS3^IT%e&)poI[9CnTz)C:vQ(lz5('h}bg,b(3Lzv(o`EDkrGU&p1Pai9|c'~uAY;GU<7.2%dSdgp[H~}:csHU]:=&X`0QVMMSy6C.A#2u;7Z7<zxuy]'+F5F$|,c[_;&JxE4(
Xh[&U9#$8QAT~^2MGIhrr5c%$}~o{IhZj[7lj{?c9*9_.aeRZ%x1kgoPy&ucsLN?(=_g~qDG{txI7OR5tb1hslyc>P~;_{w0h>jEW#4l;Jl:xpA_n3>SEw#(FX1rm))9)ohtTM~n6`78c{`EU4LcA;
s}8IbF3Ie+a}]~mX$zlkw/BktE!iG`?JFZC=pPzo/d:zhi60w'Rn^yR:XBoP']0e7Zr!aLe5V3L{l2B'e=h5I[6;]16/)B8$p|G]c)bPbgsOJ(Z=y'qR=knV#$DTtWg=P~FBEo5=AaxTIL;VZS'UKj
%]RsMW=R2gnG?|iP,MSxd[{H]`Ne*+Y['QZsg3>a=ZU7/vcBKb^PE5V<7:ILqvRqo;#hPgssd[Hsv(t=5zu:?,_!>Jz[_c`V{}7A3>yXGY|YN+E0B/h:6Iu<L;FLO.;=S7NvMtV_e3^.k(a1zC+v9d
7JNB|1?tn:IB',pK{AhA}}hI%CR#c<B!}F{A)F`55p.=;UD+,2[JnB_&JO8U*;)i3gGabLg^1F6(c2Q:+W.5Gj8v(C$1E_ixy+eN=,ae}#URfm(.;dN$`n:y533_L/k,%R)i0PerUAAx<?oYLUhXwN
l)rAG6#>}21VwE?e,a=^J3H+zA%PuQ;V/Ra~[;?7d8~_NszK^ulOM>Vw[A`.vf2%;q(_<A3[U(kzPk$t'#6Cyrz>52GU4k&*)r+7dSJLe/Nk)WOYo=_3kKP^?3OqJkkhk)4SHi4)=;iiN&ZsBaaPD^
AN,l5Ew`XRS]9WG_Gh].L|!CXHLc1s7DEby5a4e6PLhlnL40z^:kH*G0g$O)t&W|+n^J|d+~gOW.0|PEIp'VA#*Y<]]oub{NJrijZ#iqG?/REbsw^boxzqga]1(nPI#zlf|vb$OW8TK9$.E)^3}/IJ
S9X(ZA&]zFR*1kcSTC?t!qQ]eK16swsSi(FC.+;2s9Mhv^.J(bL[n`[O2ERd)tgp/&t]k#PP(925/4,>4'a$d3UfNEFN~ev`}6Xv{jXZ6)ZT&iV0lgnMAsWJ~;T,PF<<.<7O}uBbW'o>`9zE0w{G5K
+.Kf)YQY9t63~!c2^#<QNhhv5Qmdl?~[&E3E)V?#u[CsD6G/[S0]73?d%}BT]^H!lUB0[E^APj40O{3H3^(sSB~*I~Crgu0%plL4Z>Mot=~n$C.S6L;Pu5$h]Xbr7D&lo4ZbK;#cdz1F'[]5o4zh,N
F_fRcm&k?*4gIAkGh1yO|PU/Bp]7:GDjEZ,KNFm8PlTP'y|QB_BSzPPYKc[)MEPCN{UrIP,z6T^zF#|Bo(xhX?,Hd6'67c6%~fE?OtwNduDC_j<,SDEkB$nRo07CF!E=q{[!zb6^,1w^;il!Jf<]8F
IfdiqQL5=W({,pueUHEW%:U[9;NF|j6kwE(o`aD{]7qwl_}cDeCA#q3OSiRt|kOk?d)V*O<r[W3hCG=R:&tI7'(/HVM=X$H(2%=,N|qZm{0'Q!h]a+GsbyEOngTa8E]J}%dW.^ESy({gew2<[js)Cj
(>Sv|h$>Tetd;02qb./I`u3'w^8yV}cFmphURd8<4A{H515rB0(|T&kO&uAE$5lze/G)evVT$M!=5|^P*<flY{J0Mx$WvQ5I$o{lUS/GAIA]&>%{N4~]=%)P>pJC0+m5o7m<M[;A;a'0Zb{iKR1AuW
#rLU+}(;hGub]1VBt)N?t'b<2P_jr?EWhMMe^+!Vv$wzUO$B|uKBQglOkmaW+&RTO~'H>I;dL'Q9Rv!e_Z`/B3sIoaa!G8lxi9)`L0X[U2=B~?kd)C,RNVbDICA+2mxaa!G>2}_V;q2O5KcR+4rRGI
J^UkPOd<4X>^._lv_xvC::Dy'Nf426gq#w8W+q2X=a`Lj2][7#LgJ|w59fqu)T[o7um=E~9wjuC,Hqv!,;w1kZ>K54OTM`FlK[NETO={uR>`Zd*.{|2<(LG{l/.ZhR*MM5wYo_FS!'9H#?<=|zBRvx
wrF`+k.CX?4fszWyK26eB+}7lU)C??=Sco[mRD19~$a{=P3mC3qdS!8me!TnBgU%u.}7cQP!TmsusFW5Hy}P&M.c`3zRi8d_0>%3vUP1O/N_Fcg0]5zS*30SOOr'UM2*Q})5b{0.^3a:k}Vw*.6muV
r<VMEqv);I|=^r|5GdUjgolUPiXOt1I1aeFX}7,5c=u|f.,UZKw.BkOuLO61UPMgFmUWzwa3=AZ3HTJNXAs}8D/_tR(Pj>[azH38x':9a9mEuvnEFaWrQ(epRGxCJLb4SflkZ~[Jm_s0qId&1upGJ]
+&[R=un>&JP4g4&9_;b].MdwkOK&BF.ugY^~p+Cyh&G]9Fv?&)RO7JabWpuw<qG&Uz;iF}$/dl<C6;|`44gXZjH<[{/7WsKnZQ!hNaWgV#Rz8~'>l0Yaq;9>8.]~d_7:D77|dGg_q=5:AC2u['[g?]
m6r2gU^aS=}EZNIExNW1U4d[9AVv;g].~z%$Ai%0ry*;_g%>)8MD9%e6W:3)w)TqxoXc#I2_k5;6N~D.R>F=.160C5/+'4.sPYBI9J+6{WAI6;5%]5t`xe]1B?{.>ofWoy7AfE.98]T2y0nBPTWI*C
d>g(^5{V8t4ec#Rg5l_O>Z#3}!vt!ZywB%SHUPPQC0SR,e2%^SloyI9W)/>jO2+[g;?2}`'JpnAqLyh'ubf'3[s8j3s=AKwxL;AReI(YpH+4{bU&:Tj.Oj%}=g'0pNjjUB3NW!$~Gy!TdPAYM'kHnS
ccJROejus6r<dU!1(GB!M2zHk6yQcfcUp*u,Yq[e8/K`2H)17j_4gHTJ=/ed!jT~Yu#u`+WB_}b*Jqb8rQ;v2OQIK2^wGdcr~CM=Pi)DAw~X5Y;)S_&[LVt|JF:JVMx:X7Wu<?sWpX$MYLD2CKs$G#
Z0cG_'0R=[Grk?OCKyfAyeeWbtv{;.dnfjy4}T5Ni90eBoyH{5Wk5I='&mXa4l]v(c^!_Q>+d,jN^7_=7kJvnz:le&iSryT^#K2>=;5_uQ=tGRi$A'*77AQs(;2}+*/8^{ylAzD$aP7]phhvB=k;=C
:ue?4tXz,2,S7z9Fb,Bfr7Q(TyarDuGK%`_5Xd;.TYlz_Pu8N[&S'.1gF:M<m}={e`ic/3*v%IRLkv^,1bOi#N>A`}.F|EYx=;gA!zaZt9z2SaG1^i}[_9*Mrw/0XR**Jv~T:Q%..o7xrzb`3r:24y
uOw,}:#EKj#wx=JozzI*Oz5N[X6LUYw*KhHZ1H~=3:^S!v?QRR*iX+B[2uIv3Bkgz<63<_hXoNr&%TiG3&r[vT9:?_~qYfpjP:?C7.Mdih9k#meBoP([Cj*Cej!F3?::5<>?T2p2R[NawF<sOE.SPz
T=xjGsyPXe^FX5s8.F&LI1cgq*BD7XcKMb.Mh$`~S0sBDk2OYZ$^FBVX&|/K*k5=cy*]$>tB'?}EAq2QyYnL?)3i4Iu]M!,kLvBWu(k<1SHA;)q.5F}NpyzR6t~lDSY>}nfb$tSbCal(8%>j8V+w38
;])#nmZj=j1U169B?a0`&+Sz&QT^llhY907%^NIo^_}B4kZ/05h8g5&apHg9MJZA280mdqlopw`.MI5w4lrT.t]Wbb$Jy;1T|R.T5%l`zI+QR=y;A5<HJtg;:^QnA;v6<{.rB^cvPv/wN=.aDXB'~h
OV:)&>,Ff&KE*'&?`Vjm:sdA~bp,QqlWt3$!rrj02{7'Ppl%RER:xKlP`<be{IJ0)F5y=$ZnUI'5$&Y!w.ZIlM?4YDcD>Waa}|k!x`i=}mS.Y+DGwt^>;TN'!h~[]h{qKvLO52>+qH,ZP:N+buq=_O
A}jFCP&`Y'6tWe'M8Shej2R)%/%oN&%b>XDr>JU)Rzmr.iMbLMD8$/}Jm.iY)axy4p!.j.>c0vDJ*j2e0v^]lq{P?i{bZAa#wKA54Hk|*s>SW4($QKZW#.2./M=|ddezh7txeCIqioYQYyLE1i%1+^
~n3t.*83Jd'TUJ6XK1_gGZ<~w1EYqbd.e=..},8Sn/BU}l'G*8GSb.dt1EKQiNb<d1x6u_wx?JSbz2mdGLtC8*_j]S3lV#^FQ9(eE]*+m6!yuOAZl$c[nAZ2spS5p2FDXss&Tk1F0wHXgi%AX62k[x
DUK{~pgL9*3+nI%AcDdBd`_<XKpA4q=53WZF&OEUo.bK&t7Cy*WYeq]?>xV}k>/p&nMas/C`>)`.5]QKq;N,Wb#>Wl;A>'9&MocT,OxI__d$cR.a/+qXVnMF*G<_Yj]qrJgQ3C{roi|Y~9_J%otz1V
?3b$W:)I?='VJULZD^Qx{;EBp4EM},l9LkMCqX8)'b>Yz5`4v%LeM/CcsLNj&If!5xc*aStcG]|A`s!!dGk[{Nz4['.?);:EVjs*h2K52]k*a{`fTdMe_U_lA41]+*_VNYTkkGJIPo7yc/R{]=AI(S
KFnByyJ10MA34J&YbhTR|6cf5hqY!&u[IF1?Cka]Ns=$+PYk0wrE492'P[*pwfO&]}8d7+_>7/hgmt]}%<6#,!K$K~Se>5Hj3Qe5.%*kj}^K'#X&VxyL=5u&F/,>`mGX%dw8!km]Js_w$a,#wX;m!2
T_%Ncu*4Zx.P)]^eo>QQ_sM<^W2$phkr<H>s1FurVVrPEbN<k..#2SK)p],_$)/DJP.90Y=;>TW;j7}F9G*PcQo.~^QDfeD7``IjdtP$$f9fQ?Y9r?DN;gF7y>3S2e*eOZn``)_$EkYt'x`k=0_vD#
:nc6JgZpIdX<#a<31Dp5ST5mVO[JrW.?z+D5E&nPq;Sl[?u#TdLMu96_.dmh]jwW&;rzXlkP:*/<.!g)MOR#{q`_APlY3V6M4m;|5>gAe$+2$~$a1]rNop3ytItHbVRm%5nL|=e7~Sx+2C}=PuOm24
Y,4}#<PO;>Oa&DB{[ys}K48mFWzr|9uz):3Rz[;w,A%a#Yk+rO.p07)ADtSYuiI)TP0$cNFzvl4!ZL[UJJ6!+gxJ%y7y#Jm]r^7H6WPXq)ywY[F2NH#fL+nXu3?j}kP~hs`(k#pRq[>Nh(AXo6JBv+
6SCXh.AMaCyp,k%8Xo~OJAjcuVx{b$*k.#)4=NyFz0X~2<!LQ)QrPmd~#}evE$1GZHe'QG2?%u1t30Jsr$*kgztYk6/R6#x?LD/9)++BTcQ}wEsMGgm:1>}P{iv%?Nc^Toh5Zx;KxtXe^E[x5D[M72
7S4:isCsiO$tYvAJzvD$sQf[Q%r1tzYtN}s!IWz#[h)nG3'}Ns,2z]D^;uYsU`1yeR1#azezyO)X9V`0kT9'ygKv4~97NMvZG~rxnT9ji+7ef^XloadiA+E:79Rq84B[FYmP!49X_wZw3^BcnMB&2t
6'i>DoYe/BO,7XC]wO1C+33H&rq=to0_hkF^1D3sN*D!XSOcoJvV8I}ppCP8}xqFWAXs[0h)d|K}'$E7s`>^X(v|n[<AOU7tF#b~#;_3o=vcLA>azf:Bm[o,ra)GQyUz^F+h+suPOw~38JF&.}m)HM
SGA*OA}ztE^KK1f45k*pR209:XtEfXJnLCMzhCbqfee'1QmaKAdylG/Y&7R[iYc^.L8/~BVnO[%dx^'Of|H8h9p#Sjqj?i9Nkl>ldE0|v_9$`PBB/t2$x_F`7mm[>xustYx,wH39K)sp&Vq),M$)rX
y|5OGt'[Xrf+dI4?yq`^E<[)r1%vvu`PH})K5fA|}#Xy?cB)D7Q$AK;9I=d~qD/b'4a#HzP3`md#X:yVu>`QEO7GY2ouFbUG(Ky?EMX/%ey8]p1{>[DQ{goS}`526vaT^JYpKfFKm3[7ItK<N%NX91
'J>bZ7(_0],g^E5UadYqL$usTt[Ut4S|)mRBY%I3[yXx5re(=Af#jYn;#H:U_;k}/4KQQkM'|[FS9Us8JeC5cF:)8YZg+%^pphUwz0C'[2!El<'k{`7qF`K=<yjXPJe?CyFf'FQoxdycoD<62%E]al
_%2?9;l:WFi))bt{k&a!<N~G1}eGgOljVyZ%y`~e2bNplRIVK=![`h?c&<R=SBF]{Y(`){ZF9vpU<f;sVv$/n]Gu3zomg,1}9VFrD7S|KHw:g:s}vu^27a9(NJ},_)_?P^/CpTUp;XEa&f3g'0B}{K
MEvrJEL#6Y``Oz!wd.C3Rcn0%Y:u&N$beUG2A>]f:QCFL/V<Msl2<eQ73p:Hqc;h=6lSw%d0[wGcB(QBTy:tQoVNG/s.Z:8'yGTpR7_E'z<%EOqDc1sq{m]fGf{$XNYYQ'[5UXqK'}I~/6_5'XM+h%
.PeoC'4'?Rv'4v'g{gmxC,d'C.oV)`z]`_F<Z47tk+$&Vz&wAVdc8,Pu;x<gZfQN5:o%j}EJUudw~;{mE<:8/trmw96W*bY:*!#}[CiyTTq<)j_|g&Ode<:3`.4UiwHw%U|nI]P^!FF>7j>(xojR?M
x~JdHL%iUK/aqT*f5;E+vq/4jfl#31GA'?yG:w8ZI;K^|'Kzd_hdBMul1LG?5#^^,dcb&qIXYhiJ^!1x$jBR~=zmX[t>&ZpN5c4S$!,&,sxKKP4~o$e0SrP}{X0+O]C7'OfJV?7UvLSwF#ud_T;$;L
M8'(m/AD7N)?viXf!L}%Z~s_~I'[)N?>&iXS+.Me3ohdDZ;h1Pd9Z.{KK<yk[D1[.P]pd:'|>wgc|7x,9+ss#6gsel4o>m~&]D98ZsGI4Zu%W37:z60oO8F_K]0eVaYA7B}a,UEX6[]0Wiwg,J(%SZ
D=kw8&x*XRyt0ai28p1X(HMmNXC|aeXaO/#.'*^{|:C9zj<>7J+5Y!n&rVjB`[],kbh,8y_n/8fPQ^gh`jB/A)cIG~%d^e2^}'rXGQ=Z:9%>/jnF3Zo?HF?TFbVD*.9w3;5K!)2.hcn]8,/}'U:09I
KN84B&d*2~W%rk&jIN/a|x4ytX<k.$wp|7_%?4?f=I[+b!f(ZF1dhH1n]3Wze'.q9eBDr(^~0!`b;Y]>M%~E]eey'FP;S_aX#dlvS;,Kqmmeo=FQ?_;A|,1JpeSKkABKSmG$w~0j|f8,G?uB5/1c8%
;%)4WlMp,v&7C,vmv3S3E0s$XlL^ozy}mW;qe_dN5jwt5?0Fv_ymZ[P<a,u<]7*X9g}{s]x9[A<;XaR3WDIq7j$d)q<7>(|hZn&WY)<25X6N0#%vw!T&(QV7.a&}vT~2)hdI9pJitcmrCsmO']iO1z
TFEeN#IdSe[2e0hGQciDU9)Y2p]#vJoJAQV]QD8V%hk}gJzf1Ig%)r_JvgQ<x0CqRA8IjGCaaW+87ObMRSyv5~>eS{OwQAKJA/^m]q{.6H[137nuuNSI[Q.V6$!azMW&3u2j+qwf!$D+yH%bW6(q=N
%+uj3%X%,=^AxdcPvE,7Tv0TKv}OSjsg!xuvm=JGOqr*;RTIbzh!$eWnw={SwI0L}b,vLDXwcWC?|>V.>H}x'NJX`}J/YhP|!6m4hjL/!Ccv1f`n3kSDYLv|Nq%'CB`/dp'A?|mjK6'Ah'eJ=}^jn0
][^+WiaZ^Ybfy[_c$PtO(CC06ef,#caE8^zrxqY7$2(0,ySc:j}J)N_V!gLZDTYU|z5~(W986<p:$*}k98Pghm/{Z!efO/}an0cBFdUjSko,7B|=4`ETHft9gWfe1WE[JhyJk8x9%cq3jR;Nijc7YZ
p7A[t*Z'tKOm#(Mu/=*3xxlZ+n#QZX59'f_|SH9wF!rg/Fu_<Vnkf3#se,JppdqxPdTk&i?[.nU~2i6+b6(JpECJ(=iIo{*CgQNcsF';4)bt9FcC{[Qh.]':`fP,=bRdWMRN1+Kk;x%pd:twBt[p3E
G!&WkMdL/}4oXxuqpmPV]aWz4Z;/,xMc6(8(5ZA/3Jo1`$]3hpBmfy_'L+>|N[Yk2c3jJ&r^A.uc[JY{lZ6Sapq;}PTuZ<5CN>SQ(vYh![2,?Fg!k0Dk^YkCyO8R435jVXza6z(;aq/?HNWiDE1t;E
|3$FLhKF]7#)r[d&tt{!=S7V^!wbd55~^Er&.]B2qd43_d[nesd+7cr;BuJI|ivxl^D(MG_nszQR_lbJx[ADO1WSxA=bY.k.{LtBg3o?RqEUZfj8EbJB$Zlq1KKnk!|OGnDRe89uemSEaKaNCNhZwg
'PGq<vKsN%>L67_GUs:Sc[}I1;r8$38Mypv5h}~3ZI7A[zssE>O`4ar11)apu_:mf]ZY3jKI|hh$G$,1O)owiz4{Tx/vJz`8{SyB;<L7oNIS|hN<rJiKAxl2k>&5&b]F/jIi0>(D'yCw>/J^zh]vK#
A=[WIMjmr3A|]K9zm`CpGQ/QX#MS/d;:KjNFyP^v,}ei<i8XKn!Tc!cM*oTsqm7FIM!msd/kfg[<^~V'tD9J=(fNKn#}'mY3'I%tSmOe?NT[%WF[:X&EwS6v94UgF*NejZG3}H&nr&8,<AUT}UaTjy
RZ2QD0IYm1e<nYd1,'[4L63VE].pRR27z>p}1d*C(W!S=utsa>&c26Ue50y<OGYB+:iFf)[Wd}P9HMjC9NXw;f4^vTvsLO#ps4;!qJXV9{S)niNL+};ioi:3g4GuIl=>(^?brrn);`>g7}}>nCLRx#
G$:g|b;=B8[k)19w3#)%q8U>Td}Q[Km8qzw`^U86,*i~fvbBZm:AzRj0XI9s{%ra(_y?G=bJLxp1Y((:<BC*iq=_z3'~KrAuHvvk:&^>5;jBvXt|29`e>R'C7O[`][pJ{uHbS66DXMWjR{zo?.wTm^
Jk,x)DK;%|iyYMgpc'}U3T?tFehoh<>4{Y/5MBJSnk?DI^Q.t*iq'`JFL*h=HA1e#br!GF'&1NQL?G$i&E5ENVe<~'!TI/AMC8T;w)39$[Z|DntO0THLw^t3V^p]JtCZ;`6i*!c?N_*V^H/5GMdQkq
;?Ba,=Km/y4W3]7Jqqv/,MI,YB_2:]V}>sGdYgS{89#_wfIcXiY,o8Fc0G2ej|C{1a2te6[+<hwD`Ik*_+oMZWKs:Bp0tPTnUN{l9]N2_yFf~O]ut+8lMaLrk8y;Lms^X+5Tmpg3Ud:!=.cZOG!Nc`
P`ZQozj!X)CA}'02)B[7}qvX&as9tSZ+,}hp;*Qjn=6RU4iy&L}+6ML?1J7Ry0(qH%q}}jm_#7])4EhhUxlEWRgX4}PId4x`qEC~QaHGR|}>pFnl'lZe}~|O;LIkA|Ayl=q4X!^0KN|6cV%W2>,bY{
ZI4d32*E!>i~&!*>+OEsot&^{TA_LuG]W<$(E}T./>XOcbVx$x!r2}?#3iUBaMTVi*mK<SL[4}R$Ykhen4B{+.N`4f%i}AWVv5/Xm^II:9ZOAV0%:IQ_jy;F`_~#ji&Of53.C8!`Bo]fz,7/PZ<vMl
xoW^D*8?c{L^[W8dd9Y!z.Ol^;5~486FW7v1PpbssyP83fO5gI$^>A:mKx8st54:ei!$B6Oas|GX/j:>6As/dbhq[dLG0+wr[Sk5,b!AS<D>==b,24$4d[7d$[JBw|D_?'oeeCR~z$C<GE$maQy'3<
WgdmU?tTn+.YlG1rF_etg=,>PQlm_:Qm]^1C=KkFXN8tvadCZ^aHk%=fi?vV7AU2;N<%EITlsb/'.1a`i}EJ5XZYr1}v!/=n(h#bpF.vTF+TUR[63C*(V2>}zA|l&mEa#{=SP2&3S<(>~R$}/egw9S
diSn?gErpqkQ>t=$Jq5%$k7~TXiel[4Wk%un0)5?Njqo0v.w2UvD/I&k07oYv2]0Q}ORkIv3/>GU.]2s)3M1,hzLhJN)N>Y:oGdEbps(|1Z[n(*WJj#V<=Y{0Sf'V%FPIr'&g|hEwo3n[i<Bi)6]Rn
;>$>><ZuoXP{<X<=Y%0org!lg_<J)qY#(lixi;Y[offk$Rj)Nd{B6`yc=<d41!*3h.vvgYMx?[UYg(5'P(]K]UI)g{HE;<V0AS4XhK9`K_TM$3bn.pPts_<rqT+[!GU_0S&2<u7q{86Rm`g.S^_7I|
(5.'(Y|)0;zSN]CFz|fd:$/C>5vbp3Wn7,L?)tAi1;}on%k58Ih(iv4[<XnJ5ztd^S]%<vFT,/{s:Z)x*BAA]TSk]TWb6/HG`V<Eunv]R[5{[V#Ij>$,%tpy3#DIkv)}WV(C9M{i!!1]i%*cdNO!Zu
}f|iokv=Q;4dZ{*MBsEQ2vj[W~DXLq>!O6V9T14{'lTsN!Vi8u.?#+fO$L%2UmYNP^TLr`su!u]3/.cB;yP|Fgb$,IX2,a;kh7OB=$fBZAAzVqVlv!r/ZrvV#b4jmgeSf0G0s*GcrOaTh}U>OSF:]p
=aJDx3`6DS6%kMRe0l!r]nv5H86Yd>rL)At31vQ1$*Ja~4Y?3c<~d{?lmhgp?NN8rJ{1irlYSELMnE>;Z/|el$|WOwqe<dbt<5m+yi;1oCLro3c{mhuz$,G5O|M98#f^X8QY&7T=R~L7s&4#D{'ude
n1C`}![npYb(rlh1{vs9J^KYjw1)Z:S0Fi2X}0Z3j+SWq)*q&x0<iyz.$O[S/B9f[9Lt3[?_Sz?7{fJmRf|P.?RAX^'hYwkv?yy#G$?SW2:mHeY`%*?4NhYLN{x+J_Vk!9mh7~MQJ'&Q1Gh0R1PB~7
tT4P!r'U^^ZAN#2rVl}Yh3,NnVq/0cxl!O}^y_q$LZo6$q73v43=FFMP}r8ThN+,o&bJW45c)t~_B>SE>Ezi)4V1L}r_Iqp$%OGMF7Y>}py3!X98(&Dd=f6plQ_N^W1=P>)&P;KRrV?=)7b9v>nJM<
Bkhj;MW}GeWhai*Be|+G%Z:Ye5U!|8jRw;D|8cT.aTGU_RYfP<_effqFl~1pRI[CflLPkIDQ(YCnQ.bbwU+_lvtH=`o#sux'a$z%!L*kz3NO!#+Y!CBP5mUZY:8A}>mA+ssDUW/t7zdJu(qRxnV5'K
QwFwL|2*P4K$*gxnQ5~Co0GlCBFX<_/I^33>tud8ne}?^Ldn:`mdMKHa/fdemb`3l(7F=9|+(>$I4X<Of<vc]J2g%i6}nJ[%+ug}4J)ZqdMSZ:jS_G+#eH9o'N*U}1ih8/sQ=5?xS;q)J=[YXyjw}3
39:?l:M)1rZ8~G$yM[wug_/<yV`.|s.<^<uv{B3%E?f)FWJl%#KKC#HJPf^I,;l|4?r393Q[]&fB.A{b9+4C?GlU~>1yf'Yn?uoQ.FqJ*kk|xM]QWkQ5=f[?>_05sH'Xf8)J(/Sp4&4xlGhooC`c%*
3C,9yK#^3c?tNEfL^/)?NwFZ%y5iLk:k#ATb>nJmRY,:d<~wSNr_0a#)ApzdIBstZ&<>W{z<6uKWcM8jXp4<fCEg#M?2)x#9^.dEbh(X(v=q2yPsgch83RSL|_2_G^YPBujIDo)SO0XSyLuC;OLH4{
1G/TP5$%^'s/=,w=9H'isj.uhmolCu|(?42n#[[gA+#ShaYU=mo_)E.Fw{b3it.5_Rmt`C~)|VLuGOVs][xkQ(F~~ZEK.<k2wg7'0E,Ux^!?5Ki;ynw9!8GvUJZ<A_rIew.ihfV!sn*6a>bzsdJdeo
:`rdx1&F+}_kIW$7xzjrMx<?pq~ni)6)W{B{$UE#Q?^8ZGG?t38;|Mf&}iFzCt>>XFP=1H6>ge~zKlHAXu5Q|z7mlLzV}4'/RDU:8vi&V9#P9ic,G|%x;^#ZN+4n;gq94[kkd`W2l_|v6%1LH<cPUP
uOxlBh9Bs<*bShbOCJ7,9KMdOu[d6|A5cJgw1gWdhG#tyMJYXz+X{vM]CI7Fa,Eo~3_}%%XVO?|We,pwHR|w/JVQx{b/8NcEo[]j:dEzYx`HXA4k0D#f1T}eOCMlVfBNU2i'I&oaLF[b_/H8|uOBrA
O8)}gxc<exAJbyt,%Hm^hXNtvLm:n)`AO^AQbC99FB,uD4{R~B&bx{ROc,kzn5E_t1o8?8&X*d1dd'*X}}bC6AZnb#zZrmIklhfr%qb~P5l>uVoPqeEA8x(O7EzrpA.wm{q99p|UAakp(`Ic9W}P}R
_M#WAYh468&D?K!V?emohNN16*QxsT!E=L+GwyZt8,i/#?[2&o&*GT;[nP#Guk$|!LNGO#B}PhaweQj6FHY]I|4&.vnu$|RQgXrth:{8&o1V26.M:{kG]`EF(sTx!R1Eo)C0k?[HV%`Qb<xW5dT9%0
i,<%..Osp'7:qq`;8_H`$:e&?6r4H'{uc.Ka^$qOE>qPg#H>JA%+TU_}W7Z={oG<A[ew9R.FAM8R%?768&Kfw0#t*`&YgKP]L{%5Be%5Up70H^dz.IZuj3.$a{h!;;,(!qP1pm/Qt`k`E3W/Hu(9$!
]M*%PKc^EJDP/'qyTN7pwc`I'C%*T6zMvh+KD?V^bBW|w[)2OWEgU.u*~c'tzA%{u'YHJt}_,4J?GU?gY(0SL8b?R2QkzfPzPIPNZ^CM|SZs:'j,u_3aY5g6<j_vaU!<Mq~![b!NI6ATbvAGQ0Tv:)
p{/^jU[K_r(0_$SUdyO(V}&DnE_{O1N/N+#L%bQVyf(`h9u{[]`SWV>{`#=]w;}d{k::3)LFn{UaSlq39>$Ep1Y_8&LoD?v4_`~Jk7SsB&NP0yCU^Se^*MVIp7YUaor3nGw+[5^E]Nnxu3{2dG},];
R_dT;ZM'pL<!KBA4sp!fGxE+Mc1T=25eW<TVXRBmQ~S'^dFy,U|J$JRctwD!`{f%7j_v;Fj=CXa_w17rOJn'YH*?Q5ZO>ENF(9:2<9)`8%O$B**_):6q6)<1i=M`$!.?}'mr2A%`3~(vOpVyZagi9O
Ig)Lz$NN[VaBw!ZeFqi?MzEvl:NB{P;v#p58j+[0+sBCvw[q>!sBR1:F/_{fCle8e?^p+.!wsct7T:)HH/SzMRxo6II+gjqborL[r<9jRsk|8~;fdQbzJ`/i:%nv,&opB^/79[^(K(V)~FCuCa,))%
RUm[+EHv.(O2YHNF`Y[1ww=NK;!m;(KkY;rZVG)78U,`/YtdW|CAz`56t#Ie}&LcD60|t:5GTcUi;jCG6DhC3R='Wse1'+_)IE&Y/2>.2P!Gj8aI&5)emJfo5SG1U+y;Q+Wn:a8;H/A~DL%yH]8&E3
W/1i;GpVn*JH}ewx]`a/wC~K{dN2tEXuA!9>I0EO6%YW7XSBXC{#~z4FUj*r|.Y$p!jSQ_Az{M+E~W%%<Y[,7|Sf]_+o`M~4&8G2q%|8_N(vj&Od8I5ooZk+g0#C#%:He7IVS'~}|G,lJvL&PN}1mY
o)K#UTzQY'%6C&eVnFLCC=zswEoEOx&Ma2Yner7wDQ1iE0k}~pIZSsxl[36x`sNlqPRAn[l7<YVzjOg/q!Y0o1]}H4B&Fk,|s2eeG%_E7|Y_3^Or6hynxhh6K6b%<%ZGyPaHlmbQ{D^EKN,_F_kDu)
~Dt8%:+TzjTrVVw<=%qk#rl~Iyol^R09qwUn5DQ8^;WHd,&B#4$eveW!=w8S;Q']sk>mHmO!+;({e6##!h|P,/*?<W!}PMayQ|p6Tf_Rs]2$<XaJmYwiP{rK?_corYZ*+3n`<SFntRu0w05m'/B:.4
d2k,ajC^zM.d*3sTa.JtNiw[u[gDAKDr^DPq<H_ij<[iIfYo{8+*afFB`1srJ`aPd;6!;o3yv)!wjnGipA/V,vw!yIc#G+,YheC5%LoH0x|^|bVR;$SB{lNBWdGAWg$47{^d61<8yh!ALP:;dyT6{?
RIvqWjCun$u`U.*5;(j>EduY~nFrjc:O.iT1t>XO4T8)7uYs,5=Ef:'nn6t5Asy<.QQ)fU[!WMu/$xNNWqAb%_<>p<^pt*2=z6%_sTZnb+T'L~h45Tz58h269cWuj2Ux0x>#28aOf8tD$Z=1QLQEyr
rPb<2i9m})9/)Kx*,}LMu`K9vOcVyuYblt$=^t2ejtKBlp6+muy3f6%w2*'0TtqoH.HNfB!quI*Wdt91fP5fI1Nwi9p`t|eiJv1?Qdc7db.C.R~#i|tNLZV~|/MDZWK$Yi;rixgd!xq['m/J(D0w)o
yxwnWNJ!hnv9Fo:]e_4B]uNGM{mL?Z[Itxy,iF.=Gb5Z!TNp(aj|/i_,CaY?r/ZbbSHYvHs^it+1Q~gcZ;>'RXk]J/g`%A*9qjeu.YKUdKP3g3{!:?~'r&P;ca2'cKt+jXBZIT5{RC[t*(PvV_4PEm
.#'AFZPNs>XYo&|7pJJ)/`H=H'l`N1yODW7+3wD[M+J_F58,E7iD^'eph|}<qR/=9OtoOUgsaO8E.Ie1Ev!l)`wU;aK}So}!sI^0/9#SNQeOA.sS)7UnBp.L?]95oLlY^n#8zW8Q^u{'C_8cUW4i*K
G3PnW8Fw~/3a&f>n.4#EqK6QBk3nv3a;|D7Ma6}C}f0]hKOt[7<3x6l(Tsrri;)aHzUSj+&[b7jXZ:QWCqFttlp?r?1L/+N{|AtvSZ:?.F[<{3CdH&06B!Hwt*OZArblkHZ_deT!t+^u=Fgy#p!sfe
H0zU(wkT*>O1/l9Q|0auTA'i>}v/`'1{{umU3/ke`FKg0K$&MBr}]PIzJd{AI]|>0y5n>;Fh,~c8yV&,cyY^iYh<qf~m%BW[`JHq2^^UEY0<{TJM0U*m^YQt(_?Vwug&5|b>*{$Jt_]CWO(WT)&_Y(
A55lr:;s^!4^8QF%tsnWIECehup0Hu%uAHX,.`=/t,`t9CMQq/22xas$sad}9;HiMh|A;E`JjX(/nftR&E1zSy$`k4Dc;O2pTWVeVq3v_pl`{yGI0,08upXuVf1t^4fh%ydg]c(==$Y:Minp>yx1|/
Q|VEFtDk6SL/P|nJM7Z$CTv'1[8]$9P7pdJKHhq>8i$/=Y%255XN;i0I3O$})%OF^7k5$Ps(vOC}4l1sR:ypqzX##Mmo5^em(wTWV0nLiX?iP&=_Hf::Kmu5{pQ<s#pArCvbF#HNk1a5Fa~$Z]Q;bF
nje:IaX=FmwN]8!_{gc6%K5(N&)q[K^+}%m8:4%Ealggi<jh(tn_epc%iA1W^>(52}1+dH6X5U+cu$5!Cf[dJ:BO>}uiegob{r+iE95(n!!;T3AJ$8E?ezkq5xh7f0ZM1aU7hyrE>eVg[nP+~=QJs,
}*iXYYA+h:f:wSqB^ot>]J6MB11>p#VlE><Oh&f#I~R}4^L3O3Mikt]]s^.r>{.:BQVW3xAoTF_:!7sbk/Rzp6l^tXL{hZs|}<Ee&J$BAu2hIw[p8+/yNR`Ety=pa%bcn`f^!#%synV:_WsRvM?%<I
!H*{$2AIU>~op#;tw2m32Rgp^.3KE[1d]9bOf{.fOj$2j=<=s'K$?Qkk8&Egk]w1oUQA{VEN3hY9><*h{bp0YNIp56wjeK^(WY:+zEJ9!6%e`D7?~HBx=lQOQ>F4<~h~b'A>H%?))WDB*?]H5yUn:M
zJ*.>?Js59h`eGvD3wR;D$~?.u9L*!pq1))?:WO!|fMeM*?(kbZHtdc935b_1#u%,>,Jf]SO190SQrS?jE/j#?<:#x*aN`:L=LMVxhSEU<L3>]Q6%ujR4==(J=VHhHOXYLq2^9V?f=|6SzKId>]eCp
SIfNovW1FMHo77O~,R+jV%UGXj|s6c*[86^.pc2!rJZQ9y#jO2^texV~Vut<d%}51y8r]mG|(VuTPEWm8T<%)]F6Cl1E5.34&hDC{o.?Ecl<Eza<)YXt}|Nc#W5Rdk<40y~6D13]?2=noMn_v}Jgw7
>CMjEYk}*hHw:=kb+IA/m)vQO[YNXbrSRl_2AN}.wGj(&0;`BWpZ*D{5;]5DXc].gHH.A<Um`;0#f0BOA4mL9tt>Z['t)cJM2VTJq)s&0?G1E3sZX`H+QgSbW:1vI<D5VsLSjkpw,F`3k`W%Qj>N^%
YUtZZ|yVf85KE$>Lj6:l5RD5?fLe:K?3o|Q:MD37DZTMm6drDVePsmI34aU~T0D(W9%puO{>p$u.V[1Yuwdk!Sy}DA2O9T]nSF]|Q5Z((^H[_FI(?SGB9j:W[FX*0(ZNdg~{;j!lxcTU/4O)WkG21e
bEiV++1Zh)rgpTk+xt1kufjWf1Qzw$b!!yb?t?(1:|l*H_^:x+0r6d3.2o~vO'Pv,.ZAhUrR=k/7d9EHU/uUq$'x86KcZ1|sLzV%=m~RmQC19XSdwKcbNCvopvy}^zF9jDP*`&(x{mc4=Cz]dsV^<#
xeDS{/c+;&oP%PE_%L+4Zj:gxFq{9]amEoGAMG9kogD,sklxsB&k>]*N`B;v0{2nXF&F)#WFDpOdO##;am?nK;L~jDs0bUtt$(Qii.R'!<sHl#:P7Dsbl=r4|X8&znbl_xn!Gc0)Xyt>WHx4.w>Ey&
75F'9,0't7b'X]#}&h:JRI6j`EU!mQnNhA]7`g$0rI!H$o6q~ZcRD*C!%+p8R<d$K$1~>)aQs*CUU,Cq|ucO+wi:|AO*O(kE!j.h*!.0tULPvMN(8ZxVvZxx/FAI7!$es0.YbJ<L+ZEfHt)120I(&z
|P/q`<d+|g<[fD1lp7k:V`|?ZaA1$y!=2OY(mnN:{=6y,m7g`E_DzYm[=X'O9<=X1kLR)fn+'k=ve%QUK&Xw]<5'aB}#d^:xu+E(>`c*V!6?Q$U'G`FHv(w^t&.h#XscxzBAf*M04vc$A&P~BJlo$(
U2Y2_,Lmh+_D4^WE4te+l{1]pC>GaJyEYwB7cp21fBjw4/ywFZK;RSjwT;y?[9(qaVJFLGq,jdX%&gf,Bs+=h3)0HYynOj{s'%CW|]=N#Zf6xmG0GTAj1Lo%054J=~DpP+I1l{'9I,_R256+R`KWu`
6Y#Iq05U;0Q&x?,^*fjm<x29X/pW[<iyOoarHk!vz%8J,E(}D71hDfg(),2naIyy.%<69;W;41*][<N$]gs33yo0{910oX{HtsYUzm2C0|r74a9_c+#cyA01llR~R$J_!;=o]TXk1J7{I?fdC6]Pg(
()PsB>H&,8'qMsi<}'$KV}b.)'POTW.~#QV4dQ}G%82N=eymF;4!LGajz7Mid}3o?LX9;1U,1uyTA7Eox40G^O`>%=o*#h|M3<l,z)_#2GP.(fRV?<a4ZI+RX%Rc`Ce`WQ.:`$(ggk{t2<|f]kCluz
2MWpZ<WACLOyP%L{>XbW5VmyW,$HV[.495~%+y_6lmPYk0_X1U7voEE$EIo?5:khas%.{Vy,;NxQx1?e%O#W.z0m3yrMnr^Xo/>'^35qgM{{*$?pcJ0jVVjQd9[B](,J{h*:?J9(e)/W61m<LI;DTc
Ip)*1.E{_/u%o3J]H%}:dlv)^rW2,pvRW%gL*j$0<(]!i[pqoV~y.],Y3sP[r~eM.yE&Qqqr!M>7}U~9>eR{v}GeoLZ~}JT&GX0&:M;T~5G(BFCRf?m9#N1]t.Qo&(2''X/0|Jf|EoNSrz~W'bSA_P
Ja^&P/mQWvhj={8vHY/1*&GI+~>G9<[3bdg0wAW)0np;6hHqIaKE<HU~t~DfDU*3,5~>tjZxHD)FIaWJTFZ%,/V8`o~Aa{FUe}L'.Wy:V;vw_%r=4H}72hATZew>VTbbu[7f;PXFy^u`lnq6]#WTQ{
9q0y;nK.mDVQ8B|zs2AWg!:Ft&y*Tmib^WW9GJbZ5N]>NDQb^]<X`n|gRT23Fx+kJZDMgAz*noU9aK]!OzadJ(EGor$Ox84mMl[uAvJ5ys9*c{y^(DA/`cpu5h/QW7Y=PYV2(PK2fg7_1v&bn$BM5:
0*TK{xPJ&pPRBE)U7kZT$JK=fSrz}YY3XfB+Od:R{T[%Io'1HzXD?A^xDK/$Xq#Sep)VUR%]Xn`^6y3ZIiV}G!4q('BR'jqFx[;)f,5^_yI&w>;7;PAS/cm>,8xH7Zbq>ok0j3K|CeKId'6h?/cn~m
lShQ:EKxk^vIkb%ZyW;X`P?iKkB:t52r;ZJS~|&Z[oV]1W$mxG4`gT.Ahgf!Hi3u~`zFX,t=eA8uBd(?Lzv'm6o%Y<6FezZ!p07dma:!Zf[%wn}b_q'V,n42<e{e'iXFq*fQS3$3qS$>,[>^!3.c%_
odi{M?>A7?P4_uk<*K$o6dcrrL|{B0o9O$n1;|_LBT7ZpY!('J!U=?:7ql._vJ0B=]ZZtlL/w:#VpCnUP|r}`U))8:j*]F9H>xDm$5^a/X;tWm#Wz,E722;0V}8#p^<^]k<0?b(}x>]JFaLo&xT((N
oU8i%<>dk;U|*t(t0c&k,V.u9PE)6*5!3/tVXat`UZ&oV!G;ju|:FgT/~&1Ektf_$0#?HUSW`aO*fQV=CP$gg[k5$s(?W/a:L&.TfSKO3a=O1|3=0>wCYur39T*gnIVY)(Ypy3v/$v>X[ts.$5LzVb
?HE)(frG)HqI.*|x7cJ^kShbv(m#;ToW[MZI(2J.$PIl4LpriBK}?v(^4:fV5;sDa4U~v}H^B0Du>,Jn}5}4c.zYh3^|u;|;`gk~pi|k[~T]4kLkgYPYJ2vmny+KF8dAr)*<)jX<uKjxB4[&'Mka0p
mGs'aOBPyX:/!R]Eh?3f.ZO.2J`:pH7r`WdCJiWJj66:s.S}gA}SB:4y^Eg3kOYj9Z$|2Z}6k}tNth`<oAVCLh6?A(FV]%K4)9%$u[vTRb*<D)e/:iCI=mfWq<|8P>/p?4}M#x|&<v$std0&(g7>[M
2M=iDn{6XMz}ieJb8l_wc4B{5ZDM`om*q59aF}K0s=I(S*8t/nx#+z2If|?/EeyR]}72bd#RH;1oapLXfN_EK_)9O_/p=EydttEM;JiM}rEpC_v^]AFncZ<uA'hrZ2'vdm;bnl(#&tXReA1CM9~pZu
d{(;Xn!J6/]#B5eq26$6kgm%P#Vm`UAAi'$VK%v2cO4[K~ub4<_Tt$S&MH98>IO{A(Wf|yPz&Au;#U~IrwXp;{/!)Fz~.QJyNRa?pNFb4;(=uZk5%p8nFJ5e5c+s)q4'DtnE}9k}$$T&T6M4FG;6*q
`/xG)NxP&S]eil#4z4h2tIN|xhlw7M|GS=4*>!XeXTR`]rZA.`tgw7=%oFH2n3E,da7`}Fi%mrR|181,1)ipPMj2;)x{s8VW$[4ivF}bc1f|W^P!PmGL79ZKu/dYr*,=%`nr:oLa2~dxgDzxk5Irn0
)]eTx`wB*BiZrIBH.g/QbE)p[yG%$._=P?i}=Y4xLj`/M=FiHt;1e;5js~+OBXDIm^'s^w,Vy647iI91U4r`6lb`IQ4&)KD1UbP,'lv)70aaifpQa%zv6E9j1KyxPc~xfQ'G2K!eSk`/(0A?Bq+.mQ
2{RJn:+Gzi+X|TX9d,=e!6neV?sXjTb4IG'vfE:WVyi.R<O?RV:Cl~522vp8zR/lfQ[UxWqRbkecw&A$Dfr*Zw~}6Qf6TBcg9iwZXHMLbM~$Hm|OPNGL.pk7|,$+Kt0]L{z#u~:j<DISR[!2eRi$yC
lj2.7a8#8og`Ii:ZCCCUWaW^>e(`/mxivNh*et?|2Td,We!3aPWvY'3v{FVxP:s!D1`M*YIEx7k}L%tusAi[,s~2gNV8RU6WT{Z'1LsWkt=N2xIio0Xz.CM.2rcG~gX_HjE{'nL]NDo1']|<1$#Al|
+T`m]5y(+(XjrH:bxcWsS=CIyv0dXXlP1=[>dD;zMRqWKZIGT(RV:#qkE*kj0jKy7;6m;[`y1iQa9;L[8_TxTTbu)=_Bi0dYK;n#mz[OS]|J++__0mS6E`}0nBfv~vChT&wnoUvHBE:~1rF~X*+2Iq
2`X|ibV3|0zE^vusH&^F4d|whBggb(|7.^vmg&CgLq9G10v2hz?(%gfevwjpycTwR+i;.WyJ+OW9])64E}7K:(l&rR6_B~N29F3;#h/Xiv];i^8:Du[`,zfCWw$d{O[qpJI(&PI=q;2.fzT66JeEgn
/3d^|Fg5{c^KpLbKO7V1?Ir%aeB9SU`e`L2d_h.1.K#~n&bC;)|eL8>j}zz<o3qN/*2EwDtQRhgD~[T)Z&lL2zV#y7iF5z9?i|`JZ]]{aTL_X6hzQHza:nC>r7pSyXf/_']kz'E|>r^P,p<,I^17S3
!waULz=4YmJDu}k`FiC[}=o^Q:k9n4Mo9}M[41u|3/A8F)qyH=<Os/C~*9S:[1djZ^bi`_;KUB92:QX=;Z&j];XN0cIj&MLPE)d&)6QHFco4ED{mUju{T/xnxkHxze.uCmo2z84OU!H,yZbWvUZB4Q
Xuz0!K`d|E[$UET(e6L]KQfIYtH|ingKss*k8+r[^F*~;mtY|]cw1U$&:JzE[gHrN=KB0i#VJf&,[`lyBGaZ$aSE|R/7b=5&c()HPi#A>>]iS2u$k;2ai13{fz+Evl`_]5[mfR4Yza]E+qvNG.sP]t
h`v]1S>Q:u8tlgs#1BMwox}h}bz'U|wTE}<*R4VY)=o:43'3GUY=,?bp={j,#HF9FW0JKbJd'x~fe'x#&^`D/>S>gu_BRksv%fHeF)GTeR9?$vxZ_lnKz=d2#://g^knF:)):?k$X#KBV>!iXYhxw^
pB8R[_$c$U).RtGeL5|~{c}UbQ`toGotfspfF|3qnV}Ia{tojE2oYvMI~>QnsKiVak10K/vm5,&~Cn>A(X)dpnU!0|?Fg*akttquc&LEsie871l?pmTQglFJb/)6:5jQATUutCVW]X7:X[wIYRa$B5
S2M*B:|qP=]ZyufSq?2l0LpzuExT6^~fb[,dnRK<L4IQ}ol$f.M*L*U0j3UDmnol(qjkOnv9;`+Xot'p%QM,>_<3i]+Qcm{7q$zai(T0aMA1A`~E>Mu4Y=x3P:;97Ta*.[lY2Bry|Qq8YtTG'<4k~Y
0}oOfQhb>ug3cbXJD1^2*OA3jrGZF#dm|+PeUut}^j7{)sSGq!34oOu5(.Ut0$#q<afz04w+q?YV;L?<4;b3YX6F;4X}sbV>[]4SKaKZlMdt{rfUt~SyBU99(2ZzE~=,WkjtH]0YL,p.jW|[NkqOZS
.mja`5Ab^{]t8iv+8h[z3]l|B|:/io4Oo=%CnwshyV}OH*~uRCF`$''$a_8u6CM!|Phtz'Z92([6|Jb!]^>%)1M?y/}2%/b^pe,nC$qv.2K*2>a>46EegU7=^oy&e{qmPqdYz4[2i`2dj!7}yh,u8p
g*ArgP!Dxyb6r&pT/ULBwaD..o`?:7!BJYSXSsPn`~O+N(IYM(cF=tayHCx6Q+*r0{:NJcMR[>*OEWk~_Z}tZyG(f6}KM;kEWF)OnF;4HiY][W3VZJ)+_H$pH`tRT.x~yU!2w|_]U/aBP6xxe'rz~F
hHGeAyxP5XLprLxbjoc')E`whQO'{O[9cC}oSemy*0C8Ggy(O&Cke#]=wH<w'>>8[`^14#*q~A6X;9<;R.m8H8c^B[IVt?9^at*tzm/w0<TKs~~o~jt3?v*y}o%B>8w2J6{x`!]MnOF)x2_KNoXQ8k
&NrA&f'[u`1Mj&,#`|2ixdN~TW{gd,4QD!RK#rpjB.e2=M2mwmTGaJG%GWkk1%N/1+U:y,]x1.hte`:/Xuzz2lOCA5hL5XmjilU_]Ru2KrCP`E~>~4$.ibA57&C!$/QP'S:7ZCo_`vqn1mno#)G^%`
?;wz_!7{~p!xdSHUQi6I3Z{F,sDW+AS+(PFg*,vfcAuGmspXR?W=p[qjgl#^/5DtStJ8<iuyd?+xmq#w1~%I7hWF6%1Wgr]ii^>)EdzXblCgtn1_q|piaxUy5OUxWUC,ul$d(+Ni/Z%V$p$m_dd.iC
hMHBa.nI4jL5TOf`~O;^=}`Qcpr;Ex~Dul;,<?0eUqW0H=1*EZ8Op6sO;2<kol>cLDTtM7$%R`G#C/3O}>A`eX[Sf`rfLq{Oio2(RQm|en%,W2i4f`qaSZ0Lrskc(9zo+j6ruUUg4uvHe{+#Xk01Vu
('V%{HeJ(77q*?A]5z.FJWV=dAdwT?kuAVz()}1*oteBp9'Z$T4K/A8MfFO9sn~6,7^G|a%K?zUr`THP2$W;aoCWyTXMAu3>fMaU0]E1x7MWd,sT!_[EU#HeY:`(r9xQr,x]3cb+pZP7n84k[u*1yA
9||mf?VMr|QfDE5n[,#UzX+HKX8KqgeD*EW44(>&=_/>%{))OOl$Irql4ns02H}eXH4j..jmu~i|$?)Z<cO{/~F!D2N#%z;*x+aCUTTbhUUZ~gn9Bd:gLb,H9FE+S?Y8Sywm|N{*8^6og1aGW~:^Dk
$!Wb/gA])CfJDF.3~69B;0A67lg(RWu,4viU2,V]]ESarrw).;wwFN$MCf/ABh9vQDHn&Se(pM~YK7ZkHwUY$Ul=G4>anmYx+FSb+DqEMaz=g7kK$]]R*mK`Wmoa(N)2<J}D*j[YUa4BVf]SK?[M!L
8oONm/GojE!a94s3zY]oc^q,1P1CW*8A~UWJEn;9c%LX9ay7|a#_5uIXGO6{A^^>k8KzDbmk0'&b{EI#Rmr5z(t.?C<dLcln!RRt]#FIlxnN~E}LM~{jZKAPFNvvQ;BM2hXKf)9xyqcYDJ]ax3XO].
DL10`L|U<'&CmJ?Rv=8pMO>uJ>BT:|PsbJ1CD{Ot/Pxw*nvL45{[*ObPbcENCKaoRubk>CT)Jv+C=z)%=cfN:PXCAV5uRGxuh'$9BcpvtXxf`.Yzjy|b4)rDPk$ocGN{3R$ws{7fMh(j14W$P<jTG}
bL?:n9YoH[{B^*nzB,#;6mtED]K&l:6xsZf<fX?]csdkl:$X!VTLaZXtqLD5a#ZGc|TTn~5i$Gs5=N&`C+~(N*g[7MPR+:FB/d9f&eJ~jaB.QQQIc'QyAh/q^N3)+MrmE*daeICL)~*Dbkae4ahvd<
9:n)dA8;RjDSE[*)+!B=:QTTPY;ZBsU1R,;etf&/$u~BFO9ixfJ(MP)|LW%Uba8bHM(rzIIAe9/zVexn[4DE4_k(X,%Z){Q5*P[sz6H6D5zz/mr;.b|#lHa7$5D=^5JmC_=woXJ/4yg;mFSW:fKNY&
npt^3Ve0)Nz3:+I+>qWq^[PV,hYLnT;1Vm7S`a#Q([gv>*DWp**'1gMH5f'}tcW);yZu<~/vNIhJ?BJo?Prq#oXy[fVQJ?Mz*_9LaUCd5#+Ca)Bv?|%`M>EdE~w($`U{<me_^5X<e'kTsz>fpdw^~A
4'S<CJs.(tBHkAOo*Zbw$5y]mt,]F{VV'iQP?V?q9bP*m4fiK40H&ZgHBK$nGl&CJ%i%O.2UQ|w.=(E&`qPqro*&;k./|L.4pr&v1fv6:v500qu9eMfD~e)t;lL$bGDNoCeIax_P*;'seY)=*]&']O
*w=B|LEIp+a~<z?UXloBhIN0cg)3_u1UzgxJ5*9:3:UGI}CkdZ.h8P0e42l:wJXhZlYFOK&Nv5&<eK7IWoWk>Hd}4)<^|m?b~|BeKX%:P}lyq^rbN=R&&1KwlFm[_JIzzJ,py.A5n<{/K*:~_NmM8x
tck]uzbPG(^;ukj;Q:vk~IaQ^O>G!*bCc+|`;h}?2lNA}=A;PGN|_8(prW}p/$qVps}z|x9'7H^_?M_6<C^i=qX}hf7X'>P41KqKOjb`v&Rr?!nsHcv|i?lafO?rWc0a^y:LC]C*46fm`1LW~(0+JW
x{4aYUJsH2;cS:^yME8NHCi~aWz(*I.[yf1Lb1f/!ZNW8jCDsx9OjMxFwHx$BC'V7]I~KEeGh{{JN7;'gG0%^1L/|V>BIftR7.s|7kUo00<io*}DS]pjF]:g'~vjTk|=tyzI(7~Ih)SqDLc`TczDE!
bhtFH'iQw]!Q[ioS)Yd3LOdsgR$=8+;WNo13vUi&_OAn{Yt2]!7yfgUfRIw?+BkoBUSAlB%$K&Yb/m&JDMjwy`4X~neViJO_%:%c*6$U48WU5i!GsL6D9lg/+966Ud>+'pCY1)exkeiS;/pBV|Fr%G
*Ik!Kqo.[iA6)Uq!ZJ17a*L~]K$F#UQg:p.pn4KD$*c7XSvQiW%Ivy+4}+sb3,KA<w%4tJ<WYgp%Gbt1g}9VPGZ^nAvr$x(3U>&x9`,KdoHI1vvtl~v#?I;FVRe[/rWwGWT?h`s#I2nJT<x#Y)cJ|6
dZ[C]]v':YVS%[#J>d9.gI~Lot8dIf<W.I0%{vcEr*$d~~(tuO5QX9z<dw:Mcya<kkWg`/7NFbFw'K3gZgheu>6iO_iQEE~Q?C*[nj#Py?6s4m>g2hbX?;f^XYoIEUb$p%,Kg9uNDh3b]dbJ:;OiMr
Z+dd.^nH?sN32&=o3PC7!UD(i<7fhM!o'HO{RptNz=*iDd7c8#q|]MYII+kgtO.TLp9JAeUQemzmjVA0oDWR(B?jBo4P(Rb+/|qMViWz!K&8`fGoUKbELZ1aDKpKGpb/1x!<{]dSJpb!sidZ]{zk+Z
XAtUNkhtdn{$Y#fue&v6xwX6WY|teg+fIekWta7Hyc]2ZEIObPCMOIy!^=Sys|1vBu*^!Mg'_jhnywJ]tNZ*$*R~CZn?8Ym9NPBx?YQhEM$8cy46^#hjRzy{?l^hB6?%&IBR*w1NnmORzB#XE;.jpm
xH9(M^%.4t]Jf*68W(Uj;02'Ynatk.GqlETH4=$M>,Lxtk01VFnD.s31EID;uJBDiT3.B1n*LjH~[O|!`)y4`UI<B+k*hK4i!4]nMe#;$C'5N(?p|m6U1HKYQrL>RWaiMmP{t;qe(~n%w$CQt}Gq7J
)JG,Za5Ba0$<Jh,(I&.(>3vQXoK2KqLbH+}+(TAa?qc,&{24`flY20&V&av]/`<_gqVv*l|38!kfwl/YSgMYH+!|GwnVCk;o)Y.*3gsJS}m^}^K0VCVRxv)<h[BT9Pq!0Ey]hq<{X13b]QW`j6'C{9
&/~1PP)$N7e=Q;uT%Y!n+*_wCuK61?7=+/?ErEw/RA7N1T=du;/2yHND+;CvRXL]vM4X:z:d_SJ6(=Y}v]|P<Hi]1*g5hu>bNgdt*49gl9{5ib&pY0DViF22R;7^tXC<VXL&NCu!2/x(&>pkZpj]DR
]%'*+uN}O.iT#3S7X4UL3ZB..q)fU~W9IlY?p$AqSjwss}bWNq&z8$^Dr3U~`~9yV`;GDgAtTi,:<7+<2URK;$G<:e7QF%}[(E14M%rm7ZOVMhbXGz'Bgv>6R,`V_jPU)_s%Z0dcoI^a}WA>8>z1Q4
9$&$2Q.|c6CJ^Nagd%B[_lC!^m[7k7JtrzOwDjoo}BkY$)KNHsvf5?(#4%S9:mFcv;2zv)~WPLzvW4^=7sM8`W2pGFE$=59[K%rHSSfy{)ndI=~F.^sK07|Ru4[TF;{>Y!5Bzmp<#~!sb<okeA'{Fz
dAn1m4>bLr'7A`uc_W{<C2r1Egw'cGtN_/$j_171<WKw9fq*b,'sPoG+tAuVZOWDnv#]t3h4lqjf^[M&QE[?_sj/?M/39=d,*Sqwe$^l.:63zOw[7M>ap?}8ar|v~|{N*3`aa!SJssV{Q<o/eo|#d6
B'HpwSckVm=F=B(%HFl'D`8b?{&p<HJd[]4K_j.rJxDW>$Cvk9U861ks7gD#YRV76yQfm{}T.EHy[^dV&'0ZU48>m)Z(3t#{?8Aj3q.4v1:8wR5p!%D/keR]YA2z#>7^5&P5rKdrho3P]s5.]!9eC9
Te$9wIP~HXa3*=}^V%^~90h%+(Gc<kmkFlGW&]QfEaMU0q%9.r_tBfo<.!eLhSI,VRlIe8(l5RNHwJjWa.zXzk[jEzc(=%=rTQYQsVq=;nS=?{=d/^^cAzFr{=b)!IzBPpMS2m{+WsKOQXgV3JUR}M
2^Z~Ttlp=0sO0{3:[_&Ce]o0/4h4Vx7dxfMjo10VUb.NC(/%tny%f_5{%KqY80lXLTApPJF9[vn.xuoWmkiAfVh[/^#j>}[BAnub/YA0%[FG,TQUYL(AbN9noY)ss_7p0=iB:<sI$~zw3i'9NXi8`t
h;?+wUn?%ChYyw3Ha*~2d)do_N7&|CNl<4uMSTvb8JO=n`j6B%Y)/=1z%OsoU>912&461gdYio&g],j{VBoiW1Oj|nS$0Y*g{)0#)[yUB.&DQXMtsg%<LZvR7W[lq[gJ;z|mtioeW>v|>03^R0%!^*
ZR<|y8m;5+YCQX59tAPv5uD%9H[O`NbtS|<,$pGPE}!,+NQqtr%!UyJDlt+vjH7u:uP}7nS,;2]((`>Lx|j!nXq&nq?nhpMC7l<Fh=a:Fo+c44JUQk5BV'9wF*Cmk~:MR}9DB_+p?,`J^3jk>D;Epp
t%1mr)J.V<f(8v~KZR!VM!lMU9l)e{GZKPFb}1=(K}sKJ;9Yi=7]eThA}C%odZDPEgl{.5,V<k5aT/w4bc9=[ner!G+/T3>R8z'4>pw51<v4RwoK}*SO^D4`RD`Sm#}:?CJ=;^4m=mf+<0d7R?caj6
JE6E9cNzaU,e'FG9U{y[&Rkb<0]bv3/s0dTF``e:T:8W!4#)$[H0>e=}Y3;i2w:+3r4UK~3mHZKZANnps9+/x)HEZDZ{vpB*rLO(44,#{80<!L?y?*W!Yb9rvC^Au!vY`gjtRAk^X2z0l}RzrH3?lS
g(<qz5nYxApyL|NK_L6wo<Sc`WMRC1;|j6MS~*He*7tC^rv7v,!Pu0zv[#$O`f;$3E?Qw{P>;T6E<4,cut|x3LV|%QNf<tV_{Z=m^gnU.aS;Do2[QJDZe|T}R'}b2,qKrF?J#3HVkT{KGKpD't,YJn
A/z[pt)~!PX*Qy>K+MLG}U%owF)0L5iE5FVMKw01b$8YxF+N?hs&d/;!mK'%x<3hE2JUudc']JH~so(;eq^(ZB;IoauHj}8mu)5vlR`kbtS9{Qi(j!$EYBrLsM1+HhFA>[`+ytkc.C=%lry&o?AB6)
B`>)/eU1|k[_8U(.o*6nVu%*cQ0R6TKt3Sr]:+(SN56KfeHH(CH/C5<Z)/K5wa&~0q3]:Ar2vqj#A?nDs>g'[iBc8b,7`s7(1U6W!#iCjqh(J_NEx!fA$`.:|O(PFM~S73ZLamd<Ci%fFw&d>'I`Jn
Je!`m4]k8TP$Hv(g.3jH;sH[#OYPbYFKvA]EG/|6X5Yn%6]yla3gtE)%(EE7wl8+OW8ibeg<^xufT.2j+_L`sh,ec9c#AlkhfR,J*ocT6^q4=P&TW584FV(TY$j8!dg[ws1:)EUjdEXiUrq[M.amiG
uLCiwnDgxaDxYp*>rlDXI#]S<![#ywqx:CQcEe5~?8tQ.%~tO*H_.NzL1u{XVE{V*5I{!f3nMG2MA*;|.9s+h6|ty1)U%LJW=>zjFnD4k>xQ:^sZ!2O6#}ovNS?*:&d;{U{*mK'a!fqxD?Mzb4s,:x
ZYzW?<pOv`9>C'IT+HQTb{LYTT547LA=^2Xfg?g!Ozv:{`('fP!|d~}jTJOPwVmI(P~byg=iEwEAaKGc?b}~_Sdj{Ij>]t;%bdJrnwTA0'Pn{O$XtbTkaP^50CD{k]{Nl)B&P][EAU)gq4id]ww[pl
.;>Qs!3,LNX%lZ?'aAz%koc,!]5z>!o2PfSO$Oq%8++d_h^+4*Z!O7xgF5LTFj+3>>z!H6U&(wU<bX:?&hVR'%gOT1(`2m1{$rAs,K9)s}Z%q<h`XXgvZKD3;A:%t?IF7(NjaNHv.92dD4}WIy&|mN
nOqQk<FUpv4$5g|#dxz8>:Ic!o'HhmeIXfv8,p^n{Qf%aW$OezMFz,~}89mHF{4ftpGwlJ_<C}lClLj7n{,B)?Y(3rW5mQ~3Ef37xo_PA?kn]:E74iA^!=#r(0i1]k!h3[TXYX}Tvw*m}mbN`oxO8r
Y'0~(zUi<w^reSx?u!V_.W!N,e>#Mcl8y.'`~_2m7l]v2FyYCXt5!fYKU|ByVzi_E__CfChp9,}zIT}]u)8'I'lbwfZEG9|^Ru[;o#WGd'9,S[Ji5etfSnuYQqi8d#a':tK5??DH&7O#R)mpkW'm~(
dRV}'ax`8~/]w|bAQbsDBG[>9_8Xcl'9SFX|[<RtFBhQv,]j/]SxHuf<xb,PY,d^Iy,`Y7Am,C7a[61j>%dzovEc#A463U%8}P&`.%_<3ygY0s%GcN0Hc&,Rut`;p2z8q[:h_UYKdgk!mdVmp!W6`g
D5+h<^ZyE0Fd$75cS'j(*/)'9'9NF1}p<%;&h0nDeZOh6/tFrceo5Fm?$)=1r75*;#hXmYT$$|v}n#YHbkyWR!Lg{>%KeP_O('W{FURZXzRqhg;fR(5V*P'$#Q:a]1nT^~juR7(mGD.*xL=,z>wrOy
/H*34s.2V=mtZqeK4wbUzv!,3YV,R6RIPzHO6Typ2F>jPV%s~>P#],yX_D1MDUVFhHf!J[n/wvO+cAe!vid>j060Fe]qI8,?yE,]V0W8>cefMs3S=7ZiK&;w(w?XH56PIz]1MU2:Ct,L3VlO`%E+p7
g(GB#V3VQ[~Sx?Ai0CUsUjvZv%mv{2AeE&Z`NrSVTO$>z`Gcss0XTOLSS}T2}(TM/5hNL;dLJbjx>E^,}`g}7ab_>h<D89q7WfOSE9{}`alm*&uSWfOlaMLYE:CYnK0,:eLXVn%+[D_W3#,qF&<GHC
D+MsMw:/y$O$swn/UrBZY3fO]yZD[c3Pt(hk+yNyuI.l(h,#G{m7reUt'+cf#qQ)lbBkd(Rkv!?z!ucmvD/`Z^TO}oC91($isgw;{Zpv|owS<&w2e1v[B>i`[Iu8:OO^*h0XB:qwp+N{lTkdI5&0(8
u+SOEEF*$CvO6QWAvL3J(9;+wu<i$YENj6iWU3}dYt[c,?J[<si9a!1`m^;al8z4j2{Q;h|O0&HZ'5B'*4QjYt|X7(kx)Kz&8ZxN#y)X0#0<05#uw`s?quSgr$4rNLa<mNOH!U<C?^Ce=x$r?JvBUK
_1:a606Y_h4T?w0{ZEocLWIvn`)]=*8}]'<19I9UD0dr;M$vT[p(y4TV629GsWdPy/[?>Rz=<wY)#xf,b_`YcLrZHve`*YtIS8gpu*,B6!5|Bwug:jc>?8Gt.w*;.MFPV?}>?_cJ.Z^,,^:w|.^H=p
Ke?:8wv|NI3Ct(%g,jS:*!?qRRn/=)(A=h*a5E1x&:a2EU|BV{,)s)Pgli:D`h^KAkl&5)iUu0o0&$!QOOny?E0k9l]z?Vf'n~L7dM%r]5tVn3ekfb=[fSUc>e<'vKAo^p'}Q8KUs4gI|*%9!OPa*T
JGrIXm>&#M=Xb'3II{,'V'*]cpbPMz_s(U0?Lag+Sm::B)9T$l^,v0a&]mh[Ie_~2<|/p7Zw3!&}=R*nlOLc8[2/yzk7.9f.cg6e2(B,WwU98F_pvs=JPf{934,raW$.vhko$zY0P2*(o}qHQ0&8`X
s3A$.K]Mx:SQRm'82%MOM}kye/ehX;DiA9#7DH`>!2m)'ij[q!SAiuZZ%F`N:uNfE3YOr%WqR5:yoy%.cG.u!J`3QbrVSmc&ojYW^z_8*i}D!R>RKm%%pQP{'OEI{2RunGx0~7~O&n}a8[q1+UT.<:
:rYB^%%'u.*'dx$%dM^1KfTQ{Pb;sSDqsg6)iar?9<`c{PAjExKVdB[>omsgXrI7v7Iy4`9t;6]~e{CpBJ^9g)3NXxZK4.3|GNqLLNxfXEF0yg/HU=e/Y|PLOZb]I<O81s(M/44A!CPjuE.(({JaMo
wUZ1~YC0$GS9fx|W8ld=qLA;)flv$q<Q<|Oa`4gfuF%6D31V#5ul$puz`6YXN`a(eew7W<Rfm!4m_<6$bso[nH&|sbT^bgZVI=kQ+n_L8ylw'YE`LM4<2,'driIcpv>gI0q9VFQ8i;NQQ'q`wUxSd(
Li~7ya<l%tIA(!C|<ajy$jo$0MK'[cUxVsjaDF^(9uG<iV7}Zp|zlnuK9JM6DjR2Axt>AR5nnwL4lfamH13|^1~>t;wFmPz;aC]SGj>R~OQuyZ2A>Se?TZPOSLuV^F1RTI3KoDLed5Om]XgJH^s/oZ
1n~&[2(qdipi#4cW?p+9K:Povy${G4|h+gi(e.qZ+0&},I%YZv{.?v0JvuvBHyT5lFNHR:HO0s8hKRlyz.$_fV0|Os:W=%rW$5VF+%JXaeY{(5]6R,W{a4{n!a*3zjI_s5R*&pawGhs5l^xx2M=2}&
``E&!78l;hy<7<6MB5vOFJ:CcW>28[=DyD;.H9t%x,(EnP=x(}n_X?yq(!FE1v#1hedi'0r?wWkb/]Z^el$zIAr&%$`Uc#pWBWUo=`TR)Y,jKlcdnngyKsnVjv*:.BC+6!xoJZ4QiQ[hq7SHb?3CqO
Z5[Q[KrPGAa;NckHtPud8D'=4V6=sQVlNJ{.D^^m^^R7jSs1PKEZ{d;U'0^6gwsWtx)TH~sCSdWay!QyCT~]xW*z9qX~8Ene,M}7%HR=hts7?6CSO<*cg4MA):^9<y5c:HAdRG$f8;HHiCqAE<p#cn
(6<{Z=ZJW{ktcT:d++5V(W[JJS=L|+%OBz6a8ntxGC7b|mma}0kYT]I26ngw_:6*6u_[]iVb(_Zn,kG*u9:I&eCm#9ux^oWV>BF^)Bj%NsRO[/y5aH]Rr%z%7!YCs}duJFxc,|YD[<$)0pq[YI,)w8
o[K>X+!C3O~t2TX5ls+X^F#/dj,$x$:|xGwf/9eYl2|an$Z6':9#e^2v~[vQbvu3u_/sD/?{N6AJ1TEt5YmYMc?o!LU>C:f/]yPlv)n>2b&N7iSJm9)l(Yy1/}wj^}ReVU22w!^Ap1S1ZW**NMYg=X
NYpS8:B)p(h(bRX(VpWT>|:HJj6i{.)t(N[0!*(`o;IXzgX=S_8Fp]Rl#^QvS3<?M?wV^nQayN#1>eP{%wGZaM;MEcs7#Dq)|$3Joc3;'h.=N%btIi95>ZrG>UU!YKp22M0,4cNdzW|wYKH;rLu/EG
[:=`AL.Pc2|HSxRL}'F4&N,'/Ww5V`K99],:sMUaB}PbJR(atW226yW:Zbu/:m}}ns3t`AQC,UCrH'mk/Ii;l<J^%`TXS`b1^Y`BF#g3Fr703,F;(?8+][IZiz.[++P_dweXCH2igcG%Qk#g]|prFL
mfE>vz*GJEcd9`QerCaq2^Qww=~*Mf;j(r0P)yViR!Il[BK'4:w#[YM=HHI'RLbsu1QWiFd%9NR:2h+<Si_*bA/I!W/LH=/vv=iVR'CoC9%%ywx(;im&p$,r{&m.lN,8|h)<yu!nCLq=,kg4y6}8;8
m|mB/}1Comuu~Y64>[~A52wV&Y;ypWv?ts3)CDH01O/CTjdT;B~UEUS^.A1o_&}JE^JjsoC*8$iCF$Z_b$ZFh^4|<niZusZlgY3pE[DJ7qJ,FOn+;gx,60((;nuz+8*hWlt0Y|o>1_pj=Y?V*qS9;Y
;^cYH=zrpj5KbZ#gm]tN(nfY;}{X`du4m97i0|A74<L6Dq65:waT'?02s8{h;6Kg9/7K]#Dr.St0/5/BNVNl3s~4s3GJ/(p!i9Sb(ZI](X5$z<<Z1/Foc7J3u}$9=+m|*BMj0',+nZepS.m`pPX7l~
OMM&)'WqD>K*aQD9{+C;4JTNEW|CtF^5VZi%pE+mh;9T&a!OIYY%<z/e=lrca4yaC'?F7Ci{wsef7!SoL%Mb_D<]&4g}*E,!&yC3advZrokQ5Ii{B!gk#bW3MMX&Hjw7ex,83~}xIB~kyw7>JKK`(6
7/TF!Wd_|~EA}Q`j,l(A!}$TRKD*!(qP(hDUp.ciQR>.U>'+}QS&,{.%KaqcUn>?G^tI&p=$W8$TcJtsJ;W+pRV3!m;UxoQhnMiRrps.x2]ntoAg?`D4{YW/n51Cz=`[gx1AvUIOl39;M>g}me4:3|
(rTKqf#*C!nzd06Bo_Z5RAh6zCFW}#G:i3!2}0cw|2BDrt8ohQ2:BD3~NWz?k3C==Pim6EWr?i_H7_E1EQhQ?aJbj$x?>jrP]g97'JgW*QM]TDzXnc4my_Tc'y%bDPpgQox&=eLphV;$v5Hd#+N**F
';5J^zSC>qZ#/}I,nRy]1HAZcf,QD3f{^K<dL[9K|g7hv%18Rc&T=MUyB]DbI}XPGkm'CpX60[u?^yzK(8z8u[d;X:IRFm`{VCa%XkPVAFQZE!=f0/_%.{>^nD+V}h~pyELmaf;rrIfNMq<N4Q?rO=
X[bOI(1Ql,~H7U:Y3<rX&,(DbnIXP3qw]V,>hp&t|#M)GZT6Yk<H8W,'9M:U/dCmJO>/`]D{{VrJ#AvC?Vpb>o$g>`d5Jv?HokBuS,mk{gg^e65]a3hMQ[#]y+C4Sa8?51<IdQ88[,jDXz3o>a};:u
h]~VD!#'h0`2nM97=,Ou+w3vK_M|;fXX=Tg{)_&*LUy,rylOh7x#XYg{S'%RT1[`7EFzj]BtOHI6!ia=~!SlJ=V1e'L}kXTmK`OV`v7d%LXoUH<P:!Q0Sb^`|T(E*,:/KWKJ4tt5zm$xw7Id4txeUq
{APU.rTr0+fXC(Lt{k<5N!{]QgU;nx|`yt8i}YnhE`d.,{~}ofwsd]x<={h(&S(h[(vz:%D'80TP|a_K5hyNztlsFj)%a!TqL&{hx>$#(m?[)y3$b$sRJ&M=hfUb(Nq>d|V+7URkJ=%=NKwgA_*(]n
k74pzvhXi!;6:pPH],f2JRcNyn3NY92jZC23x%eD:cSoV$!!rFIUcYl!!3vAXRn371FBKKGmI>V]=vY9|jH6%}'Y2/HZn;=8{O9U_uaX:>.=slYqC}l_T~^'**)JwWb.!sXYIi0.)zQ)x<)9?>h(wI
gfwu{Pzvh7m[NSZe!93~`RV.HyZ3u&wmnvX:F_Q_y4[|k`Dy5<nU7hyHx5RrtU2.=z8|.6:Kdkm|8Y/mF_F57iqpx&1Dvk76MLV^q5z7CEKW$_P|CLCTN_Whz~,D1;z~v_4'4q82Htufjp5X<tf;Q[
:h'e6yEZFzp?']yt#N66?cvIl.+qG$U%VH^NPlA;]LdkV$36i/r:)*KQH);_e+S0u3V<Q_+R_dy3hGsFcV2LG5~*}bZQ^]G=eP=o*Mh_Rqz]z_AgiUefN~I<(%)yZJL<R})11Es`dr;owLa`.eGW]w
NGWctk1iICgeD2%FOn|}Ir:3>,jK,C&K_?Y'z`7*C5g)/IMtFns!'pM,W<2o)L|s0FG[(K'&g)FG1{OFz^D!V'u:TqCah<5;I1(b/**`C,l=w=n_+M|B8m0pT:D$R_Pb8T=*f`XO,{;xq?29$B{s%I
od1mQ/47%D[t;.Mk|GKp`IRhnBLJ*(={'aIBifI]dPYn<px0ib^K_%6G=s{TsBVa]mU#.V78TEy,czj3`~v;Z)qV{?_ZuFGn([3cG;%B2FrG[$<W](mLQDS$Ho9o;6DBfLtRHsiWa5nxiUCSpEABh_
y5$~R)M#z]O4>2rpEQ{i47hGzjRy/)uW}6xW|KvY3VmQGh%>#:py]K>pS1^.W_22*a,:a&K>h$%~NOF3(UER[SuLa$?4_:,WGYN&/Y7`skAt>![FRS7v;KQ<:^:EdYKy!a*ntl(r|?s0&s2bB<ml[L
57|P_(Vl7[IT])08~:iVhD$8DHp+dGlHzXG[L9h)m#{m;0=XFXqtE=s+,xY1PsEIn}zH|gl?`wLXuRn_c[#fEu/ZFS<s|<ytcGEQ7J6F?Mqk[^Ea*q!sK8|s}H5{:$]GC]1}U*f`yM.LD/&:~Jgfs?
tqqp:^Ze^ygJEU<7`Dq;Vq6Ha(9$f)l'*c#<4S{`oH]u$e?`L4^p&.ofeGS7fE]VpTKO|5C`sV*gu;Ls_=yXGweaf|dEG~JBfCn.KK't+EVF.gWQBlDL7&27V=}9T1tNaky%TRLaWEX)c&`]f:L9hp
u;|:/<?:v^:!!c'jxvdJ#bw=[FA)(k>3KiZ%mQVCE4=%nx?x|/;F<[aha5yw|fIc74uYDtWi>CpjE$;!'OLMzP4zL>]nc.2WJI1P3Wd&24i^v7*voXE#ChE(q%I$;N,ogstK0rXJ*h9mT76'Jgo~CZ
y.v1WfP:ElDWVI8FWJQ(V+1iX;%MX(/hmh=tZk'NhN004IfOqWh9oG0OfBR=PyIcv34a=SOf{zSO7_]Y_N3QCsh97ksTm+O28[|vhL2,sug=?6N2q|OMZaT)fS8cXhHRe?:;y11%Po?siiZ`!B&!pd
^u}cJB,lf[!u=(+a]D8bfl.[<;^<'3?BH_$gl3sQ0(X$'kEWn9ZbOO(+w]XDjom?=Wj~z(G!adaUK:7OF!F_w&N3P~eF&;tKQ3W#.Kskm!8og{>`H~>tbavSp5DyHYud+CAq,&F,!K)p2RL3eE/GQ6
A]VMpMEZoW{q&f*<(x$WMl]X[Y(.w]d=*AFmS_sjx6h`L|k}8/*z$ymKu3(!1a`9_?lIgTt}$CuD?qsgFEr4=!`c5j`lq.;wo[c{M7o!k:E5PJE2wQXlW?:S[P;uS/.=1wE4h`7bajVBe7?U|v{|v*
$rN<_Fu!EtTJ%tor/TfZ03*C9wpfM.{O]Yqag)On>1%NL!L}iVuiu^mNXDVN5e[zS<sP=.4W`0L`=IWKQHK||WnaV3_W,[0V_*N]PAHrFQOZJFWUoL9zITu0BU1{o,qlK>jYYGB?n>Y%X4!T,dANRD
q1G7A(8Q2fhB%[WN?vz_lM+L_0#/wWz_Ne;$GDV|U=&s{,|2nhEx'S:~kHpPdkg9Z0Hut#B$eDaDvZac$+dM*qn2nVpJ18v)Lks}TH),&$K1LTd:pL/{x|=y!m*/!{%b#:n2q<yBq|<SlLu:Q5<kxk
}(cDTIm=OD1P;LR;2MrgZWWnxJ#.s0OpJQYijNO`>=!nx^zT&45C1{3Kwi|hhA>3Pl;3NCi]!*_:2LckR]$p%(1<k/$.J.>>XO?wbT<FVe`rRb0zcyMT#3UPYCz9JxjpgVV>9?_e6|*WOysr'hhG!0
iiYlfdaL.TqgAhVH|F3IMPOQOwk`R}HZE|JJ/4C~C_~bDP&L+jK9i'ceCvIQq]t%Qu2F(%pJ;gwZ8;9plc(`/QAr60)hDDOy$3MPb=0P9N_)!K4.y[SH8zo6AaN+y2b:^Zi]Q8oB(3Fc<'na',pfHs
ZA<+Coqe_e&R86538#jNf<r{NdQEL%~&l!1#]#k;C(=v9~Wc+lzvp;&'{5~3X`Y.kbZ2)8,gOoZRV4zMI]F:iE7[,4;SXdu^!,m9%u,pKqzuh%Lgvq6)a9GLPP283r9>b2Hk92yg&x{gpjB]'BijFu
!_v~9)gr;:gS4Ben6Sd12c*tz$KlcWoB+)h_^jUhi>w._C3G3td`U*'F%=JoX(#VbQp~>t,}au3:2/l}],/dr^nDvb8|iyc$;y#swOeTiFCtRPj]G{iccnn(oaRKgK='D>Gb84.O)w2#Kvt:uh/eH;
XDl7~(?R.58).m8A~_SR_7E*gd!tBAhj0vg2P*[A`}(.7sb`JB)/twSmIfS8`dG%#KkjAew1E;VW=^+SfA[VhbO?Cc.O92,6o6NNb,WWA]IN7u`S]UIqzm}JZ}hD9'_:e&`;p~YwR+8x9y6]K<gMoC
kd.ljF=8bVcw>/4~)NI7M;>G!qBT+i5=u>M]yn75RL&}n>$0L(?}RGJ<KJMmc()kYom:c[Iio>fR'[3KSiZlf#w:MzeIZbBJ7R$;od:K5]l2vJnFk;>OIVRK:m+c!.djon3eDi_2f+vceOu+2FuCR0
h%]E96Zh&=9BC,Ym6e/H]8GWAvn,.5Bpsz3My3*7QnI&D+|496fw~Q8;zjFuwV]>VGJlQL4[fM>zrkGOWMiG`xV;7TW8HnQ*lPRScp4wS5=*Bf=j8y~IM,7s#(xS#uh#(,gYU!d+ujcWmJ{Y_]}G3~
#S32#>EAdr'!S7Z{*KPbmKi[RGm%C=ZeTqHcI)}<Zc~jkEi?,,{;!NF,pBJbd?7LxS8U%tKAqA%Sf<'lNRXA98.gPHIp+dBRaIn+VE/v|/*B9]esLF/C4xXdm;Kk+y`^tr4ZvM=rTR~&_lt=tWcy%l
:>7vd,PBF>1:&Z5:wI,f|6iyXNoDw(1n[Psg&=)h_X1|},TIybaabREksm|V8J.HiE{<O&^_w(t%VLq!neZytF,Vg{vG8oqzb}*a.^IWRQW9z_u5{j:f3{}Q;;8_r47mL2,Ck^Ov_W=opa6cfCTx_5
,Ko'al1^&x6yV;e|D]ee)X`<(6r%hc02I~Yky>RA|U<RREWx1B$*]unbx~NOZsLl{zwktZt$z_f`tIJLpl/4YO>x*JDQDBHDC#|(*|^p9o3SwwFrK]pz;a^FO3agu]6,STQL),)Tgl~Jg*HP]#<nQF
F!W19o:0quF{h>DiG[K6glg_{?OF(Viq,pmirAxXYB*Quy.pZWziw_K<Nx|lK*n)M(I9/mRhB`m]b62S~8G&/_:J;kB]FpBSF;i<!=!OdZtG)Bk1;~KUG}dq(MxEr9{I8^4]i^=$Z^o%LCug`O_Dc.
A(b`7XxT*WryjZbO8?%Syk`<dedPz*m89R'm]kwv0Oz2~k<V#j!s%Ne#$,f0}?^7~HIV}H7|!nl0<El!AcGpm~'p/jA|2Fg%zVV%_,k(X0T:ce=)Bjxkw%%nw/&AP9Bwb|sMS6#bkZu2_5%S!5JJ{J
I~qIP=R:X5_wFOpWC(+8e<S_yQWvYYt((=q}3<1RF2pFZ?4IcK}OWLb6&~P3&?Br{/SzOhORfX[,l%Xdwk)iikkRK`!/a8]?;BuXG++]]E[Bg_#r,QA*CK:!DB0xOaVZQg.mI=n'3k#S2Utif_H1w;
mSdAI~l'sV6jxt{3|]<ImhO~QW{'ln6AE&v>]S#wF#/8V:Vye(|SYbT/q>_ItcipE3JXa9)1nUns^pB$rM>3cNHT;y'P]WKiZR)[YW^Y13'R}k0_2u!im~G<m%MY;(SP2.cjr=h!#Kuy4DqePAg0e|
c?o]9#mSmXEewy`w8xZ6p'gD3CvWqa.,0j6+c]6g`9#}T01!#>./BAZs$noj<<G1BNM#!>XW7XTR:?#(r:|<pvfx:+d!:K;M1wCEFb/F8&3Ln~,0{Gwp'Rb9e$:D0RIE~&+opXXNs04#L?OHyYf>xk
)A^2009Vfe<^g;0U.tHP9IHMW60o^)I{6p64%AN'MZTQ]BS5Sp:*Q<hVgw/ozgvrIS'k<!h'NRJhj8PXAl7d(Bi}K'iCf!4l?s$arYl5~Lzog]sb8w5BXW7?'M0[l>{{bW+__r4JsL!S(zF+Wjudyk
r,=f[+&1dSdC(=7l7`gD(w0QMbl/q+Fw9(I]aGyBfh;Wel,#Q[IZ!saXhx[CX{KCdD*[H};)PAydMhGJ2jP/|Jx|sRhpEnEq*WZb(uPna`k%h;ZQl:14mswZGqunqBD:K:'=TZPW7GJ>40q]}/Ch^.
I%rv~a;WiHyR(yS>/df'GXiu%I=8eayWa!Up9|ctGuTw/8S#fY6!?0a(bmboSrZtfR2V6iq%4I1]_*_xTWTkGsqK,15L]gCn}uYHQedtt7}5bid}z$Snzb0(Y~R5T3+u]i'<v<!a/XvT>gw+W9XXm/
4vutD'hw/n]Mr]Z]3bPJ`olhPZ4v{*??cktK4h3H!C?%a85g#;($tF{yhl?$#(!lsM1),*H9E#yZxg*Kqn&%;^Ls&iN>Ahvi;m;zcnZ66>Qr$|&/fl/F.3BfxrVTCZZ~2WuS$Y60S9rkL}ZUeiIAN4
l)CV'h;Ha{I=MYS(KVJ!qDgJS^3<Mfq,fSg:3^Ao+_XPJS]L.vRlnZ2n?PK:<i_gPw!kdwCAZC5&Q#EWBBgpd^Z<<p{i,y`cWr89IBcyv{hXTr56r1:9[8sB584h=Zn_`$F/0RzUH4VlS2o10coT/S
V6q<VCfap9k12l6ZL`*pyE#v(,neY3yv.0tOk#A,yxRQhjV=pU=DddlyuB?XTR]IBZJKv&f'sz.NaVYJ7VDN?dZjN'!eIjd+}~*C2cN<g7];xU&y:,>BJef<>))u(!wo97%A/a$=gR<n(/B|e#^Z]h
YPis}aMK!R3/8E%zdVA.WTNRh+e*Vk_1.}J?92MBb6X=<oGYih}6L^{0H#OnupwFyDMh37RM{9!;mFW(~(:|[x8b]6]pet7_K~(.xpw|{_fGSb1?cnRRK}>QY>4yjm<twr%12+d;D|5jnY8F=EzO1S
QUA_Uc&h:P$;6P`{;|ie&6Qa%S;o7MpQK#n!H2OPj+DKD.1n9]!wWYUA)'f44`}`NkSt(Ubqbs>P#g|o#o}vL3CUgm2]*0MI|4FrO!5B2CnhK.'Iu1q9~*ZH<d(Aj7[A]lp`y>eK,qaFFItYFli97>
sO2X|%kh!>B?Ll,L?Ai&BlX^o9RJKmr^?4of']/{jn4a%eH?A{0}+re&o3!^=mWANv(gUCNb,e:7/{x7^azvOv#9bN[hU2Xd:A0?]+VcQL'yqQ+6PL|I[BAZW2Br)MmLDx)lRGu)yK&:h^4+tqjGdN
u6WUC:]8`3&IIWp]62_^Q:'+!gU`U[KY}KC<N~1f=&c_>{[h,I8kk:Dta`kCiwum7etWXew^EO~{YmUR~SA%ehwsDjoyx*tYy&*$j)%/+ZU37{sDCp}4%SCv?ZHT3n8LW[uiaa>>KV>'0J?f9T>bxC
H7Vmf=3U9a~oM7iF>fjU;3^!bqJ578H2fjXlBkdSndpZW7fuByy7!z5l%IhRR3c4!}~z9f]W<i=6(1<?D52(H!;t1J,jbS:Zrp&/^7ncs)rMtGUOed1U&Nlo`T[MBTUJD[:*N#OvbX[`JgYPwtl73H
M~.i0VfxqfqN=56q3F##%YXce&ci`_rlaQLI['p}4$`&Fw.ydo/wihK66ED)Z_5b99]A>1iMR%;Qo,<^JN(#Gzs.YyRFhl!{]Oo'[49M4D!,?9mluwQ>W)Z*f?>hhCNX`_gTZGC9yMeeR[w!wg<nGM
)GG8~GnE=1k`_Y)ty(XakdQ/aSJkC{{FO)N`je.4z69yXo|'lSU=i3#D:%9$5zhzh.LR:,zXesbQU':(azUJ1$y`W=K8rWWKqhX`WfGWeF>i#J#qO+z`%aF*8~'~PGGOV&}v>Y%;>x=NM&daXW4S*c
vczmpya!5$2r1&12>e+,455&;!k.EpmbU/`?)=g'VZ2LSt2vqv(Y0A:(Ebr!D''`KOHlKcR7G^b>gEPcILHdhSd|vN&f[/b+bR<$ybzvB6|Jn<E=2*!MuiTo1j?&$%>H<2:n]cB!=mFC)qzj}2,ThU
I;'OK&?PtU]_7qN'Fz+wEY+(CbfX4(%1Afiz=w/k!xUL`PVO!K6PR4v4TF/p(TA!MIbX,|9|GP`9tN1:2m0opi*<'YOC=LCN?PpUYn$q9j0!gJU8qV+3w=~rbqpn&4AmZ[Qqcz|_>WxkoEWQl4^yAL
:ujPUTaHv`R|dh~l^Cd1+s26L^7=/_*f6+Ea(H2vPbh%iLBx,jw}Y2]TQK2*v,nsQoM,YT%mie:_rK`i4b3]yP8zmw?Oh?_)?p`;$Tvrn=`#=iE%k$1Vq<Ot(+(+PSReL{4q.03/:IDMi=jPxC|dtq
L^4xz,LRPfl:q7ss3J_p$~}jZ;&O0.K>Uv`+Sj*C[5dPbC+8N,S)gq_Y?OIaGh<[p:[x;MLF+jVz4p7>sZ_~s[*;!X0%}p&kBM^A+783e;R0*Q/h0l(_VOE_CUZ[4#bE]bMSFbj[d?x8X/=jTQ8gdp
,UsW7bMq=E1.:^/}w&D>T#<`_{cd<UnzT&&Y2jznFj<L<zveDQa|G{0w:6!#HsGu{DI~SN}0iL2fI6hnf=~(~&5|U^RCN/QQmQmoeu1UE%c%IBm3eCRou]<bJO9T/tJD`vNq}dUDE1#_On|q^1:O6W
MmmA>!z/fNK%d8~hQl<ebOg!%_bo?xn`9F}bBwlnnX%<'9p}dPJ?{3kc&j<+]w[yE+ldTW5_)]B=d!fjf3gm%c7n/[2gKIw(Eg,e*x#I[o_+qQa0}zJDH^x47tFLJ:BAKi$Ef}DrUQ1[Ws$YfhF:~x
i$Aws'~8j^_HA1f<qQe73yp<S7ayA(slnU5`:#J|DB~MI.Aiv2=l7xvbt$Ty#{shZ3'gWQb>[s5CKf);(:0SeM&sqwkN)EC8Dj^xK{B.`dqewevEB}eE/<;)sSj(!20Kx3aZG*4/iYMJZ}t#$F4nTN
VLW(z#SLh/y9M5BcFQkjWD'HL%f#21l*H&qt'19fu>RiJ>IF`r_uBdGg1}>./#)u|I&qND{llskyGI?8P8=5|yT!n:E.xS%MTlj8&hT[2.`2~%xqn+1R{`fGd?z!ooD7`}W5x^Ou7SwI;wACT#q8'6
pc?4(FOK+|1<a<Jy`~(%kRun:=XT>%jfCr%.z8C_D(fMV_wDLbRR1tD&$[M`mZW(CH6A?o0c.o]Mkoyhw;'L&T8KK{=,GeX:QSWBSRzQ1*NZ`nq<Upx]|=mP'W{/M$J63YSSq,#[]qNFl2;DPq{uQa
#NQsQ}r,F#T~8E85rvu1Fro,:ZS_.4OMn|Bv&ZJ<wm}u6Y0aHk5%U1;cjXU(x^rp*76vai05RL`rbB+9l9#3$2j%/bf6|&H{W5ecY`/$tX/0etDuKEbtVPSL1aldq,t}]guKJxB(1,XJI.H|oh8[?`
N8N6zAM[YXq>/twlY9W*G,`lL2>s&k&tC2{>{RYJ~3(a%pxwL9]2,(=``z|{Ig0+;WS$n0&%0bB6!:Pe+(_Z/qIwyqSO$6>C:Rilo$h/M2B!~nzkG>}aW8i^a3#}*Nka]X:%,(82]m))$U93Lx8b'v
)YUq?U+f/!QUIG'!O?17&Bv[#{9UZceG7_Mewn;&Sh#*fFw9<ZVmxyA,?D9!)yUu~c5&rA3_Pxcp8xsGEIT[Gq]O&UW*Sx5}fG+|_Q+aeT%{8Oxo016rqxO%ab|VXY1E~r0JB7Tli)YAGgCWlKeFmT
,{MUzI^ngPER8O#^4UN|v0zr}C!SLpq3h&cIz,Ng,;V4!~I&_:19BOsCL8A^1t]Vd^.|&5B.X|/[h>z'/$o?r0nh[m)uL/DoFaBbv7+]XRK,I^6ot>^B8f2%j<91O}!*zpZZHd30L63N`oGY^Vw/q;
n`0srMBaV:%N8LS|#A!s;%Z#}!J|PL'8,Sj}'iKiAE_%EpGG:'uSfv$L%dvPn8!{{!!!0d?j|B$cNvP!R)iH?IZZ}+nb}{UypCyb%HXJ#yOi|kTa=FuZ0==Mt5klJJBx*^o^FO<^EqTEq]eqb]HP(|
#WS'BH&i{/D+vREdRfWe03}/gr<h%0~&0>0UokP4bhBO$G3#h43u&~v.vBlRu=$|Pwyp=R3p57}E;*bE1jCX9o]4Zhyksa?UHAwNsjCd7Zib`Iv?g1HGs>{v<k:<6{CSx5|Me{cwB`uiuXry2ev$JB
f`_NiqK1B/>&?Y<'yN92?&G*`mOkGzYE+vxrw!.La:#N.sZr.RbUUO7GTP5+}V3HMAxa=9>xQ3JcuuMm#R1w1.$Z_gH~pzHydR{dFkRjcPf_g,7d{?2CX9:_n7Bq/j8aV!;#0.K+Eznm,|(?1XAtJL
!)m)m2dUtgu._UvW70kynd:(|k}L.d$0D|~5G4a#|S0M'vwSJ,dP^Opo+=]j<*}G,3T=j=]JM)}&d4mk57H.w[w1{|^Khd(dZy#_~M&cP_7RaHc]TXy/R($Hv,/&4wxRYuFHe1EOLc7[jL5^3&vJT1
`Wx7%8s2OO~6NBxxY:Z0;^tjYFLqRc`3p6x2r>0a.f;/6R'%1SXx1^FZGy}JeCq:gD`C+p7G1yO>FvTSh(wa;$=uBlDb]Wf;ZiUHnv=pDAHU+V4rIMe[HFR_^L4QM<ho#rw0<1r&n6g#%hY[P[%Eg<
.>PD<sK3}vFc*h`gt}Vyg'OZ+wc{<uGFp1jmXJFq3*():1ntmnJxRPYPFe%`kT$IY$}U46TiYR_LCt`cz?]jqV|yy(Y9P[xxhC1)?c#[601byWNI93L[Wg9P*T/}=7;yk&xb`ceENG`/8Gd{IQboTk
gne/pX44pB#=b6;~7;[27r$ib#V?pi$k[ydEhh=B{:%_+qhLuV,s;ug5r93N+`UOuEu!xT=|55pvfMLzkq$;x3Jc.4OEK,b0P!LGK{k=+r('a{?8,pxJC}oGC?xVAu{n+nZtw_32iYr1>SG>OOxis~
j7h!Y[B]/+xeroO?THa#y*?&t=F(iM{K1RK]9}t0'h/3+ZN~XvzWnQM)LEBw1+`<8uIDI+C;'rl*#?ORQULD*^3/b8;JKU1f{O=7Q68^szKs58aQ;4(#5Um;qS5B:_*2V(Rw#nd>y8ixM)pC(|MK+/
9o)J+D,mxc`nkU/8MV#3#g4U(%R='y;ajY=YV}QmKAa(0g/P;Zb?C*42'}j.X=zPMJeN>wE}jq+q[E??J//rW9_kg8yk9Q%3o>`7oU&OI/T~aeld}D!u~/w?$9_(<NR3M{{A~SByPOmdh3IMh%E=_j
>6ww[Z+78)7guB2`w?cf1)!&seI/|iBZZS0zRKC0m?w?GkX{I6iw}f9xY7{!nZ1Yj1C=}={}vm6C&9^AzAB_?rR,,Y&){KhtBd6KhCzlpSo*{VD|kpC3J^{SyYtM<Bq,__Gt==HW)r83jgN^0mN9As
3=~ew9)U(0)1PEWTijJLCb%!;'&0:8j=.EQcf^:X(oGUf`ZE!<7Ej%QB&rV[hA&[uIcp8Z*,ka5Ban{WrJBPIFDsE)^Z>s2_4a[.>MTdo!B4NM/>61_Jgv9A}p;N(Kc0,'%WlUihkUs2ppbFdrf1Hw
&RgpB8tylSfpvql3UBvy8$0j.NIy<UBx2k?AySH~N^|'520Kpg#An,eq%gLEU%vgB]Y{LH^qK8H[puwwd7%UktDVfW{wT(|~/A;ja&RJr{Fb`L^l,5B+,;DaXzlMCR=B5B+'mBpnSbodgJ$cXd+ZJ0
$p^hU(%mx<(K2Br/Zk;k2nl>IL{PDWai6;ZW15N>x>+{`3(s0ceh_^8mlx0jo9V.qzSDAKG(+vmLb'QmKpHE6_1YeXQ]7)STS'PSrj2j%G~W_5J^Z<++*BV`W1zna*Ch:}5g?ph$u3b;!$C1vBLN:m
#UDP}92G6.k';/3yXg|b9/g,<:+1wXZF)+z{(j}TLg^'4K&[9.c9>W^,ime<>+`ig14VZ6;_uGL/^XIoyWo/SjXwx/XG#MbOX~y9V<oh,etuX=VjMwScj]SoZRXrY,T37m(CUV;p5`.eNr+Z(L*3f}
*Z~O;6+'p2<,$%f1/jUy.hOdU:TI'9a<psx9};A8~;;*blg}5bbIjQKd>Fuk=[;?y:EaW_KdO2gCf}Ov%<+1rNh<YpR^dVDjs<j?t(h|#'.&_Vqz$)[p(6+SM4^N+nipYu~9RvgZ}i4`#YO:LXmj*h
2Siz]QEKc_!G6qJ#9ozZi!%;Qspb2|37n%B`!^Tj<)6NqaY1/,&)cts=bOkSgb>w>8jSJm+_5^Kk#`(SItm%V]de[XVI_$=9415/8)`#N)B&S>5_/JS0qR'2IhrT,Vu]902br}4!,0`;wIZR=+>nt=
T;n&K2_$1HRv!{;`.E)1k~F0MayEWu>{ZDCWSFA'C4iv?~V.zfhyY~=zM{6R^Z7yrm:sk?L.2n4+acS'knDg~q/SY+>c]R;X0D,RAU',pgVYMtyd.Y=[i6]Oad^gNF`W;/6git>'M%,_i+m56I923k
F'.NvV|I?J1t`B5U~]E:vLhG`7e&~/jJhm)Y#U'Z:pAFrJ3}_q<xj}wb.z8ZDC^]b{HeP~GuTZ$U$}0uAK8ikI>+V`X=lNzHSxO%PQE|4d*_Dm'ew_!FNVZi)0%w#W%=KK<QrHyDNHS[1F_dh$`tc]
Ap4.;MZeZ~]1BE{bUwU?PJq9_JTi1[/H,:,O|#4LxRHRe3[w~za7uxxjJzw$#5M|b=4!WZ{.I<TIXqp?);Vk'jsJ1{jY%%=wSd;B4z1eoOz=nUn_HUl3/SR60.9s9~R<G$A!_O'~n]'#[Y!*X]0XId
D+Ll9I!Lta'CLgw$uV9f(aJO5I/z%BwNPgAgO'Xk.tvsz8/abT8YTb4L)D{Ya)n|dO)lzVVm_~l6BwjvJ)|c;y[WdnF.$UG?{:*52Jc|7:bM{>la_1nA<A2aF>6x>0q&RBFevnxfG{}.ISKfj]:3I6
L,Y>sf|ZzIU1oV;a/2C,]^pd/dps)z.G3wg3NHTazFoYcQ1.F..t[2=)r[/aiQNI&%rUCujAC{X(p`xbD}:2c/S&UOp2[!wYO,7`5%<{O}>2`n}.5AH9[80DW<ECjd{s*G&1Fc|rXW_o[hLxcQK1,2
A[Wz|rgY$i]_lVA3I_F!DhyROX8ro=ep{Q#6zH>UP][q)+vZPc_p[Ko'ewe>E,#$F`Xf6'N[Ft3,if?nRW1?NI)o)Ra;%za[>+i'bTMl]qq+SqLW+^^78<=U9BmWAK$h&ZP;Gz~ciAUf8<$CYJ)+Gp
{$OrHsY7:o&NmUfN.,TIicAE6bN[Ad|<E??(7tH=Sqc0KC[}z4#rSwYlgPY!TBl`3%C!1&xar!;o):)lzN_;b1DxzruEY&!zLcZB>l>3Q<m[G/bf}Az]jo?!8z5agj6HUo9zU;a]Khn(Mvr^qX_)Jm
q2y(Fsmvs?E6:)E|faW/7]HFr9%kaDD|R<!2P=[;N`%e*Jpp<h({*$,uCk8Np}FCr2{Wg]6&EUZlo|_oNur<L%~'V+E(^[5MuY%L=6a7b.YOQG5K_]S3Y$4n2XDoV~zJ;Z{A(t),t]Z;1x>sYsY2j_
QI'T*a>H|=V;&8(sU!]Z4*]`vm8WA4:>VWv/]}Ag$%CDb0$4im?HSX:{*Lllw8t.hf[=6;BAP79(>oJ.Z30<{_r3jb}YUzT!5o=0+AKi={obV4$.fDLPD:7y^#l]l7,:azNYpIET/8Uv82L~Gjl}v:
ORx9.igD$TRl>lZcg3zT?'i<VJnh}Gv/U2hOxI9Z0jltJ,#~3ky9VZDi/XK;Y#(9EtkHto*_0:|BKIn0?}tSvv=W}ElZYhvMogLhSNV[iY`_P`#6;r19:G3vusOF[XKj&4:n6BdW*f[p6k[l[D|edo
~m!#e5+l7?)k('b0/+0G&AOU&G{{Wlc~2Iuo`v1T_+%L4VIAHN`7;jeB.?PZ;A7o&},+.~W>P<lN<Z.1*`;(h2W^$9qcivl8K6pQt*8<L~Utb!EZdF;E2yV'KVFN9!nfcl*!FR<)~!]9{!om]J1?Nb
`2kTMwTPy4NkqP0FrC[%wldfq$8_pFs/w#on1xK?tXBTifBxCU10(Q$:76i%h'BaB6i0EX+<~hc;5v$o+bP&Vi<0|&]'C7cOn&/cWaPO2O]wJg+S7|6[B2Q4_*aunCl?C3.H9g.9p~3=^s~Q<JBdDi
t:RElA^C3uS[jtgxACfQ.uC1PMXEpc!SWPa#VNWZTq02TJYyW:h2bPs*3$A46)/u{]w`^v7EN0(s3}w5q8}2#VS%kc#uS$[gX2Y%?tbcq3v<dIRBVk0EzDq_oeb#wcdoY{InPUJD>bGJ6sqVig'.1L
')1lT3v#'e'5fxgK.?yHLOh`b#D+HRS60#>oy]h!0DO;a9TzI59DPi51*lo2Jo;%v+f=^j_:HMv!rKknM<mHme[2bL?EC/CEq?SI?#Zo8aiGc1nPk?m?>E.5d<O:E,*[ZY?O[m6w;AC}bJe]*)pK|5
z3tbUR_VLIU8Pz%V5B,pG<)h;C~sOO+B<zHB$kXzgdid|qv3Dw,43ci8QV&)^=M<%6>0sQFG:iYz'(4!%#5?ryx8/Cz<k#Ji:bqn8&==v,8?1Nx>c4,3N_^!,8Lfjeb'F~}6Q7#=<|+(^mDa*?FVLq
#/k;`N]{e`#szIpfoM+[T<z{iF~p8w$~4Tza/w0LIttK;*5*tke3HwnOg^aXm]`)GH%bI|8xw]FH8=k0G9!|$Gmx*f8p<FO$:P|.K/aUHiy_o7`9}I1$RFb_c(,![;WeY]Mm{]X[o5q&L+KwP7qW1^
u!+qYN>B,iCC3<Ljbw]a9t.T8`s[PJOl8Ufq)'aU7M0<N6N4!ewAs~h?5YdS|te^C_Z5oC7c&a?}a?yy2o}Pm|=~^/fd=*'+VQp_nmB+==x~pT?:DXnFqn`)D0tB7Y7d>;_p!Xw[Pr[fVx5GF<Sjb/
r4+buInj2FIa[]DW`j:FxoStoc2n2N/Pn'EyA>Yrhvk|/w4*e|'d?.Z>1he_m{Ng&VC1f%dSlGt'}ci2[/ySFQITD4h+]~R213!dI9?ftrPy:4ZV7)|l:]1W'=JKqNM8A>BqW7<m3>&`>ynFEa_tqQ
ZASIya+[&]~M[<g1]F%1H?kn?%'LGv[j~,(_PcIMx3dRcF?W+b^jAez.(=%deY>ke+mz169rt?Sx,ru4_s:;(ZkMJQ&K0+dRGA]SG{'c$P1U?&aDMg?~EdYo_#U6dG'd/q_xR'jy+rkfFr&kyn]UKp
l][u5=,6oxQxZ42S4[e{QG.Z(0}QVB5V$^t11;eQHKVEW}(U/Abcyim,1X1ha$59~tf|*&jLS8K?N0XJhFAk_rrg}qT?d4*t'#J~j%Ij91Pljl!DKyzJDF7AYPUGR%dARx4:OB2l.W.[6}R6IeHuM(
t7lj|{e#M/DZ`gp$S*bu8X>vtn#b(5]`tLVB;/vpyG'D_5?3=:f).oK4*`^vW65+Fp>WO^}ODq4qlb9KAJ8[yM{n3T&%mH98^K=#013B<'2qa{HNl%+U{,R}[jF<^JtR#c3QGdVCP91d9GxCLM/^7N
Hi5^HZ2NM1R~C(vlYgUJ9~G}Q!9H.'0pvaXu(4TrrK=wa8yF=7EX?.)NV/$d_X}y''bPKu`my(^G6L.={`RT4bZ?hZ.I)|6wI]q#i~;&or{k~X&O|M,Y7?L8m<2![mL&TUT{i7GB^lm$zS_(X(X['+
SxV]ciS8Ux]w$2mX^oqfXM&5z!gq5Btaey5%]]xaWg6NL~o{3QGhbn$VE&0%1wEPDY+HIMf'Y.=kpRY0sYh<H%qzG}iP;lmJF]D2by=}Ey<xW*{3J&]vbSqq&xaQ#>b{90;,o|V+#PlYQJa7U=.q/%
#z:rmS>mR6_zE/Vb;6|ul]L}:r[.Vai=hKrE[[QxF1W<I)AUzM?,5<?Q!1ySu}0+?v1*lH#.te^B[+yxJl{'ZJ[#5n'mF}&K78MyzS)^hvPJZB08H(Imr3^YL95ve|xM%zsMx+LatYhjo*..ps_UV'
XRbe_geK4YD9.Fe8Ked}SB{H;{*El:I$Git.pXJW/2s0!c?,P3v|^VT7ma1TFx'P$A/bf/jpw'Pf!cwlbt2.8U.&*OWdTZ/og>=1O1CN`WT)*3DxpKW,muUB*n:ZCm+wbPsnO(F(Q+V+^.?Sgb?4SH
}dK3=nsOJs$qQ|bmGN5K%:$LeM:/4v:KzUY&?/oj&,6$j$4deEgB}!lwz0p)87Kqn{a01vYI$=%9O?WX5]d~ATn)a<A8#aEf'4I`G.}IJs?mROZ*6k/yboNtvk+uk`yxGnIQqf_md8UVrpxT_.!Ei5
dDH=kc+t1<p>F/Kgtev0bgWuUT:x/Pl/;s~UYzj<O!'&LSW>Y_<jRPwqMK]6X40:4t!p:qLl#[b0dM6IGe(DR1j1VSbKuvhJ6*VkhePD]:v7B^*u5U/9c5$L}lr%vL[MSgygG'rF<Wc3P:J/yA;,{u
[c`k{7*h.tr1EP&`^)U6WsvuPKLtx>L6;z=ORKetCW&wvGlZ93Um[RUtuoP6~sh|mnI}rtusZ^uJQ_Q02D|By]IH71Hm3vntQgkq+y+{/p]gfB{!?=4x^NK4mI/QPcY*Uh|cIW_|ZkBP6T)3pi=*{8
L+QiRwLe%WCH):}bLKq3W7F'[k5j;+<T%xWjDT8lqQ}8y'Uww&:PshKsEM+iq;gNzeb4c)1^Y'}hCUHa^mrWV.$jfT&aIw;sv>4[5wU:.]1tAd_{EmQKVB[Uopj_{$,2G?73[mq2<[ma6w?,9AD#of
%Wp|`L/}ARTD]3MKp3*X*64I6XYg=4>g9Kha8C8i2FWI2Hwq3uM;rACltk5qHr`f_v.j5Sv=AAaNO*|u|toGV/TWe)+Ou+mO$rfr<q2+_1TxHHNGpp:)lXTLp`px]c=ARaTiLe8^`fP::>wZJ^&(zo
k',+a2)><[:QNEJYBU13sazfw6(}tvAJIa9fe,EKfLjc3_sc7Wy+CKMRC7w_{N>}~oD+ndW?{J5KsTd/:Wd[gmmD.gsxAl9x*}/9G[U!`Zx=dwv/XhVs3p)f0KdUv7XpK<qqg}2A6)Mrm^U|&TYD'<
b%q0mCoWB8b+>vv;QofNx6t]}SQ9F)syg)ine&yqebA!7Lm}RaBd.0mc;q=(&]Sc[Dh!Q3KyIlsVP%h|ZgwMM:V<#F&<YBB}^*6ja&0;Rs96pkMr)9{|>v2F~/:fjy1{W&R=XeH;hlP>kAq)DG5gqK
Bk,'23;*ri/,!&?1#J[JpyB^K7#/0B0Il{LxqZ4#bm,6*;y(pZ[1iEE%y>m/=~P[1G<LTHwG^hHcqyKK_Rz!cFA|S0SJ6w'LW5N4GOI4wHO*=74GXltaXULo4:y:.fSm6c1Hdtu~5~BX;tmg5*gMRn
aUsRD?O4`xu;Q0UWGT9/N[cDJ{|d}'48q'*;|S1EX0#i:4~o;Gf~O!ZI|B33lP{%0(lFIlyWe!m~,6GH8^tv,Rcx8Zi(,9YP0a;h_<i[AL$k_CL.z/Yu5+h.Agb$nW{)E>sjsZdZyJUxS$#l;qApmT
HUBH.N]U1uBHWo))V{,77Q1Q{lVxi19w6Orr%(wFacxir]:G{KM+.'Ay7:Vwd%;fm%jtPict(x}]^haU4%?HvS3q|5t+0Le++#q*_<0YM,6Mmg1'6b1:IM4}k,=WPo:Ma&3($t~k>s>]G4NGE68iY>
j31&W8_4(/Uv=s_uN2KcNibBx?fX$!EgqY2N]RDU$Gs,i}C!'o^Qx7HHI>5iZAI)p!e3C(4tzXU%YjF!L>*g6c/xZG5r}z*jPe_IaI<QstxB(kWQ;1m49Ptc+Hhi&u27=TLGbXtgM'^MT<PS#TWMvy
0sZ;%'U^JqXdbfuG])XQ[,B59c?X&h{J.b*FM1/lT2EQ*Ud6_=Oj;].bbjplGo~`*H;b$'I;/g^[UUg,~0b=E8Ph|l75FvTi|rP1/h`5.[Q^1(WqcC#2R,zL|>}g=!YENOXb]]kq6IHr>jlQy5EIqk
}37=Z=pOnb!wz<G_?sfvTBGAvWWNQKAWP=9Pl!qE<cX|Oh;`q[/ao9%9%5$mq9RBF!,M2H/u*gT22.PtGABeEpGWEe=cm,j^A(WP^MIf`u18j;b.?4SIFVHK{Y*|kr5lnGL~'iN51/cd;zoThq%&^F
EeH&&bL]2daWv+]}FIT)>J10|ptD<:RTx!=_izBpj9kFMK%{5+nhJk#Gr<ch&9[Lx(GtB&*LA[gyVEKp2bX0=F9Io9Og4F`}f]$p_VkJInqB[Rd''|^<2}EmyelWLUI:kNuwL2X7zb~Pilk*>LD[+|
#'4a!;`0:X5b>uy#G&.M~z%r$_8^Wi.^6ldx}J)*Rec?>Z6!'z'!Cj,*]b^FHROp`TPBSdjV|lCM<Pg]QrgIj:z6I?O#7*`gLP+/LzQa]5?8lvoZ~ps>m'a)_Y<Fcpw,7te!!q0z+b]Se^c^_Um9`I
zyyjncH1f()._INlr=8?OIirjI`!x3xz$%zq16,*6z#'1A[RA<hngD#H2$|,kbIM4p9a#.6?ga$gxTfxwx#3f90Nd8}92mT_[|imyK`hpa#kD'~NA$dfE`G/t`jHT[3%~AZ.[hkG9?u._>u5b^lA'K
zBy49'a)JApTiQj,Y%3$#<,RuN<,?BDO#*&*Ih1*YKk],2J)%IvdUBbupQ8A!IZ3=C+xc;,G|'#j`eD'=,<$m`c_=ad='^l+i=FA$,NF))jTB7,MCRBukz_&ORKwlV:0aUm)iZS%=`KwYSMXKUg'<^
)s8ZZ_x5dbg28GU'>|+#,R|gTqME+H&GGR^FA~nn|>5~{$D/.%Llnf.S|R3%+F=Z>tO|F4fw=!KM]?LQzH;alz)1YoOnhmi>PkSfJ`AD*](?/;3ZIMEhW}RxC{S6?;P3<v7:73fw`~Rxo8Zf.t9u>q
2RV|fnCp+{0w7y3dZ5`cVt:x7Y<1s9?&;$aXIX[!Pd~=Oq%sBk1klul92V,W[4|K=zF7#?'I$Eb^R88%(m{wa|%<d5r,g`1Kq/&w%(1_:p,SOuCZyE|8CADhi3{(^U9ILTN99;Mi0=Ndk0+DHNUbI_
CM?7Jv:K*4Bkz_<0n[q0=IaRs1g+k8`EeXF6`bxz6i6k;2ZWb?yUH+R2ZgzEBcu7;$W$C/_z$k)M_#w{SQX3i11)+g,.4$5v3Ms)o;`QZk=Q6isUA&XhCA*vv7A)d?(?SC(o33D##p:4M5.1wsPQCS
(8tmSUd=:I[h`r**;YP^9~b!a)(hV+:|0aG3AHLk#Ov=0VT+U!^f#Wc;jTsow}B%_c9BKq6=(^sOF+7u8NB_mbMHVRKE`^31Q_0ZoQ|}Fba{gk[C9G?rO|8*l(K[hv+ZQBShAPi1H1,Ql=,YW0}AsQ
>+Q8WS(|#/g}p{,ck%![1Q~hIF^wRTk=8jQY3C6/o;x~<=ECpR00JO%pUNq+^t4^}/cn}O/flXg)bi=*JcqW!Tv}['X.s5,<SOwY<<Nxnj`Z%'?AZc0#__bM9(zV0D)JGiLpaQ0Z)l/aP8wrg]L4?f
i_hD4*Z'g6A^(Dl[(g]&NvwY`rQsHceFI;R6SU?ocD|.E7Oj>%uasx4SVv2s*ORS?ry:6&`xk4{d&a<N*dx!g{<6KA^/~5Y#Z&yd~nWM+s%/r39x;]kqA/fE8B2OsSS`4EfOy#U7.eyBV.9{NP$vs0
lB2+_HPimf~6t5fhLYc]2g1:=}&G77:0>rd|Vf(;yf:g&TRu^|7]_YiDTA<_StPibxlAdgkfhRAM|.KIu|+>mpkO`r=Zv^9|swvaP90*H7o;H+x[&tR!ySh3GFkWE{s{r{!X<q5x[!?Nm#s+JM,C{>
Q8FQ}FEA)i16G!o|vZ1+$Im%ReIW]_h1>Fz=QI.%H3'2y7+ZD~J7el|%|xp[2:A}Dy{kg)H<,BMoInCSUA1E/~Zq97W%DRJv=mwi&GB]^KrdJ]B;I|I7%UC%uuxS%h+!8R1d2xe$qLeeML0|b2{)wL
gT{!eGN1c%r5fg2>7N2;[(*HtiQ<a<gSrkW0r0l_rv6Z3Y*oUeZcB9[&GC2Gs>i,?j+Ec3CpVTB_5+?0+OemmNPrC0m]DMC_v2<qRO)!vMkb2,?D8JLWa^|3=n=HgEukxQZjAW^Xj4V|Fe>LFpn7D%
%=g0zi}gvR0;+%{H8>zSjx#<f/BWW(a^.=z!Y)!3n]$BwEw7nUuJke|Ea.m5tSQ9b<Na)9J!PU[9ns?(|D;5qUHmN,!$2ntVPN*Cz31,6UJ9}XPCu!wr$dim8uQe76,Nmfo5T9w[~rf7o9(1TKeE:D
v,$_Z`kv1O<Nt^#wwPHGDJl>x4.^8<pl)h#Rxy;eQ4v/n:eN8T=p/0zJcF)'4D/x[|eH3jHO^F`YW.|fc9dGiVc$WdVOjj7Fx6u=WjO}`{O.[&/{loCcdXh3y]27uPf{,/g%!`Fd|?~drVz;<~2uS}
L4QF2&9Rw=XtOk5Yj_,Ru)<yt{iU<dN!KdnqQ+S0na*;ll;MnI<(#|sZp<RsRS$Y`47T3k)X!okU$_k'.1&TF'VlN_M[mz_!H^wGAtB=!(y=,sA=z7qeZL?n#Zegdk#0Xxb!^2u53emB%cs#Rw[2Hx
]OGX!r0;a|'5`(rP+'mM]zf`5&Yfrw:6A(xvKeQ9eUFt*I<nKzgi]V!.=2;}z'6$5$h7]:9W`L%9Dp{6:)oBL^]er%u'`TPY=y#_)elKtBe+9o=g9w4X/QReY33{VMgkZ|,E<1YScYXX%}GyN'a,9d
Bu;xD;lv0E*'4bc?,eDZw~qPG?S7CcHulsK0PgrEcEc`5:Ely;+8t_9qG*r&*i!`5[DgRL,l.J4BIogL{PvxCK6<+bTWkF(W:p_F}Kb&TbzV}PG]vf3M(MD]Xe2H3'`xbb'mkpde|Fza[qh#6]}J61
#:^+|Bio[rH=oYb8m9p$t>9hd,q~q9NR9AyD~d63u[$;u={_c=lu6&q+:&K,yx=E,rQ,%Ml^J62e:XEidjbC^)5o#)X$vb2'*5:8qpjTcuga,>ped^qhvjQ/F:kd.adu$&8]#_UpGLr|};BteI6{jV
x6~M9b^E`_.GD2B}Kt85kIEd*8Lp{l7?zquWo;d$E=gcBKw`+tD:A1Vg!S$f)lqx3H1wuTuQ5OyNUfXzkv!t}i+,sc55+8/+R)gAcaNqX0%WCZNEU&E6[EI<uOB0N'+z])OpI]+EI+u>^`Xu%W8Ukw
bwQTVGC}GaX.5}6==iH]!kzY1P0{?s*k/VV/D)wRR]9As:=0arRc[3|Sp4pL2Y*Xk)t9XgcZ:>N`LMSSkU_y'B`mn*I<qlgfu=_*t4BQ,qZQL_U^tXP6aF1|PAuMDtUybPIoP5Knl)]cs~%r7~%o_o
8Y{c:A!4a2x*p[lL&$3h,ZS^7f/=)QUdJAJB::^9heuaBo:hn#woV1+m,HW|'r]BihAoUDu.mu]Bo~?&g.|?{X'`CbC`f2<$YT<9{=+.?J%KZ!*J~/iD{F{=}Q{C1pg5*P0Lu#8q?eW7Xh[s*[E=rV
)OXrSf*UVz=W~{d7g|+u/yz'6he3)F?L3s|i^>~Zf$#VFI]o8M?r8*pu)}Rf}4yugus5r1p_:Hm9|];U%:`7jE+,h[nPYa8LIgUy!e,;gt:Q%'3$bj4k.?$we{,$R2)1aEr?o^$vDo#MBVG]gRL=RL
m{S8QEB.1Qv_Gm{a]t<Dl9!Y&*89wTDEX0oqbzRMjntCI|gzO#cxFX5p_g_=|S?*A=C(Y%~CYn$,?$9:8=I`<l1dC<`Nq+flAtC1+kpAvyv>soEul)[}e]<+5g:pmsM.]/Ps8{77E(lYr?$K*=yo_E
.GaDt0.HutnV#LOqWQCCYA]$J6:lsVsAR<[!XHg7T*G*dGK$}1ww<%v=?n.|Jk+:nti_.>1T2M7|HJ[![:6fep)Pl*#`~A'=j4r^3LwOlG/ZN`[vjsk~k3#cUtzjWbriaN/)O_Mv;?Nu};0awezH[V
/FY^25O]Hp9w8B_z?Xn!<KFcF9F=`QIo.c`s%>L*l0gcq!l:SXD|>%&[fn}uo<4*pQ=&ABY]!`wU_pm_LuqMlvg{%LCCY_6V(X7rL_LIi)9rEKi}76D5Uh)F{5NN;B.2zORl3Y,H/_oJ)Y6>go(x^k
e;*<hYlwG7!d|=qBVL<dK+s6vfS5w8Z!CV7|R3z?1^1{7wes0P}^D;=0ul4&F8sj[3Oxz#bM6^3*DAi'1<l^;[[iHhv6N0UW,<(]:UZ[NI6hA_dOib2},b12w8T.2ik;]Gyz:*Mmh~tCi67jD~%}<h
UD6k#&Oqj_!9YPVppK0OGqQW[_X)#WS>lEG!k(r=_u$/ZZ6XiQ,H>]|nAaA!]YM<]Ov%5~qLz!u[ih&9$ge<SyVrvg4V3ZaNvozty?<h5Hj,QyPM5|ZHg8(2PqM_9zEw{$.Q6.Aa^UTYvV0TfXay'D
;+QfG6JPJ4iEpM5MWD')^uG&HHGCinoxY#<`vh,/<pG=<A^T]tPNlF[rx1zXdGYfI(D;1LdzH?SpF#v`Ce!!=i*3?Ua]E*h^]N>j?&HKarTt<91<7My=gK(r!(=_!110jPiKvLt#:aIQeWSN6fFO8h
^w'xZ696Z<$f8ZUYm=]/rHi0V[9kf9<JE6a$hahyk]K$zF2c`1T6XLzW0c>cx/j'#aBSZ%u*CW__$kq]g]&Nd)A]r8))OgN=%2Ab_(?{4,Lhy[=gPXZv;MyXaDbj|+~1]B<8KuM?h!T5laWa'~UHRh
`a#S&3!YRBwgz_V);X4]g~J=ldHlXnX>E<bi<B|NH$L4e'4jnjzT(2#fWse64GMnx`(lz:=^]TLE(H}Z,5F4}v4>zLTQ^bO2_nc1u$DulM8;1fpp,K}qY/2Gimx4`,;e{CMl)kOep0!Er~l523PG7l
2rvGfWGyUlHlX;iVBoeP&{U'W<AD>M:V[IfpAa~x!MZs]XKNQ.|bqNO*4'Yei,{_;Mbq/VFSOWkW]{wlf}oxW0R14gheJphi?Wh50c!'_;%+o+X%?%sGET<Ba9&7`a?UNRXnd'$RAu2p~$DOFS3?j~
<_?^dEEJw&ApLQ<sMPR%hIoh7#nNi+pCL%67z3?_&+!t;C=6m<]fRba)yB6B0E2[Z;b0$x{X^PlR'&?w6S(,6C1d6'VUynsN]~u8,b(Rx$,m)<r'yZ~BhM=x}zkp53R5/|wk>QEDciJ[.$^*Eiq2z]
a3W.;>:RJy=T:Sjt''Ghh^Fh:`aoPG7|9#r%Sz%$TeKi8Dx]mUza]G#3U>HoiY6lm5fL_}oq%HNzAR<OQ*~TOD<BBZ~`Z7ft_54WAB,Xa$(5O{qg0w&4:>Njs$F.)_(Sf2L(O4>',mKGur`XX6Y:~(
hQojri]LRSx>hansV:I]Z?ky;*=ts_D_qu17S&:E#.KJmrR5h8s'L3cJQU+Bj0.OR1u>;X}n0iXnOw'/Jec~$Ea7%PJDU6p+XTwiwMVxLtjSg{n(V~:hCa4T_v]!a}X!A~(voTR&0:8*^M8CgDmNyB
x<Fl1df4!A#}B$mG6)S#MhAid<>Ni'KstC(Jw=PmfznHd0l42A+Q7a,YOHNqV(8MQ#5w.)C%oGdrHSuP:|o2Cd8v4W^{}dGY/{mM#>=T%Gb$EfdV8d>]6=vX$VF)oLRgWN#G{4yrJh`gQj~ButahZN
/rxc`[OHz?IA|N$Bif(MAPaI>?dR2kBC1eJ^AWvr1{3m`i<wo<im0Cb+pz3w&El}LNm?GIPbVUOWZYmRE>[F!wu|xN$F/pmR0kta{F[u7KT~e$gEBQ<^taCE[Of_s,4*e~opr;*$e^4RULPHZ3!5^I
G:'#H>qx<hNXj$)0.iU3Pr7~a_C3VDxIc<S,eqTzunj{Ar2B!#rwy=%{pCAD+!v}r2[mPk#j:d_<uO2qWqZ!=Gl4[Qv=qZMLKmezJbkuvOP)nd:;Uk>MzyhExvZ6Ol7*q|_<{^,`Kv81VD(H)+q[|!
R+VexPaoe?}8%&yGhC}%d=J)W>Q`I+Y,1Y)<Ew8K<u)Iu+:`Zfmnym'%s),_#c;Co_p5+8E&r[aLbi%3|vXY]*9j!4#:L,bvAi#Up76.)#I7]&rHt4:DD)SLxU^u>haTwgP6wO3wjwxSL^dN#:S`^>
aa1,V9#4+8b;9X{8#`;;W!{)GRj'~;?ovY4K9G!,&JhX]z{Ni}F$K&BY>!p+E9'1Ar}p`%;DkRz#+UH4yG.DHi%Hih=mD8m$2Jx(6d=:d.nw:_&AMhtSK~O`c452!<r}P(p+DugoI{_H%U{)VeC!Up
nRweE/{RH2O>>,a&Y+'CEVt&fO{O66i]Gj{k5ll;7VGOVR(v/QB_9(xXnw{WTPe`M$2X{;vTa<J,STFGa7tNfEDWj/EV]ENVbUh_L4~7tz`59y0+u{J8oM6!4:%vF^z(oOF=A}W#(A<5.D`kuc$H!g
F+eYM`()xky+Ppfc;$xb7Vt&MDH;ggbecz+Rsi*wLw3/D~x8Ar3Ps>#wdYXEG<H'lQ]9s8o+YN!(`>7^y=KQ0.w33|?]`$07Y!pF,!uIW0KKvpyu,El%RNand|GFVkh<l_=gY6UQ|hu4p=F+S#:TV'
Nm<YW=J=BZ12|i?N..?*cKN{xr,XL!w(V7p[*PonDF(;6h<H&UUL*6S>~Eqx8VWXk2r`aH,JuT52Gt/CiFK|f.r6WB%R9`xk1EgPt`}c4#[9krJL:R0WrA0u=u.>d)F(k|8y9Q{%SOAUup$P|BjuVL
cIoKZ.KDTP'%uPUDjVOAM&f.qgs5F3EzjT<MW[.x,]lT3_99a>sK1ffgr$M/Ad2QS51WhXyJEyM'c{6qU=l<sYD$5NWd!9v,{`D}(*xq0x[=3r4G$VeYARER.<;dcD822t^fszs.xECY0UF,sLPzoR
M4KMxpJ.A>GXQ5YxiN>kGI}9#UK3Qlt$Nte5zVYnZ/Zf'&RZg8x6rw&v~?p6cXC?yKoBv0I=8xgr*=J:{(N.!iK!KiX_R~i~qWj|j,mPup7/q])PwD$ER_(d<;Mf{aKON5Q1j&>|eqhW~|Lx,$`|t/
D![vGVO&EUO:4(a*t4)y2M4.`RHfn,`mK)w~X8p_k~?z;o=[XlL>:7Sz*oDyJ8|I1SZ_<rzD2~JB(LiccjQv/I!~R?`spMyRQXY$.lnSCqW;({^|XrcvA5NSvBdLqB(AX?hL)kJwh_RE&o5#KUx2z)
_^Mg#W4OGo<j#zsEYl7eb1(S7!zTyl,%|SW'$~Z=B3'2ati/asJ6BL1g'36SB{&{o3GHiua)Ar0tC(/c>G_=bcu[e%2AYh8j|gj0uZt12PN8neR}$D0+vtV_!j(/iOypJLU$}{u&7+0+tAq&cN'.UX
0_ppM&#tG;1h~sh&(S*'SPD`n`UdCHu=x.9;P5$3Chwi%=rgQt.WGi{}:X|1!~HAmkh4E.J[5JvIge+u0Lcw#L!MN+t8`O(/Ne2F[;dK|(%~E3'qnk0e7(70Xuxb1p[p5IdUlhwKr((~NDYUO>9H%)
d6>=9=cVni>rFbk;!AqRgJ'|S%zc(sql>*:$gt0ySCS{Fs7~q+_~U>=~T3(U/o7yKA0y/l8ru&hG'sNc%kz*FRHXSl&1X}NtiRiHYC;Q3IRK~5=Xy5ZYQ2)30C4;5)mMYA:0B|22%[=?dfFTM5?NY$
v^)DcftU!J`plS,DO?GC1K|x.*3k;&G5h^$*;7ao9jRvEN>S:,BJFnoLTZsT~8;5<W{!IObO3bKT?QoVj!_^PL1~j<eNnvsIo.v9ln_r${pT6>U[K'GhU0xZg0/QB?Lol[<y{4/eBbQ:c0Lb&aWjm|
b1`*nw08,nRP8SPr|>9F!HjIIwwkVpw#J0{Ws!>ihF~Z]Ee4fxA5QUj,<4bj8K+l;znh'.L5^fzrE1V5.v5}$7|'x}5zf?61LK!HM%6wovmwBW^~7ZKaen=#FeMiV*j~aqYDV'z~2*[N's?xJBwxEW
b&CCjQS1i'}kE0t9|y!E5=w6U)a7pi$inZWPW{>{tn^{jX)+<M}[t*U[fDb,SNceN:o4F#Y&)td_{pocrvN.nr6(P~1!`loN5!znv[de9*2$jZd|qY}1fqO5a_iUR_[=dYa%CcOj/16']&P897,R{h
Qv^|H>=9OCG/PvV~|eABZ^i42+_s]'yMO]j~Rw7?.`pa1<*}vY7NRZ5r8/o/^[r&)sF3&Z`2m/`>(z>)kXFn^P3i6/}.<9FPtAnHQ*B`t5#/m3t<?8CgLzcPWFGvj~uBNXrDx2Vj3;yMTyFECBm7*!
Q|KP&6QCAuf=9(R{1d<YEMFN&h1;'?bKE/QJN6h)&:DN$dP/2yHyYrKDd}x:E^U^8$ff8X1o=;Nru~KTTq?My{x0!*|2;E=A^Yqyzbd]^&xtQ'NH{l0qT>M[^/Pu7`.HWJf%>F<iz&B+Ovz1vWtGj8
kn8;w.bdCU7&UmC')v!4Ja6V+r+MPbBU5`jbo5vU'}jVxldB3&5+A?j?5~q^:1R=/g.X4iTS4BiXDLk/44<+z~t3C]Gi$Fh(^v4oujuDKE_a{G6%!(y`3!q=AXh6K,Z_I(=Bcbr.s,1/~o*m~fNeMm
4.RgD'b[OR!+G4b#YKxT]3n#$]&5gx.Dn.doK0rdTL>t(3$8rG%`!!|SlX)(t_9n7!0)=Lip}X;E+sO[kt+=8EKBSoy!m.eg!k}bx,IM1#1Xw?JUbipyU?sU!N0[U?U^IzcO=f]PPJ*Kn30.fl.zy%
qQ]01s=zv+AUoIoc*:j6}ZKyyq{]o(=1Tg)t54YN[+_wUij]+#kU]ny6tseU7N;T^3jR|'fU+o`KXBONy#4%s&y|zD*2+k0|MFI{&^5I.NQ(h&(5K8RJ|p:x/0Zyp6=%VD9I;1;t85[l+fP><fJm:;
!nl}*S~d%Pq'x8U:J/pyoIMT+Ceis,:x8li]0v~#3(/6qz8T`KP2Fz:WSQ>0ni%10?Pa#HopvOq]S9yS.g7Mw2/.l#D&d3Vzp,#/.z?[Vv^e43$`a)9jDOGKL:<T`zl=WYitc:o,:LnT{:YMM{]QP1
Q8eo8?Oncd^edpacIG^YHo.cg`%Lm6Sl.n/<pkW!AefTCWChO&4iq]nQ}0/A]dAayf:>C}KNmuxy:G0MEJ(tH<6ls'VVLdJ|Fk?5?*pa}o~[v_'!Aof6V.!RQiRb_t*V}qJ3!Yxg+a:)ZaZ|1w1a4a
ecixJxc+}3[Mte$o8UiJu7[+8BE)#~QJs/bKa,5C{t4!g*z!F`wKtCfI~,DhmvU?t[}sGEi_g>bs1I<9kM7rc3Ngzx$FLM(p5p,Gdj^_f$bQ!Jr*q:O(?(dUzS`6q)&ex3j^[<UKOcK!AshU+.VFue
x[sVlQx0f?#)Gu|.7%ODMKvY|q?GUaU*q]0vv{a9o^|AL&nWDkYD0$mWA=`C{e`Hecz?D%O;'M62]>v:{IpTk:J3S+[f*;r2:D[7jYSZKd(KX3()G(A5lio:'X{]_`9zhFV69(m&byi!&xJZ[HtaaM
~oTq2v_AMMUd[~KJT9cf<eR3D+JN}C]Oi?'/&8i)ynGokozYiA~f2IwWlCJ&LA|l}2Q9L*Ihcks]JGO1]chcqtBfe6!fQ=Rln|ta=Pn<|ZkXz&sda;vws]XH>3y$^VZ;IeNoz.=hhA,c7H=ayYn6pk
pE0u:BsS4fxX0('8`Yi#5~HAcZz]6Pu(%mfy2Y~^rT2EP_WY3q>Z{:P}S4'oRdj)PWH&12z~Y3*c2H4JaJS8LdV%U1:*RAp1xBplFiEz)CffA6P=V+>8`=:BmT7bstFu3aaUzB1a%{S6M4yzz6r]`!
(iV&5krYMsiU|:e4&~cXAu$gW'e0Kc?oELqUJgbo<##.N]<b}Ro(e}ub_FGmT{q}$QSN;(wa,c:VaO;Dcc^59&?b~o/9rR'Mva%5t+a0a/]NH$]^=D3OW?`:YZnafVwdf6CF_mlEb}2eK)DWmRS:1m
MWABy/o}>1uklm/.WUK:31VhAd{LmQ|6DMzN:30>`:TLl>ir0:Jyx/CNUqxh2_*Sbpi>HnU/^I^a,y.rVPW.|KVSmgo8OG?wrGRHj|l[><%Rk&M7Q>?igE~i:.e<[dtUG/mV{n?yP'd0S>#L?HiW]t
>$Q]m#o(K|+*:xnlF}w~5Dh9yKVHhy?W}c+~5331)63d?Mz#d_49bA1Q`=P[swayJ/?39L=/l]bTWDonL3j*O0:IFzi7fhWDIlz54wR]:h?ML[JT%I}o!Kn=_LbDY^8b*(9[T(,6_]D>kCt$wMs]n3
_r3aS#OuSn`$nvGOlv#i:uWM+mlt[m>7S7q2[!~.4~8%JV.LOXm0z3*=2BxsP,g9CL9r;_'gAW`]LI[ucS.Q{5e8l<_*|=NJg.<M#]o]alGsI]q`n>(Xxn);1jFa)iI9rKa[`8sA#HAoy1gydkz6Vo
vyl0_:'!T!w%{BE9]0zXnEVVfT.7U9w3/9:cV12AgT7w/P$iKj1svlFQ~|!N#m>^[J(b3:>t1[omT?Ncv)=u`+h&_TgbGum'W]0R2Gl$j]c3UDb]?!z{g0cDZHt*0C^k=H]xX^FOhLU!TO5t5(.%=w
X;m&oV/L:$T9K$,!?piIaKyb>!PRC8Q]A?[rQhU{hz~{!|8nDnE69Y;*6vU]b(xI1yQ'61l|i*:cuq&xp|:>l(602T#GbRHiuQH={3dC=>sH1j&~]D+r3oz|(~kC#5f%H.exe(y`VVDYSH`4T/f_Zp
L4Ja~x`_cT!PJ~D.m9$JPX4oQPoM/P3aAOrfz1E<AV>ubuZ3NapPD&}fZP,J5KmUD{WUCETb[wpC|ZS=Eg0G6&}8AMy&_VUp4:GO/zjHsT5{.<KY}YYh}x7~69p,*'YMzRq5mvePgtg{W=xv+U,4Oj
CYz1qzkwWMLQ`0I6}K4PbEHeB3HiRbWmqVu|Pjg8K2'jJZEo%A/W4};I]e}02Pm&1~^J_$`;m,&`dCjgW89HT86*d/;Z5u=%ZdMl$(]KQ6P+%|zS;%l&8|V_|QG_Vn+JR,lqL4w2Dyg'';!*MUYX*B
pqvRp4,O5hi&XXI*eXFSNHCRFDu,o&~0U[N|L#Pv9_$f<Kilj6c&&i}x9/ijq}vu,w}9`>3Mm#dGg6`0z8a0claMj.;VR4tzU;Ux;RKP'_ToNys9(.^aa_s2:*yEVE~eDo[kn8x<{hZ'YsSmjSuji_
'?ldES4&wt!'O;Dn<)7#<6>[zQC+5rTutt3a>GbK,z$dmV86/)*|$l/;`lI<qJF*?:=)RJ(dwjONqPrJRZiq4Y0Q%ci)I`9}.r4)R'KOaaD}cK#2fx|D?M32$9)/.4LRi~/O;m(Itt/qSXK^[2KJI,
x:>zh55T`f~'{`9uy*:G3HLHqHw&{{m|g1'65zJ3YzdzlsQ:5c_GAD?362GhX[aIrSr.3:ef{bJdRS/)Gu:hz3RlY=qrYC9|aC)*Al{GHiIDLTuDeMUrbMN4r*_}MlK0~#b2xzH_/;Lu}}bA#I?ao#
IWu:P<zQ6n1;2x9&~d]+fz;2uezIQzw5L|WifG1hTdbQa^oa/(EW`A8de]7//QQYZ<&|ouP>`iz,kb8YO>2PQNCe6GeW8qo%nwN~5i`Rfy,zBqI!y4|(pHLF/$2vAcF[zc8{Dt$J#{Bxx!vZm]*!L5
AJB..gOYIITg92'Z1N`*N,cLhjoaX;B`vpq$rlBS'zHMuR{jj?moKP9Yj)P5a,&vnJH')<CHeel07~B]A&#d'Gz#Y.O1nxSzWB*[.GMT[GPW7<|~Pu}nU,IWPP&7}_xQ,h6(b/d'8ib<W8eF2N$(/u
Ln'mqt!du4re&9;Z?cw%Z<jz+A/9Mt.LS'I'AQKQoz?z)!R0`[p22Qf)R)69r?mffZ`}b*#CUgb(MZMVwSxMKi'Gt;|D29'h<COu:I08ih8Ii1xKk7i3Bw7bt+>0V/l3a5X$H|_8Rt}b)U38moOGb$
H:)7a?]h{H6vr:tCPBWC%T~IblOR7Jl>1WK1i8Y#Y;aW9=A06XNy/>$0/1{#EfQEQZVH_qy`B:%V0Y:)krRlnK&E6w{T1=ni}2|#UxKh|6WU>H%1(V19YLDOj9(NaX+a+B*wrG$Gd`CIQHA8N68c(A
1bkw}S]5`41he(VBV8/5Oh|CN!;'RH3Lm`P'6J&/6xo0nwE$y:LyRfF;(w_=H51Ph=Zs?BqYUiJ<p|'}3ba>)E.zpZ^S5R!lPzpMF5L2.`!~dVaki(VA.kF~Wi7rcc8}t5Ns>^VcBn6TnK=[*[!{n;
:3AH:}19|tBvUn$~~yyS6C<RBnK?&~Mp:C%I:xb]z{~^h0?k#WA0_1Pe.lG4|0|ilA|VftWdLc{$W9!^qTuo^xB*+I*18.>cGsqV`+QPvJsP^}A*+LN{#;f3'sXqSSA`/d,V]Z$ecp1$^<[z3yTex]
3O9&ShVP5*piSQwU,m;)+f:4]:566V~=r:._%JLg/J;otzT.n(Bwel1g!H<V%Ez<kK|rc]._cI1W6$lc6|u'z)28pS{:3rY+QanlS3GPejsAAUxeZiJjS1G5^H75?O^Ik581B<aSndPB.[=Z3LaZg7
I.%D/ePsD3tVix6,V/B*h/!<;C9`RVrVZHZl2#it8n(B5Nhr2sfhQ~W8ss3x}P8.lWzDpq[Qa=SsQ:M+;iSC^US>Lz?w%B;LO7km%Q|}pM~YB),Av;)<IS!UNNI)N$m4Xc*/k3=X$N8YQDh;c'mIsm
StL('|iSci![;UZ1Gepm$j>EO8+OF6vO?n/8TheF>HPaaG:ql:^yIjmi{keOt]/{4Eyes/thGTIQ!p(v*6jL]t2{rG<.~p&2s!K!mJJ)xKw`v]^T7#jElYX66pRbp2(>v]qT{RWwNPyCYw=dk^~VY6
)P9wJ!SO{)$PKpCP=0;^1i|~wQ:usLdZ{LJwSO%me>5L]{+>R$(=+8{0FCKH6s^_dtSCXCf~m~yBC`,R8;8^Y{>d1D~s`PG12B<hWnzfDZ4e&v}'EU^h2eD57d=7%L%p~HX)!yG7L&xlmU)u)s_g5=
J40N9#s_U]:?k/(rIj:;y3)qL8Dv40/`V0x])^*oqEE1=mj_!Z0YC:=5_RiNCq=k2U1s%BL=BeI]%L<uDr)(7M`9mkJ4|=3!!I}+yf=#>=4>OR1r8I^.QU.R:dZn/SFIS8M3NMy=c?*az={L$d1cVk
gku|}6KL8dVP6b)u/ZXP1nO~z<Q8tkaLBZS{*YGbsQ8AHJR>2#0i;f(akTuwKH!xv34KgIzApG`xbgs=CNqJQ$UQSsWy`:gL2d%Q$#Ns&jb~m#sFZHu,;}iw9h1=MK$!YIwPvoTr+p<0[g}m)xThb`
i;rj$IXOf}+}rvAz5,N]D42hQcmMrw4syL14se(e%e`lp:9U8&w.*cLZy_Zl3keuZFpVMy#:gCO.ppk3UBE%K[bqx>i|L*=D&#n01cl:>g^x#Uxr,Hs(mHjp<0crgXo^E_Z?Mu/2e0U&6+rpPO=<]W
3i6mIWDzl~%e03G8Qfwa1p.||ab9ITkbiJ_j07w!A4AV=B~(S>^.?S25#UFVQ&,jXiEGyt6mDQ`/%E]tTkAsg8GoV<KaJG).eqS$JZtL]o'7,J5r~o``;0Tx&Rz4w;M%%.&a<Yq;::qN#!XV8F$Gvb
ee)~%V[AQ06c|:}nD$1r;#`GE/m(i's*v(M'k>]cHmGG:>cb$'pd})u:OpwflMgS{r3pSea2.Yc<yX4T3'S2l=R(C)f)Pa'pm^vZSG8+L5Eg.?v)Va!W3k>I|N$qAPVh5QXq!xt5E`VwV,R'[ofJ'y
pD:)N~G)bNY5)xp,4+QM<*m?zXP,A=Jjt2]^lEm7iJ'$J?<(,^sY8%SDVY0o7hpd>ZwBzxoCb9R&YBy)9EotdSA62KA}i%(bX`to+PF8rymMQ7^qY4LxkF[cQaVm')`E$SuGpRfFphU~GdGAMIpxl.
[su{WZQ#dX}m_<249v,FS?,~:<)D8VY~.KQ:<_i82iobRi{400ri]<_c`[*dI%MSrX/]vXGlB]D*dV5WS`w7Nk|a{C9N!&3~o&TubZBT8Ny1eB!4OVc`f&u#;mfeUdL{`JvOO%xZ#ywGs{b3yqWr3U
<tAZX&M;PX+~0e>:FuG/xvK^Q{M.5_Q{,W9`>HQI9b~PE8T>p>/Cf78)Ur71Ac.;1ez{}K/nS6'!:_},2.JUGlA>Sc|*yJ5WCbpbz'':ZmWmxPuI!`S>4_dO==o?X~FSgp}|GcO)K^EL%DTHr`RiS=
jn2IA='q5,1&w~Ap.rYNP)tj=9&`D6aO|JzZi^smkXq4N]Ll]2v$Ai<]l)+wK.(!0HLzOj}*bpUNWzEp2#AWd1,/Q~U^tubMAO%]cJZx'%ri9ts<>C0`|Bjao*LGEl4j)qC02'biY~rF4=^q^TJ%us
#)reQC9^#}|gR>}<pW>Uh!D$3Wi0B;hx!x:v4~[nifkpwj7SG)o&0ox*nrYmcwTS,kh^Tta*d#^Lmi3XWdE&)AZLv$IVV/3L$8J}WSi'eN/0k~i4Lm[_3VBx/1]Q<_!j^]Mw1LB1Ix(EN2Nbv56jh2
`2H,a{e9:7Z^b<NZZT:(g~nqQaP'_A1ZuK4zS8ui)9ar9`.LL3*||fGebIxB{^Wsg.e#[vG.snRKZih+h_{:Wy1FH0m9I`61chjlDV{j6esY:{;8UKf&IdUV2[~J;nGs,,KV|lsy<;CV}7xZ`tAhef
an)134LkEDT,^aZxwS^^?.gV5)'NH'9vAW5<2[H}f]%xK3wbvQ)FJW8DP6kjaA8H4FLgh;`Gc:]3bsu&)H4c6`oEDA2!IrXRArrH`8B<Yq>E;wXAiZavU4p9t/]|7rP*wy2*r[2l}8/A<L.YTXseGF
19?k23SwtThBF^62JY%c2o3=?4}S9cWk?F1yG7huGU}XJxuRt.`qN3vj5:<Y4BF[_tycBj0|tP+MWvXgf&coRe|Tm!cq1X)[8:YR9wah/topk%TSU9_#|?R%A,aJAQJLoE?C4gSxHh+J8^7h2s,Wc5
eeT[{uw<#f/b_`3({$*TY8cz!FA7zIj!YIcViIV)eIS:cd3QXGJTLt^Eod`Jt.O1q{_p7<*<jvl'$SEal;FFPn.jFQ%bVl>mo35MAZOy$t#!LQXvPNPnU60nXPCe+E?~RVB8OV:c/Rls)(s+p/&_br
Q[L)%?R.eRv(C~Ew&VSfk34,CYyN(Uyd/hAsFj`?OeV|fW{Hli[F>$[&.iTTCdNF~j96D's|iM>Bu0$R9|MQ1p<cgz$r>w8`V}4,`5R5S!zUGKCym:En6|x0f*b.T*FO)yeP.|~DdVc}lY,DLo5ssx
AX`/UTPS'qk(Dr3NDuy0[D0~/Eibn!{mF&ps2_M.6[pK)yVRv`y/ZG8}2hN8(X'k|'<jBU*_mx{,ht/w1|h`Oz>nT~pu8CqMH#Y>ZGBHvSIIb2E~|5J*3TouZcZd'1henT;n9ycYbG<Y%'G0Jqvb/~
my+TR9!t:BTCvAJ0ndZ(QUPBw!tdaG16FHXHW.Wn{^~IbCMK#lCd]?D9XLq9?q~{1z}[P[c7Ki?K>~`Q};BLblXmqB;2Uh_2Oatf|MtR9;=243goecssz%j<R<MDXY8A1Dor&pk=m}s^{<$22^a[s6
v+JsE%K/7/vJQ(1KVX$X7l/?s(E^FS&v[UmMf'0u/%[^#(=$%s>hBz^NtPBTZ71i#J5mL>?)V]NFS20z,lXmECm;xv49G]1sO~<jE}NY:Z;<A^EvW~&t_`tr}CU6Am7gTz.o/a(5Yl0.PGAc<:4{^a
*0w[)d[Gh/HAdPU*vkZaktqC7WgM>TY%DCt^A2ewSqHNr&>4G8p_>a;5o`HXpUt(XC66=1$V)._>RJd<g${mnf3D&[j5>}fl3)Au]q9~7UFAS3Vs?&pyz%$TBNB<:viajvGE|NzFJAY+>ki>XqQz/N
[n|,J<&bdh}IoNYEth17bTk[x|XYD~Lv$LMp~3FS8/$U<;aygC#[{^Nw1&n^xxRQU^jVL=f3F/njiE2b`8;m!rU1q/$_J{&f%lK,23(Rb`P/tf?tqaw(X|56T1dA1laSK&r$?k`u,/c?T!kC0{g=6t
&)G]M~C7?5bRXuful1elLzV;%&ezd<>_kjcS}1bt_s=dyDzVP:NU.muLimd=Ln#mVXdZb_x3WJ9;K8[Bz,%c^r?YquAR+8a]c=Y#9&FkOD1aaAR6:&7[XK?li&VUC=NM;`ut?T#w;g_#>s)jPcO*:1
SHKc>=uQ,TiL5M:2N^=g*yNk)sg9OF<d*j%!a#Oj?&/#/O.93HN^FCvk0SoN`>nu6#`A/(~r1ybUy&LCDEW6zaK#{B~'&~z+mC*9v87+2ckt5`q~LdIiWV6.$1[2xC$s{6T_3CM2tJ'+vNHr>D:!x(
,vYC/&{yh,D2(!3kTHM,qyHqiw'A,VUGnLB7g9(QAqpo{aiYaC%MQ5C>$j9^J.'cyZiK!J|fe9:,mJ,~wKxdbR/EnZzS'A<mXW^Yj>!hZ'0N;GO<*3019uwk?J|6p]r5xdy,}t;c&'{a6ZnVqB~ncl
hW*rze</#>`82NvA,s:{EZpJWzn0zHP!0&tlFLx^:sYJSJs9m9Q1lX:Dg8v7P^[;gF4ZtgT}Aj5uka[7fEno^iu4^{>O[4K[Ln.g2*[NM,/bqtwHUm4Sq8ewr3vri21CEpvj:=^OUs'({'SnVLwOnX
v1J<EhQ2jpQOG,|[B0;J=~1$()|n>]!?uN9/1r.H_*(k0EV~f(V|$lp+[eRV^/TUY<|8}<X37rI1,W_ahRveMgn^,3/&MdoBvIV:u?icpK(X!QwmwnE~2c(VC.$/.T5ocF0tGme7!x=:ZV[SGK%F5$
Rl^p`Dj)v_Fjc:sTE^uh[I.0)>`+`/;Z#:qKWB3M>&ske!=w(Jws:Cca}z>pGG<a?k?2&M&OuEU8<+&PfUH`tF:I8Idmo'%qdSYTLGClOX*t<]Nlm`q2[%me24xZ>O4K0N'`SJKhgE95pW*0Fre'}E
z0/dyzZ0FO<SUW~F`{N,htc&w#*{O*73eva.Fco!(4I+&g^Pjre?EdsNsF^n/?6$T1D{`Bd#CP]ieT}8wXTtJ4o!ymA7Zbq6i65E(O:MA!t`[;SBR!evzo)~,Y:j2,foPwY,v:[s9'U67*iNFc+~'w
+b{A9lVUhmfM*Qm}9e<h6{PSN`INQGq+ws+2)3M_W1qEzXb/Z$G|1NT+DfhgeB65F%+d8CXh$6Es85LTMe4[sXaI2.h&EL=PIId#dL*[tj$o1F}O6YSh'qQk}{rXveE>56j3GRqHZ]aB^qvt(#efk6
d;w%#)G}p!QD7`'X'~6PAL'y<dGa^t4~MOu(0ow?lh3r]jyo9T]!$[%{Bo1USZ$./pFXx7uig90(^Blc$P&n3cMq=y.Da|+|<Fy;g^kQ/HIO}CO,ngLT1oRQkUA!g^LRn..=Hau6QHm,/h7<1V+umY
E,JNqYE:?$WUsC&aE1ZB}YL(>VHJmARG[Uxj$iozWa.d10BQ~08(B.L9[=+N;^X{MZ[Sqf:{4D(p^OtA*uug5<H3!(MJ=P*}8A%xG{Qvvh[6(`<pBd~z.&dy`{BzqQyQm5}PV:]0!68:K^}Z_5RkBK
sTaEx[`%Q/hbUy+?uI#jShQw$0.`a>:[+[y3q!QvBcdh,Km29)kMf&Y?A3/UvUO>j?Pua{r37#,9zlE%u>M+of{o$Ku&]+Fm!~aMmmd<*pfn>Q#Q17Xi#!gx)!;A|h=iL11cQHU}SlR+QGs598#M.b
)Dc;G0KtEW&I|5FvgP&(7ej*b=(e}8(W<,q^]#oiS}34AWP)fk*!1NA/c}G;`4Bw^_z!2FJS)cU/zNPvuj7v5,EH<9BvFE:P4:+c!;Fq[8/G.j&u'GOj{ge.j^z_[qb/|wrj#L?/bhEZc~*qUr3/)_
kpt|qcW#[GJ?Btg0tsd:yw)7$ZDc~^_^suf'Z>uyJT0s[[V7K7Z]3k.k>oA.D4_fEh^?jQ|;FRik<b.>}}]%M;pnNOFSg_,u_u;!WZD5x30A%9+{6'Y$*dKY48DO:+=4i.ltNi]r|.5?1=Qbvh,rqb
+z;o(SV`IAFJw`U2]Q}H``Ik;k*7U2$ZWMu>3FLyPbH}dYMfaxUqHe.H,CZmKt>p~njnM(J~7bEbrJ,cT<h`dJpyq{S^P^Q'MZ;blUs)yk>DT50bMPmH>ynp%kV;qr*IcgDx]ppxAP';Im:TF.c}V7
}DBri~TnYr;,/tzYmE&v3)!dn<|kn[XZU#bFUP%F=dJVs`)5~NYcYg]LZ/v(Nz}uO?L&ZaUIyH!h)pr(1h7<Uo0S)wB`)+{EMXA<arLTg7?B6#K`DDwNH;xGA(eW1uPAJ_G0L`H.Rg^Nr{Jd)u51kg
$4Rv]y6R$)>y8*#w)N3ILw|5a0j#sS))*=Hgv3=^Zp>sCK[3Mu1qKBTXh(#c:Y,>TKlvW6T>A$,~YbKf;kW%;ETaCTg<*3C&YLk}obY69zs)H<*S/;d4V*NmOz$0[d]w$b}16jb6P&]^P9^Yai>APz
)Kbuwpi:JdG<?[PTM0qfnn~oLpp<i9Z~O{M)H9KB[V'05Ct6*o>?c/jBBMCwc>mUgJne1o>ApNz;owx|A/M8xhE:VNTguY07rXS?i<v'*rEP|r<HUwIHOw/4`zzahNkho6:OWctyUjWNmAhte:6{X`
'C[Fox5f&o`!f3i37t;=MZ3Xr{e=c358#9;%pVb%_Ao06pe6p|R2CBXtGUpu|,G[f(k&krK{l=9LaUP{YytFVD1QpCY(vs!6|3ceVb61IY{>Av^^BQRH$2^8(W$Q)h$/jxlosgR:Vr.YK?<PljmC(z
jkY`Nfx|!7O354l977q?ui}0^cJ/X#^oUSNQ})T<&mGn5ybG,}ge3octX/|ck1?&US94S4mgr]?0>dac?~;i'#V7lu?.bNk)B$mD~+bJY&|B'XCf4Qi)W`7r66B:x|JDoayuWhnX=yF8/C('0V<t?<
eqUBKREOVDPTIKn$ML^8?_!f^*>8s[bDLMj_GO.JdTK/iRet6i4YCT6h(&/im{1jWQD:4$UGT_[BaO4A.rKS3GW;yUuHU%etxi[2V.vddx.nxTY8y&~(2xRv[+W,*~D*l7qt>M/3.4QGmjqh8p`05{
dz^+k2^|kSSCI}#w;^DMK>5k/Z(m;qr~cfk=GqzzM|_9SYQy8acs4VM85XO+P!QCf^7X3g7dL#,'|?k.eg)?:VQyQ{v?Y61&7]0TBin::4<]12S*EhbR;GoMPCZ=AL^5;2cweC#6fj(nI?Xw/JtTlp
/[A_`4a0~*)PV+&T^Tk7<3YV&9YiG8|NW(y9J?zgW59#t>:i`5zoGV&)$O8srFrM'!M0<:1Ctu_I$s&{:Yzo%H.d`R0J:>Y/gUmB%0Gqi^b+*(fJ|>H2I=)^v8&^$FJR8QD1kcSn.8+me[1qeYT'p&
H73}N][.iG,`<!(bRS:^_0iG#NJ/AGx=~f5S'9zR5Vh.!b%01&P?{N'?i!!tA'i()}:h_.+k)?cTuCy3UI:=O*QIY/aO'4oO:Yg[KMHT;v>|>j;>({vhJG}|Fm/rB;#ah:+/U{|;8o3U/UB>spTFuz
ovp*Q!K,uP0(pO{4b%Oh>>7E?lO6q~uw4l*x95c*UM8tcP?Qa!qXi;$<{^%(p<=+qF;j%:mbOSrp]7',i`+)PHQ8Y:>4zV648`AQ1={<x6)k'B;[oNqO)u]C[>q[HWH0ht,dfTX/)O`2_9zj5nzHGD
XMYJ)kh$7cBO:s<,Clc2$+L7=WMraXwB)}7RM9~o8[We4N:36xL}`</+[)fj*x0~eQw&P./;Y_U]FXpPQ^Lv'E;'7>.o3GeLcmL&/;oo#fa,4cA'6x~kplYo>{J{Kkhsm3S2xgAs{wFspmO;u7s&E9
)Lj1(:vP?M,(&!n]jm!_=J/aR1!03+W%SB(Ro^E7M>x+fFRx]4.EYt{mfGL#)|5tpm'eMuUy;r{$^nsV!c[X,e7'eK/k)286G6u#K!<^5;pbG%jKYGoMV%|83Is)e'15f:`}:f8i3n,Q(C`)|A}Ty,
NWaf*`!mFrV+))#So*K{j|:9W2i{Ww1r4|h}^u*_]X1>fN<&<2~XJ!<H+H|`]:TMP#{N60y)Q{J_yI_V!=lXbc1^,`eh=tlD|<5`tJFrwM[?6ZTrQz,==UoxF8NcNm<PZ8q[uFfH,=Ro%wrhGA>=vk
vS5qSahGF{#xEAZ6LY}~h^QodGinRLS0N/:Q?G&L4F,eWBVap>Vr6u(H?Ki)/|f5krnTe]*=LRHG*>fuH(2;DxoDMYa1,IstPARfjO{Agaf!|$svNjMwGXewoUxsHY/bKEK^pS_C,$87/F(%CfD^ja
ZnNoh{U10/^+YR/|Z{>=!0ny2KY+tD>i'y4++0$[9*Ei<qyHB]*h[x{s4/qZ,Yc#s:aw77$pIU39#IK[ZnL~0L|ch~Lidw`>m>we10od>'bg~wCj+|:9i}*wZ'rA'M(YxFhnik$'RI=tb!aVhlY.1/
fvj,)A2Cb>$.N}i[!QZyXdZ{S5b[6Ki^j<2|o_wl%+qR#Ds;Q]apt)`%[wl1)3*tU{0rcLXIqLRK0b~!~7Lfo.QBW7r&9'x5U4z+I'X`v3(Va*QIWX}$Mjpe5F6Sei|+^MD|_[8Ske~.zP~[(X'k'o
855^4zs]oGC{xRAqym5Lyhd,as:u#yQE<D}b<83o6k0FChAy/H^Jaat|B+Si.q:+}SswfLPIT+N#K#:J9ev]X{>y(S>)CZsmLofri4b}.0idSLpWU!VIEN<SX`losSlK>!EVd/I9bE#M_3vk%:!`l>
AxqWa?JC]42q[,06Wlj4qhP2=^E}D8&RTl#rZK_L:_>hXMgw{s?0r7q]oMUy%uH{(I]JKQ*TvIM+/j>M['fH,M1,cRQCG{qAL]o[8,~76xH]+0y!i0,'XU'2kTN^{Zm>DJ!S9'iqaZe)]]1dP%4n'C
=$0>:?QcMV~%WwteJaM{b+v!i1=00H*u>k{,r;H?m&i6m8MW('0.v)!$okq_5:eHwXM>5'f6+32Xg's;d5P=;fxw.w(`ke'x4S[Om/#8E$qPJCzQm{C]C/7J4O:(}DwpNIX4SzPpbsQ^itA'}v^)BH
{%Q!qT9Ro<&iLW:<DDVpT;7hS,e/aI+oM!EX'1T%.rB,:+N7Ai8##]rr>ysGq*^R^KQ&faHD0%A:.!r]PgY:'fF&u1kdGNw0D8x(Mx:wH_6U'b6yzUAZ9`7%Mrwp,v6C']V$|DY>H::IH_A~dHysB6
oQ,d3+VI<Ry>C)v8EG8[*Guw<F{n6FYi8pUlKro[4az7ysc:f$)/Z~_*X,,mU]wJ`:bhK2i^s3bi2,Vj^Rha!B`TW7n~*D8:`3CzD1>3V]coqdXHJH9y4)[U9RdX0Tw;N{hkhrd~a&Z<uK]WXa[EWw
V^hx3TnCcmII9Qm<oyX`M<(bLBB,):RO7)P[z&O=(a=T?yZ.=`3T.xn0%nP^YfCI85bIN}p8VzIdwZHxA?NPJc3Skop?Lr1fQ7}:&_}1(aK4Ugic$KcLHIc>q%#{t(K$$Gky[};G0bHBS1DAqQ]ILD
,946!U}!.{0g0uxYm7~N{H]gZ?s$WN%<XsQ>;=R=kg~5.JTf=Y7uJ}CsJVx/X5*R$*/,%|HfH)ks0KoDYJ88]~Y=&%6u`t;Kj`gh]/SxR<#/TB0g0zV[Q/i'D^Fk(cB^x>c?!,<)/G!S0CL6Qtm&Ts
+Ht}1acS_dQ[Bb7?DWT~0oF|C?)Z{`qF=fOzrM'6%z3l20#1Rjv!^:?Lb?oZ,'cI;~4^L$GK[EBGCRlO>yKd>*BSOE$5D:ro*=w#0VYd?rp3&o*qqh{[W:en3[m~&*FZt*?C}e>JrRCl37![a!yiSE
V`4t,l,yI~4y'CH':d7#qFNz~Da?9Vv_|WNL6AcFgrGenV!`c[hH6;a[GDHk]ZGJN!ci#=35gsQIwD&LtkE6lUkPNnKLYC*w4NcYJe=|c*)bLq$atFFq$~Axt|'}3nLaa2Di$:Z/V6tB|34$tG7S$A
bGhRT,0LK==J4a0Vu=PR_nP9G!CwItmNH<v3v1emV/g3Nv+thrun~6X)]E50r9K+<X5V5t/3VbgUrpPXvP}MGitd9xOk(MRT)x/3/U~%PLSx<]ZV2o<^x)'?Sq>]:XxNW++ky*y?XRBy[EAdDkIEF)
S<<)^hGg?(w>i%~3Wk(?_j:Nv)plY4`,{P)*o}7_F)!+D1^[~Qs7Ch&u*|KB%d]h{3m)_j}~aS0XLp=,;TjUNohg<r[,beO:%j4N%~F&4(nNr9[L6B[C9ob`[=Mf<E*a$LBlMDr0%SEN&}TuF(|Ck;
I:ZfI7GI=O+([o+f`~$;+F+[^t|}$NhZT+q80'gnCWJytVQm^H7N^yX1Xn~CI&(ne[yL,%+3*F=v}rU6$5wwGDd^o~tqdqewe;XF`e=(yR4.cZR||1udES9&tW9=Og0qso<GIvhk~k1!>2?8nt5,ym
v(Y_u=#M!hK:{Nj7+>4F9mlh$AMPLMnT)1Yb'_^?ldvBXhv9b5D*i1F1'w~m4dKu[;OBor}NIPU[.y&ug`Z~3SCB{w(|~^Uuolj+wy50QkPGXjp;iT*HvD'jbLHqqLYl'){UM66]/|9k2x4[46'C]o
ucpfI(k!*WYyS1hNj>ihRxn<hq0tDrZja#FTs49*21s=Wl'=nWf8F,+j;f;LSj}]?hYv'4Urz+{SF%nBD_)XHL.KFLd+L`VL(<i5ylN9uFH))I]c)S'?)#MTGN&<E8eglj'H5WWDo]t>VxDKqH:xu}
^c)>h=dXKUMtx=Q,!dy+xTLj$ikM90mfu/g+!(XhNU<}4tGT'vh;k+YF~YO?FxRhqip,o;vsdZx5epr1VHxmsVmS2u}s>]UnDUZWKigt}HLw<.zW)eEYio;$hd>CH~:'sel(wuxt]Sr^%_oTX*Iwjy
,=)t|FbGd63!#B#3<eYybK%8d|]>$xz#H%7&_qB&P$4/H?5GUJPKwrkZAbo1%(ZqHI8<gjnQ<!Wz%f8R~|a51'3`hfovL:bk&;4%ZnsIXq]'DShDDpANI8XHRMGSiZW'T#6t8mSc%W)asE5{owZ6pL
^eW*4W2d%wvH=Hu;$8U||#jQ^l(oFBlV`<8^JTx]a73!Ky85?q]Z8jPs|s?F^ur;<te)]]`RuM+yqD'7u,hI0JQSg}qTof6lLI'G{:f%JP3]?Z/=H_E,&DFd.]vQV~]0wl2rGK2>t0vZ?jj*,~j+?b
u8sF44E{S?NURI;X<&4I1</B;?qgfTdFGcB*LjS!!j1k6QL0I6iv5vO|nF}qTR?)LIi}($ngR4vejM#q%V$1Y3}_?joFg`4)PLEeq3`Z9<l^k,V.q}S&hd36^2_^mG%4i%stC1Z^zK'cR#Pcr|~<':
1G|eg($VfCy~qMhu3==I`_W^UFV'VPG+}LK8C`E9f?WB=m?E<jzY%&OD_hdGAm6R>xYNdT5cMZ!6.0nnO&8q}KV|}?^Y:d?s&>=wykr9a=GcWj9l~e4>wq+[lRW{X:m&jMB.jsky^,ODBQ<6i6KCV]
QOPBFe{:m&TXXpC/2Tdr+~7RaOmsm!c#bSh<E#f[TkF2faF&j59Nvd~pZB(h(CenCO^n|Hw3G&dzT4W%,AwIdX8TwonhdS;]*f(%h}.tI)S&BJX,~e3rx0e+ZI4.GT'wxOUU|n^Uqgj4zl4HCnSgS(
%nISoF]cfk5S{D1+?%PsyF:IejYjYn3s`wKQrvRSHMq)q#EgDraf`X<|A;T]FzyzP)x`YcXZ:W0A.ciB+XKMWk;wO6ZeZB3^nx<e1(M(pakN0bcpvE'$mwDx+uuaSo',a^a6M'go}LbWH4inzfKgz*
tx_JppVPVfEa~_H:oXsAOOCh`R3]m0<{N9uhRPAWtL&*Vio:mCIycdbsZFs2mGt(Is[vz!:zx<7%pH:'=a'p%;#Q'm0&EKCeX?w{3P'x=AdmTEm%O7v<)L%*{XH+'dzax=4^j&*ond`_JIEb)cBO+[
,;A)ITHK;i*DYGh2~GX#J[ZQI#S/jS2<}<vzbA0M5YoCJLDBxQ3Ow!xhz~DFZ(ZK[y:,NJ?k#Lk{OW&.|$X24<)j%hPt^tD.51Mh~*hV`'YV}k1C/gRIN?5SLF#nJS=bEJ)w~.>]0MX6+HeNYTpY=,
X~*<%h1wz6zJP/GyAy,m[nPfur*p'+_$.I$Hj01VC>sb_s}f|RScScS?/kKMb}oEyeJ)v;oNHFy)1Q,5^(>)zk}bFHCLrMa6ND9]||L+P%}VzCk%QrMf!e%E]%1'?;9&Q*md:H=Z]s}|7x5wBlC1uN
]_FkRM#9hvej[!BZ&UB*LvrkBm4rI{!L|:y/xda$of1o'^v6~EE9gTXTj|)y7zN.V4[&>u}m(tr2mW$qjX+Lo8Ns_}`M=jmhyO+OT;=1VBq>[2+[w+bIb0$ruLU;i5J:gq._dV^Qm/.grD6;jWHx`?
*+qgiBJT8|2!7:$[g|r5}jn_AHac%'Vghx9llPQCQuHECctE(hwVIKjjK~]>x0f#qKQh+1D4e(g0MDvOHpk!+8fHfnVU6_Kq%Ac|bVj4E1!;0j5.2o~=*yVv|5aA2%u^a26]1EH}Z7N6,!lTWnA_N7
/LTU4tqRbD[:+GnL7=9ei)SgdAXz4[]uE%cV_IF$/w83C*_JDmT*Au[;Vkx:~l.}D8rGY[_h/+{^cRj$rO9;z(=?x_8JX(w*+d[3v{8bD3dm$y$woAwAnZlD&!Ih]_2Mjhg+wSo>TBlU0U'Wwcf5x;
w8Ybv`+KPU$cO4w|[oafHbfOJ[5jO#W}__ed<5a0u~bDv^g'E0fL/{DGU:vzd8_[=*.OnU1M!OgIWG`OPE+QZQO:dE6hCs;HH:F4:Ov;(OYQD:=e?_7JH0u,HvI2sANzGnYdj8DS=Ca.}CS+Qm9u+h
6DblI7UH`k*7]R9wM~o&q5/]`VOpTNc&zv`^De*<$~^Tf1<PS<o^&bV[7AT55]vX5l<F*79n0Pb<hFt$(4LJKl!f6VN=0jU20xyy=Lj.KPN?;IQd?|OuusEYh*)<U]qjQyMZv[8.~w~=YN!Po#`GDr
#}m!z|5d;>#WQWGyrTpoqo%0i'&OK=%hEMO6[Q_FZ6n.h4]!5/}1HwEkan=o+p,O#}p?bdl+aU}t{T9b{t}n,!Za#W/E8]!|R=g)Yw>/vJee!1eA7f6Fdj$A5Lr=xkN5o7BkXB0hKo+|'pFcY%K+#7
{OwF+rSEDfl|q/`Y+$~}r13gY2R6=3<E&>L4?o^z=]PwWhNd`*l8zB?IyQc0LRsZpIj1Vw1*tKF*k(Y!C$7ps$HkpD!x8/M`J/}=:`De+oV.6YVAn%0jetZ[jq;knL,C>39qYid[Si4SX=>#qJ{WPv
|*yUJ,i^W*F}[).}dKsky*T*W6JcR*w=2+*NC=DhE*bp.2tKOX7CK2,1{3R,ckyH7W3e52YIN^jiZzA98UC'sJDA#l1#L?Ofej8lK7r3L2}_%4Q0zVi.D$}Kcj{A8(anI/hCJZ;p%iM0oDMCAF,43]
$86AMergTCZhn%8YbMe]L>sM2#bnl0#lkudpdJDTdsmf^;Daeq:GtHJbI5uMig}wy^e>.=&(6Ok~=onq8[kJxZ3e(Z^+EoL'x+zn+w;cLOkPHU?HG'[_vYE5_4&|[UHRWYw*tBH}7}?Dx0llWa]u5E
U9/FSx}bZpabbEegb~(xZte77>ciLW'3ED,!Ji)D[|Y}`V({'B{Nv/4_y8ZxaaG=9!NPyMBaP5V|K]jIMfhr<aQ:Q%/,81r9IBMXF.CTJd+g|a4!p};Q1{QQ]k;Ox}ylFnO&&E&`'XG'616e^oZQU3
O.;<lSb#oCR&Q_5dk%qmop#iA}RMO7%_T9,e{18vTecO6o+IE!DYtsdD5a5rXGy,56'q[vGp!,zvU~nHw+Lj/Z1UX(6PVzsH|jt}`^IWbgw8v_idKlB5I]eY2_sJstd#!Nak[qQ8D)rzmK_GV,$~YA
/61N#Km2ekZ<tUSuPbEgX1>V:WH&yxm+H'$4,A*h$l9da3=Sg+Yg34JLfFf1uYO$B6NpY'UhqpI&4<I/A1F63h^PxXP$4TpI0Wky4%>hMc1hHD>Ms:FX|NX2v'saF;4s.vL1b,[*U.MO39,u'L>RyJ
4Id`7v$Ub5]'`CuXw1|CWFJ85>XHt6].dVPJ9,eNx,]WX$UKQ8OCD3^e$p`}ktn%ks&Qs3Qg12!MyM]*]'$gwk0=r|Y#nauIl7EbxFM*|y')|Q?qfr>A8?Sf].|Da|ABuX#2%u2Shk)Im>D#>{NOk<
0=jXkk~>,GDY8X#x&,c#vMAvDi#amuZXm.,`L=[h9Fu%LNkPu~W9Fj.,it'%V]8Qe:Y*`2A#%UJQCQtD;g`'#;[+V_{(+8G]PR2W5xl[P4'[jMFSZrBjxzJlYKWMea&t#3K:uS:TS,tqAc?DN;fr*d
47NSE<4SyavmUHZ<xz1IB&>t>T.dA'08%NCa2pVq0eGXu,g1L;GJC^v</Kb[an};|H5K{5FI&Bf)lKE]v<^]W|vIv~HDIIFA$XuZV4wA#xhlN,`x?K,Zq#~qA20.WyNm}RObFaB},na)AU[^L.gup`
Jt><Q+(;dv`K<3_qmJch<}V}(uV=Z)<i~1ntCQB<7>eyh~8Z1SPxHrj/kSEfOC+l3ciIsxR$3=YS#}M5[DU~}[FVbAdEKgP/2{c6FSmWSAW]Mh'=8Qw,[Ru7X}o]&G#NNjR&x2,kF)ua8/Md.yA{,>
o$'}s/,N8;6WC}Aq/4F4*D8w>$YSik>;gysq'}voa,3:a._wP5>!nXBwAwj8)mz!%qcJZ9ydb`^TM4yW3|OFkS_;A_MWP(piVdKv0%xa'lJe4l[[N4:z/Y}q*jDOP8At)AjYb]rG()XU(!e'eF>3k)
a!~eSs:1`a_N=9:C_KOaPn>e~hP&4r/d&^oh2Bw)%R2*O:>is9b*+P$%i,qmE_&iT%<BiC+ig]HzEWOlfB54IqichXtp:Vcj(tbQytxasx^3zA,zP9Q9,[]TG;/mqcByZJRxwXj~px,>j^.}k?G/on
mvyNVo8Tz9ltDv(3(*0{8!L,epSlk4/5oLz3ax#]jg7|gItKCLKd1lNXeu|6)bK9.&Nk}:'Q>ycMxS}6,w%n{',c1:P>CtzzeciODf}XZDw=^'r+~3O(8$0%M}dso%Ey0,6?o]k8ouUP+zc?I0AAnC
Yf&b+o{=]%|[?#~[81_.!}p(A!!NR<wQEb7KK{.Be/Vq)ose`>^gYsF+s.f:1|4h,68OxcKW:VSodG:cRk(;s>3LS9A|`l7_4u$B|D*bwzrUJ%CXylT8=KO]x80<aDcH3?(,!O#+Jm]aUzm46ZxSZk
/NfzzgW#0WmBB=j0PcKkl2aU20XL0aj.wtGDOCdNs?2__ucXi~<&%1yiuWcv509'RPuXK_k9W3En]X~>n/H^r5Rd,e4'hI93Fc,JSfNR=VFy20+Ug]oRi`v~l2dnqS$r[$ZE~[T/G`=9>Fq,zvgxOo
[~jbz{;tks0EGW[Y1?'Ee416g~dC&V3E8pvFPj}[MU8%uy}H;W{|pa&lKrG:~Ut#5WHPY5WV4`K*y<|`fc]y+O+:T)8[bWj$<g7E2G}e%CN<53'_!xYNd,(QkE}}eTLQDK;&c+b9iLczpBFm]NXVJV
9G3qV/`vzYPr?My(%W<|3Wjz)*0'kB}[46Fj7/v[w/Z&P.7)?(=5r&1K2D2u>Lun*|tXn_!bdZK#zt8+*o><d{`Ij}AV!,/}Ig`=I43S%,Lx;YE`F}E!]9:MKbi<o6LO.>D{$6{r$L30q.zYE=#ziO
eFP^ZfN0MN.vsSlaD=eP)zsc1yDuaDrgZ6XLStw>l3|D,{+)VN]l{s/R:!nJ17([Ku~%ogL40a2Mg~H]i5.6Kyotto;m7N]w1M|fPb:|l'26!Be%5ThdsH~XOKlD'qsN#H+^E!AHU$WDdPg[&>BdnN
.Y?gXjM$ORlu}tvo[$Ij)/v_/X)~5~S!`G2H'v/73Ge^gGwJk>0#V[4(b,R_l6fHhx`u1t4w/|pfxx;FaVhcRmr=ECCtrO([Ao_'=/Nrm6z{8;dIk/BEX_3}xfZ|jr66YwC>1G34G$7]ZdCZ?|*e4k
/X/UTr<8SdWA8mc(5^JIndV5N#4tZK%{X4T#8;:tm7pFd~!]5JG*MEG+rW},`.~BT5SL3T9*?}ZF|=?O'0H|APzYS:M$OZF)lT.R|0`0?2t,jW3vd3hWBB|SaniM+,u8=SaJ/up>ZMK|*u0cE:kF;_
k>*mEEKK[G+I/p<IR5Mf`0md+dFxH4#WJU^9##L.H,?Bs%*<G&<Df76h%v+z;.R:l<a<5&]1;N5]8>S]`7E#4&`dolQURiGHX_H2z!bJ#(h{b{PJ.DvZGmrLt.C6u8oA|?vJ4AhJs$Fpa3G/f.k?wf
cYEob/G,_oVu$q,^)$iq%UCSjicWwQoY(%GXcZY~LF%t4:iE>|`I;/h3AhVLQg3Fe$,E:,F9L^_P+t,Qw>tNEY<}/ulfhKf5bH_/7f?.I/U3vV{dpTVGz~'7XOP>n2L=LF)5IPSro<K]RecyZ!)8%L
(Yr#kv%w1%FX,exSVpb')hhwzf9{cIo1ihLoa0!wDU]7b>j(u)$04R<^a5V+v$H}V;Q%yxGf8~Z_qb1pCTa=/}I%z]o'P8ZufAj8}v;HR#MHVWR`)?3Eik+%X'?58W&7&#uG>$mVV7J7&VF[smfp3c
rP0JHk3`cUa|sVDq~#~dGCM=!o/AT60dU~F.(_4.HVyb_X)~)cHG?i%?F[et6^cbsj9Nj=5DQ|[$xU,<2wpgoLw?)QNqPz2GGdidgNYAKCwo>,Ss3rD|S==vE'63Rc&|7a'PPA<pi_;NA*%|D{.<bU
2Yni>BD)r+GB{s)W?ZF9zg6SLyzu>+A:0h,aE<eipHn;TEro0(Y#BAK?'}k//X'WP2U'ZI/V%2</DGv5Vdi%bq2w~[q,UU_`1s0FmF5.Cc&aN1^eO:]68NdLitPP/bH]G?6$av9z*UMPFl|=n'VizA
SQ+60UG:O1WK>~a*)}INRv$i].jny+~Wn!&S,G.D&EY)Q5vF'.en(L30iQ[8]?c7,(m*U0he_:G]eBs&QICyjKTb+dS#%a,26SwGLL`R/~9C#=ucIGKH71>PttG!`V?xf5X&|Ot&tydZ,vdZ6J#VPz
6W>=#R>!9fST*hWeO'y?;8>*`4{UymKYVYBwjLfit&O]PiJcE6[I;l3T#V0aqy)Vpx7lpVn~QdrQsmeL7i'^Gf7#y#~_z]P5&M'#0Iw1~9/gS=G^'0fJ2A&`BAxopTiQu1}=w=MOjfg*H3%OVJhzfL
#,>zLqfP*Z{_N{g6l&vGg=kvh357,)0sstuD'M3aIjr|re3(IJ]f9:GlyVYs^k;OwG4/e#O3n>Eo^1{kV$Arkc71bdASY1tUmYMl<s9N$Zr}Ac=b])n[iS(f<KzkKW&&kualWQYy6EswA#pCM6`rZk
N/&m)Rsd0<[KS6M[CAc]iUc_z)n^S_HUg:Xfl7vYUU(N%rW/%+<]Jjw#Qp2UHBDg$UPlHPS.uwJM'5I'LDT:YUwxFdTD0'`ah~c?3?dKEna+I(8=g3OQVwc>6gP0XPzdM[%%MD;(]h&b64tMBAQGW*
dFGw$>,6[e1P0]jba/_f`|nc3ydp(3,u&<6SlC*1L_`L]Pu!&6Qx93a^0.$C8yWM1QXeb`2`8tGvwwk2USoGg;bs+JO3|Z[g1YHIqcp{tb{Ttsz|374sbbVd`?e?:Wp`cnd+pklP,>:k++FS}|yhQ3
GIz:W1LI}ssu{7OgNNXjUG?c,jBU(3Kq'K;h#J~/jo#fvqQ!9(]z~DcYpFc_g+Z+T,JiGj%wVf0FPjIXmB2~u85hJ%R'no=.3je(RM6YLa=5&W(NhxDT>J:ME:;L`ElV(=,`+$a|L|ZGzFWn!Bi0ih
}!GzH=yOV|][baRk8>Ms>'8FQ:KeEu)A+edEnwWz{b`+zANw?oF9ODl^2*ZP/(%kL{;Zup{~Hhkc>Ec.0Q^RW`T9gf&!!ibF]$C,x|19j8boI~D_cd3qfyd|[LgVTCvZRC?gLerzA(l{<#iG]bY(}(
&y$~1c,b9DHO+E:1F+/C*,[zSjtn;!LD[3kNX26$<OsZn&ZVDeR}J/vNQN^AMjZS/zeLV<0w7uB?J<lUfW1VIfj]89|a!6o1jLdxKyfhOZr_SmoJ~_`fZh/#>W|k76jU};sVj5kpvhc#D)]gaIGGFh
.;5%gB7y6`Y~L3vc^oJU]rDy:kQ$=eJ#<v'mvMPaWw54Y`?'YtR}Jv>,cWq</4taxa{a{2MVT:f&5LO0K[*FknuD%3cP}p,q~_i6Dt[E:U>8%q4_/Rr7bJ?(np8NZ!NB`<9!^rQ.2AHK%LsdZGy]a|
pLv':Ry~M8wUGC}wxshTZi0Rl?x=Is'%SJI3A_(2rN]~h/SSK1TXtBRSc*CoUL984.~Q<f3DY77k~di777M,s#y<+2g(O7FXl(l#A%]?3K]m#SPS;=wL#6,E]<0RjvMWA+n^_z,no]}gr:_g1v1#=t
0=aZx#>{cd*Enyqo=6MgKA{L!`f<n2GInKI{dL~YWlU#5hw.yb9XqhG8,?[/TGm>ovLFk^,U?LRzPl1#qQwcLf:/Z+LIy,X#bPUnc#4i/+xQ}kGH0uP6G:q{pqN1I,wig?I;%6*uO%KS]89yh;^|95
!b!^ljD;46';iDpI8Dd5(GcsK+qbmc%fNs](w{|KWVwS[7Ndpq;$;h:6NkS/,/yO*Ivk[3~Yd+)w6AWPqrfJBS;s|n}.42GSj*.4)::vnixU?::sHWV^72Z}nra]=eR`+&?]Fc_`xg~nk>d1q6+{&=
{hCzRm/JgerFRgq1M|N*W>^psKffCUa#Acw}1^{#g(TLyhvL?JP/.gsk+6|fD*4,XcaR3tMQB=JcN{_EN#4>AS7BU1Uh]=9By`s7%nfrIF*k/590ClVWUP}Rt=;I4cq0B~nN?jBooB6bOiOBrpa1#}
ASwE+;[uN6cA=a12,~ey>DOBOA_r`KIor5dvpIOv'trLx#:IgY[Sli'LjL3o>LgCmGI4fVyVy^&TFZkkFL!v^uhk]{eTSkFIr~[!MS*tZ3:6uaTEH:e<H{:0{f6iK!U0lvtmJlm`^Md3rV;gpg;7J.
QvbEJPMjB62Z4'6r`8xTEg(vOi.=0/mP$|pTCZ<iWN&9N7P<h`oLza.9YYcs.CXvZKILDcBWuHXpZP>X'bU6VeB]x&c`&^n6GqPVTmgt&o#R^b*}fA:~zmqyCZdB1QiP><ce>Zl|kx&O9Bs0xr)i+k
c6AD$D)mk5kMY!k$HZS]AHcDl/rJqyV*&M=fze:Y82z/Js/V4vvqQE;pJrfZsZNPdP7li1<M74Gr&=uT`k3uT|N$c8H8[gp{52r_MbeAnb|:UUoTr=6)pZX.;g*d,mQ}C%iH?F?9FzBh2C~XW0jzqM
,E)00?2q[8Fe1mKN{}4k!6wql0^t,q2$~qsS%LFP;a:.Q6S=4rN4_my{}{$LjYRv]=lhfiO0?fz5L~ss<^7:||CpfaBE!4/FA*G/ZtGZ,1a&Lw8'k$8Pqk#^7sO0&>v5A4e+OnjhQ.V:TZD8jL~;k!
ax'Y$0+umA^urg.gZw0OhKVR03O`^]~tX'*h9b1fS0g~j7('Z1g>#M)1A[AFle{{wHsesJnvg/tuVBzjrOXux)qo!1LDh<[lhv$J&470C)vh}L`xB343'4/w[AI{Ia{2(Vq6I=WS$k^7+qi$M/sN{e
qlnNY^^k_!lr.<>:D=)_#1TMJ!<5TJ2[|{;x)8SNZu][^C%'CL_yPAKuK.=;lRHQozHbJuts:_#|L`Y0d52>,Pq(/y=E`Jg:ZK&UZXZDPqHGcn^.C/|*$*Elxq%qcC.*kQ&`Em4pf'O0RwYaT<{;NT
rf0?tr/vb(uf~%`TvI,7+PA~h_<r|^h87p_(*2d=yuVE'W'L5u#W:LiBEZmg6Y$kuz)O!3]Nb4#MHg47?6uW>jDM/{&U3i,L#%;8y^p#D&A$6!ox>o!u7f?Ulyp$F+qqUNiw/dO&#Bz7F._wv603.w
K:'UC%6?|_6ql!0Jz:>'u~*4gQLjtXi2^h/'6>)C8dSm=:H11*}L`<JK)D}Kps~91*f87rCyLfOEpl&kQI*;bYheU7;6__T2:L#=mFU2Pm/s9>F5EdflKR>(.$>Ra<*U^;2>ZSX#8CLE`t~LEHEAsN
1uXlU[KpNiM`C:zqo3^)+I2h.}Iq(.pRn`IXw07{corsx02)ro~5xYI9vZytYCtV/u#)fJ,YqrJJ:1xbK^O>pv23HW$|ao=`I/[n;S9GX(deC:b9XvARo>bEX~%)?>Oq!.R{iRKkJ4bUBiBk7iYZ]o
c9QF49i_,:b1gEK,}pE8nu{U)gBy<)iEO3y;smi(N(4$7Y$)'i1;}?RxK/C<bbjv)g/^EBeBRave,.N~6J8T7Hq0Ezi3C?m[Dn.78Id{N:</m.rB[Q^]oy^,ui5F'z/f]]Hx#;e;nV+6nmy.r0TP2{
b9<8JBOd!!%:Wu9E^2ab7|LJh`l;'*gLk$5G+d%xKCN$_aRR*A80{ALKH:vRtQG1oZUFp!R'CXi,KU~/z`7A3C97Yx|d!LQrwdY%^swO2Wq&6]:Vdi72'r$RN3&.Dba)rh]MF'pNQiZFzO+?>iUiKy
h5X!;8Lbp$R+XI#`'cHs#(EZ<QVlb>DpE{<8PJDGE_znet)>43AM/x`Be0XVO)h=[?)oBj3AlmFud=*;,pHXvVF]0!84hyaX/#E)}y_+K>Qm5|0C~Hg:8|:E6cn%Z0ec/+x+P41oWEhGRG,6A<7pzI
L^1&5)/SD8Z;.3`E{hHw9'^Qr}pD*uh6^h>ED7H0y91|?/Rt}zwE7OjBM]NCrcR7F)Kc7zvK1b=mS:h^M]xM^lj91=t{78<5pfKB&0v+f!7Nud?PuBU1uNH<)j|eh,(:TYyh~z8ngcw2~?cSUJnBKT
`[34f}Vug(s5hUOB?Z?/xZaD,xECUGtNQoo~%2LgNA8%vFF8_z2]+d6H1lnMW`ORsDQ21#Y(5ds~g(8,Zr8iZF}]t,[GAtbn]]cFnfz<NeG,*_y3>N/,lMn;:N^Q/X6CZedh$s]X:~<MdXK.74X>db
A^'U^81P6zj'wP'S_CWwbYY/Dgy!N)7~b4W{GJ'qOw_2?#h5_7b?lW5)$s+/mqY$R`q4<{%G!fP_|PH`}oITz3Wg{6*vMF&A5,b05/M0wg.T(KRM{DWkEz,0k+U6ulc8UC~:O;}%c3.spH][0nC&jh
&,PMH*BA93d+d>fZh[A?Rp>:3UzOQKd#!Aj%0W~BzDEehbq<IMOed1u[/j8]S1c*0`HI~r0v:=`[1Q6mP78x.(XvNAI31g;i1eW_D1kc=W[D}PQmlgAFJqUYcwthkn'KQQb>{u6XReW2c[jMJtafOH
Xh*z|ht;NzB_Z.sK:;~l`mf9=[&`!1tQ9?yX&1Ty6hAaoyWcD&KY}k!9X5nvW:O[Yvry1xG^$6,$rfr2LZ9cGXxUsYC:`Q5ua8PI0:7c='S5U3jNqm~(Fs;VP1]tCuNZ[+Tlr[#CW=kZQUIF_<0LyB
04sMH2%in+)_dj93_[JSI>W;qncX~W6*k1BDlB~s%L1YT:mAau4l]`]h3^D]r|QL8fwB&/b1^~(DD=Mwc?aO$XNxiH+&Kko:}FjO!f#c;u:/+9#rasxQsMx$OK_>P?~9+ep=S3{2r]32~{/fEj0IN$
HLpv]`m6F%`x*Ly/UH)#SqVgY6Sis9^sNk~ys`RkDjTcz5&.M[!EFE0SdNEsC}JzzS=2mqNds3VyV9G0?lI(!aE*Z[5*l!PDT4_uEVxa)8G2]|A){RVjvY:l)vz>]XFTYLzX'F+>I%,},N,p]$}~)D
mL7V*`6&':m1fX+&p/(u+8G_`EhRnyB2)d|j!hV<^/uoL[<(aFG9X.oz&t##iqrc.|ZFkj0~Lw|'5c:XSR0]S4%'I11t2>%ST^|~9oErI9[uk8g_U~Rmc,D[5&Gs7<QNWw}GQGR(>qo8rU!QD%wh=}
<m$/Q<uL2M;(78;7!L4S?h+wr9NTV^IMKZK3%}^0+J<MGe5mXu|,p!912[IuQG{z&qxX{Z4{Zd7v<WawtwQ9LcGOv:6T*uC%eFD5jGBT5'o:/)X1y{,X.Z`f0P^rS8H1nM>}fm}~i[;s%8^c#FgH,Y
pC<&:JRUNKHvtwHHD2_iB'hg3Uo&<#QFn;Ybj!rt2Kub}S{c8>Z}Nd?QX|4xW?Afb#~Uc:,}W0:q2l;<~1'$[$8lze`.t5)i9p'v4Q(L%[t{S+S$8L[v3_k,g&PxUb%sdl:pzlyn.,&fyBJ#[TBR7N
/?rnm|kz:(+/nUqm)5|8k=MZPp;c|x+Ch~y0VZyvB#$Y7<IA1'd+o/Ow{`Z!9Up^f>p3(]RX=qq;m]3^C>8L%[X.nZbzPZ6w=HZ'.4'Zb,i+n2ZmL24YtF;_+2;O1ppv?gqRLyw4pa;^fY/Rm;e;=)
eKgQp$,a3K]11T79bjKz0XD192]'$t*&NlczlQ:~yPvW3^O^i3(ca!D/5m=mLby=.O/yn`.U[m)m2nSt}L{<*1#SJx1)o]0~mKS|U$_m;r:]s227apkO/&tV3({zwJ!y?<~mOk}L!*MXQ,ss!TM1:5
xZA{K~T*R`yOzebtEUD#w<nBpqEmeOF>x'gJc>N(KO,c`$i:j99|2#Hi'6'RF.B$,j#HEE(JL}^dFpvTnA$6o=GPbSX]ORa;_DWJ6M'ZEZY(V2[13cis:WC;y8=KA1qKVw,*22s1~NZN%vNazo[P=.
b?CgpzV3o6=amJ*Gpy7A&)SI/=VK3N#UD57FSU(*]v4H[l]0Oo*1&/o7CRmwwK7}730YWR4FB3;nbb`2sHg/^{~'$FdGp*]|eU$sj`RtfLC|Nc{.yU3YDYWl[Z9oOe9uXcn>m]V(E/?#;G?^KkjV,_
h=$SFaEM]dJ15>9Lj5fsIY=Dl*[YET_>bQ'|u(Q:qVCpMVp7Je>j}f^vosJw+lq~e.#g&d?<WO}rWTZ;_Wb)o[/_jMl'$]x2e,GnA8)PoeQ2[(%<ZwPj%cFrH`J,k/ShNOlKhMqPc4B0bpXIg4#EYX
0E=jM$r(aStps<0hKmNq8J,lhDWj3!kVu/KpXy'D#46c?+Uf%B!f2YQ.]r}9||z9KCmzVW1_,[USO^nH<EVm5I9Dd}S2wrn^P?4s'L4UbT2)}1eH5d%>hKi5[p~ZAuv<fIaF~03ul:D;T[ofeT]9Av
&VnS<^qJU#qOZ513N`)9ATa1^CA.v/qL|0S(61ga_.<6G]7$S[`ah$l$R;8P5cSLeSRLZR!VFi!ja'5R:?T/5_j;bzEVMC13eqo{2uhEFu_TGW:oe;G3r&;7.rVWi.h,hDSO2Vn.6iTuxkyy9.]zHz
Y&Zo&v.;7qDAlWEz$1|QD1_&)2MdAHaF,M6Q07~<F3%*1kU{*7v|{(4eFnLPx5DupY#H7!x!8:s^~'ddtc%0mmqs)>bYSt^=:Gh,[05.B?1wf]6M(v.Z(kA*#6HbZ?U3ZPtq;YOY`JnIh)a'&9qa9%
kSVyMuP=u+x)eB&/|~2jsi[t%_zK6;IB~Ab>Svk=(&'EPe}j8>d=Um2P[Qa)gYa|$OQEm+mvtWb<YbZJ/Us=AJ/PcqgRCDv0(<LJCNq`jhOZia8>y67>7s'rze].^(G(7#L`>yV?tR;X?K.(xul,Rp
&kA1$:<NC[TD*97Pip66]8:LB04rsu;*~1hIuwe`PIGipt_%]1Y}s#ZDJ}OV&Bt$?OSt^b(g9Fe{|bRr9,hku;N^+/6/gZf4>f]:C<*#aXr:6,{6f}$8a4,%8{^0e8ECx%Sc)lcVIVjMGK)B}.:)bv
&lq.m3?a~%>]_CjGwBZNy_Npk.(So<786**Y=^/[K]CU#Z}Muj8=DM82_.:T2S$e8Tl|R%IFCDRu.YIlstOQjv_Xn_Q+fQ+2!RH6LC+ZCIJ!n|3uewkC#CAlDA5<irD[5KGk^*(lc)I#Eyh?JcaUYq
|0q^~QQCb[hnighr*N|QFJ02>yVEQ.C'U~0AF$)['}wvrR5ta1p]+m#G(HUiXv80`)UIs<Rq%OZ,0+ci'Hp;<0X33Uk:Tqj4xph`h{~fHGo7JMvsqC)J{rpgRZXe'ojSzMYP2`,=Ti`ImIP/DnN2#S
ns]'1KAv^T5(QWwLW_UHn]7SpA,tYql`L(XX#8{3N29k&a'jA>?(erv6+]/DIKag%2~uKjB+d6RUN;?g_plFZ*?hy8yGaA<_J%/H,r13Cx<d%jd<v~9L&zu#},6=,wZ]K7KE|d6U7pc(,ySW=%f]eN
U?H<8v1*h}&.7>Cf1yha<1iXHmS4#U*,FJ^V]z,e=d{Xu2)swXG#%kNWa`,gV2a25g~t5`wsgOB}5Bgm1*7X|U,i`WI&?m.X2Rw_!2s)^f2#DDv<m_83|>N4;[VyG+e&vfGC^,Z_](w9wP:C2n7TcL
!n'el0|9U^^=,)3[o%v=I=I6gF>(/(8M.u(ur,NXW$MtmP|}rs.U'9H<+]v^DQp1c^,hgnmZMq?qwSRrtVP=FpOq!*+}`c.5(>0`6<$S+FVU:L4z/9um#CP)7UEC5SFoDd]0Qx|WnshAw0E+^xOK'9
Gf{a[!{pFG}OfR1(:N}V'N&kB5<Viuiql9?3r&av8+M07#k4<OA{>mo[GCF_p{l4:(}VEZ&EFQMgeP,%{,IUrJI4'z3XRyYX/!d>%3PQ=YAr[Lfxn4Kc8!HHkd)1`i&{1iTt3:MhQQ83(#B+6P|0,v
{fc0{IKljuT2#;E,p4MzM&zG^4XR$E:LuOI8NaDd`uEzFwj9BBTcX<5SBMldE2_iHq]~z_#ms0uYMP8>J]Tj<qh/pIbh6AfRbl{p}.J!IRyL8~=5Oy1ez)`$7,KXbQHk0S(zoAhk:.hL9V6;)W3_PB
s0lHhTyZKfHCwbQQ){C1pIt37Kr/EB^W&h>L}L]*)UGtsYSM]*CzsUWk^^1d~bw,')c,k!zGSl{t](2/A07>_OSYC9DN%?+;qp(76^.:+`s|7h[ci65:8{Ku`STquZ^cjvJ&<22/jKx'gp).E]KJP#
v$JqgV`!J$/yg4M>V`<>lEj)8w>7M[S/K<*OCZ0>WC(,1!SuMk9FmG}h:B?cDR3[jp0g)$RB|ok3{BA1^DH5{_5T8[Ol(IXy5ZWvXy$n|61>!Z)#Srym)~9sp;g)83:^X=yof+,x2J*1Hcia+$lK!V
zp{Q+64O6a]l^2rQs)n_w?wua0k+S2q(K)^v'NZ6X9Tix2|wEEhxXXzZM`dV'TaAilOnN$7W~gy5B&F8*Iv)?95V!;0S9;(']l/aQSE^3qQ|!Z}$CuuCDQ&U~}m4x*mQ7i;jJlsq[oBNS37>C!tGWg
2+oaDPM[41Ds%*L=hVHZ;R,!]H|j|0J;Kq[xM~hf2UWUF#1N!eM7hq*u{qs.!Ry/?{6hzw't.nxkjTa|}_LGHFWhXP40G+3Gk&lQt/NKH=i+_5omNF3h%W,X#o%.y/!H]RqLI?]CL_>_'&{c{%=%Xc
zch=dZ2)M<&wz,|Ar,Lv$DGmGr*`9jaCB?[~5a$=J#75_lD2Z*^S$Q0#447>niIOtlYH)$xte%v5$6WJ#wBM<Z7Iu[$(M4es`hyE6oYf2N;9pPgHgFwq4FVtc,6F?Ac/C;/{^?lG_So_D7g>w%sl$_
L_zQ9<5uEFxwKxFO8rfll=>%Ag[:(6$RP#!bTh?UWe2B>z[%B0tsy2pY,`*OEyd0nip'X$7iDkINt^KCCDRgEp+r3c;{n=}}BJnjJRK;oD!;Gc6`E`kp]NmW>)uDswCh%_[2g3|2{CBH+]aC!Ohcb|
3_56#+A.WsZ>ke[=#&:AA9#3HVdD`N0XALIwsH$U*?Y?nq_wSQ8`aU^4O7Bv(.d8)ZV*hC<UgSqe+e+SS#X4ovP0[2rT~o~t2*:C90>B+w1X31ulaf{kulzZ(n_cxt]3;lDR0~X:8X;[e.):{8qouG
m`fdb1CS/6]}m)+d]o!x%)6Aw'R>Fi!$Z'/dS{c$EgN`P$x[|AZvlC>uKSQO`<r:3Z$qi#q7trySc'F'hHu1maxg|QfB+HN_Hl'f~GO5_<!t^W2;w#N2PZOPc|)SlA(PuNQ%o~S`#/EM't9Giwr<lj
vuEv];+?9+/1x:u$/W0B>H<]WlUopj=Pm4h0c<n}SfD[kNkY/)3s8JwX(otls]~/|B97dIDF:kS9^hKz$`}Q=C2]s>H%Sc?j`^2OQS?$^>pI.jp,t^ZAS^&ZIRhZDXMz`:`9g<<v)x1^+kPd[3BL`0
ZwxZ}.NT_ac;(=wL!K:dRrPwh|+k}kx[N8/vR)/JD(.:Y#j?qzhx;y5pH=>x1iZf:}9KIB/OkCvZ{K+7C4aiW&(oi<e]k4!Ja5ofYI1Vk9>PQMtlr}z3&I}4cPcz|<BV:U{,!Kxt.C&|`tVu4;sb'x
}K|sI.SmJiQ:;t0VRpXPKnNx~$2VHFfv#7/{i7FKhoM%QfX00tW>~mlXVW&XeAAB3b|;a^/?VJ0D<Olty`lXOTF3m?GOn|6.^9N#?ot#3?}^pCuF=RSfU69h4I);dq#>aKDHeU;D[w%7Rx!21n0=?;
jd`haTW}[!<X_S}L17HNxYeS/O_uV+o5SmLWqmKO#MhlRs7ud]']/+wdi(bGX_^4y+{sNxt<:2h1!:OH3X',Ja%VC,n%<(DCZz{AzkQDGv8./`jGm*oerMAd{'/{h~FtaUd9CIrUu5pnvBX?=v$ZzQ
psu//L/9B}PH2#'JH1p5Ou_F0}yZg,Fd8}>q56>{rT30FizuAUt_`)aLf1:RLWer1/6&t#NU=TG):vuj436>aCp7C,{Y&PRBUzzV?Ko7}8*;P4hS7<2MC*XVX4B|aBC&a3Sf>?&2tWfEY2ek(Llo^0
mE=.W_~a.Gpai6q{LYq6D7kk`}x1~9E^LG(&sM6+fL)z3pjC'DfYf*|lGx]^>b1*}mz7:6`}tggt'qS5Mf~L1/{MRhtS%Z]!yCL=Ib^#$Hva!fW:}l(3zt#YdH{HYq?wu6uGhL2YkKY12goe/,pQy*
E7xi3=a?eCz;4DgQ:$'I,fEy./Wn'+%9Ej3~khgz)t]vAY|qFyOY4*uG9Z{wC'1'LwPF.Qxnj+_^g|7ny<sRQN|wSr5ne}h6;~}c`M_}0aikrfLp>P!|=*2NXH6t({.fFeDDCZAPX#iaY8Bd=B<WMN
Z80n'W(v3NteeU_pPDhD^xe&ZH|oc#q>AlnaQb$F|[2R%3VJm1E%O:>Y5P^fifRv6/ur0jT[}PZfM&)XaC2qti(rA[u4Ib>{le5W(0J6z`]>fG$0k<0S.1+^`M`b`]<h,tbQCrq<i|+C#?V3n`[kIw
}.:BIzA8~:4J|mh+PG#Z?gWNyLSAg{L1?>J=K6g,<:51(#K&_z#p?fs;n;+vkRiK.E0#B26y&B65&S0]&pJ12JYwC_U4gn8NkyMT)D+*&;4rWITU{j4=4CQfZxH%9Mt/gtX[SLkRgF{d+kDJfTMtMu
2$Z[UZ7VsG}tBy|TIJpAl74g/llS~foq)L0^p:R*o&Bkcoh^&[?cmI4IC5D.7i5])*U>JaJqb5d|CsVy7uPgW!~J_y_y`<N[ovF;es?XuVzbZ[ty&#QlG>=H=Fz!2I+M3soB0^li?L&zDQAQO{3`/%
`08L})'G]mg3Foe~G`(A4*~b&;mSm[0M7L&gK,Er'hPQp^'G|*ibLWfiO~^rJ<h,2{kjAOw];QRiF7`TfFdlyz+y?Z:A}9gBgdMaV!YFKy`XcmTO]itmJFmE8{.(+.h2DWBE{+|,DTW0e8Q%{wx!QY
ND*EK&8M'F|(3QQ~!j<Vx9t9,75g(t+8*5C.B6{4B8IMage>N{&Spet{mB56epRlbmg|!LfUyI'}=.G_05^ttiP_tm:(LgK[OC}MCuV.oV#t}f/P]Pn}Z3k]w!F}=8h5#bi>L[B6RG*QgRk.hxid0N
W!'352m2OhQy>10O>aO(7C,Zm%:BkIuBYi2N#XR1Bnx8Ih/1z2d}81Tcg{|`BTm'I^uQ*hamW[|hHI=JOAx&`lFk>_Iq4cPKQW'W+0z`(K=OP>YTDg6:K0;vqe}^P`b<;6lNIrMLnwur<PZZBYFULc
cXpNyISTU,IA}efpAwDKJgR?R9>5[='zgYst*#/+IfqDCa?~bZpjhG[nk0:I!c;OYp]pN:2q4YAptoclfa<u$`?)4~wD.8rXJ*{;t$PDP,;SlH::B4g;fDTBYUg]pqxBzhlNv&Ifp;S#E)!!xm9A;)
xXTh[,7WfpJ+I%cM?ObOeVIjCB1uW4uI34/%DnZeI&!R}xx[H$:wlf0)<gtuG{:f>*%{psJ52^:n,DM1|8u8Yl{SGqW`lgmdrDSeYQr9Wj=U3S#8K84Is!bnz/1c[,+L'1/,O3Ob]Dk!MqtHep=,jL
&hUx7W,)Gtg#g,9%l^Uyc2Uc}*y`P]Sx&R_BE3VVW1[{)i_Jtp8.GbuUo6?xD<s~'tarQ>r67}Z9Ko,FU/LyDdl+k%GG5;zCJ%rTB[6rCG6[zt5[6%^>xDj{zWj;6>JpyU1I/A+|;e>G1>:e..o?fo
>5xtO;nae^kaV%fSMZ4UDmKX&`&Vls_Og<Zbr_cx5Jt>,2/D7v'N`tW/R9|LNS'`%Gjz#yg|'B}<o]deXLfw69Eji&R4A=A/g#/H./*PMrdQ#bGQ1O03hR|3'GdHXKQJ{KQ*g[10MW;aYpol#4Ztn_
P^xD}.VZz|:WL{CcdH[h38Hj/7kJ#%sQWJ>Xu1h_/`z6L8Op(hOKbqR[8D'JlTWw}*=yw%'hb3OB.4HEX.0)|PQ1c2NCP$5hD'L2'mslYQ<h6!q,49>Urp_'#=LLe:N^vw|1kEQe!ugjLJ+SUS!YHt
:ON9xYDpEUO^qe(C.lr9fr*/QkNS(Zm`rXV!M=A/gK+Z`Tq*P:9Ykdy{h~`IG`.l`bs}^YOcB:K>1)v^_n]Q#{q??z>x`,]O;AFmhsVb]*'z:u[auJ!ZGwDP3A$;iHSqr!]l'(Idtvm99JxJ'V&Y1%
A0ALNd8TljFlQopfCxdZ5u}TU7+9`kRtmC>^#+2(X3S_ML6^s=q=JyWQj~f*?s>&puMT,2[L>)dG1:'zH|tgNyEJ+^<wS6N+)wU)heC'7$A)A/P2e<1h!*g,jp6G&B.}PUX~a3#+j|Px}V*}JXqBwS
{*i{x?{^r~5_O!>YZfs0Yo!(wZ0d;g,cx)fSg,{Tn8^J'.af5:lBag6c'YS+|Qju]FuZJp749K8k2;|B={W^6uM_|H^/D6cm~eNQRPMZIVXK,+jG66&8fU43?<<X8~in'Q0co9?]EO0r,)sXl5l3|Z
o>/hWl*,4+*UjU'LP01I3Hxg`d{`dIyJd1em^I{ar>~J(:3v~FC>'ukcs{7gKr6{5(D8JEQ(.K^}YJ0PXn(UY}.WvI+K|%u^YTa!DYo>ri+nO[0=N((V.^SlJ{`99+U[`ffY*'}n${u.U}9a5&b+j%
KNVgRQa#k7.Yw:$!2LNuB<.],}2L'#Er[[s%&cgj:E]8JK6P~83`qOB(MXcNkLX5cFi0aw)+<b&QIKGEdF''rof98oN?LcJ~<WaASE,ozp'8z9T~JOhlvq{n``=.e;{hUD%W5uj7mYyYeQo(1lRpgL
iy`$rn}40RU6Sxr4G:6~]Vu&0bqhr9SUdCkvrW9`aC#=H9[ZaHZE1{oqR4U%0$unK;ZP/50aFKqjwFUBLk=~^4=5Ch)cB4nbyT^8Y,`!oZ|$mxqPD)XUzVzE=A9APps)lzWUe>iv+K=~||)2><cXQM
bzz6Qq;5K?4WWb[}O}GbW$tv(N33=eW8%/IlP#o<)0W_G)l|pgHxax;=v{VEHfmr;6$'eS)}#jPvXexeAc'8nAnXlscyz*Z`i}3q#AU]I%*<Pmi$~xV:1$x;|z^yNo,{b1/cuhVv3vVa])b]q8B}c}
?(2ZhEYs>nU)PC_+!%5Jrt=bZSX&RlWyvWo6MK_1Lfl'pp9]OQGeghiCph]7[n&Tb$.TXF%CVB)J48/4ST'*wA8F1s,hI]:b~f.Hd?f|ptT<)=rIr<J<zp2&`:U>Y8e?g`'C.9,DA9{n|%5F3.V#5l
8FeK$0hI~'oLKA~SUmT/|gN,G]eYQE8{|IBI#~rj:D(1wKOef&iWGYr4S^=h_&LJo:wcSP^?I9+([FpC{y(Q0=obd.PM}ScQ_x3x=k#.cvkP,s4G[zc38Fj?KZ3evBB?+Uzcs[3o!d=vGByk,Gr1D(
~KC9+UtOL4r>HNa0Q'2'1.~m`ozq2iQMp`3(U8zX,O>c_&TQ:10/kgjA=Kb'DUo!{eDhwE}DZbT4eftx='DNJJn!>'%OKI+3/P$H)+hiSUC/v>hH{dsxOJUU_{+E0I!R&[%MO:k*92<^T/wflcicX]
qcypYD6/]j{Cr~*Vem+A{W:3Nu=BLkYA[{:F/.Q41blk%`_,7&pLHpXE.e)ee]thC%6'$h!+>yT4C7QfZNlf.WzV~*0,ta=Hw4Z&O>92s_O0{4_Off*IaXlB.iY5XtW=_bSTtJi):cNQ]`rxzEM*q=
yV$wTM[*)E|Iy[.QPP&&h7}NU8%5:`KaKtqd1,sBj1A5N]{$CH(/?[uYDO:mXb=Kk7Hsa8=EkwMuFg,+s=I>j<874x6PZ,]C74[K9qtSE9YCsc`'34Y5g*BP0YD>=%Ng?m*m8't(Fy'P.OgA>qBLLY
$q6Og8WPEdKE=eoC1N||;?E)>c6?zW4S_>t:'59My|F`a|qjDOVm6^{]hEbDR`S%;b<!h?}J`H;}|VPtR9mn,x/0>^Dj<lXCVy%OahUoG+6/3S2r:3m+yFv<=/Q&)iph:fp10fRELc{fhTMQ9*u`P8
2.wNdxCbtqeIya$.C2;CRgJhL~*:sYIjHSQ$P0>v,>g1idva?E0kh,MxpKevX&PIa*J%_R<|Y(tnU#.Bew/C,}(Or)lszXwL.ss~_Rf7?F+IX.k3H[:;J:dt/g'hX&lyt*p8Y`s*g|VUV*VM`gQ(eY
3*sR.>)ZiJ4Fm7UsD&bLO1L6aO'Q|t0^SLiRWbLK,n5J4a!#/T6/P36S:w8irxTNsTzi|auf7,i4Tlz}Nox_fn8Iglm^!1y4~=+bjugA%K7f_QE#Xr/xA$of4wwfwCZB:Ct(*gX;.AuATRB1U.7Hr(
j#exiW6d&^[U>vxxBnvd&l#Ubof=W:SF^ey5e}3N](&~~N)3EzcobWS3?Oa8[IZvd3W2aQ1If$.ypRhY$Nl!7{!62vI^=O'!Nk5A>Sjk~;,4k2AsEq(HLc4lh?wSnlrBbH9wbJ>V*h*=q~MSZlJpc~
&Zjpj;|sC$j~BhnOM478(Y|dGk5UK5tt,j]GY!t`w)Z2k[oJC}sTE8=N~Bn%/AKq<}ew4TuQPRR%Pi1S:;];/}B/dOC~v.,}#FGpYCsn*xnV/!`~J)&Vn;t{2bcR44%{dI*Uv)bozywE'X,aQc*7YK
X}dgx46o!tn~b:rd)L3zZhqY|e3yv+Iq^^!&}oGvs2j21)E+hn2lG&z[v;bY8mA('}}>dfyXL`RB{7k]CYjdwF.de)3,n[w|vjtSHj<NW2_oh$#h2{M.|Zz!mt}3<n|0!'4ra]mrEByS+pv>&!Uu<u
Fv/TTodjtN~rFw9uyFf0Bll^3r;?O8}lCVw/y[EGTYJWR65k5`~'Gm2(nzOp&NYb8.B?g0GNR|ru#Y(jZIW4(Oc}`?(JUMW^^,IL?k[k]~=pl'4Wg/ShGp0,h1#J75CmeCDeO<Cbq9HJ>O?69c&a<x
m76+Tkquqy/$4?&!QxJX___3G|_C^E[%TOe~'}Br#Z?<q&W^Owimo5WE7{%A=t/?J=V_N7GPBeSd,4oT?Xm|>QF(8tfphmtdYq.DfPhxwcRGomm%K9JY9[hA72yDId||9G,WJ5!w.ObJF_jmR[zY,o
jpC(}NikR=`xG4/E1jBRdo,s7l21Zd&SO^4lhZx7&lf)=!#N2y&+o).=5I_IveUN;;pA,>2o^9q3nlWm:D~Fe;//&_xWx`BPy)nzf>)ojFHcM;tc=`%Yo%wVG(D^gI%:Df&~&WG9G0jm(/`z,K<D?q
]|~..dO*xMw5b}k!fM|GtAq4)4wm:5M2C'cS=,;3gU]!`7;(1(FWh2uWb]Q8a+Y5.]Wg;>urC>Yci)*{1_PT4ihGI)lRr^2l89Pm?kDN+9Mjs_D#V?FBlrL#&pixd1o+x}Ni(pW)+%)p&&Z|ed~xK)
,MnyHnf4~Wv[4dL+*r[6.h!1~bFm(b7:/VTtG4D05,vx>z4iKiH0rg|;uOb.58(lp*0:6{&|X?:RPMgv`iGX6M|zb&RDMt$X[E&02N7)FrKeP.m9IZ9)~?%F6a=*0weLol^([}9d1nVze=p^_rO/!&
YCDP}bw`6^;dly<XMnLzk<8?d{lT0l,x}ZlfU$3Mf,Js9j.+iXH&DALT{zK?qu>ildSSt#~R3`UGxWjw3uu=+vZvHk;'t8~/w[ka}F1VCE|<W7q|2o|l=89tN{fpzW+h)jtbq`_WgD~,h'BE2&8oRi
H9ne{+Geg{zXJY!k~jq3H+/h6}8Kf3?t)i;6w|iHf7v):6N/V[r.c_|VP}Q(LVG0z)p1P!Ex=zw0Tw{Y.r.LiG_Q`/WIwL'xU?=kr]#qG{B?$Ng9S{M5I`</.S`q,}a(+#`d/|6:.^L?B#vhM0w>7n
Wl_>8r(zS4zoqR[3Np^o(?54D*dfY84O$wb9!>/<%{#mA1m`%PpE&r=*)|%=F/MakMqS+HA'L1*SlDXp/~u*DouIkh4PmF6`?h3.tK*Onr`[bEwM,Z!cuu=OfGc'DD,[GxK]C3b;u7x+vHpS0Z(I'H
g`~pv2lq=d4&a2gzX_W.|Pd`rVt98;FgILJ.!$SllS~2,jS|U/_+2d)JbGe_>xgN6aapAbOTcuE$uhy3FF6G6Trr#:qs_+9i{TH<1P<5PQ}%3,|V*,}J|hAz~)LeQV9!<(sEmXQ)Po%4jE,,JY'9WM
}:j'kNZ/.mH*~%QlB%MJ0nL3_7Rg6q#<otMqN;Jz{p/*o1wdiydgso~AAtF6Nd*pz~BcTnQ&ze^f[6/F&ll()%=`;9~k3xvfhy*mU|c=+iL7a_*v2igkXci('u+F+JSq_lp%(_%_>ImP[/:Hh7fQ8c
WU)}Vx;yP*B}#EYDrKA8}h%`T3`:D7*az>)JTcGa`qjuS)k^BIceUe&Li_|X|G~oY^lAW&)%+>2C#KIEM%YaY}jYohwg_ojI^ewDpggKH<*BQUL<MZSVuBX=sdQ(P'6XhDTH1bHF?MLzQWk7kp.(Az
JRYmh4k[dba.~~n(e}ePBy,dRc^2t|jj`'sG4[4/bL&ZV?fnM*|+R0qxH<fMVvY{w[}D~>DnC9t<=8'#$=!O#;un}:V1zUZQA2u)/rKop*vg,e>QF:[_?>q1:]W,.2TUcqhhai<o=h)Warr'!3U'!)
Mnw~c7g|l7.Di8sR$8'V(V%X?4g'RG`2&O/I^{38qIS/?X4dBX>6~~O=|+AQ7[8*V3hqnxn?oV+s/L8V)=_JslZ_2.L'AV47fl/%eh'&`Hp^bwSAt[=^IN4q^%^]_SS`Ut7~2Lbzc7vmL8xB(Go),o
^v{f!qcmQkVPf}nD3+?pk+C&;5UPiXC&eB~R|U_2=>1#&<l_<dWyfqG3:4>m~{1,,RE,8h4*FeuK*)WF&b8Mkg+,dm2S|%0+m[2=Oc2A#Bw>)N[YZo&abr0S77Y<Tm~'u~PFhWWsoDW(!2Qd;M4F>Q
G4y3cGfpP?g9N`x&{XiZ<]IHvfc`bi_h)O[J&jqH)4]_~&p,$sde'I<`51=_q/L6^B?<P(c^AB5`'jU`gM?W1'4)=N_C5rIQGn6e<cG08tOA.`Q}^&JwRJ[Yybj?w7$4BT)PBpx1NPo)|ohpLSF2$U
UPd|AQ3'~KDe1YI'>HJ)Z|w38*btZTQ;0}_e{GLFulGI.efiuO17H5H7l%Lqwij_6F&N:73t^_sh$)ew.Z$i%fks|kZS+D~>==`8gh&p_$Xh!G8T&0Cf|D8B)7NBHU=%O~mUVz7NjgEwymafLC=j6N
|`d.Un$>5bR/<9LIP^7*`cTPP;}eZm(cewaF>S2NPIixk'>McYO)'1D7[hV&nzP.L_7$5s)K?BQvsV(8Av(N1F[f0Q.;nSX:jX!s2VPAMvWZFQkWH2Cbu_N>xBe5~JtI[U*DR;aXm9]fG9UDQ!A49%
Oa2h/1}2YKM8Ezl]O3Da/0,#&Aa5o*i?~}4yg5Z)us^rLZlO5FyqUHm;5P8QG.Bl9QjYiR:+loqxm)ca&feL7w5kR[0AVR3'P$0;/H5Px=]duQ9DglT3QA%hNvAdS#(!J,AFl#XO#P(#0GV!fNh_|d
q0{qMuM2w6g2,fbzm+_msJ4r#[=h]^I`Z9~8%LlvxNP4AE,:F`>?zrIJeJ$EVOvJos*kh%{}Z~pJdZ1JJ18/Fc]U/^qJJ+Km[F['F}LLR<J3h&p+:kH?_+2Df8vb&*WM~j7k87=Of9va:HaMm;>lV}
j8h{)jD]B/~Wp4F#d;&kVFXd!:1Wog4o4:5b:0iK%l2Bla~ZvV<8h:d#|qiM'5C$Z.1ug2{{o7sYYxweiTHx]K#b.%d.fGT?av7<3J#tieX2BXQJm$[!Oq3G:%kkd|4FY#!)J*RMquR:2JkX[(^y,S
vMUx)zq+|8r/zLD~N<{#a6TEsOx#'9Uqb^kor2TXn!m?#+0RQ*rJ+fxMxRtL{e{CeWSL5j2vr{x197V[TEh73r$O9efGaE/PbEN>+:*M;0%>w?mhSf(l/O`ixRd6n3WsmIKN;t|pH.gO;cnq?gBTLn
f)j3PvH*|5PG1K_`gNa+!^5rOImTTb|Aa/Lp3UX0'5Ewk,`BfYKpe`&hQ%n^a2<^VvsYb6r11Q+R2I?8ZkeY^yyuXG`FVgjS2`HLAsShMynXiQ.R20_bjgwK%GLH&6EOg:3Lg]jc4sFH=vylDZNcYW
L0_XY+ZL(~|i7zbh%aea(=~alw!UF#[M;2>VC$:)_ILXAhBdY0v_v+j?GB_,~S9;*eE#n';ZUtt;FE9?N8n`IKwE^!/`0'<]lk/5sYF^9U6;qk7M,LDQYL_jJTAB$DtiwlrGTj}>QvQeb2+2~/0^NL
qQ!01S,1G:{no7Wnq{SD4s|5H?1$%(oYKr7oEqTI1Sb20q7NSIIk=xj[<{</l`Idnu0>]UGDlG,=d:36H+}1J%%LsE!l};KH*y+Q1LH/(c30UCmBSkbfp1mfM0.e$3)x1L$8Upvy'=#I^??)1JvZRl
(tV^gMxsrx&Y2v38&NM(bl:%1:Y4:Oy`Sne7k4mKLDol>MvZP^Zu{Z'EH[4`n;~Dk_`sIZeMR9s>|r!!PHG$Nu<vM/nM!,cp)W._#1efO^mC(}UJHN&Kp^YEpw(vHnf.N*li'O+gNw]`/{uLCeHLW|
E_.L_,JYx+]!b2pTF%}$>w#jF7>&)mzWRCj*Denn#p*=RHAKPW5+.K5e}?7|=dfenZs)VRaMgO<%,TI%X6&dN]+(Y*Yg71tWGu0qUFFwljb~|+Hihfp,>D.Y#fkp)wMqV=v>r5m3X2.Mk[ua0]?Tv%
bMQnC)Z`YuD;bgj`sd^7'iAE`;X3k5J$M]$(l5xO`l9O#rCuko{iXRk%3UstI=ewt&OE[/[h[Fq#il_JD|%+;D=C=NJDv</<pKn[K<>x92Ft2/ttGS&d(vOR.+R[}>lKd9ccjZ<uvH,_[{h;8>aVZ'
h<EscxYhP4#](j+uRHtD7$jN>ax&&xoBD9|_Be~6CAuEzM8<6,MCyW_<.lY_T=c~(!fcx,myam^S^Q6G*9cp*Ae?iavzz_5K8c&qi&%`ZI_bt;M3fE:QO:aL{klk<4t3TIx{:XIPi,aBsi(gy?]O7_
h(Gmxa?.ya&G5Q`jErOFRWV]{x1+pl);uq=xJ;R;)Tk2L4xhO/`a*//8qI4uuHkp*Aksnn2HcB]QGWW:w,tlT0``plmjQ9%QX`4Kc1+~U87?m{yRuvV>lL?s35x3HAkiF8m*H%p]UK:#BemT^yDXk1
U4Fps1_$EkJ<s/Eutv?aew3j%i5uK/:d?Whq[w^TesE+|1v(aa2~:iaRqt~gx}`SULW2Furif7pg:BAR3/xG;k#`(0/Q!7<suH;_y,;du(ChT|5{ibIkW(a+#zhncFQ2xb|(3lA+HK1$]ziLQ5~Jz5
(x^U>f`)ve#_sc98c>Gb1m~V)fzI~o74b6Egr9TpSJTatvRert`_o7Cq#CYi?Cr%0}g~[j,&;|^>Zu)Z/a`<O_i//yCu`Wi^*~4sctMHb#e/Ith;v0Bh4Cc5;x}LtgI3VLQ5QYsPf_Dc2H%u^:l%d=
$.%<6_m$c[F:SmG.Q2/?h/wgjc$gDtGb/H_}A|QZQ'}I7vQP,rf_~p(s=J7n150!~c**A|iuWUJ0Y*ar3lu'injPtr9L,zy74R|[wFm#C_3Luf&QfIpLsW$W%Ybdw|j(#'FZCpluR$VvdXW[[WM67;
)zb.pCtPlH[urj6/{^|lA<ac^qCW`INm>ZEwQm<i~L=]wW{ZYO1^pV;|3r5?8eETFZs=C<VW'aGpvy:I/[i8bVboj855%tEq)Y`L>uID|gqTB6{Jga};xY=JAi5I.lH=wwu]PhUrIM+/V]4|ZZa_bs
S37l%Tu{v0D?q6;ov0Q#Moz.uoiKYG[wsH%4Z<i{VG'9&AM*w5*`c5}DMYoEqh})kYe1[[fSvtO3xv1>`:a/(qJWH`UF]f>aU6R82e+x%.6bPH/m:$)zDm'Q&y8OMaD$DA(SNVzUQs7Vno~cPw0YaP
.h7J6kRs8[BDx))J`SEhwnjL|~v_C;A/.V9iXI{V'/E3j<Ub=['>,38jTB?N1Q%<1;=[ALNv&fJg[e#&:SD_S8{9/qybELQrv+QWx<7dv4hd=K>%fVFF>[#*/u[NY/*F*4[<{&Sj<m0aDKlNmqJF<L
oogtLvo:9'slMt9/U[,%mLLzcX?g?D*x<,yBEn00%?E7bF!UJ?v73pMUSdd&}hl#WO#cuszC',#JMhW6RBSDUjjA+D[#R;jtE/QQKCL'ku?Oqot7L3^nrsxFV?uSJ[&QUH0*7'lf`:85MGx#QQQuy/
OPqsR%2WZ&Ey3wY2NFK4)Ob8$6~h2TjJwUX&T(rHDYf!At%,cc9Gh^K^s${x*>WCVQ%$:Mcn<l2q($B>ODee=o[u_Q^FrFzM3(PN3}ue}^%+bq9~86ysX=B4X7A3uJWLZ!f>ffIZA/zp}eq.6cgkbj
b#9?NRE24Wdp%pWbDrE?#BxoFdR|((UJR2s(#MVpvkd(r=AP6Q4VJi]E}Yi)o<=Eqgi^]BN8b=F1<{LlBd67k&^bmwoUSz##pRTGO70/5^vm;8[(ubmj'IV'ZNN5E=%(CnOs0gy978=tV:IzhjRKlY
(n#|L3NUGZ(Vagq9e*U?:$q'NB8nR>t?sS#uGz3zp&onk:(JCE=QnPJF|pCTIg.d]o)+4n70wL;3`nOT*IG0)!RYwd?B~kwu}O{~Sja5Rddr)BC*n$cjBaQ(}{(>KfV~{Xw+);ulB|45h_y(*$so07
h56N|hOw&cCP.:J>1HyZfGEqP^o8uFZIG^Z8o*/vzXh5wUBak8k{Q!suUFfS+(i6]N!>Sn}}}XZS~%hS+0xr7CKx&+v`~|0huED|rMFb!=.IdI):n'hn+*il6N_rarZn6)=tWCn~v;6yqhvDp^#'rN
F/G,H;+Z*C[n=cMLwC+YciDfGP,,mB70$q;RgzuGmLd7~7*6k.8|%A|><!R$<IJ/G5'(lQigr/e=~q(%c=p>v<|#.nnls&GF,xlg;vfF]e~{F0?.YLm}K[Nb,[U06#m%8B./mCdIQkcJ>]<4.7g<(K
g9+)BW6HUL+F*:poo}0K4v%A#x8Va[n+F]VKnsAPo`;cmT/dJh3N>1SXyn^1XTIV6E)^=3F2VkZAB%L'+LVTlpoXRn?17qN8NE(&`3jZ50L_r#vzgo0}^D7|lKB(zofjrA$+M;*8m7HLCDM,RFdf>(
Z04wj+u(;x4v/G1F#O?xfxg$<2']ed0{u9cb!+Z5zlep#T=jCRHm^<^ItV^zlasYU1~JOsS~F6x*.!?jVogTbADm{E#H=.+4:=[wwqIjhVHJfjhZmR(iiPl0OF&wu9;*1Y<eD9Gzb<8yJxVKMO[o'9
b4_nxI4p2_Cl]?8:eBx!E:CfeU+:RZ6bQg7;[9}i{HQHhd9$kSK1G{VFqr?73!(BtVHe,XWOkFW.zGTp)<Ev~{|f=]c~}}WT'mGih$l_;)%/_+Mpt)1hL*X^f?VsB<mGY)JjvoUcat>C)VV.b7iK!c
{kd.+A}${9JY{HKgtTxCDI{]AStdP)]xVS=h_%h[1ty2;.RTi2]{LmVk'Vs3nrm^()V}W`)2cOIiS?6vf9Z'{pdvZJ`h%w8#OhXV4xc%34&msC^*)e?eqL#WDYn]!X'foxk'o|2qWNL6C,L.^*L{k~
P%/2M/0pJ9hlG%e7g(XE|.qYTf&qP6=>{;^Eb'3l%],Yzt?W2:(IwxYa#}7#t}Cq8me#u!jM_O^!tk`}&f?ZR3yN#S8N67Fo=nbW3uZ#G!xSOY_gd?':MZddl^EE8P9$F{=`vP(l,k+Z}#Q,G;huN}
]$$z!U!o|Aj`TxEVzM2~#X<,6jB1+^|HbAu^!'6MSQE90{f*J)~3+/;7XCL74'D`Q+SU[F}5.A.K{;'E(qHQX27?(.BS:IkS)#cn2<^X'</n*uxkS1(;:CL(+Elid}2Mbu;ezZ}sb4aBULA)d``q?%
?Ncy^iiv6h(r>m04pa+}0/zPpSXLcq4UE~gqs{UHtrt,Kt(e[uY1J%3'l|0x~pziSo8'cbKE7U7?7P#YIF#u`i==rR{x>`O!'n&u*vWVx]xgT=fV;a<Dh}VF9&?g2?e=~)rhRZ2p65}^qSi8c<X0,4
<el]JD_NS$]=:Zo*^Z,}*m>45kE/uCWf:KO)OQKB4wE.'9)l0Vu(`P>rYmh1]$l}$!Eyl}e|lNtmQv_Y9UQJa'8hZLOk8L}^.Cb|WnU]zo8N?kAl3$Qw^AVMJkpQ3EF/4xCOB*F:m4LZSHA8bQ`y9p
y|P%+)uPwql5Y}^OOedUe*PoN=~wECr.kL(6(;VSf0]+8?r>`qi!G&g;AuVb}9%)Ejv0j7jyRE]tby:>Klmw5U(ow8Uy[pVON$./?(~*P]_zLXE%y0yOV;52rCU9D5R.>w_J5z~e2l#w#HVeH0%|J*
pRa~ux*$gj*c,SjORsQ#|BYa~$o:f{yxO^2wuN?|PL5VC=.x^1Mk3{=Z0?h]40jgqP[{)}l?UI`X,U,%3_zB7nrD(#;mW);`0F,4imdQyKU9l7ffb<oVBAJX8?9IjPwJApi!lpcVG`}wT?b4^h=Zzd
}IX#>_zbGU6el|>c1[,FYG6znERDGDfh(`9x)xBBR>/L;Y1?IM2yNzau38]tMrK7oADG9!hEp_oJgI^Bk^loez;J,($)kPFd(HX:Ia'N7vZU;14rKuiRVP*?$F4Yj^lq+.Z#)pE5n~N!M$YcwqlN#k
~5Tn{JORJ[V,hOb/h&nD<79:N^N0({^}i{&iERa/}f{GD4%__>XL{o;!&8_cw?hv)+WI9d`k]kl6[$L>a$1`,U~<KTh7yi5f1tn&l>iPYi*%Q%eT>ZgZ5/<0z51iN,lR4d.00n(r%01YiD|=0BH9q%
7>`|C9>zCOy?ZGe>r.oa~W[C_/>u{e$sNB7*#wE5lMU3%gUd!dNpXFJWRu%qy2b*g<4*#i7?g4PluC5XlwLwRq;0zUjC];YNmL>!Dg!i:EVuW=x7EMSM0Z%d{6!{J0jX%=f,yZAR8b1t_XC2&0WoG_
s!j6s2MAR<ZYuXw=H>^be7s'JbQ2w/>ZG(/p1x,,xr3[HPZ[}HE}FBdUgT)'q2(Q%g0cL=EE`(aPO:Si8g|;Lnq}5FhtYN4B*LC)%C+2}%ixu#s%:0KqMuoi6(l$d~V6~~:hz7>f.JjIvb^d9zg}U=
$Xcw=~Q,3S!)44eIS!(:&(.[;+k5csj7.(d*Q,svI]|zY5yxNyqD;G>2[yn9HGjh:^*UixzCX/h&.9DuYeqo[)BWaK8A=od1KYHJ%2gX_8QM4B^*wkl^+ru)r#SFGXt^r'u)Tw`<wt,pS$wj+^%lS;
^e01x,$<RAcs4~p=V[6{YYi?'yry>c3ne(`*I>>B(?=>t5kTC+%ZX)^c8[4,e:7'qrY%GgqRTQvp>sF]{&k>)+y3*=O3I=Iq{I|Mj37$:Hqt/MkKx*=wZ.0=0UV80=QXQ{]d{X(V)4I.8O:a|i'&6h
NHDcCbfd:XG{B^r]z&8JuoN`3^9TUYRLpxeXF]g$M}#96tcKUD2A8=M~;P'#AqThvfD>VwWm^U[FoBjE$qPrL]Q{`d)1iF6](/fATvy`}!UFVxMbsy7~O/vfR>>WNS&heh+&4uaE5~JOg14Y=ajt&~
BS5i~Fk{PcBZRm9a}k4vkj_y0hsg:pz)mJ~4_oE~It5Z$`iSC&pyMB'ChuA+vNxHcg}oqk(D(eDYtOK1wx95Kd.5(*!JRLnCz4Y&3^Q9BzqhU]]y%IB*z/HnAwsqoDLAiZJiI!7utr7ovUnGv,CW<?
mF!F[:gq0j9P*fufr?<Pn7YbvnM>;0C17PF{W1o0m|rAy0,o0WGLFY]2.jXtIbVa'U*>GX%plnLLh(Z,8J%,i>C0`'h~`6*UCXDx;$H99Iq*gRWcLa/mF.n((Bl5o5?TugUzO`mAu)a'ysypE/fH9L
]?;{1st+LlYXpO{15l/uBWuJPq%l4}E42~k!]Z*p*dZV~+c66Jn]X)!6l=>CHv#Q#}zb6pb%ru:;aM5+#3LAH.M=E%L<<{:}dS(>hwi3io`lv|N/)Ta]}{NAJIuv[~+zDF0/4<Hcw[n[m})d^P1EbH
^jhizh3tkW21WHAr^Gp8.sL3}lK6#E]of%I%ZIyLN(_5y}5IHbaA>yY5m(d`9*Br2RW)lW!,egaF4pe?fW}?b7Wd*Tlc#pcDu$<hQ+7t#16B)pZFY2T3%7MkujQh^dUk/kzg7F'Sgn9&W>e1F#CX[*
gFFvO6#({|MMTYFNQOBh|w}aeI4C!YH{B/vony2Tsy]g4Tq#2WV(l/[qiDi)w.=iwich(W)J`Q}:A9~#8JR2:M+=#w&7_$^MO_Vrf<j8&pYf[(^A*&Z%M(b((=6U$wv/'?a_a8dHL=:P$1hh7{;hpI
k:bcDs,O9YYqHzTF}SOob&?cSNCt<phav+=p#CbeTMPVK,,Z6?.IJ,{b!l{r6x{>sH>QDaJ=OC_{=~{yI/0nJ5K!f>|OV_UT&9C+o_dv9XunWBT=CHyf~D<:aMFjY/jn$+olZ8vZ[i8id}L+'T,h|]
XEQ6td5oYA3]LgBE[s`,n[^f&W47i(/}uOqX%AkP(AQ7a()}Eze$Xz8#eJ+M.U$&XT$2!n(BQLK]3uO2O>(9Jg*~Evl(Wdgxe>ZqRR[ol,Gt&[^WQj%FK'Dn3EyD<t?8tk,FW7LtGaf~lg1/n8DT/j
W,N=_*IF}&<(+q%!7oLbbs6ER;wM24/QpnMl;9$KL],y1;M{PQd{c{JDm>_QjP{bQqX5x;5P_[3xLcp&N[erwFnyn#R+fnrF:!eYGQ1J%7p_G_vBh1G{OKVHW:V},zeH``^eYyfhVoH+=;P=RX)P*E
(f2GY&|4rap_Xw1T]Ab|SoyCsDFl+b:;%cxIHB}zUn2OSeG{{S6kdpLUJzU:&*fzw+o*$hry{bz[X3WWWFQacg:1Ze1Lrqh)tybn<6Z6;aWBy[6K|FY$|Z^:HF4g0Q0+9Pm[cU2=qw(HN|f(WfawY1
U]^?IFVR&5g4[E?BZjoV(z0Nz*63G2LP)KsQI)#$70<hxo2M7I,?|ZRU3rQ?/Wz)N#UNRt*cfk}Cy~Y^A,$0oL9[_Ckc}=wyE!%*&nz'<`^5.acW+|}$U3<H{CF#}2N7Hp9]e`xAH,;Qpexxh|?_;'
/zMZ(S>jEc$Jo$<1xP+(!a{FmWgt3}$Q|V.,:<)9`D9&CLzcX/jF$RmmTDR}*KHPhfbO43T,MNxc?S+C,RS,3QiNPRRby{orvNiDx^A!E.KVE9,Tv:2vZ(&2nnKBJ2b~V&[la25Q:WO7_LWU2dv!rk
DsRjwxyiWpj_%K/51NGLRdL:j:=Cosr3iHYNbDYU2|=oyEY2FKk|*{n5n:;+*U)Kb/jDB5]Ayo,|sg0SlcvIZIczK/zWd8I2LO%t1hpGNdITB5QO1an!COS)'QW(ud)JfxAF$t8&YXq?JvCU+rjlqb
:|8_0,]I}o#/~AQ6z'*^uHz5]:0zCQLYC6qK(EwV/`%^_N(8/[]oCSYdS[qbH<fBD'w.f'3O*Io:'/AcbH^u`#J}BPniz)Kpt$1zg>sS<:,HsLw<n_8ffZ~X,_ww7`$qQ=~<FoyYg4W&rjEm$G7G2r
#8fSt>T$E<?Ums+}z(ofOxeF~:6K$CtX!;(7f*mKo>NI#;!DecDR2d=rMY_rXPu{Tpb?WBE5/f>[e=qq>h!j8H*7'R(6+x^~'kc`|.5WD9J3p`Wb9oF(O?QzB4(3U.zpev4gt$F*s{>SbI|~Gk(H+;
S`F8x.dcr9b<?[`DG${G#ZXA:H>:#MS9!H77u~.D8R.bP.t|`m7}9uZ!ZWjqWC,*KYhSi0.btx.VB/|)]pr<|_e,o_Z5{SN{'CW6(?7'u%l$)x'rKLZm0n^flWI*FolUL^>O4:5kwQ~)5CMv5Ifjn`
m.E[cyKq<#WB;jXi&)2o>%_q,G7|FEO&*|Gn1mBnPUc[}oRLv$*Lhx2`V/J:NVKDAQoXhHu?vgUajkJpT4;V!z[&1A:nA#yN9MZAgo6K:gi##l75$w1b]I!7k~`bst/A00Ml_?W)ZtiP([VgqZp&/2
G7:H(h{cv/f{HY',0q~TH1gM|jo$~gEMV/O($)q7^%p$d=Mk>+j5#{_lnIs*$Dy<6gj>upqHx`^YMZ//N8WTDnE#%;9KU6+{P.Acad3&{K(`H+yW]15Gd%f!qF52,FI,MOv6O)?0WG.<e#>Fr1V_.:
'ET1*r2~l6{wE{h%OmjLSt[jxK!M[zo27=ixHsc^ynF]9~0K([9fXt,J6t:X+PT'L8rYD0F?1e.jdqb|Ntb2~P7`NFMX$H}RJDaf{0lNWYL`#>?nu2,Z}>)v_v7zkwHj37,??[;df%Tb]=p`MS^*^C
;pB4p:5zt0ViCvmjhZJzxi*mdLQyv+EJ6Q[gqtT(Y#F(w3T}1+Fj|!8og~cl]LDa$OP0Fq{~U!Prb}zih[U4BtF5g(gK25uc#9usY,u~]dD1EM=}Ia/T|^,]xcE1F;XiB2<&YdB[0]rFV8h2Th;(mo
+tDH{xFte0qLXwuPwXs4;UG3^!Uk?P9m:J8b(jW$2[/qP>lZ<z^Jw_wabM%y`DgCLgZIm,cRaGHh8X]b^7503=!,ng_&QDjlM&UZ5xlCE?Zp2df6'!ffW(].Pe|Mc`|UxkPDCQIr]>QgSM5b&w#htM
C.1h1RTuo.o;yYkWDvhVeLdnr0xL2`gh?Mz/^Z7x9wGwEqBQr_OT;Nw5=RVO7/TErtrk?L]vC`/oMz}7PUA*F%]90%X`qp+gQvb0W>+OSHhx+Q4d2><q?Tn^=JXz!DzY>/y}my^9m<<VCqVR}3<`Eo
|Z8R[CZpEu*l$hC*'=gTquf(S2n&Y}Ho=Iig(N1k7?UY'KMxK^N}4&&GXg*Lm:0XO=RkRfnyCJM'(]u2]'AKPvm,Ul&xm:}1A%`m^/+gXU_3mm;W$t_pbxS%lc>!dd++p*9i3a5JBSyobR2VTJt!s(
Bc]V'L^qjh*$SfmWU^D&sj/fMenp5.:G<_Y*%eNLd%hC5&1CGrQA>#J2J[Mb8z4Py2mtNA)8Mc;m+5H/NGw,YL4fb!3e:ST^rgnx*&=WHq+)*8C?bi>p>|+DhbP+XBXJAX,cQ?/!'q:ShwyxTEXW{3
Wjp<}2w~LYS8gLSB33zpHJufr_1G2[s*dbQ,&#),UO]cEc+]sxPi#P~9St*'bg~2%MrChihyEg/b5wFtJMU*$>KcIs&wBR*!f.[lEPQv%hBkA#;y]cy8ft9$(7=acjTrB`Z,s4,mpv7>NTyP[|'67E
q<la2Q>s1j||e'ZJ]U0Bj[<~^N(.KUa{O8)XLI|J)|mJ>F4.$gpQLL9W^=(P!cmlC}HIcZ$'s(1j2FKu5J6o^>o%P=n*B#1.$HS'|gqEF!>ptTBBhTmL8S?A|U7/{5#cri{AP,HoR.Vz({lQ0C%&As
3aq}cm,3p{J8[aLe5(5IVY9B+ciAcX3tMC|Yb8x3i#jdA5kQf{9V!hQE$L}HFM3zyNJ>?oLXV22W$nhz[ki4ECn[2^WfwD)91RRCt^ua=:SkK9q[h{wN{|9r4oUi;hSan6}*v1BNy;bd+}.d7/u,!a
t+TMiM=;v|:A(7LPDrRTHz=5AFGx2H<|IOrB^#1DtwprTu#M~$sqdtRyv;:NbWZv(V_*_A`;`1MHmx$_`mM_tx%JX7L?_4k}NGv=cS;$.3Qe&T12>x0yytVwO%/U.gYfYRWqYGA~|jmUKGNfp,s25L
H>~I&ePNwsEM[{GSn?S%E/MBceb2IR:~2`0Nc|,|c4MXyzY]s*SytL?y3IoOobCj#(=.J(ZvuoswyNlZUFMH!cFm)0f*GpJ2it`i,<NAy`nNkM54G}&nFO_vL:>on*C]PJ&pHZ4E[uWXYrE.(X$s4J
d;CphxN)0_MFC[pBoo^:7|Y0vhcl{1?KW<X+sH.COM{H0;[e/tn(BH,YX31%}t60=^^4.l8a+dH]._7=iBM(vym.Euu*0Nx^%,%.|f/?XC=n</WIT4`M'`1;<Ai*C.ZYLc}:zhj}_N)4_jGVK'pDT(
[iFeUMeL<WA~1i#rJn(QDsDENQOv|>omCLwHj8t6t1jFI$G#!j_/jo_X,[M1[pv:FdSMZzBz[17b%,Dn1IK2s}I&,O7,H]AAuURd,:|s(S)S}ag+G2V(DYF9d/sl8n2oHN]GFaN<_U=%y(lXHpk'A8
&cy0YTsnnNt$Grn06kC*?BD2H`uWY`%ux'NF~/n}0TB'$.5&amezb'EX0A.i0^8J{r8CRR|_)^kCZ_'f,X>!0N=PhXBw<Qb2%3GA[z=UJ5GmV5WlJD%4D2|T8^($;h+C0!1V?o4:g_j{kYok7$8lP#
[)/b=O;>5E<%P#I+q2[}PU))*}QT^aVran+cZHac00neh~;I%pz.2fGrw'WaoaPG}c%'TeVn;WB{n**HBocd&U*{yz+Sa>b.wvN)Omstz|PqQvK_~PR|;WdBXdr;rqY#&`d~<B=XW'fV'~11NRp8;S
F55.t1?0!SS26vOV[bJ^*JOUb88vF;wV750Df|U7?yQ[Om{c=jA~&^;~#kmeR?P1TQ1~4W`aUf(a^U9j|~kd(Mr,LOYcaNeM~v+`?YL&kW%jn(;>v3,w=YP?<<B$rY_Q,_>2k%NdkYy=)u^hZ)~gKv
LlKG%wS.]bJSUF^Bg?R'RRQ&J8IY{7S+Tam!?hl2SJ{bw%^^u[l+qU3NnWo0nhPF0)Vc6sJ|5%Z+u{cM*v~S<ZW4D>yfaRRCr]0q;u$'J]!J*nI'^s_,!j]|o;JR4z|ccF##Uof,pi10ahIL=Ywa+C
.7Zpnb_Y]5zJuW/Vq]o(jW=#mF1J~l#05/Trh?u`t.fpt>M,AqtQ/s=7yRHq1zOAI|EL,00PM:wN3Q*e?EVr(|h{8QU0w5$3#V!!gI,zhk6{e(|F[)6T]y=>ZBeZX:P%_m3UjC`nX%<4EujqQ^kz2t
[<:phVjpTi4Ro^ya&RlUVwJdF7,5y5AIVi1_{b?rk<mIYA0Kh}N1c*W>1!Z%|cuCQh<h?%WF`gnnIhkK#lxv%z5Q{^1ON=8$LmBJx?,TB$ep0xYwfSTI`WC'wg*5fdccx^x4`Y~8T^JcSK4Tmqh#P^
FmdIf_<i<XzKvw/Nw[s2gW)%?Ve_'xRkW&X{p=,,aZnM)lJ'1&}p%:;`w3KL6}_18==RfB(;1>ucYGxq$MA)|p<tqw)+$!&MPt&:jaKFmYg#f6w{`+!YtLBYj{U*'|_6(o{ukL<uLz327C#<f)<wZm
A7IUFvum!FfLV7oN,?$!/,cf&~KEfAyW!ap!)Ow5}cGA6IL/a,)7'JRg*1(~ryyN60sD>gogi<yb))oTwA1XOlM!}X_Gl_EiNVjg?Cb!;zp}I?GP%(]^ub,Uyd)h2o'_Sn);]5Z#CfB>#q2?I4Y[4%
r~qwB}#:CNLC.;Yv7fr*Jm^JMif?]`iyO/Q0>/V7%Q7akY%$bs&YJS1:K~bX3enIYqhOlO8&4RxPfi4CDvqE1&Yo(^5BXP+%HCY}v^kc=(d&d/WK6`JvPeY*`+2W+ewKc?3YjSf(d'(ci|=nXuTP8W
=H*hFK(]5juVjQbIttlM7)J0k/!<oSJn~C(;6M)j27/gk<4_,Uh/L*xZM3dhRe)%`[EUs[Qtu_Q,rjdU5|:8a1y/kb_$}Y$/Nx;?n2g&Q)#t4W^)K26P{HCsvGcte/Uocd>*}>.VVJb]*E4+%=]3CD
>Y:H?F(`W}z|J`#+j?a5_&fl83r)ZfQTIq!Bbo)J]5(b3$WSxoG0>L%95L5nAmbfSj7T5?h!3vPadic+{9#n5X#^J|K>]_a90a^8)tD=j`p_k[6u[3Y~|QN6v*M)B(=cj:2O9vurygO[?qEU=SbMKK
}:cVgEHO/*y/KaFW9qB|F:+wzRa7>8}YvaO!v:y3XeB/t~<DadB3)IfJXw|qhoZD,TbMtADen_WhDEW'e/molg~IJvkEQX({%.[?09u=hM%+;;=I/8ia:h(j^hvrCVu;z%ld^_/Zu%5A9uQfah9u{|
_.*LrVq'b,MCe^uQ{Ja4CK}3vWRWdH3QF4}aeQVx9gDt?msvPuG}}Zn|lc$c[HxH`99EsS0OtA6ZKi`!i=??Ziu$^h5:+n!Lqc?S|+#`dj,KQsvxQEK$^[u6l.z7LCW$&BZl|^H3>TL4',;#qG<xFF
rqof7BZRGD,M3vdQ6`yHS4`w]9MSO#|_s7pnt`F%4*3#iyN;Jqi`lDm9tC3B&g##u#2r;0]]YzQQd^$F~5m`A?XndyuUOFDSuxKrD[.D]*X1'/HsI}hbfg+Dp+WhQ47'&1JF_9.%r}CDy)%5lf>1k'
>rZ$zaL_$QWU+ve'$<,`ccsOi{cJ1~L$5e.0=$K#jNHc;[WdSZLM(*l)a]?(N;yQ#FJLOg~JY3P&LQP24~/rJEF5;okj124wH2/o?8pJ{m6]}X||cs*wLm=ng}%yH9%2SitimO7HQ?#)jN2KsQl'Yj
nsOQ/II,f%.?v}+Wu0lE^nXg6a>j?y(ec6Vsz?)HgBEiaYh:aLjD2LD+s8YZ&]lk8OVnyIPV+~O0LJ;/633Zr]D,Ap&^eG5180'aO$[6TL7INyZ7cy):yK<E>[i=0sd.y8NH9KC)3H~DkMpcS#;GJC
&#*7cI~[nrW/QRh*t5E5cdC&czou76$*p=(hQeSVf~TsX|bw0M1jKE<nOZAqFZc)N/a.(k(B,zE'Z|bmk]s`q6S?5GkDs1CgdUzLw=MIBgYchFNL`k1z<]rudmeTT^^NWkh*.yM|+p|FX>ottdC'k2
q$wY=UQ3aS/x<&Dy{Lp4%D81d2;<9bCpxd5(r|mAhkHwMU;FDdL%/mGFt2ABlMNz.R_GpX}4Rvn'.bp__&o1BFcZq>''~FAyqSxV9:'*%v2*?!%fwXpTmizNTlkpBN.BrF=$$v>ZFu_MI[PsoY><p1
/G1tqV;0&Auv;Ufl!CwYWfK:K^o^u$e~/[cq_pc,GR*KFw8r<yH:Y8,1u7n=s]wyi_Xm$|UCb`ULv{$LKMs(DkS0H;8tvUCZn6pAOcz~cdX9`eyqa4hMeQc%joi|d7#n!c0WLbKwf94GH`^Ui^,{IX
Aq[X3VyC}0A!_YycoB5vH?p9`;*M44Knt;E%ur3a[JZ^??a*hv5RegjlczfU?ZfZnP24*#N#SB*vH7>7/R{1}zeaoqTQ:I$LZ2xw^J2M]jGQ6GL8J$Boh?z)8s2:h]p4[Pk],)n^KjuX)y^g}Vgw9T
'Qh~6Fwf*eG9+NCz%dMo|VrR}|&/ng:?;:e&(uOmUhB<<lf:KL{[YpF6K/55d:D~&h8NQ3j&#G+_tz<c|6>1,`#FPd5Dg]54,*=^>8AE!asef2Aq'7Uk#}R2=#VhWq[7X<jEjI^QlL,suhx9&#W'/{
4K)g0r2e93kiwX;v^'F5;)WHO3}>elPbu?RE]:xw[L)ZumH8_uA8!:0fa+8P2lqJJ{i>[TTfI]4=I_KNs)KULl?43c7xc1HXr8NOGQH.e7PgHoR+a5g()'X&>W%xg5z~+P:G1uP+4D](CY+Yph%5!d
&w}v~_WON_?49AWOeEt8}|UXN`>3ut7!A&t]]ZWzPFXQBX=E^leWL66t(l#`;.;a4l}`wUv)Nzmu/IaEY{sJy;WQYu7806'Rm$wK8mW|t=#jZ*7+FM0<m_%7;ZF{'zj]Ft?pa5Mc.+gh!Pa|l_S*yH
F_Rdv,R$h)*SLo)j,C78~!r:;&v~i&o5N+Xj]0lUQXG7.=0cH4T$0diHnzi'fdv<mS[uEkN#<pj];%P>hS4?ohh;6!TRjVx{Yf<RF}!gt<Oxq=>W'r*{%CP.D_~hNlPthcY9nUj>,=UU*6ln>/4Q+w
!)*&(A709V&cMCa}=,b!NyCLm1+7Z`vG5Nga,Jpo8x}tMk0=7<Ig]d1#Ds.rKe/PT;|%ow_/geYBY:3GXwM1MAyR^S|pj`p5ra5d0^vW_kXr>_+aoidN$E5/1vK)Rf0T_.{^f!jz,pKPk,M>[31$[:
g5L,|Z;U8aY(=k_kg46K%sV,:uZ'1WTY&)M|w'q,#Slr$qz's$kcr7X6zqY3|]^X'({%tn*c$8&[d18gbmn~!iV$+s3s|FbE%>~5*68ZZ{R%Ut85Zj3<wp+zGje;Xi_<1`U|xtl9[2Lzw7i10skCO3
$yFy~7Ajd+nO}22AKk=S])T[cZ$|xefH]~/cUNIkP_sx`q>fU(^T1pEXy=+fJC;',~|hV{RQMA_[MPrq6/8DhwqDBwzGYpv`B4RX=o.{0TaU++aEyNOmAvwlhCi4p[*0a?5n;`~8ag*Y>,9?s8=aC!
>}e&jXLzHoU4pHga6<a*9E>sO(;f,0I,b;Ox~?&`:Ho4Z?p[Po`qE`u'0/hz>AF?j2Fc|C%F(ymxQ6Pnx`93=xy<i(1/U</tfk(6TO`DtMUJ~=C^Y,~e3)sJ5zin:~ZSjR/(gtuo5dOQ)br`m;//mh
Wo_xj5a/E#zU6TRefCKg=:mZh+[jssrn#pov5_WIV%lb`JFhH0*TJ:Ai,9vOLS.hYY!'C3SAGj('o=RkCcV|Svrj0OnGg9P~Y:jM'28FyWw:KUlw7P5Ugx+$rS_annYC|wK'u3=4AdZn&_M>df|%ym
P7grC%xj^,Qn]iAnrz~p_?w,<sfi8R_(XvHL^{*4}FPIG0rY>y9e!C'vTW%!ErOn(bBTJ5;5L:6*}R7XtqZIngkbF=H&)(L2><:QkiauG?Po<5R([Ap~LS^,<^#U']Y2xF:MTfe!S88nLp5:{&PsMS
B}7RpnvT^YQ*o^43cr<EGj^Abj!ec$5V3WUJn2EhX`Yg8_46S.F+:S+aZGA#E#E5Cm`R`%x_i$`=QqYCZVt$qy0RYBvGE,C|B2S0R!Z7i`X{S|6{!vy+1a0H]AI&/&$)ULe*c,TNZnbVs]$$+P}<%.
1[S,RTNrTprwtc#TRcGA1pNnuYL:rP6ot*WM]Asq7{xDlG6)dQBsBzkDkEZ&,niqG%,nI:G>8|doWY/q&~+kZiLB=y4w%o1lvZ1jfhp=tlcKeDAo15dI}j<WP:L)lrY+fv!C{M1.>E/vzF7R&>PN`#
bow9&Ha%myOt*Ek]+ImnF>zmckYwlQu5<QT^B$Ufijpu0{[i:N{PM(l3>X]PDk=I'Ne*Km%XzwI!7V_tZ=%bMm(i&`e%x{`AhT;`:NYSh~pLE[hAL,x0E;nu7I+V720faG#fmMM:'PA=lW.0AMq'q3
]*P049#.}%wPDhaWGklyU|r(?{My9Uo_X#L_L{88W)`++;j_5aG=9PzZ|h8/5.!:<R4CmWuUt'W%gq(ck}%xIF1nxdik5bsrd.8E'#~e%XFU9!GS#2QA#&0BJ~y8{,e4i&c7xi(rN=vF`P_KpV&~P4
u$KZz#3=!NC|wNX'^DQhfxE]>y}1'ekqM>Q,GlLJjb`eBkd(<uBU+|h0ufM4e/npnv[x(/Y`Ya4>nHnnL*v(sR3y>M2|40Y>jST'Th.yn7Pfym}5~O'1gM}Wwa||r*Sa?ox<z6[yALY?U}7Re<][xs
3U}B6=x7V?6_[h+d{6YxW&1%Inl7^pRD=yiXeIO~WW?>?TLgA~8NhSQbQ,)0K+P~_AdC=?[rA?6T~eFvP4'8A[Y8Yg;c|yko+F$S!{!JG]{4ka,2Y<{13.aE_=,w}?%qOdA`Y'6^nsaawpfG6/}35v
;'#50GfM`,m:TwFufFrAOr%r;$+SaHE^?:j)et;RzOqQH=r<.^7f9|UL/!5'mE|)BY_xcGXjd1<P]N]Wjn|Hy&Z`4Cys]!|mn2/cmM;Xunva2,`zJ5*dI9qXn,%;W>%]4{_c$3{V&[S#R3I&)AsO#/
}xB=S.~[5JSxKv[v;>OT/H>qL|sR,c)$YpL50PWH&H^'iyi3YIg9[q^Ox#d7NBMB?iUJ/f}&FLXo'VODWcb%R{FX3oqxh_YM}33QnLOic:H?6C0>wfAe.C{iiQtY6'/z?e$:<QC*z3116}'8AFZDf&
}y1}Dd$]?:OMehLC*|QTbYI&{r~MkgG){3k0f+KK2e0E]UUm&/MpOxsCxje3i!;Kc:$;>_B#?YS.I8Ki`AV)r=e2y3svpm|nH23OWTj^wI?71rLh2^Oj5>M$$7vb.H[!ao[bu6H^|Z)f[$lV6(Hmi$
!90X+!aI:S)xD`?o&bC%s*E;W02;F11{Q4`hSP9<t54(3,)0yo4wYjeUS28JAfyw5Ak/V!(e0dex7O9Q]3e&Th(BS(OZYiqEzG~NDku:B%ZUvC~H{?XsZ_rGV`ecFb30N]lhpO`{fGILqh#H%*&:Y?
jBtR[MsWzvnKCM~qg5Hm2b0zoZJwDi04)CI0:eyCc?E([b)]r/.bjT2;1YoWDWU8O,R?H>XZu).M30TT4pH'Y=a)wtr.RTFhMi]|uyL=4sB:uZ:[<Lb#X6?Hz=C!)=utM1SHf[=.1t8&c|x7=+[;''
=x%=Q}UIUi]mK0x/(,FT&;.%rt<Ig^i,`uF]LOCMl,f]0N!+=_e0.%U;%EG~)E}j&K=7a/>BMg=2ebsGR#J']zzse9v{m?m=G!W3PDK11`HO(scxL0KZf((fA?1x$l*DgJCV5*[P05a7>ES|6h&9{$
jI.GP*oZn|,K(ho[GY$oYdr{?jypy}kS$dWW&#v]Wl!6ix$S%W&qs['Pl~uZ?LuaqdhwSF?h<~V2y|PqSJvf6(mw|xou)Y)H!2jcr]M>L0rs.i%8}noKT01XzM'LhdIy;X*Lk60)>Qj0od*$l?}!bg
f~4E;$dDR1svHxQMcg_M+0zU2nMB|$:5XYX3{'^x)P]P0*<Kk_8.uU}(JFg(NIRcbF!(>XcxR1aspUGY:x=U]i!2M?]J0&EkZh45Vp(eeK]=U*cA.W5$;hx)[Tl#weA$s4oJhwH,_4>u.rYCq]'ki)
#2!xkfo^uxP7b`Oo)G,:IfH<7d6K4$o&ORHTva.?,,#{yC^?K!zV'<UEBB,`TaPF`IJ80Y))Tq$&8[1BQW|Y._khH8:f~4=/u={!P*4R#ymN;u{68ga|$H|R##ZjV)F:npZkxTR{ove(VH?P[|}VmS
:tI#KL5=>ie'oK}WmoGYf1l<M?KVmnhd3NpyP#^#s}1YUubul_9{f?4PFFNc?MDhQ'EGy*/`K82cKhPCLqqc0RA0Z0go!#:Qv4zKZD$nW!PVqCx{DKIQvD{ow}qv[[[We[GIJBS`zts*NXAIDe_Du7
:U}zdovbS::iFuw<P(3EKKy[(yn,f{qKs$MB[$qWuNkq/7vwt+&L'G]KTSsmUU!Di:_XJKprs6:#J;+IITeJ;<`q`~_Ol&zNZjiL[!3]f{a5:>%'eVi`TX=a?;R1^i$Isl}~]3QCN]qg$Z!A8SLm_;
|ej(f,<Sm+ewJHb.Fbe[]>+D/n3JD<Oef!{W{HS'ME/%VUn:s2KzxOZyf.dfiy'73ewv>?}Qh):W>7[YZ{:gV>|ifTq1<TIc,?E(1B6Evoy*j?Ej5qv;e1dflqlG?%EPH_!x6_iWOm;}Mar|Bzi7=d
BM?VosUpUnU{{FpD<m53<&YjZzdA69OLZH?*aPc4cK[l^|ZTT:d8{{B:)J3D$VlYF!U7`>2lT$<>+D>]}!D)b{/M+v0mRiO7*7K5!T#Px]U;e^;jLVB+Q.lr{&]vDopC[DZ:+F(sbl/+p'P6gFIpW[
/^qlcSd_&MRUvuco&%=lqNhFTM.=Jgw)(i:lsJE)9l]XQP=Q?M=D07!zh;'sppfxcU5/Kfq#}}A,TzEG)?*t(E0J^(mJ!U?~`d+{O0uWe/lI)]~Wnv`m4P}7>g=z+^hR;{)X_W~hG0M{.i[.]{'We}
MS:]bB7<U<ivu]nX}co);33LB)4;D_BtR{d+^H<_H*R;ciaT;7:%Qrpax1{3xTskK/4W0!WbH{/7LM2~/RVzG0BH{5x}~1RA#:>Uv[Ko^0CzJWmS2O%IGA`4C,KhAvN(sTX(v%x;MOt#^R3X{OPLV'
.1~){HV~ZV}Rwt)M0T?8&Rjp1E;V:?MhB>M0{ndHL6dhX+0LxLyL<%fze+j#e$j%ZeA[DksPI?2pgAaX}ri=Yajqya5;BSUw5`&_]TkK_?*R4W=qL76A65]c11wn0<5(zbyB|=+N0f1G:Z,<Yo^/tr
jY1'mN_Q~]I{*8#{qNg='+iE{d.%=Xw))*LMlpvzORpr~.V6S%w(,2p~VC`t]}fhs>$az.[|d>yq(.exN?+55n%4PuH=^hc?`Ff)m1&z^mF.*#x,?pBJ*UR2bDz85K(J(pB?/Cf8LF;q~%pYY]bana
k{fq6ERp9JFu3M'=8K3:YG3^wuNA$&>RetQyX`6Z|.i}:6EqMa[XsCxg_ARa|zGL_qb*#OrVedK[z9wg1F8c4D.}cXpJ^W'+ISu'4={ne7$lz$~EEW)DPkLXrocAi4t0%VZ$!94a`Wye;u_lGZzLWE
Xr:Hd`utprTIsDsJ1B<1{Y>|V4|U{OmgBfIn%Hl~E/rru%j';QZ>XS3_nmScvzsyJZ.(mYu?2Wv6ZH_+&6lrsTG}j_$u=X/Go&Y(]Lot;7fh$p.v1c/Dz%N`Zx30z$3{V#U?Y^A><k^m6~Sp:zQNsI
mF?dy2(seX:i*XT^%^NTI|e~lDf|lA>{:CodUC'owd)'KDKW]!zM^$6/nny,*V|'jAV[~Ebm)=9=l'cyc0Unhjny}aiq$mJJ^/VEGP=9{$}7d;_3%MQ%hZ}x{HN/e%n#<!7fd{>{7>&A81]0]q0,qw
+*ikT#_b{#Hr]mHDxE|yB{zeA}u|A6iaLB?R14N%yzD`GkT:Oh.qs+BcuLXs;V!fB^Nno,tH`YXa:xBy+=n]dDhq>m=Vr_X6R%Mp~ODkX`LEn6=BwT(gLH[t7d*o>}LZ%&?!LE`M*.e~HY/V_Ylz}&
3.15]bYcYfDYrWpMfDCPC;uW56(_??p=PZW$Cs#c[w<Ja^Emes'<dGN++AV(%vxz3aJYhAxF;A%^#n53+Z)_[Xfq_gFgHOy_N2=&#}1=10/rWtBH)h0^]Dhozgd:;ia>vX};JI8$m&bmdn<!O3Dm%x
}]*Gmy?Vs:Af6pML&EM5G8VsgIoprGZ.m+vd+sCnjEMbY$lEhRt14c2q5tdBv.3#.xB'9gSGJq8PO]B02p/d_JrV0Sdd$]wyd089P,U>nrJvw7?cO*=<CCrdUinvrC.RL9mc#_sU!G'8w5xo?,'W,|
r/:`~vF{dFX?3!)BSda2aOL2^{rf?yX*(m6<+s:3qH5E,TP1IJO8VR=Byeyw.2['bmGt[vh~/Y[l+|0P|80m$S^nOL=>lSkyZq*?]sNho`!XBw|{lg+Yv>nQ;0xhad1kR=.B;tk.x+Ynw}O;%;vINI
^_xRsdQ>bu7nm$g#^PkmMaW75%>7$p)(Mpp&&!zCKgB%3'#W}G2F,.CbSppewA~46(Vd>~B|f)fPEV,,oZ(;`~~f_NO6;1o5w!rk.1p{+!E9+HH2j|l)F&*F<N`$b;Q0{PQ+xX]nC)2q%;wwb6sPHc
[;xU=tGOpI_BH^gJXF#ZM;fvBW2g9W4Y,WemsEk%cC)>c^cEWJe_f3Eq<<&Vn=%hwdD#SlG89?nI&|/</UsY[BLLvO0,/(Xqj6!YX~o<jP0:tds1iBmgl2A5nn{xD=>iC#5rlACC`hbIXR+|DskI%7
owU|P!,Q#>u!VnWP&X5Q?1/bkQZR<g5mh[E<Tv;u7yU|)wx36t{LGdDLGIdt_ZGPd7GN:R`/eh3.VX>nHk2mp<9Rwa=kyWm}8;tnc7m]rB=O(3!5O)Zq$(OB]`RGwM0D*h3M)ILU><zfnH+*JP[|VQ
T$evn%,'CG4r[!9N)rvMBGZEdoIL&_^&k*ngKe}exepMs$Xua8)f#U?#LdggaZ)>]c9|6|{o{(+97BCyj7Rxt&im3B/^Icb4R>_bJVc?$IlXQuT?nRu1d0FD%KRF<qF5A!F!^t8gtUz_+4C8obRxOK
vD?Qy9vM+:USFXH8Q.s6(6~{cC5);eCL>}rH3t(1'B;1nHS}vBsC:Z~)lgCnW?qV*ECig37aTJBdM)_1j%Kw)GqG:wG/#5cDz8f2}M%cl]WNaun}d::z)dQ(y/e&,d=N;TQJfdD,#Qi|Oq/gt/hNWo
F(eg3x*u=Tu$,Lz^,j4J;G%!4>nA9e2~jF02#sMYDL!Uh$L'lq,s(dx+4Ls<hDY{W|h_)I&H^!?DQ9%j9*</:<M=r;m+Qx!OAu4>$|ow0Gg&bKM>WDOm7J7`y2AN!bR]W&:E`Oo/G(:J(mB+.k`g:P
*jH<YP'L~#,:.9CEEFu/<RMUX+yh_v2ZvQm<10$RM[Tf:;p`+Z`eA>z=a0n&#8h6;9;Spw>ae>f<y.ZU,e5!/^pRErH(M<%6D*PAMnG(IA<7*?eunp2%Dp8$VnAB!0&bL>puv6JVrr4S)H6b2A=#(L
u#Ad9#V)yAvny_r4jP,l]^Oy5EeW,,81cqZbK1jkKdf6.w+(<'F>Jma7O)&L*`>'a]CJpvC3[zs,B>I>1BjI4E46[tZ^'KBf`fPq~xxJMFOY,DI.T;w2WtEDD5Ad0js$i,M_knT,|sFI=XH7;TA*oJ
Ss%p/G1i&B<S>})w:Fx=~UNdx2.|2uupaDk]pp_2_w(I6ZZEw~E7jrA1H;;B;Dos/z8$|YQFv7u[WU;<F.}Qjl3n;%{Ug,e7it>`6TR.neyO`a<Tfj7Saly8QX[W=~rqAy,P_YIm$$:`04C~4mf(|C
nuq(MY$+ZnHgE{nfj=8INr<NA)5_m;74cMgwof}oBud3r+&'~!HoVGZxdG<*/!|L:FC.TZnmwOe[pY4bsN))nGwry7Ki.}3XeJnXjKg_ez`vuB=[<&^/xGDi}v`M(Ruc=.vU]!E+?H$jUTsFr2b'!w
K#H,i<8Q=,wwtgiFL`E]~5`K}2j,?;UwO$$9?0oHh;5rb',(lfBpB0xFz_P1c3ITwwL<6~cyA:)u&8T?jA30(6IdU)WPXr;cM_z[*o[fx6Vdt&j)I8_GhdC:[s=]qwMJlsBe<8M:8On~E_6]'^W5s#
tg#nyaH}C682jDU<+;kaMt&qRW:0:y/o_)[tT&'|sa_~0_)XFLJ`&28Q/|j'lFL=LlipEvVY#sQ*!a*!*V_r%4/~='XMuoand.Xq[DE{`o8pvz%F;&cQdl!I8Lh!SQ.3pd8XS%W9kP~_amOG/alrYL
ECC/chfHt)O2FsGIA<8EQhtJ]_*D1JQshEv`:YsT$9`:j+>&~zj*8sWPd<j<x!hV]*OG<RUEjJ0hfS!9bBog|B4^jFp8Ci^EFEEx'DeX/.R*~LbdocpF_`5_xs83Z9Y9B35DqKTjmz)[LhT9HZ`;O#
,1$QD8':Mdc1M|r^c#6e)`}P1Zo42Z#lz,!fI_FxyMe{p&#9Uk,`A[0d?Fy.JsEq2$CtH<O+`1VeB15P7l`OtzwNMP;Y=^2|:;qLd}9V+;q__w&{Gd1CvO};RK(IcLI$K*&0BNIsB>eJaz|jqQ'L!S
c7{kQm*xqu|)fH$t)n23LsH[9:n|:V5;wFVtzX,zlX!Drn_mh=f:t0?nCCWdqzR3TaT2~hJ&D`kFkUE1z2<F.BSDxz|G~N&!UNTeA+J8VdeKWX,p^h+PlZ>})}Y.H.EjMV/Mu^R(Gs<=n^Qjqm|IBI
Wwpw=UoC!#kk}R~cBo[h?9$W1Q=bD2/`&fKFX;Vl[N?~lvR{vAvZI^6pc'bCM?kt>IGLzUZzvWyv>r}_yV;>i$aF+vN~$).v,lcF`~&[aoKM0~l50:w&!iQ'<QBl7Jvm*g|b*^GNI0ht(;EvgS)sUf
DH8se0;rd={wy*3bfG2.H9~dDr0O3}ALqgaAt(WT0t=8&YVyz]>R{;JDwv~,PDR%MdI*=%!&J~j>!Q7U~#W!,Qsj%aWW)DA>zHL';F1+pK*NB+ls11,2:!*Ep4H'9^>{|85Qb#bU2k>DumIc6j3im`
7v5G3YL#fYJK0wDRX?a+WG''W0eOX^$>9<r>|zYjFwfPQ~Jfv[F?)agj3C(NqG:CW#!ub}z=9860>h/8zSY:xXn5xF?'SN2D8^<2tDL>gW5X?8|kj{s/hH1;xeBX'T:dP7_DBU53+!=Q53];0_}tuv
e(0ZU>:vzEHMPR>(d$rd[c+P;ZFsb)C>5xu[{7N%/nn/HF]_P~M{bLMrvcoK$+lHFH}{O2uU/O|}!x.=?r]*No+9a;1{T;dGU`8[/y}{`aG3&f?%/FN`cYvw&zJhXSohjv8AZd.9L#t^pvB#:4LR*.
1vOmmE0]3&uS6Z5oY^n:BfrbTTjg1s.OWoZ?!Nw7ucK7O!`'R;5P+g%13[u#b3r,kW[4S;oo.oKC.JD/S;BDKs.uFO>T1vmFNJT?AUo]4|^Y{Vbqc?|D#uxc%Y_|#gnYIw/Q5jIxXcaIDU0:^;EsJ3
IRIjI+2E>V/2:!b)Hsg^NoPg7^:`z^2M2qv;.b#s)8$_`]cxd5TVvsRW0k0%ImBO`EF<m)RwMp?5qS}r^8s6%LuL|fM2m!P?CEzXK:Ue>d]#z?m4jG$fwLlcSXaYLJ|=SE`|3S~JF[#*#oUv[qU6or
NSoySG[bfiyKR]a(aPJrg,o5>!J9`c+F1's;jMKz_',ctBcRc9cfpX~iV`XM^p+(hGL&lepx!Rr)18Z0yU9x){/g(:<%)|5#p<VGy4Tj&Inq|mg=K}O=nMUh{tFnIO[u^Ktgjy/ruXf^7Jf]$kpan~
WtuD=KRkRJ8d,];[y>&i_:*SYJB5shErhHw}xgE)2vyN_cPPsJCrff}'<tbau=k^WSagzS/H&F[b2!)C8%lmD$T&9%^_BH~Z:q1|z&XD2*KNxUl0eHY;?fNW~+h9Jc[9').xU!6d5.!^T=e96eMV_t
k4<vaeoy]~.w6<Xmhm^8+lVQB^0nQR#)Rd*1d0]CTQ1zG_X4[6DAgwx)Y$Uv0(8n2Jrk97;!^A}]yFF;ZGlRZhM1{obL74{NvaBy/TI1*aL:&A]v|+llJKWQ>a0E'9eY:[/y_.yb^b!#Hd>Y.v%me;
~%w=mw|koehr6%:_$GuTP;Ml2e9n^5Fw4s+uYarRpS9G%as751'w/9Ev/HTPT?6V=nz8xA/KUJZc&gBKN::Lc=QPg#Tv]Z|^8^PMiJpiodCQTDo3T[R{!)rHCi4)x(gCSORQzhJrKCiK=[OLuI4K]I
Uqn#(tzyNPK?_9Cj}W|cL)|l*>z$ANtGE?fc*n?O;(QBinLKSb&5hamMhNel*iwy#~FIGdo3fG~UCxcxIGuc'<91qqgF1:yM8Oty=q;W~kBE%2e*7lY*KC8F,|pxousGl`Kg{IlyC1pX(b%3oOCHLV
n^;D~o=FJr$<F;Qma|`NCmTByrzu+pPbrpUyZwEO)?mHbA|[jRKFHd]zX`AUH<K$Mayp6k_eYH^I(,.[85}kTk/_qzFb/[O[rC)VgEYL.VeD(=iSead4;!AKH`,Z^m%ZY<lM*mVOM,Wg'&l)e[g'#i
rz,}#f?<I(DVpMuvs$uSKWnjvlvu2^`Y22ZA(fza%ijn>=cY1UIO'Qy<;7J0f~]{NyE9lnd{^HgQ`<9fw*#eDKsGIQ$5#=j1l<zhQ1Pde/89YqGeGG=l/v'F?vUWE~l|;}q0jF5E8YUN,{iU)ezKhG
l`DlYqQaZL`av+mA}w2l3Qq3C_}+tn[4P9m2!>x&;|a='>t;;kk}/WnUaSB)sF%!$a*]14}vAV`Job2S9x|a6S$/+M!+r_q2NV:#`g#>!iPvU<9CRRl*P]pmi~50(+oljJkqp8oCJo>/RfxvFQLE'P
H,9rh:mZzSC<V8nQfLf~W*zGZsVpk?;CFhao'6=:p2b7$5;VMSE9xOJxy9ATyz`I.,npE`a`,bo}<|SzAr}1!<g9bMzmW7!u1fA*EE/W#<8m/lS*gx4q,8R]MTZn2<0V~nS&%YIV#.c+x`g%*T1t6x
|;WRiisloS6~z!dFf5YqJIH|E*;a9Q`Vj2QuZJ}TJa;cYM8k%$Ok22iRM++m=PYhCXPpBqx=mR=!f7!O/)Y'A_4vvlUxcqTI8_HxL[=U3#]Sm`Ds)k_/qH;MbtS)op#k{9?4S9I=ELmb)nc>;vaVz=
nhd]%EZs16#d(%.a'~(={';jP$F~Mpcq]!hWc79H%q!ij>F$#i>b]jS6SA6%#p~}Dp]b|P[OQq>ym7?zKCY9GMvHM}r/rJ0MU!|DE2CgIhxLB2c_3e{?%xR=lYdcvhkIg:%bO]:IL}/eM4.feHr!/|
O)<.7YB_!gl>V&)`ynjTjfOL3KZls3$NpzD$EfZbGAa>78t9MombfOK(HSHbjYz+1!+U>LDaMPNkBdNwW62DMKQMVjIak5.qQ_f.jcHbyJNgwjR8~:Icq;*`HV%3svOME)*:s{E9f%1e0{<Z(;3BP&
ga8Lt$l'k6)>H|~q*lDIOFo8bZO1|H){:w9;~>.mMq;RcjpwQ|>lnV^4$>`jF`d(ZP>?l#d)UO&KA4]zW'FF9e0L}7oH+0=%fNp&]OlD$,g}?<O3NhU.nw^&9oWF*!^?O(K?S=W$+E~)pvz6Q69R5|
dXcaVMz`WRkO&'<G8RaZ%*owRbk&m{Sz<Cu2N(y$L7Z.]_g_}~P=uZH+4T%Af>=!wCdup^PS^/KL$ZFMsbf;<60f?s.CV!D&zz3A~hJ36h'fwGg_&FaQ]bsi(HxC5trboc7zj(A=t&5wPoO/xOdu2.
}~MO=;bshkI=D!aYq|!b0g8Gd^X<k,apYYbZ&&M3<Nzk?+K*<17.Bfhn8QseL(lW0Y.*J9F5Dv&Du?n}g#=~&?*H?>0H*2y/GPzM=Q5Bs=$aPVCI;Cj9=<ajVJA?bQ/+H1Bleb#f`6DD}c8/MisZNs
uwWu<U;)'ic>E3feT*wKfkc'q<8.U|Ge~yyw^Np^FvM((oN!+~q{H)_qmN(EUxft1Kzirk67L6&ZOfylWKCe&y#rXt`(;<:NXApA%P>TIzA#r:;=`~Xe;v%yL]6y/`Xo}odVORM[IwHC2^;C,%pN:&
'moNDt>YS2^iD~jzn&W2C1LGt6?ME%#OM.J2$2;*7K5D;Q=]d24luXd+dMo]&dbe1i[!hsmNI?fn8=czDx!?Hs*6[697lS,E?qJ,J+Tk[(K'R~6XX5hAU5,:Ik}o7KAJ<$dlpawm6(5yw<Wna9+}y/
?N1r|PlC3LE0[lPAOhiWuJJ(n^hU20v4LMMG3{q]=%CyG:xl19mb[}IfLw4Jb?NQyFIS})WMp^EvA$Hvb;4TfJ!%lmW<FeaC>uVw=J>!4$OkU%be3&`libCu2L#GaLM(ec;R$IsLu8w0WSw1^zP~%_
V3G+ec+es&KKV.|DsQO?nOFb3B^bntd6q/|s!N`Qr98^gX}(b,i{$UV_lzH_M*m`tuRnRZu.GLp91EZQ`a,n3/NEPRlg{]L=ZY?tK$ep`_T_vj63+Lhp0s?|KD0FD;8GDOLJ!kpVj)gx.oC<f6rJ.9
E)IS{d5F?%lw`ga9Mr1=ju!|.(t4WZCT+$I'n2=.FT'Q/'YyHmNZb]KUC%PT)1nNfL/]1t{*!(Iuqxo|>w.=ufb('2I!tz93{sYS*}>O/;4*s=P;mIDXD[rmG'.Rb98Edq}$H{vKCROm`Tch_<Ont1
cFh{M.6[a*1?y,:34PANUsV:nm_!3G[P8X&kMZ#yew|`8:|ZL_1ZKGIeNChA8a))|`z6;2:hDaj$gWEEIYWlg](Rx96H<(S;C8i/8O}TY7YWJ)R,x=Z5)7uV(vO;ry[Gh!|:AHsUC|bDGhyax!`bdb
oKGVV2`oaV}u4%Oh3Pf/m.`E9[<7qd56^'rx[,bC+9<`rF!^s}++_Gy]JBp%((=bEFU0MUL8hhx[&ryF[Iz&)h%dh]CItxY])HG7ulz+SUSqMv>V88ePt'c}0^vjplpsGQ$r!/!8Fup.hsCp(IF0bX
I}kor/%Yuf2f4u<hn<vS'sSFM$?O0!Kp[r6kH(2,kUqEN>'bS|AM;MD|Ez(JYF<0JRr5>|qSP045WJ_Bg72S|7=';dm^*B{9q5YJyoV#?&8R).]TGN_JwjKw^awvQfuIbh}3c(i=XkR1Iw_L/q>?B^
HRny%A1a0ejRx;StB}AO!Yj]z7wdY_Fx*[q})SPz+*R+AoXPmN_7ImzlCp1CdXfX]KWSV6OEi*]UF/p[1h1hnb6X~l^M>d3=2$=n[oWsL,:t$]Pe{ic6V1_H4J'OFa&XuT_9GlZ%6:Bte7EkOuW#BY
~15:MI^!QW?w'AnJBaS#y[#KRJJ{vVo=ePUo5o7CTmc<kO~*u/$VvNG?^[qsnb=&bi~L+]m2qCdx.%B=0_3&+%LDeF+$~?*~UUsX?nA;,%Dc8b2XB]|<o7.zUWTz#/&][SU0jSv'V7q;o_KeT(kuj+
gi9(hA^LF?[J4R~|FvUV:oddSkKE3Q_OMy2;V(X1~B<1cP8$l&e`+A#X&~lVq,&r'?MlViyT=CYseO$e7=3cN;Nosmr/3psQPk4zC(=SZm/DayNaBNfx89x{arP.X/Q~`ZlsSsa[Y6Jdjj`CzXvd+'
U/'O#ZoRzXReWr~;#;IC1K6d)'lq6Dts$B8IbL*WO)[+GN>50}zDAK>D'PgKKrWU!U<h!x.K'gfETClQvSXVeU!8#PkL&h#>Hc69cPhV1O79r|_J7u{*]n9F8Ks=3X{{i8NsFzOg6JuGnn))AN,!Dv
=RRTU%I9njFD[U(#4ZLmM^'c9YtWl~|FaG}`GA{dOx]'!L1ob(jIKg:imakDb?ZNY<Zevj!&6p[GN(5F*n2WBq#xssVxovgC0W=TAK?pM2zgE!+}_$_l50$Y~HO%IV!|f0r.H2hu,O#lC5/QI/TUCi
9qU?jsvk6Q2=ouaHJ0]8YClLmWbx(f1=rA}BIA&373Y9nO|.}EBU#TFRwPz))<J8H_aJ,r>fgN':,0n|Z>>(bp).S(/Xsf}hyPSy,*>LuO!<V%9Z[`bOE6gK_?[d4&0$o?cbiM23k:KlHf>,.hAV9Z
N:GW[{yR!oL]m$>T?RN37v&g6`nM?=AEKQ_0%*Z0(M8Be4.[u,_Tg4|EW_?3%1|4<ZUDyw*wW+lC6$~$fM`u^bs;~+#kxRDh;=eEFq#3SOsYa~+d*_lo&*kRA/QcWbUQxXzH1Gp^hz>R~7M'2hrkp3
K_6iGfZ|1[YEkW#%s78Z.4;yo%UCxIQ%Wa8S)3P0*,8kC*vx7TWL,i`4f&FVm[D3iNtK)O87_nLw~ZYVKdBrpXbvWr]iz+3|fm%MGyABtN:C,g+E:'IXAPrB^E(Zxjd(^(3{PM&nSy:m&##B:Se*Dw
|QbGy%s7q.v;<_j2%/{&zUfUtdR+Ky/&{GrkayxH0*BOl,g3^AuiyB>'t9rx:pi0omWO^>XXyo>Xl]Lo,Gy?>((w!mdOto'}e!9XbfDq)W!,Lhou5qkAe(kIxGv;,:PvVU't77saadN*FhFjw1(m>X
2FkSYZSK|oZ>?Nw[v::Sr7:suYOEgI'zZ/#Fu~,Vo]9go3KnsrJy7b*D]lZ1H%Ng?5DI%ua6_l+%_9CCETPM;Vx6u7ISy|,lvD!USmmHJ{{/toLTd$nf^Fjd:xLvH:)Y(6*F}qkka0uN#MB0LM~X%V
wC}mQeqK~CF'Ms6DURZ}s2h2rGyQ<#&b$Bl63?a{yJHRd8ypGX$Z/6cTl=HE4#?{t]li3HL.t+<IW1kv!g;.,U6k=rlfcTHg[;e)_Ov`0/Cuo`$atnV]$LanRum_/W/I$4lPjpO+7xb|W:+5vA]Uyj
FR[4z|J5tt<,x^zXPFpSB]o|<C64^uPl>V(Lc0vl,gNf+>l,(Jr]B;x?+ymSBG~+zI^Gx>1&p.o[VzrcF4+:]%xqU^l[+~?rKkFgNW.<M`2enF+2(4u.*7$^quw][:J`7R0Tbga;]qgkCHUc1H3`p>
1~E}AywK1#|_UD)%KQA7Lvk/M*L[*H,9u_U<p4[=o8NZ21}^exkCA;Z#v~fHB`*w:o5hAYq11kUEt~(mUW[stdx&~YO6?.{pt3Tmwu]7[I,B4<mpO::^{Ni<LOp?6l(efZ!}m?uR>p]+!XC^|RF6fs
?dQS0D,_c4u^4%KqQz+]F^#{vd!$?xxrhYlIC)vQFIKG&R.;=$V0bI#7UDz6;Du3)2#o?'Z$~4.!^GTL}rE`W|Wq~hq`)rRI%+=6;zf%SmLLo?|&]VUpQLqTbLfoZywd<'r!wp8R.4Lykx_+N57TP3
gh,s.hbi5]OH[%SF%^ZCpr#rz%6qsBkwgy:*sQ4`cC^?H99fgn65>a=f],K&`8^Luq>irJ7S7K((L_%uxc!.ak5O:P/;Hd2>W0Bqk!5_e!~mf2VM>3D%4~c]tjNKG_MNQ8IKNSd{6m'k^qQ,0;Jjji
JSYh}LR?VTocy+b_WznAfBz;73Xs)~_sMAvNm3m.x6z[v%q;lw4[xI'0y(&*B6}Mr}kOeB;dXJ8^aB:Uu7|[?maYrzb_<4$8X=WrRtg1oSuGv)*6,W1+5|('6ZG&bIju=FH4MPa.g0/eiiF8&pZf5Z
,<B}pei5x)Ek0~bF,C!P_P[^|$6P;|8ZM+kr]Y[fS^dUm1MgdvceWfQ#ah<r?EIx*%8yS$%FU2x>a`:Zi{U+L'#N~F*`$l])SqEsh+vo)N{:4O/5|C39u#z{a==8PRrD+ZV2#)Y[n356hZ)t_hS^*8
e7H=c,A=MV6w2+S3)=0j7_X_#BPAE|#_'T{6{77Kq||]2lst.n77{<Q3#1;z8MzG7?g^0m/S,C=hQc1R*#$vg2We*%(]+N6*U^tk=,&|yPpe]zZ6P`[#B923y$60hA4AXbw`{a9;K'EEu,1domTr/?
rDDGJVW#F[Q|8O&9U_|IN[HO[N,!j}jz;P54(EKNac+<3<w)BVa%C>QtR*ZtiAQY{~/+M#$5i?WSN64de^Z%<*ouR1E}IgjJ+=[HT_)>N`lYtgDf/uKfFbfAL>bOw[U^AC#;Gg4g7C$%>`#<.,&=HM
wP<9rak`&5fPvlRwI#peLRbB%/WZ:z5QZww?X?=Y_GisF6A.c2XQzZ4e[{%<mF`VF&MLmZxNd4gY|j:<6WV%Ac8r)zD>*0~qd9w{PRyz^P{6&Q&EO3IjFriMXqCV?l'H5=TZu1SA#njdk;}gDshF)S
7p!pzF2#kA(}q1>we9Ub3)}]2w`fw3cZKyC^F76<aU!QGUtGT3DcpDQ?NmMApLKeBzV.etd/4yII{tn=kodKMhVQ>;D2K^CvL%?=iJK+zQX74Q9op#I^Vod^rbTy=h;^Ewxqm<!9PCZSpO[F'e=IDy
+(d=7n|eoLG(!(G)6i`[QU^JY|O({RxW_L~],{VCU=Q^|,om)WobdhQex?Wk(D.~OhksPTxBos/9w;k6:Y[cv#.Sgv&zGR0_<<%YDyD,d>iMImI|P&WB%v:J?{'p7x+isF?}j!2$LF1sWR?`(6WgH/
yODZ`/^P}C3ddV=*,(8e;VjtYl1j[Y:i[oIxhX.He%=>98]TB1,|lD~28te}tY0*BBB/jP%)!fM~1yKkS(=ZBKr!,i!$cNaQj12D6?*8+YvrYh{a.%=Je:ly$]~;<^c4ExsL[7V*}M;8nye~<;?|jf
9cF58Bgh^R[Nr&rM3i:|2pvUni(01Y%2:}}i^<97d+eE>=cD8>6|LYFY/=RTRVgAw!$&D[t2Xuz^H2(dLdjQX`HI/hi01'k1go1W]Ox(y#xfk`q6%!&;bJDE&V:W[TC3qJzPP9H77/V+'u%%!cw5XH
I4f.,gyt?9+K>},+_vGCE:}.7Mg+1R<9~f&+HgP2~F/dI*3V8PIu:<2L&MP,EPsrmmmnZ>1/e|5Y#;?vB.GkZFaKW]*RPYmC]:H?.x&!=7O[1|3/RnNV[g:q}HUvDyiUWr;Lh^ZRlV3&;GF.}#s|WA
A&iH`/<;6*HJ=S7:ej2$]{Z];:J||6E:A^OPoglfR?6W&u1HPeefOitczidpAo}czeg&(|m'7kOvp2faXw0NAgVQ+>y<sC!eoT:6kOuq&S9z]$bGxQ{D3!K]&*Z3R^<m7A,%Z+FimJu}0:&:`QqZ=?
iT8}fQroyyq72FXH,3OZ:b7P=c|Iud$']x(je?JP,6GT!qT,/^qZN5D8]lG[#faa0vS8lCOhDsNr*)/gpXWno:5r~Q)$7^,9+h?YOQ]`zy*`W)jh6^8tsU|jEL`NUUYyNq$[Fog)jyN=ui^HywQb9/
?aZ0]~Tm||C9>J_thq2#2T{o_gvj^+ZbcaJD]7,__N`zlK<~x%zm[mf:/:=^Y:4R=43N$qf0mT*hu6ey1`=80AYANJ{dInWVwG&_3gx)uj5}[BWUOT}j}(O!#uG&f^J52{hjgzgN_Y%$]SN_W?j5|Z
A#LWKbGW^%S[Q9x(b>,cB`t#>:NWJ|622kr&M}a+*9')!.9nP(9XB}`n:Dvv(7!`g/kc(WydS}(7tI<wRB23&1(fBphFuBo[.D`JvoN;R!CyK,{e!O^`sh>PGHI(,L8u&gq#+$EqVLkxu9,`Ppb2+C
COc.Ft:nb7x_izrVmvu_01o`G5TF!S);'_EhGLXlg'gx#Xbkln]g!reTL1VO+m6Ec6v#mjQIPy!S}BSe}#8Z%cwEP)FcH#8oPat5Y}=z/r~DPvuxm<UoY68CoJ#|Ds'c*SCQtqT?uOT8{JqLf:8C!O
Wobrw[6CfARJj<Y!^#IY;Gz;V;DA{wwuk_1O(`}9#J?4<w,kYQ;,zd!x}E_K.?%A0].|pj6<oQ{%;[n*:./QBE#:[)p_Hz%:39s`'{Z=luX+xBnEsjVLC)~e~Wl)mNJ)89bj/+L<(ER/tqzVv>y^6C
e!~6|y_A8w1V&~c>Waqtpx(&R.ZOvbPApO1v&gmqpo;Z8SX>}(YSpI[0!`*ZYBpHAazDj6Ot'H0Cvx=escj;kXFh<:TNk/://6X8PzJM)a?>Yhp!y+(gx=qnNxWHXmn=vd=}XwpLY{5R.m;.:{t2A{
_'|P~lS8b(yC&QfI*+EJU%[%w^{w%,y%|`ay0?+a64tc/EVTqr6wxIk4X;Anjz459Rmxf]E2CRy&*jGNDf5?_4+69:DFAi)pKIbp1i3K!N).`%bq?&J?`o^O~Y}sH)fBoLV~.5[.&!PpT7C7?OS%p'
*6mRkgru?5`>OV,^]g6KO`PV|ffKy#(e?4>~|XCPHgvJ;}}/U}iz+7SFPOoAm.TjGJ]UTmplp4dR!/!dvjQHJI2t}Q]5y1,Hjw/vsHKYA|>OMC)%`fbC_If'lB27]NeI0}{G30NBNd|p:ZqCOxL.>R
%GI]p{#DSfWy|H~T!}[H.m5;M.A=wVMWTC#[*f4L|X$c`(&8*Eoj.~4g[.L^MKs$e=x$OOKt)tRdk&8J.vCj!V2i7u.0*oS?+CV0|'>=[M>6WD0B4sxJ<,Lry~ZU4`uYNMlUo{~*p(2p;PdzPyHxt+
x%qCYyRs0'KECoWtxDf2TGfxZfF7A(H1Ai2;NaWH`y34tJAqZ9P(L2z8~Q.$4#kh#U.[WI(aAy&NMj/2!]d.{5}vmnEv}o(n#h'?EXCVA+3Rad&_kA=if0eQu+XSzN>lEwIlV;A4V!RA7'a$1**Stn
n{V6R9`E3)N'+s?1E:SP`G0UA8]9cKFyRs_iM?RXUD{pZftIB]K_VJ94'rptCTqZZuEAp0k]XSL.Y&qoy?a|k[cc|_>:'<a,Qb{cSH0H+`d>,/%.xc+Gpq]K<Yb7=Eik;YATW)[RpkeA}H;gA(L?/w
o4amx2n?!yeya2DBa&QjauK6z>&C(_>F,ov&v+Sh]Dor*#[T`ZlzDelG?7q#t!HOq%h9/gnW[BEljlC2Sp.+42#7)%m7Vj97%wDwaGE4B)_UU7gRQMSRo8gIC}AF_tRiRLzk$WPPgDE2%%/q]jAQlt
MO`,,.+)/q7$I_VS9G+)tc]xEwkk1q3'Il>}V6Lj7,:n>>hs$i+JRA4Iz?JQDLGi3X<W:r2?YG0$7H|nhx8c**Y?;DU)p`9?VH%e4t`n<aJ5&I9ZCh?c'}+r%tQLJN.?jBR{jg;d$JR{VRE2['mr%/
0TxaK}3xD;Rbgt<>2n;b3u{'j{gPmMoRxS(s^]4Q#=iY$m]`S,>sQ=k'A/4)k&:wq{jl0RwoIH,Yb_1miH,WujH4`g&?boX;w>:,Q`VKn[$q4IR?wPFr2w;$F^X5yFULkQr7X[R8RDKCBFXHj|bZWU
?I%/MuZ)ILk/]GVW(2B(WY*)NY,u)/Z>{kn~/gtL}T}jYWDDl!}FEDa|wNGOshL?A,MiIncrU%DoT|eO0CcK!gE6ueKOKyf:S7<`c(<T8qUhnsRSKEK.{8LeRzyqqW^]dW'Bk5zCMobw)k6ea'*tQx
o6Xb/X'O'h*vM=k!4LKbI|H)z.i8G`}I[3Ev;B:~8)E9F#aJ,teL=19r9%X'Tw:h!!f,_Y]?x7&SK4b/v9wh5mWUeg(>X}e/1S,7X3^{NxeM334Kgc1y,~l4M,j9>Uz]2z+?RVAm7RzO5;{75qgB)x
2SUW=Xkj!!w]dsjS*&+[|KZf/:kYhEZB~Xv.X/55/sJ/Qm(jsmoBDvb:ESj];X_UqtTvL!1D+<=E[wGR0617'|0l5uTUZ$G2*6YqSe][!X{sHK$D~l,cXG+I:0C27MYVg*x_5.lgW<G#/H>Cf:]A[X
<#'VS4uYEI.x1p+a'/S{^(1+MFmgVyz&kY>_9MZj2.{PxR1w+*1cQ1cH?kNT;PDk.auLb'Nz;#(~l2V(T.`9dbEz[PCWX[l7V2=5Gu5T:[H{+*t}nC1qY]Ho/yU[VBKC~~O1#9!rYATZwJ.niap<(M
DGEQ)=IKj(Gz<p6NfoVRPdB3^)WH8oOSCVzFi,fh#s74,Vkgzvl#~OY5/Vb57gg7A_jU220$Sp=vd>2)cgq</<T4_kw:u/[J)6+o^E}[%YG>F>t545j.[yX}c1IU{N7e`fMrIkST[<rOmQJkyijk9X
39sP/9[Ciyfi5DZ;X:a$a.n{8%tbrK;0~Z&1>]$tZwfNNF8FMmTP,r=a+^UerJd;3D`UG&Y_Z9qW*R;6Wv~8;Q{5kt4*xJ.A;T]jnNNiQFYU8XD^&w9SRJ?=RI=B#=4Xp^9~7CW9RE)e+(V]ADH?e`
y|]L{fQN?&$`8zRg]ZoEsy+<CtpW,r#v#,DqCv_H^oW0g^dbZW<8xVv+T7z7xnnf%Cl+jGZlnpF]?4N,ZH*]b47]s:Z_X;DnkXOf>i3[byI%u6ly)n%UN,McVA{EEKJ.yo}/f%'f<%~Uc[e$!G^|&;
`AD]19Uizuv'HF9u3d3]4g6=RJ?Yp+#*xq!P*Sd{g%QlDk/,BvEirvD=)QQ)auL9F8op=B,y<I)RZ,eoX:s%.PIjL&wJapTJ%j~W>]M<AbwzhKhf?#~eSg6$:`ThY,8)+,c;ShC[pBuX{*&g`)Po$e
e0q=!,i;r%W.%m^!Y(`!z`%jl(S6dCz^3e;[85wINh.KYpNkNv<8Jb4hQeH4i;FW*ufm&}xYg#pqP}>&/#&K9xQiN)7;:~bDB!QQVHujN=a0/<GgAPA83niJXwv<geu^$4+zJ+QGm3nw_5X7sU:CrW
g=OI|'?p<(%KsKwx[*Fv&=,K6zA:tgmbYrV,C1|88a,goh9M,Ek95>29^f!B1oS{f5km<wS_]tlG]t80=I{ui#yr;X#0KU&df4Q`6Nb_s;36~YuN#7SdupvD0cy!.aO=:C~|O&&k9EIn_r91H6wVsy
<7u?C&=CW~.et]9eVRUXpyV}eV5?`UFM5:Wqg_KOffgQxWY%j'KbtlEB&+vQM~Tv#%PKJxS}s0D#f|bNv])3ajDb9|?`M^o,Nu2l[u9`t98VpEyDI%4h6|M.j|Cm.BKf}T%:nGW'}?=/2NG`k~Xt(i
];H92h!a3thhKE0EH`;iOU{W`oU?c~R,nQ_/xlpAub'N+?JOww^HR(T$9VD%|.gqO~_K;fg)uCE.J}On4J,L^dQ1iQ1/R{Fi={BJ]Rf83)h.R^yipDJcq'z=IA?IZ(W!*9)sLs..H/^{c>AXt[O49U
{dQ82l}}e#<#Y]:sY'`Glr`Eezf9]sML}w7pNCW:TAN%D%^|`mWZ?%S7ho'=0XdERlkW?lZnI:{D{c~{M)&9qU8Q~J1mQ*cR[M.YXJ^wJ~e,bcHgm'lDH`AJR2jZOk,6MLwEnn0:+X~!Owa?6zZ_e%
Hv:fylC9blDmKkve91iCV!vtoGR4&+IE^R[bKVnk+mp&+G>a);]'9`xz%niu'o`E7=<xdMj}Vy*3U#Z^L.n<{`]B4Iqz$$a&/bD}Jp4,+%(bE_.3/1_;g{2[6k.pH=MBx[=,VpzZAkHxeG(Sl'T*Wj
)d9w)(]d|q/?#?*c,xV0.'nks5daJKZ|nSL]Nj>R<8iUjF?QXY530GBFX6pJ4wt%*eh3.GE>3pC/ac8IX5Uk*{gezAso,G+xWJJ;DQol&S/;pz<JA{XbE5<E8IRRnpg])f896kbA{}an5m];FUy/su
De;Dv[|l9MlIH*LB;<MPk6!VhyV!^'d7u2>x}r'N$CLLAe/Be}{O]y>q9[crmOY2/0|ajm#8p8!c_iXN6*_&]R#_1WfF#`s68(s+OKSH:1_^8TYw}PB$ZH9U0&R{eDXbYBxzt+Bu&.=/pPr;qdD0~+
iKC/n:I9Ru9#w9u:=c{<PT:uYn<K)1`|~SZ%b7c[NzHrP+E1t&f3RbUNo$NU+N#tAsd8$}zK=ve_./L/A%d5'ux50Pr_c&Dd96oWuHX3NE4&Uu]3/9()^bmvA^yq3|2_DrmP]yRfs|3o>hTMz{U'=3
iG251&)(tYnO_4jEZP??v5F(S<IZmLl^#${Na)G8}vsXc[o:E(un/72)~7dn(u7|>z%b6elIo>}a0N5)$D'p+y'yiI._A[A{;<YZ|nt8Ik``25I&e^fVh1+BtHGqRUR41[6Zft`d^mL`37((JAGMuY
[bXV0jZ0_nTP.|X5DigFFkDAByZw,F&U,;+[7)yhDx[G%+mwu5Y=Kvo>WTT)]0:(8J5XOVL*mnC=6y9HBBryktmp~(,Of5v`7l~W)~}1xg3V=f<l,6^/AIeIY:5`iCiz:bGdC4CbhiTs?Ekd0%c~gB
r?xGMfvu<mW8x[v1S.0onZ7W|_*h:OL~?j!m?$S!aoscL>?*<&EH>?].*Rw[b[X_Y4PBghyullR0q#XLq.G,GVqmz)w.LnX}OziHWjEU{PT0=5u>=8y#`]i!AYQSzKz^Oo;*Q;q=~G|j%v_'%z&E:6
?/Ar6HnH{%:f~B!Dtc[Z.cDysn'|H:)5TtnSWj}?&|2Y3*iv],BU#^E1[h#m.Oo4rc3rADOfR)15^h3`11BtO1,DjHvPAtV}bsW/c?=nXPQM^>+smmxjU&Q[b7m2IG,sGJ0vnJ&>{?,q[$2Vc+HB[W
R=l9(GPUU(D*A#BQr,*w%pNBUciPCMYlGLL2}|#Aax(PaT~']p.LL=fX[KA6!4k&Jhr)~S?ewAX9I&&PKcvA$GiA|Bw<jl=*JhK%Gd*d5E<3V*O|L5ZehaB^jGc(9>~_.wl[(M]F=1R,R+Zm2o6;ST
cWOldf?4BL0lm2/oKqt`AWvJ%|9J`D5BnLR,1)ch+GH<~u:#H_]fPhOm%giy6Q}/k/dhe#qTyMB8^:~(`neW^[*>*R;o&vdZyTdiS~?M!_Y<{q}'3sua+~f?r[KE/v,'!Z6./Qt0hA9Y'Gjx{`!a^h
b%fjcUph{f.UwZ(ZGi$EQsBDnS/$+WA'mp+c)L|Uk0kxw#U|#^ww5<+_o`=)s/OC(8qak[xC9'xC9{mSXoO`y8N;&OXk?yW9ve;sr8:n9Knt(W0FY/71q0E}:<,V_GrJC8}Yg5eE&e2Ff$?mGCD~V{
bFJP|FdUiuRcETnq(P.oy|(g&)t+D4]vXWJS38(Iho|x])sE]F0k2+)AqTf}2&zPDT,PhRGs0!h&isSh(.jS!L(wOBX|J&>:wJ'[q;gpxX5&KXyHpQg}_RofV2))`U>3Vg>Tc^srM#qs?Kz>yTj2J0
R{zSSjH0U_h#fxEk+*],ar<i6dzdb;gI*IYd4V8SPjw=v3pf60^rbxqWf_MAG3o;(_hrVr3hva_ali6i$Z}~}ju}h_E'v:pP|.T['~=*t7|Akf$e|x(N('k#84`TGY?g>qjzcoRSbkkyB_E58NPCJ^
+?EvPF;kp=SPX1iaHje!+OOqe;$*nTt*/=[k~NpC5`/a7p(fcG,R{I^0'lLP6RCCCXHhRufxSAL7*oP=fNC=PMsHen*s;HOL1UTkV2zFd2PV]8zh#&/fBWQ|4cY<y9oGf9t:x~x[<%3Pe70{yN=BH{
[d!+NhGrF4a~0$a~RJZ9HG,]Bk/dvi#US|p`*zvC#g?y2Z~_OnGEW&A9)}||+:jXhPWL?Y}?obSPx%!G7nmmMedz5L2cVCJXx/oIyqspCh^Jo6Eh(sZ?$cTB9l[]Y8mN1&ynNfQYYlv.K`$D'(/Fn`
#)lts%Pm&KiB]3C>Oh<6sJ_c5c!O`6P%Ew!Y,|d611mAGV[UXB%+Vw>7C3b.q7EAW=tWDG!SClK};I;mik>`2C47ex(/ZJ!%iO#6}eo.Hi+B.>Y&(^~IADV]COgA.xIupan<>Ahf%iU8sBnLr7{%ql
arfe#7QoRH%<o:WvU^Bw!xu6GW92;a5Rg8XbRlY|9{r!r29'AlmUL.)ho>_4BvGidnop%`ZM|Cd+!6<Z&Om,=FJR|9V|N~N}/yv'$;;n4p0#D,7oB:jq]}AWG(>fT1If|zFt6(oI#*5I+VOqQV7z||
,.S41#A:]'.]S;Y&V2U^i(KvZ*prwQrz:=v3kSl7rPK5MyJ*J$aQT>:igz.n|7js~Yj~33~z]5=kR}{Ex3}kBz9MRC|G!H8LDyH~.W?!E[ps=+~8tFk7f+rk$iSk#2J}}mJor!]Nda#6VA>>z7)cp?
;=ZnYbb'CDC:5y;p|}WN]dm3JrS|J!!b'1tV4,&QFdgCOc|;$m3*wP:u)6OJhP0]^3:1H+>4*yJ}>.h>&S_u`P4D5(ER&qkc3zbH90I0N,De]/Fm:Y3uWC>,}^_yqW}_Gs2O0JLw!g&#S*<S[K?!a(
yVrzfLw}ROkvG9{yU6u9xj;quIJn>&x#NI,Ck'x(u9'{6]]K#b7{{hN}=woX{w|l^5p`Z]&(F3M%d=~E1ycdWbd0:&:xwZv+}r]c=e%(P?AB)9}3C5ri^iuV^h5I(fd.7%B3l'clS)FRL#m)5!7ez&
Cfyw>n>>CI,Z}z_N]Lbjkz7o`Y)]ei/9OD%}qmeVV%9r+kq|YEub!Mkp|{SQ;kz3(q:evAUZMVdbd_*C?Oe^>80(1BE#FmlM(GI_CY0)Sihy30pZhZC>Lsj/Q$[iim=mtb'd4JR},bI$d#UdyT_Hoa
N%?=E]Q|Y*N`ogEom5,3+3zc8ZZaR.]G7)|o4,R=usgz]8CB!F`~_7FbE`+_*i{`hGXz>l;P]ijG7cY:{RAnDH~IlM57|&?Jpfj`]3kIyMJBJT#nIu;M,zjG]2.~9hA<ezJ[%^w0STMy}eIbop6/Jw
(dBz_B08kMTC|m]}{(g|<U[G[KR>qN<KB{/29Q+Z|V6CbHO6m(OBaJ,1QcpfD0uwKDoiO]DZ[8UWmSgM_GU+wlOKp<K+t%CK>iuDd./dN_=Ai^lORwNA1P_g.gR$^$Zj{iD3kA9Q(To[=Llk.oO|i,
T`/P8PB|#}tm6BIgPJ'Vd,0cV'ZU~M4|Oh2'eLSxPP|1Kk5q9[AKU%~aJLFi5~!aS'/<nM[`esoGlz,WCw,CF<4&e#l!f>QC>y>yTZoR~sT!=0a7QN+?%cl=6Z[=,t&K~Z?]8uQug=+z+B]K>S9}?t
!(bh!}hGM`^OkQJF[1&+<b0Tz7)+=86[(s9y`)Rvf9zh>V`T:WvtQMmK2ONnYr?h9jC*FpL$ZZ'pTb]n[X3E`cDsp/OxSe5prN,Z=n51*58SIE#k6[O2Z2Aj;X&TWc*p%RzO&MTw3P%|Z]pycc2hQM
:Gq|w3>v(kKYn#]lN%G;DTfzHqudsf;::R#fz9Y9zcC4$WOd+Pf|+}/d;;3).6jPgBvT$l<F)/FV~kPR/p6V0I;[M,.{GiUTAnu=^szuHKFg~4zu;`tt01=G)a]!^!0RexqxGP=<Zb)B6M#X&|50Y!
Pa'A,6~J'}ChsLeJ<RO*ugo%EfeYw,yTHkE]&/PEjI'`q5U:tkss>:Wm{GbB3:0v.Z{Aic*N<9R9q74d)0}c_l:[$5*.[Z'j.4Bkx<8]E7Sb`:j:!LAwWK3'kZ__XZe{t{p0+>+aa24!hX~|T)m.#5
*Qbu:K7VvTp:ZXh_2xwi/524hnG6kO8B;Y0zG&~BJvZ*>HjPM;'aG[/$S*}xxioh`Jw4?Resw)ey=H7Y>343#?:,2{Yl2C/rEQjX{B{:h2TmTbHi43V#ZMUK#QOyEPi9a7=ek26V8e{Kv$`I4B=fuG
NdjL>E*gu=HQ'}T87f{$WU=L4f'(Yqli?&Z#Kv/*A,FM>URP3B<tiWzlFU{7aP/Tv/RAL4WDSif?=}yqX5[5)YDg$)A]u]:E]NTgF+&fH2%iJqzpTk#rgN/ptTbG[j*sp]HwH>vLEd/FWe}TT:cBCw
:3G;JA^kR4LZ,)COOWKrZCi~$$hC0.k^:HtJHxxsgXM9`3Dy1fdb][JvMKp;2[zWz!U.o&>06prfFW9YNRt}d/Em8[N`R2Z4jjrbMv?dmx>IjHL[K7jA|)p]YB6_2qc7P9KwHT))G7MlrXLcACgv.O
Ysq^?qvJ.j?9V;1S2o|hRTK9t~Z}DDrn6I'Hdbdl5tz?zGsa=5{}cQc0_cB9o$4N%6}:9_kjN8gGWI1<)^2R9f~52%8wk[`7QkDaYfh[<d*1L!)e%MPA/a;m'DaeX2Xc'yr:gaVf4y^,W.wKq>'DQ|
u!AH^cUbi].]QZFs8eIEk`F79$zXdB#}n4=J3]k=i'npyl9sc6.w8>&TZmoH.rpnwOXv)S>Ocg;^6`FfgSn0=6CE0;1g3i%y|Oi'>q*Qs?9?hMt7ai`Qrkjk.d>QAl#pld1^NHIpL~s?)/G3*HD<yr
t{|cU+/u%u[Ye(&tkKnNDPE`:K>?!^kw0KbJz):,JuaA4qm4m+)f:RW#;}.eO%kY7=ksqs<:Kh0sZHe1y4v.QkzYJjAxXZ7dF<4%kl`f,.ua_^exk^z]D:h_/b2DDnX_!Aa}q'SXa)LncpaV{i<k?>
9$'S{?$#wG!HHTz$,TnL*/cTpZiDd6o~tP$iJt.(k'_4.*!m.j,Mlk?#ydFtuj1+i+8ArSSFD3lDu'HM86WPW)eN^UsYVy5'BbuLfU>pULrb//v{v4v${8fZ1B,OwuXJZe,RGL{*oQ,maTzW}z5!gW
M(Cb#bd~R(GE!>_fdMp86{Dd5=c6T;?pVBmq3HoLN:,B0}Efdi1W~`[`k?}ho=W%'V4%>IkeJy[c2b=qtkCbKzqM9Zeq*z)GFL(6'[$4vp]i6O0WY)pCB9{d7+d.I=E_v79x?>XPh16Q_IE(M9&LPN
1=Vl~NjvbXykj0~ri>eRoGpNJ%2SUaB%~yO7F=Hw;akfZnHjn4JBDSkl|x;WcBHa8OH3<`Y[>xZ|xZt$SD%[tV*cC=zd[w9kIof0/k#X(k[}dM$lrNP+^RC8ep<ylVR0$Ly;=hl9!Xil>hE}F*w8>#
dWwKj|M3_[M2JBG[&=NW.ZmJ`~L!Rz<%[;VOwU22,nK8CAL&t?hVM9QZO1OdH}o1580jxE67tuB1z4)7b;M9kPKCOY|9?{Rmg=g3ejr+Kx71RtqyA9nOsk,0U>8W}b`wL7;wI?7SQZh~KG[O[BGJo$
*P$`yn&>T]PvbW$cj9K'pf6&Y>b1Z$,iPOG[jS2q(D_51&JT*x^cjKZd?c^byODe=8g}XftPXlnEw3PPk+(U9x<KUfxOJ7J0SirXsb`:Q~zLUVOv4]Lt/(u`gy_.U43~U!!0Dk0ntK5Zle2+IQ`y=c
C.zF1%q_+:O7)yszp'+K]un6Xi>fo_g8M(~X?G.KCN.0]LiETA>}EV;RfsgK)S(K,VoK/XHh/I?cCbzERVzDYYp9>LEZsyGR0rnv[juj>.~|.et0pb>M2&P1,ndIkg=A?G)nGwz$m;=2F[[q8q'L<,
'120Hv05ZMX/biF[9<L3.#E]M.+0N;<jzyAsTm=pc+PP]Gz:gN{oCqG8+3.LZEew7M&l%;'$Lv2s~4bCeSdP<}ozj{dP4bi%H|1?QP1_An0u35I?ZU)9fdiOa6$OSoyN0HK0yl^!.'bun$?4}9%QJf
&KU`XI?s5&>IB*3$`r'H}ux(xpzeHR$Yz5qW2LxRo]N702MKE>ed?7QLuWOEK%aP?~^$Pp7P=zSM5(aG0B3lM{3Pf7m=IQZ7/Vy`K'ZCPY]}%0,aGxQoiK^<]]EP3<E%,YhOU#F>ZamL8R/SRZOBJj
qTB|PFfh&.P(kEw+tY)L';vB=D|]7C$e*{(jaIgj0{];MRN1OvS8kKX!(^Q]q,0l6wJ.8.l~E_mJIECYuj^GF^SYYeLv])+&1C8gcZ0>bA$^yg6p3c1&o+XU3m(%IWbTY}pULSvcWg8K{/EQu)%#q(
4^FeLIh4{L+M<r:wvTECz,vah`h`tKU[C<F!c6Z=#,#naBcXe!IuW,7$lnaC.P=s*`K23MB&MG<|=qPRJ)/^`q8(sn*E#)rnJ:Qlo(v.2>z*Vg=R}Je%h]9?)H3Z^N(R7YH;M>J>ujHhhPyau=c$Gd
yk:9rS_wn[c5E6K9&_=_s'VLS#S9r*WQu'7RFKDoVhM|_$A#M!#{f~DA1NV0eZo&~|i31X{E^8q0w&E,+>IWY><;bRjg2;u#:w:kTQE7QK|Tmro^C=#aH$F{gLz4;`N[K?3cH37fLd`y5Y`kQF6ycz
i_F$V')2S+EF4zH/PmS+%pcZ8]z]oNdw!,!M$DWhH:m7&jACf+<9Hn{XY$f9'[V:b8/NUQsW6jbg.?u4;+QsCn^P/8B'b5bVKugQj=89K=v!)4}Ge{6q!5.b%XCbxnXjv%IQ+$0wm2j{b>V=No~5Vp
I^:D9ytZ#GD`g0`_t&)TUKO&5=M%cNTkFBR%cNu^c_.o</o]*FB*HXD|N#qPUdLwDxUo;T[sTyi`^8=(8>DU|d'|CtH/T<,!}PPft[D[1P12u^&VO/M?<0roP;lxs>;=&}AjZ}LzUKv=IcP}:]o}^h
QE7A'f=wg4Q+8Y(Z.Lau;(176ym^o4TL?s2vW$}Kjr`GL3BA5Ju,`,/pw>|}YvlLx1|e'PXuj<Cw^5~J$(k9whQDI'e#k|2}%>`6G.`a[h{iSM94%8bd,Tm'I1}S|bTqylnF/KhyEOOd1W'RL/3jWR
$]}YuUt]D8>8.&k~FM+n,)E{DWWBw`iB%mP1m.(g7]9P+I67U4I|k.*J_}2K5|YBuxr4'>?]EajsB~,_8rC^tPM(Mo[{?pc<3*?pkfcNzn`!b;_7A[l<)6AC/t&Dcc+BU;__d*T`fjxziGN]Mzynfv
89[bFR<Mq1N!~4OQjxkp4ADA[f(C}vMMlL?JM){|n?(TI':pPyCuhbX.RbV.O%2olT~|bsw1FU[V7wYLL}1%kG5dJKYxVZQVavtDsX{6adz[4>TyZF$Pz.b3(JXh)Qflpen8b4W.y0XaceKZ?!'Yxt
HP'm*cJ>YW[wtAtVk*b[(OI>QeW.{Jtlk/(!IWZfFFp^n)Af/:I#WU*Ddm.hiMGMFh49M^WR'e.yym_*]z2SbP^0&B2noATfgk8Z+}rt<GBiddNT=%Gk}ADC(]qzpY`p2Ip|P&N!gw]|+X<#hjh]$s
k]*<|cR(6hd{I*[2T%;:2PXD|+;eUOu}R7U,&k'/(8ta80~gc=a2skVJX!#AJB/$Xeucoy%^7]0tqH>VT+lK16Oe$gA&b?*x:<0KoL?Bz:hB&/~jot>(X3i|Ija/]LGfHcvb1e_s|>>*HZKSy)6<g$
[riAdJ,U6*3c]bNI0+PLV2hd's0r]i`i%Gq:Ti%?~Z;klK.rtc)`8V=pKPq1~<>K/bK`<]FYFTBFSZpQy17^%'lPvjl9^ISI}`U;!^XJ(z:+lOG:XBwy}`rSARfC>W>!=?Hx9*zNy)wEm4xBIVaK*6
VHuIyZvFtQ/^kxTUS|scx9z7z!~l0;;CPL9C7NRZ,^zN.g%x/AIQ!*Hmrk?L[WVZG_GPdI]73gDuqmcXXzHi;isqv+4o.YD%ffYDE/?TV&4FFCebUYCezA/L5%bthN>y}EgWZdJOJSndu1cAe;46=2
%5;oZy?e%T~&^b[JmZ9B0TLIC>gKBs~MOtf^*w*_'Jz8'DrHb^^B?+qd^RQH:aH^s8qh}U(:8qf=JSl{Q[Z6IQ_&CPoyT0auqw9|qIa*0x#Z|l32/D!CnBn:(~~nk>WhP#*ht:{_r~?0zylj|ju+dj
HS?~[/E}y7X9iVaJN^ZW*U2NfV09ZkV~WsviX|N*%:QI'hIqB``Q$CNE#yhXFV#6Pxx*L_bCUpu$[vSP$q[kl!xDh/Ve[ciRfqkQ!/lFcK)BkcNJhd8Yhcnci]63<W73+P9G+.o*b2u;K+/H#6Ga~{
I.p'rn]g$ZM[5p,].MtMt=lE$_fg=oc*nd,b6<_=_7Fh.5aGf'=CJ:^!Rmb2Gz|n+1x=RVglug[5&H8^}]af|*/Y4(A61U'^#$/pC*e3S]80`gWSgpW88Eo}$Uk4sFNv)KvrWS:yR^gkZ9'/ac%_jH
~gO;+X8!XCT}M7|xk;RoR2EvT,u|VJq;Y}uvs4nI,Yp.DPIynTyE[=SEm83oCU<4*9l|F1Iu?[T0oILDwfQ')>+aDwtZwt^d2Sl{U$fW[{,Aa;MRLPE|}iL$n7LcovR2'M%IKR30V_kwRN,KO2G_Dd
wN`~E1Otu:2ah<[OZkaX<d+#VwILE}~Q54Rp.TZ$oXB*gF/%FXt~}N~J0X+='!kGNC_]y/gn:sI_~/L)gEx8|_1nZ,N:]Yb$ZJEeT/a`Qip!'PrUnm0>^~$tKmvn~|`6'a$JE42=A=Km9oF.aWrI9>
3yx4uQ+V1z*L1[?7a)KwjdTuXIFhR:qmZ$mCh^o|ZPIr|Fiuw<PnI<yWo1|/],k/Q8mwj{XiQ]<Nd.C#.<x/~RYrd/VL]E!oH<D|}/x#/}fS6:`xU{6h[pthYUpgT~mvgRHK^n:$?o/xB[cIGz!|<Q
Yh:,^r<AE,2#%#w6sM=uF~{aX.3(ihvM'iOxX$*9[L=uAb/2zT}Or}RU<E2Z[(mmzqd|R(Zy}CtASw.H$K(H+/c72/:b~,S[Co+WbDT*3pOYfG$CqP~m]wB3SV/zgzC/5.RY$v0qIAzfsYRTF8IQtI
Ylz.*8MEHr%!oO;jp,W4rH=,Ig1>Z0AoUl,Ja~PwEIJ!atwX<C3k&l?13)Gq0Qd!cHL(*|u6l{Kl..eKc<BD8z*})$gQAL6^fJz#a6GyQ!G;{ufk:R:Y_fJ|8]4uWMm_J9}^}<_,U3l]N5*ZA%Wak8
y;].rA(2YUXiWyl%),}O::SQy._RElt|KgsVJg~CZp|T'!D$kpj'KB,]2A$p=Yp!<(8PT*L)_sN'8*7k`L1~&3~kW'1Z6*bN'Kt<;Yv,~xx+G[~`9'sDNpr8[lZ)6cM(j^fg~nYy:xd=S,yCxv9FM6
!l[ivGWm%X2iZXT!dL/j${[Gi+~Z{.w{3'A?RK''|[*;4&|CeqX;P]Jk`emc7c(1jfmW&^?UZwWRp'9)D2;*#Q4O)&C>%$<Y~?rT)^eELK^9&5{}|664G7:^_CAA4q[3pM3Z'#Dv;>mCb>:=/bm^Vn
/Zb~*)sD{d^F8cvx31},o4Z|Hkp^c(zOL]6`Whwh3r3u=DN13vx4GHaV+2r'YZ]d)ozayK#R>h=q~H{B0XpES^(_.[MW'h5Xw_7}*Zu#[0p8s;Q:Q)$17rIJ=TD;tF`E;=B(4>)WE'$Z;vrhnw$Grn
BMCl6*EQX0yV>Cn]CY5u{5d(7`?><.J1Y=pF6rc6203qn9}%6;p`SX4;uBeT;)6D#YO{Fq&8BxLC%E,$(|/ZL8PT*cnE$7T)G8kNlZ)ZQ{/NNIrG6Vhz,]ome3O0l?AHo^DoU3&[q>zG;NQLs9?pZ>
2u;RLsj,;wKrfU68?uBzbWGr.rTAy69ATLBtqx45h<w(Hj:9/SR}QFC.wxmG=BTC{.9ZV:W&AFW||F[),76f.H9{q)_#NJFmyK5?p%{U1]]eBTXgo}[|<Y0:a^s|U2%w).{0H3|/|>~bF'jQ%XK27Q
lcDJ(y81DX+k8faAB9SS)9<#zf_f3{6'4cL6&Sn2O>#O|A%J;6Yv~A~'4b_j<OtDwxu?d!1]a/zQ<w0|B3sl#XkY7VWgEo7%MECr'HyK`wB!>eOxxaxO=|$PX~i?rcOA#JOO%LG377$=oWvv?=Jq!;
6$F#.D'%{M{GSAy/##eMC[/_R2'H01NH3AB`g++I|p4a9B}?1GjC4Hu+dHP#==LL,qj4'o*p>e[I+>Q6Dyj|S?h(,7rm!bZ/k1?F}'QCv%{Kc`;E?9/JxiYiM9{]`{?D$#swrQDa*R3ZHgp5Z's4E$
BY_k*tm?kO4U9!dW;k8!xgU9H4^'+fxhC^L,xu[8VCZ#k/k3~6XZ8*IP.gT{^qX9pXV'_;}TNp=dulazTdw8nTTh%ghjDd'Af9n:SgYp9$$36:],:+NorN##G+_('Ew!5H{grWAAK#w[PBnt<}VCQ>
n#{(&}[JHxUg,GxN&C+^B%)rANT'w^77syz&[S::.[mS,/eAcsW/pLH|q>cHB.AYsDq!wxRv+4A5ybbM}a1[9ez8=ox;B3x:>?R1N(12gq?SUtsVds]yu[qA3jOn1=VLJ!NC6XHGW{)s?P~<=eR3uc
WzIpV64!G>%CtJJVq%A|l|h8gujiwRtI~TJGUg#C5[_9`2=hy%1m$xr+x._sEmutrud/8&Xo>uOTn9I+6Ih+R_XAFgnvaQt($nrz!&GNz8Q%l9:4$J,YE/P?MG*>_2ru}0JM+N9Rq.+s01t>9rb>o;
d3+VU`UxJ[biM[,;z!6!.uPJ++OP<]^6,pe?qzP*k;lh>Ak;Faj7ELXIOHvF=4jdsSh;S[1ePXG*NV6b[`K0Nb~VRYw0k|wUU'l<?r;8Vynf&x,W&Sw_jko?O&pa6Feq<ki]M;.zT36?N^/RlV/>Zh
3b[~e4U?j1ZbkKP'v:7z|7X^eAmxm)]QW&x~lgE:I0MG3+NJe;.KQq39Fu,Zu(0>ef^G$E/Byzn:HTJ]ydv|_xz+'[`F0mNRZQ?34),<ew2R:*>;qeF0D8N`1Ll,b_;R*d`[||b5ff!#x|y+bP93K,
Q?ID#$b~.pTH,0K?<BAWrM)5IDGWj:S*pG2*Uv5hwFtx^(t8z:}s!1xj{+C*tqt?eu*EcJ]&<^q1ZTiwry;S*lXAF?C1ZLq.MIu:sGD`=$dS(X`WRu>tb}ySDiQAUsgOap3$Z:91Vu,Bh!vg~|8_,~
_6s=xmU)9=0cT#`v%h7^=i[6vn/J~]nl]vx,U8fd55v]q_573v~L{jKs/*L:V&cnL9f]#?f8Fp#LHp,uWpkKs`x)ps}4_p/[PV41:K^82pL'rPzD.,=~8('Y'NE':+2+ZJJyP=<Do(Lo4YlW!hKM)j
1yd{Y[guw'Ilxi|?*BJ_pu^U,V+T8PYKlk]d8#K&I;m1'1.UfP(XCu;:xoUWbF+T>~j4%+>iG3zd!NDZlllDkk)K32Br|J9U_.lMk.iX_+APu'>M`p+0RWlHh7v[tfh4F*8S.nM1)=*nH)ta$i)`|8
Yct1_Kz/G^3}OKaH_XRU';U[ouI~(dqwB]R{Xa`S=>|9<ROT.:fKV!w=M=C:~%<.77/c`g[/K=L'WBMuJ<'q7w$0;bfU;aFx+hqzG9V)K;UpMA+2p'qM0XTYWK%ec(y|01vGW?yTLn'36>[i[CKYab
>W/pi6Rrxcn>Qoz5,(1Gg|ot.fDC2qwo)xk`S[V`#B3UWe.Vr#3|+ZUyYz[R?<VOHR:uV2]A[Wg|%HjWR)g2f4Lu5I#(BSgW66]I0BApcOopcUv`C+%JZ1`(4^x`^|78'8jUIC92+<>4e'SrAPQ1?i
iD*<4i<w.8WHTMU:^As*ZfYHP28bc~:new~m?Q}[l/n~3dKLAv~W+~[RU]]/O.zq+Nr%Jf>[K2|zDk|_(!uxE>q64+G4>Jpno|yhmS^Y2Vy(FPsi!'NFRt?B+0exu:z?|7Uv(9$_74tt)*Y<*uu+A8
DX.K<Y_Q)2:`0h*UZI,$#L+GJFxJ2]4%eW%F}0rK+:w%{=)xKhv~8eIHvpKri(x?%|*]$U6{tK{1g[(w_#tNp0th.kQYK_,T}|Vs)8wF`}lKt`3O8#b0^fO)Dt+}:F=e9pra~OhhMzKTM2z*a*b&Xu
yK`:Y`j6IN%_VSLVtl=4B=AXG2!Y1F5=#Gm^D7#+Rn]ke,Io8NV_)%)=b`9]Z</m2P+Q%^!?D{#TV6u4lK4'uYHf_]z!r=x8h8%<Cs2ETphc4xj!i.oXC~,KxXP%R2HoExUv55s<G.nO%p{:^1Mqg]
[zlND&EK+p2ztsC7t11Wn'Ms)n:wb{HDW2~;m|[S]#YrLPdsgyK~m%:E)SkNd45__2>wZaBMw~:ZG((^Xu_gmU.`d>CsY9+%^bNAn9L8~y{)wl3E|],`6u..C_|zfQp{rcw}ge#IY#x]'#$02AX+H^
>]09`T3.BB*:%7Hu=M6nv])<yYJCK59AC.(s!u);x*:h)(;X;g:+hoBT1rnqEWH%E*vpEzAm9]A,fvcO9/eEROZC$;.Qs1.abHxRR`8}OPiX*bbQ0pq'4RU^3d.8;v.7bICtS:ezgNHBZPi&Fjwp<8
dMOq_C/|j{5(N=%c3],)%gnR(X{/vvf`O~YsLpFZ,k(|Krucm3NZ9Y($a;L$[`Yn3.D9d8_+^U}erXOac(+*L)C2Bu*z`/MzR;p/o#AsV=G{dRLCt(i.IPh/Y6C3&$XU`ua.&Sm<)aD.ifMv=r8K$A
0_KaA1)>3ngMQeYUnGBff{?}h[|Ce;RxX=H}%+H![wrPIr&q^gcleU3lpc&pXkU{$jPVRlzsp82?Ex%|qQf~'GU%LZu^E!O8:<&&yfJ=K63ozMdX!zwk$5GZKj(KW4Rq&mNVdptk,|KgI045CrA{sj
^jwI,I*+)(C/yhg?OXz+wJJ7c9O(bVKh|9HGPA/''9Ao_*^52s+IfJv?tmGyIkkRc4{%C&Ydcwhz7Rrbz$CNnt_iv~v7x6uh,;v9#&Fv},<(Tht[>kAfgIaZLY:^T~zkkV95=/{:<p2}z^~{Tz`sM5
joBkqJ&so`2Jk9M%eFHzl)Z8nf=AF.?J+]8vt<a~.h!nwIG_VRSi[xHu;A&LL^JjB&3PT&Z[wNCL^*t#oJl!T;Ny?Y2MkGBNJ39otx?rvfP>j.^5focn6dE^X`~4cDI;TtLZb)AN,w~=8U3Wa28<h%
L4$J%|yIH)bUro;<_x&J19{4!sUuNTF3X(M&Q2Hr{a'v!(JR*IPecvK:{gATIOzdpn|(wi$Ds]$(I1]/)If[#C1'cfl?K7[j5)Qkn_^%;ktLCPFnk$QkKN$HZQ<t7?P.&O5bv7qJ]&`eeo$_*norcD
C++DqIhP6M(%(;b%#:qo,_b>/)+_&N9GZy*|'<~9I18TY>5Ts:<:~=3:;{Bu:U;U]0y0J?CR#`69uC+DbB$_63qSniHoUl>d,U&dwNMmI/5J0RT7`[/xt^bR?!7i*Ky',{2)ZNGl0D3`Zxeunm[&4{
Fuj4(+]CeaqgK,0]/'cPJoQb(0f56eVec=`Ho(|TWPEzcx[$0$]g*`zH<<nr8Sgp5KU%T7n}ZW(;6Gwx+Kb.YtH)JD0;+1JgP)zK;K5pa(<ny#=yC6%!Veq[A!&G~^I3TmQ6VO%IKfCWF;qzdJ1tum
c7b.P#>}Lc?Oa,M5~m38C/+A>[E=Jy1h<xW]N[$Wsq}vM!YuU6m{TehtY.&o18)pXnB%.!r#)_!D,MB(AlY[?O;X[z(n8u4Qhx(U1MgDhd:'Z|GQFS'<nzd!6p*X#NzE9a*M~,Aai3^GBG^,<%XB#s
qbFR4p>K1;|#0l`:$|`UwGo]?BFN0Q?t[(ap1E}a5!d>*zw{65z{JMh(elD4#X`*wnDNf#t$x;Ei15XZTz'7TzNZTuhmGR2*m(0We~j<Bst9y4LXlB7GXnaUUxvP8V&LXLW=XaF'_<zA9|6`~h7VI~
cw}:;8<Q}#1kS.?N`/tkaLbO?RoPX(8#,,Tknn(VC,dHTt}}]y0<1+G8bfLA|bn<k*_))|TG7.WnQ<AtQ]MY4mcMUy^;urE#TC/H8v1#|W]#Su`yvL!0;7ILR_5vR8`*6})*G:n1A7OG,e:LD&r`q?
_ydZ:_hx3rayo2VdQ+?%aGXX|(MD!&Wh>!O7P>%MO;53Z]*{TxTeAo;p(}`$baywUEH?!q{7JI4!'u4Bg9gtQaO&W<ne&_KIwfu7xy$=AE{VqBdJ<~`*|D|7#asF3hBQJ{QEoRt;):T$,:m1unr6SQ
ol[a(qPMDW&0YSK||YF0da>R:`Y4~rWXrSEJTkMJQsfakOr_[3.+e[W)[fhh6Sb^7rJFq[!aNQ;}_}|Zbor4[.6{BXTjvflQ7&^fZ~U:;&Nt45GlS=TjLoK;P>lC1W^RrR}xn?/)+:Gc}l9}b]?9<j
C}VzdOHXHMj9Gk/w)A#}WTh+FBHpn~uV=</}n>.9?5ghq,EDR++r5{w+`(XW_b3SxP{0m*iMO5j:pGfr6oz.Wl`#v#5=!0sEL$Vm?Y!shlO`f$FDaj9Ksqx]QeGaQ;dzeX1.I}!RhO;D_(TW#>.+PA
Umn)2dKe4Ah_r8mt`+ZkCw'dY{Z7(^69`o8hPiTA$Rn]#Z0O}jZ+YVyYq3VW>({_Sj:?$|TrMRS+(=>dIo|;0K77dN/ADWCA?b^[,VDC1>J1O!HQTC#o9lE4}V}2HSlk)[kEO=<B1dGyR/P4z}WMu!
Df!E:K'_^$:Q~D,ne+:a/IB+MIo`>|2yOxSvWuK/Tc!,iwX{O1MJbfQKFkd?]XzOU[x{'^qMAyS#M|T+m'QJ?oo4z&'AB|FRYx4g85oK:PfhMKo>U^&NDy_k?wuxQgK)+J#{32L(U|[$7_$lMiasR'
zs<_k&>k|3Rk7.PgscSK/):jo]`T}O1t.psw#A1h<`&`oD;Y>SlfJ<qB71ee/yM<2:oXq'B8%JP/0KfqbT.[w:AN<[+8hV1;B>5>vJw<?}Sa5B$t$.oTPcIS;'ZAbJqpvV]OpWfK(udq3J{?>z4e]1
0NtrThHYIBe?!F5R(B2n`1Pxo%d<Iy'Tv{ay[((U%88q#O.G</Pc!i0n/E^norHz/?=)aCZ9V3o]fE9dm+!e1tBJCtqV!X|n~ll`.9?g0fa%.E;SWs}O)_s%Bd82}NI2^.~M9_:0}d]!mq<j.xnldQ
~8}DZtggb,X/Ap`J7<#=b#3`Bk+w}[<IXfHi<UE?9cqEd{AU%KJl)/c52GZK0ou>s[b5Z]7f9_g<Oe>ba]_?rlc7yhsDS76BaGRJ!cxLKWd0vtA/'s}`DXqI%PevzMomgVcB?oHxYDSA^VPSgH]y=6
}GJqRbP+p%.&T/J)6[>:CqyO(DvulQrq]b'9+E)i)veWCW#x|7i|~xAeb:P~y6pZsp=D*=n$(P/$__uieVufEEeKy5O#:Sj'zp/Ap&&%Mxda:(P>(nW42#rn*t0oFCoqvi0{nZn*U3oHacNSwZpzA3
JhZAP9r)Uj>+d:IsTntR?9fr91z|r#Fn?(s&ZXRppJ?*e/Q[&VSnZIv.Lr{zCCJ6{.JG5?WxNa&ngw$D*3n&ymndwG!LIiLwT9RK!J,cX.sGNuUDI/gSze)kbu=POm5?d6zLZ}P1yP6r1ehmh5|lBM
=gQ{r'8AhIRbB`CTp=:.'_%=)dJy^>iD`<<(BA)E#%,ELx?OY/z$5X6a8f|ENxl=kVaiY!/LKo?a~By~S#]{qD0H'/F^*MNAj?6GizA[a!0mCgOi7`]1HOFyO/BoqNxA3o<HktWIxof_Jb%lyUpP9w
2?c#y}rJ[m6*4`.C(iL+qKs``w'&]7,]vl;(G?zxb5k<veF<_EAS!}o9'~L*Cc3Tg$Hb]e8y`52)PIBb$(72H!roW|L_4tGeA9#ScVHOCi#e/.*Ki58&3{'{5cu)cXUh6ruSUE~e.MPq>kJ(ueB1!/
lQ)?h?yUY[U1#orNw>ivQ(}r[:mde.+Y`Tv}0b56?pC4z1{''t&fXUD5%o,/?AX&$6=L9v.n#CV$&2ft_Jx&y$JtQ2OOv=La2`9O`T$iqlLaha,EsNO>>jMY[^cY8n<Cc5>SGB6d<3Nls(0U{j#X8[
CwCBE'c06[fhayJ^E8vO20Q9IRgFNc,0^wrh|b/6=e}_b%(L''nJ:sa3T1w9K84fj/*(0'l1u5NOg7D$f4P(%$+],=<hP_(iv9.wfl>{YI%93]ePn|cRF3CXj&SLo8nV]fJSdev8g!x:;lRjqAnFu/
$]uV?7vpUt0i!r7PpSm4r$+5Fmez1s.SW~|z7[`Wuq}EQvw1!p}xKA4`KXGCm}B.tvOY0X^Ynj]cVmR?|(jhU(#.q1vFRut|!iuEC9/gV=ql*h&#B3c1<QN:4z/)zZUM*ff{M^qGs2n$kM}/Ttjl<c
T'|3V/:uMK&x+n)>3>^l!D9`'R)Q0s]*BnNG|>=v`>Pm0QGy&um_>%*;9^CSW$IvqWq9S='t1gUHZO$OldA$>LG`:tw3)O4=qHV[HX7<8x1`ha9{MV#Wpa/D07#1ZB8(ah51Yu;'4j2C]fN3qlz(88
xYY3)b&Erl;/cqXV9B]~)x3K1>HsY)|2!zEId|e2g0a5<tSvM^e_b~Huco0*FZSRat~6wWu4}bWtN,ar5ZocjIi{Lho?X59e/f8JN`VQ&jJ4*]eMZNIHmt=6kOVO=g{,k:iU97#qZ(SsT>HKU0/0kn
~Yi?l8Hw*auii#OYpCD0FK[vFeUb~PrQXpv$i..1vjp&Ie4e}S]J|hUEvoyhl[1n1Vy'^L[tdU?NB?f[i*,u9f8>>?0O>TW$zQ}'b(%Wt/F>7K#.~h*S0DwZMB&uRBn[KjU3hH7;fM4FF8;8M,Beye
y6i8BUo}mB;*u~>?[z*6swC}_adyt;Z.nxI~hTRLC<fww4;7uLK*fFgiV_O7H09od~[;(L[~rk>!AK#O,1je(#nebFF$m0Iz{%0fmJ_C9C{hTnZ4/bL9{L_)8}O?L_seo5Wg(X+XyFy&:5gyDabkeI
bKR3Ga'4:#KqvtmoCxv28h3^,}w_r{:T./|ou(PY72!U=Yp.5(:c65{}xcYPO1E%Y{~Q[H}q9hy5LKy{[tQJe%dJilpssd2(}]D*Q.LSfuP0g5+rgLAX<XN&BNTT3G~5?B8GRjDDZr61iT!x^_yi1V
eVqaSPYyb$2(xVJV}|hKY9ab[R9:KXU;2U}[1!UUV5RCrbg_B;DaDu2YsP%B(PNI<?YSMF!pbeZUD(^IQjBNXC!Wc^%SCv{2w[O0Rr.Eg_[[QS!%DVrkSaq)p~pZ!/~CvbVruVgX:fl.exZ(^>!Iuc
J#g}gs{gS;QC8$pfg<R[B{{ZutCt&|c1*J4]J1#~8='F)%oLSM$!*m3S%:s?Nb>_izUO[Wzmpb_3HZNLLl),,4ldXcA;Hs/Xb#~~lh^x!gQ)|B~w,jVd_6H`oOAZy6(pz?2/s^9v2tU0cY.n*&/EiJ
]fNbYlm7#)d!r#l{$e9zr^4nN7_U'^KtU&j8y3pqu3xfl7wSF|`.B:o}m]8ie(E6jy+SIv<)A+aC;%X[[ng[&d/P,x&RaQzeA+]Z?xWsca3?i&f;%ZE8R:;G/^3jk5<WVDQUX^$J{(#Q2aJ==yu,QV
?qq_.d(ZA&?==JN_.yh,0%x'g1tVSXEa#Z.sWtNEY*+=QeRj$Fq;c[?`ayx9`)w0+47jFzoZrRFKQWcyeBck)rp~d6rzM|_fqLpldI__PjEqX:>3N7bqb?0TqX6AkZ7YD%>>>|27E6eKU^)Nf=qG[5
hh|mqXh&oOx`H[`Gmnl&WVN+Iqv`W#G_{uil/XXT5838XYh[;Gb8B,!$Q9}i+O}[Cc<Z!H^4~9!8yk#>[9[cFx&G~I>bA`KqSVTj65GP%q.(Iy<`l8hFLtva>:F8p?U#ukspJEW$=Up8DD=|'9'=e|
5RqQ]Y}dc).cgI}sBD.FywcWE%KpVtgeB&7u|.hSy#>H%V%<NrD!#k~ZZrBPk{?)lu~dIDfjFMdB.'T4e!Yi0DdBo}V)7>hDmf3^n.TM&{t!DF?rcwvmo#Cr~v.Ze'l=TibR5ooy.Aw6tY8LaK^3T{
LN=UhC=)1aXRjUL~q5rOX,CF$nsyhvRn>u(a?*g%cd[o/']]FiRUl#l1Im)D/f*v#qo`}BKohum.il7b;{F.my9{+F^+}>3zRx$Gnfx>U)<>w>zSiI_,VN5CVv$9vY1u^+0ThM6+HM3F51tb?4u#!^
{9D(:BXk(I;nO50YqbjWIDJ:31>I&EUUGtHo]K$6h$I3x/LX_KEZSW_zbX%s7/|eou/Yf!=FD:zh')P.i=bpji2M$%1Kkt~IuW{EFckF?53PrnP*OG%wEN&Y>frVkcy0Oo}R=5a]IL`[U)+R#;a{]P
>i&NZElA[c]n7}Z'B=bdI1Q8%z)oZN}KufTb&1w'cD'!n|Vvu0Lg0m*[dfv)~S'e4]'/U#t~Tmmsb6JoY519AI;*&NdgOF+IB)6^|7y(s)S,4yKJ,>(24r<se1ADU/E0+md<yamI(=BB=[Z9c(7^V}
4|u[b64}w7;B9|'So}2O{E&dj3Sra^E>B<CF=D+r|KqiG46Ins5P&N;cc=b!b5.z/s_xK(3zv4?A|FqU^(c!(n3kN]5+'F4jrrfeD%RX]i}2w;l3|wGU/l&Un./020k8;+#YyRR(leHzx+oa;+j<gp
m]]x*|W:#1S6{;)GTUP_>!~,r#`[B>fqMoKoc&x37~'|J9m97N`U=a2A5xb44?>x!Suw[bWX8v'tB&UapPLEBF2{N*lC/UN}E,HhHltu44N/.j|m~J+^KqW)JLk)GsjdpZHB2};0.HC4?*UlfLbwkm
pG{OxTmI>i5H88.Zrk,+q4^r;?qT[,&/3l<_T:u<RwYW/$h5TeDnOqG.#.u|mFpEA5ByvwTYrU}i_.<{P/D.^]Ki[S9bo.*3~*zJj<EXSJ2~>!p5;A:/pSJl3?o4U1Ji#^bH$v&<v<i9ByOju=vx4?
[DXt;0$/0]O*,35V!6:kYy$P%)&0d~9eJtzXIy~!rp;IV[qugl3JyGDW;Jd_d_;v~>on:o$DNtvXob^Tt9xOngV,|o4A,|kAq(c(deAlB+~<5&CjU{^a$QEKmP}>^IR2&hrw9URB/x(*|<x'$m`'N/
4tV^pU=Mp6+eZAbG9%W+QjKhADRHn[,&ef?|vNGfC9=G<2HM$;w#91VV2Cz^#>{.d&I9/C1T9P)oMm`BKu>F?s=0)7(SO1r(7Sk8YTVprGBP|>`s:jdnR2Tt;f,asJloWJ,1Wz2hS?l?ya|hbfIX59
0LzR!0EhFZkr;E:S#8PN^YvK^no9JUhq1}Yn9M=YDpT&>:/a~rn)m0[WYia8pwlwq{JQ_&OfIfC$5DQG])M.Ww5gcT1%!f).)nz4>R=m#yM=(]rMuROj|sK%=TT'<)aBAPpl{X!P.){`>,Z#G_Jp:z
5jEzi)AulTBoQ2uq38i6I_rw0}d7tYVty&31_|}})x&GrwqP=1i.&OU?DLKN02E4aXEewE`}#N)TM)}XNRWohXACVVHQe`0)>^B~?cO>K,6iMqcAQQgPt1P5[RWL/j]T'u$G81jZ=jY1R~MmYVI8=7
duGHMKt|w7<;WT,!dL:rQNbkL7q(XY#oX6O&0m>OHCuxo2!ySm!:nOg6,7|)|B3kk#|>+uyl:blm:HjyJQ%2OwaY<ygw]W]7.)<YF]tP)3fSi[?lb5lED'/8t1k0DrXst];sN*=+^+DUVdi0E{?O.t
f){hj}W'kXN%~6OWvZQKQbrZ;)bBO}v8*k>cd=eI+p.2ZR,b`&YP1:o+VLasNDd7,wXC]#YJ)iG*!kX.tE=HZ;K;+`8vu00Lz(;#6RT0n%g=($Kc6_bB|q8|wr$m^NdL'|Z9ENVEU$m*QaC1A'7S)3
8'6yY^Gk{2ez>TkpJ=]czsoH,=+}DhV7g7EE7fB=Z!Q(EWtPl}cn*+N+#^j*W45JR(+LhW?[2cnbw]ZW2?`Q(w|D04zn~xD0]Ey:2%/ccD{%Ytd3izlQNR)$Gs1CM<_9J)?^k5pMLBb.{aFn>q(+((
9q8$kR4r=tUM5R7tFba*EcHDf.w89aA%Lcs^U(Cy;nf9k9lPWZ_0+s`0w=1&F9X!rTwN}$I>K3r+Ridns]FU#3&=$xM3s_:pi2y2q|BWFN^K$uLqlt_PPgcX3.+$VaOoc#X4)?HnYpb7sA#)c0;PuL
8Z_[FX*Ee)hM`<g`5DYQdqg(hU8w!$w#n;atsS]gQknO(!OEC7ubFL_q%YU$8ZaHO3P0^K;q4^B%|7%3#/wOsNRMUyPh|'g)<I4SH<;JxqH'1*V_J1SUC5kN50%p:,#V/<sEp)0[]R]/htCQu;E'QP
rfm4T,8H1/5^8E'Uc%PNv&Lj:,)G]hftZilqAJdeyy6]4J`.+wH*odsv7Kr}zGD>px8zQB3^R}o/dT3d$Y3]~W5]O{bh8v=cY(VE5&p(PAL1Hlj=Ix9GCn&NCl=9?Nf;7F+P=!4Ju(iP2j1Gl7]z.T
qkL8G3w}~(:)t[9`V2|Mb|mkW|V>il51QYPZJaZpOvdeYmCp`^V4RT4KsISn^otpsB[NAb17['8_iDQl_*gO07N,<XJXN~Y`gQ[O~b~u{+y[xp8eMm05o.J{XBU/Bm+I7.ah&X,*;PvmG>)'|iWU}U
A92pLq=oM=~hiq0#h1c<2$swLlEH$'D=tJ;j3AZcnt42EPnKC>Ik8+<U21xlWT=G3ir7ln=wm}jNN?OazKKM)fE|*.Vh*zi5(/1Jll'_U(V!mj1l2>]s%e{n4uJJtzqhu%iZvD3e<ifuV^nJIt$I];
wmoc!>j^'C,XxMRQ;I3n^[{qq_U1FtnVNmQTG}Q`UixDmSjl,%[KYH{,j?_1?)zt*^BibxG|2ACqOv2,}CVVDGdK60*gS_DLHGUjLh)#CGS_vDHWG>hD8NUG4sVv^9w0i+p`!v4j10}9'edljhV#Dx
4t`UZ*q/Lc$DJC$w6pa~HPXw^uW761<u[YT^.Aa]zJ;Woan<{NaANnreEmTAv6N66<%n051W6=9FQHaTnP8SSEqc!u4#HH&gS8ki:!<N_$1+v,+op:[(S{%Za/T*g_=[8*oiT_9!mOsrqSNl0{l%IR
3Ju1N_Q!abeZdApSdes>bVOAB+~;2q[P4/9j+V'g.eP9`X;/qHoGHx9WV_:i>r>sUvjxKpVx5t3w/R6(+*fu<LkjLQ$S7(i&G/+LdtIz0d/4)d;'eR.|RR=40Me86is*9(5qBNw'9cxKNS%q+`7#~%
~Qk=K2La_SH|)Jt|6{|bCW*H!pp3t?:+7oP?$,g*,6Yk8;eVYkVNI'OUjJztes9L~~nBpeHK|}(BA/G]ZjhgxX4Qdqh&QS6P[.G<Qzx_r&Monc#jIN?R+5zt{:/lGQHZ:DTX>q`z,TZy1^cV4N!D8/
Y+v}B#dNmzd5bC}7JegdfP9DsltH,3b}8zsEYT+`2hBTy&w_!X<*s:tUJ7uUn[bMd`~f8U.m#VY:gFHTxLZ!BWt/9VZ~7<z1?Dy7uxHyPBf4'/J/'IU,}th$]Xwd<Z{*FsC){ER.Hfn<IqnEm;x!53
s__2M1'rTC)GbIHOuNYX*MpCctMFXXF'iR'NS&_S|[#ymfoUm3{kO5_XvG?t[_1ym>x8$,!$O#JLellVIunIB#Myv#A&u~3;eqg'C:uUnyf%sXH?Y56w9&E=qjee2S+1q.+SmY'=NcM]i|d%V.ez_i
{N(V%nF8z;SabAqtqGy]fpY{O0wk'Y=MM|r.}n&dI&mr4Qu2$VK*=Kc)fp+bV.dc:[8Sj#>R*1?gW<lYa3c[,PT.q_<o4B'+#DL4q}#mMbJ)7A]3,z;M?MTp6:v4f#LkZ>zVEpIv%En<M>[CM8vydh
]'#8(d9E{JV^%NL8)yh6<X{V)y7YGA`TmIZp&Y]#LtcoY&~b;.<>zxQo_5!v1mcVimfC,R:V!)tZ*aHA?OrLt~w?,RdSuE'Kr'4~(WED_j#nP{+C+f&hot2zEPysL9dds^44yO?9iEP3ucwy[W4f4u
$c6z!S$[+S6&mR:C<;S[dPKxtCri4sHX]:z4Pf<hjnOg+oh5dw`F*[`e~^.xSs2j+CuS>B3gwm:_C'd9(k1#)|%{]vc+EUAkUYH)u*l_2!m'R})MDw!2:UDn4sI/;z8]tt](j<2(_;ug,?<7!`'q_R
YXLoKR2Woj:j0:(.6J?UsOI^mWvldz+D6wsyr^5(rx8yd)4:qL/qax/5&$:e()wn1C]*3=#cafqkitpLz]F+ShBA#v}+[NJ:hpK^tvk{=fcyU0Bhmkb:IULF*TW9w!9^uCu8oEt0$o:BNPcnJ=gLRi
+x84/+GciN.LI)F+Y=b|.2>o~tC0<Dk0WomHV[wpvk>j8wNDB7a}#T4I.q^X8nCe6lzRwRc|8`gZiHvb{5A[LG,1:XPsidt)a=d`uRUedL#;;7Kvg.J0]50`r0'Qp*1n8Vl]<$Bf#&u${p`GSK]8wE
&5ttT<c6vg*|utYxs%vwq8H}mi}KkPTVwy?+6,Q/Q3s1cxU5c8Bv)HVO{U0=9:,/BU&;T:wCD_eBCO|s&mG889&ihH6K!9=6MQ'1IR])MJ6}e>i:H?KI48CC{~u9(8pxSX2[or9x#/~vIGhk|[uz[O
OVbK.f%_UoQm98jA6}<Wef8&qU~t.`yR,5ZVwy5*l4(gb0V%><nb7S9Bp[HX~k/&mEw|+Vd3zBFTD_q3^sk+/**RIAxTyUoAvB}}z!Kz7u)OLFzrV+I0j/ENT?,Dd{y`u<UC`$zS2E0Zk{B(?FX9.Q
'Z6PWv>E3W=&54uQlM>Ey#8*g*MTD~&XxK6DH{szy)edr+L/PH(%!bW1Mq2Sw^=dN>|2/vh^[}!a'$zNs5jL2PAo)}BcaRpj(do3O+Y)nNj,%iD%h=U+kONR+xQi.Y8!s$6icrc8pW7[wdsuV+A[7b
L8|T6e'obfrc*OG9&:qSCszNfe'HMC2lZR{Ee.dRF1{?)a^%B]N<hGEo1{#5ZAeh.|bBija}u*:Mpz?^mGeN}m%TU.8k2aG2.kE,xtL0Cdj!&D}ek!1iF;*O3cLO8^B6uortNR^zwuXyG$lmE!}6P3
Dg7r=[^5T1RkW0X(|T]Rha;p=.R{mru&^x<60W?~*$j.G%hXhF~Go%s[z|Ej~8r2;w0W{IWEQH28ndD~B#o`I%~rO/8hb==Nte|'QljJf`5I|GO0pYr`VfRs.8y{iVqU>fq(S|<:!;!M+dhd8TNZ{$
^kw8cY9qg1YUtu&'Q92T|)YauXLa:j?D2?%<0qfw>Ki(NeK!}1!aG2Q!3v|6_F9_qea)vdCns4<vi}L46<~]L(QM3+GBXnJ/rrylpJLZGamsm#l;)%Z=EU_nF~bVeT;PU%9M^..<o3p6Kt,oOHITUR
18#Tvi*P*zNiE)_EK+om4PQ''?!j$J5vxgZvqw5bsa9A*[:%H{*Jr*/VlH>M%UJ<CXv'?FZt?fL~+m]^wY98Ti~8[1}Q67eR+Ju,yIC`zM)/Vv3{%b68R%q|orK%w2`tD]_aS&7m)=7ocnR)J;;yu;
Tp/TL}s5ur4hxd`^^;C,S3,Fr.(F:2{vqTvOf^;Z60qB)C'b^(U^'f8^HD6UZqn7~.Cj<vIo~x//NQsBY3;[jL.bP1nRQt9AC/yz|WT5UeQA:0db%ipg<H_iai^28>wNCi:KMr)AF}qfii$2raWQ:4
V(9TLKEq=|s!*g8qcN.TM1Wjoo5m%aS/XEhW<1NnBax8>rePg,R]/rzV*GXj#~o`#V^%yppT7^14LnHj!.9VqV7}N/)6XjK.U[1|fg'/WY#wdRl%K8*bn$/pjL/4Ky>!XUL;a{5Hsz5j'^k1/pp]G5
Wl[,~g`j_Dlh/3N796jISh=ZAMSg;KO,WSx[zbvPX5I*?k,ixY(jDvpv9=xtaJXh$O2U0BORZMmpXo%G'`0HJi<.]6N3J[K!Uh.o~1?VRbU$8EHWf,fc.e[m#&q&<K3d:i57a.+_;f6yF'MZEB:rEL
Jc8O~a}b]0UrOLX3z(*zjSb[8HQxWs]9xF&(pmh'Xj6raepVv?Ev>/.hPU:h_/$FH;Hu?NJt:G|yhkABePAku)}ZG?$5x`aPaDX0UVfcI77d15y;}75Y)`{3eagR{FHyZE=[8$*!|?Pgod9w_kBqW]
Z3v`yDv>>CY+Uq,.UDQ,e+bj0!F3.^>dd!x;RF7[C?,`bY0QURdr=cnSp!>_HHf#Mmj]:Yu!QZwFm~V&d+Cw:ov>q$9{M*hc$}DD4*bdoC_;z].&f{N)|>4IaEyT//i{$g&AJUe5u6FAC!XnfH.Z=#
G'!,3aXQxkk<dzjBptNIj*X/Ho2gKL.Jg:JWWoi{D:PQot*DrhG9r`2zr^8icY/fV]=)?3E*>79Qf#Jl;W[<q<}O#KqAz]|b^(:*pl&Ka<~N_oCq<^=5trGQBoyJHIpUf!C}FUQLxT*RkR0m[;0yl=
W{^|m!Glh{m|y&de7?RQABQ;RO=<Q~A?3|8{qZ`p#<nMf}WyT&?zK?&bb?_'}A+w)lm=q]jv*h9o,/U=[<?lNTe%;4BFb^G#`?[Btl~Wok(}ubD;5v3EBDB]gU3_|%RZL}~5mrTO9{oo,mA?0#C#(v
VU*g)<M;$iZuAs'CK6z*'D{s3[C_Xj:0!9Nq!0G6vW=Fm]PKs<}L4$Kaz&O+2K]n0U'G;SRS`B+?h,TzXGdDG%6R{V'[oiKwh_>y;[m0>BGQvw:LI:uV4ehJEzT+UoDpl?N(8`M{^r|}3z%7cs*uMw
S&RDLaDH6QF5A'.p<XVjkz~U}5<+w&ST8FmrYz5e&/fdqDy?W=&#(joQJpRHV3;H!)8,VmPl([90Hp{CMsJSeTep,1k$s~lXsf;_.S2<ph6Uc,U5L({4jGzcGlal2l7BcB:8RdU(3%^!j`2>a`MN;}
mm9<0corLdOULd}PVTksP{%.hSV7SSd4li>X7ji3)bz3`42xPZN^>t*e`q|tFt5Z_sTYHZh.tJUFA99JS~Wv5e!_},$]#c<|[c)JX44jA~38rf/Q8UJ4dL{.o(0wz[y4S)!R&4JP`JHvM)ZvoJFQQH
Z_K;ROsnQ0ca3g##Hf).$fD>/GqQ:h`{%)`DM+<_z9FO]b7gxkOP7?0zbE#&vp^fR1rFfT'Z,ySpVK#3APtNJ[</p84:X$5$)cQ3):,Dns*G>Fg^(?'S%Y'i~<+chx!#H<ESI<Irb`(7YU^:%JN0kJ
qzkBL'Hev.'3#3P#oTS&rLYQV>|*^s6zEj5R&H'2rA>kMu[dK.jm}M($2IhO))wAn|efn(fPt_cMQ[8}=13Q&[V(&BBV`Dgx4,;~ZsNxN[Yj!;eSMKL0?KOBxILp!JU0C2S}A~O8pqcuMc'8~;5E?/
?!DgCL#7z%gbV}4mNjZj(Ctwh9LP``(JV`$lo`;ue6#%]$;J4m{g,%%7As#.sVOGR%S5>y=T(NA`LB|SI$Kzxw$4Nmeo2%)+0fs$tF1VL:?azs6G:/o`#`C:vuIrIe^9?krzu)u.oT%aDJBE<U3&OX
o_]7NOn2f&1u`3hY&g&rmFAe,.c4.=I_WdtA;VqA~fK#8)m5ALhNgsMgh4O|6v.fF7=4oV}BS$BR<8Z.t6PwObfjdj9_fjVO5uV20L,wgA0P<k%O<iNI'1o:HX9x?R!~..i_cH[?3k8$<<*1w{l.x0
W*Hsm5n%{t`HR`VOiQm#6=~5:.bZ|'/1yW8Bl46:z,9.af&M8AYTZ,g>U$n<3v?CxKj3N)DtOOg'<yF_!f`RAaXl0}M8'!+n]poMpkj{BtrWLoM8sfMG6pu/eXo<>9S}W$?*3Aow_#>C#ViwPw8!#[
#nJ.[~V{s(!?6e^/!~3`t'B,o32J3DgWRPAl~1)]{6)`>}MY,KzsEOlb]b8'X$s.M}v{k^uCdh*(n{G&q}_zu(G+a`t8.g.q_*t~C=<gGHv,6($`IT5R9qT5lSe'%i`L|Uf7Dz7eTb'zJ8go9y2R$z
<o9A[7m(e(1jyv>mJ$+'e5&fiLDa6^Qhpt]Y=m61v.MaD82mN4(b'j09nMlnyfZNv`OG;OF}l+{y[GkQ_<`H;3fS0;.I^mfNW4O{FYZ(v]wN{6KNmN}Q6Z#)b*_X,=~5G>qg<qC$/MCG/Y9/Y14<eV
e^Gyv}EB6D.+#,IWZ*.t8aSDxB4+q&{Sedn%)`8ArUw7}z.0YsOXa~{=}pHin#OA5zS_L38ORr_BGfS.fMma:E`E}P<_3!h)3d:m&1_`E1YoT$GSuqyLy~xN|_XvM6M=[uX;8Uz8[y+YSqWt9N,QTg
o7/va,cNX=Kv>m3|7F`H,&vNfatr8cb([Qc>hVa=J/vS].JST2.Q2z)7BP`?d$<eLRB}}=/lZ:Tu]'4KXIa3'1`e*~!Tl>B%rw8~4~eT0eQ{=$fK)JXq,)laWn;$<TO$g4rlQb}J`fGKRuct&FrJ~T
Y2B5.sWg]L4:B$xGJDPw&WI4pS<Qhn_anetGFzH`[0az2z+v,HqUz]r6]eCGv$|^ooIh[]5G!ibF2I=S{n>7mM+37zfAu3/m=j6A[g0|<65is)'!>lepk]9TSjyvL`<LhNwjoy]k;bOiShGNKQak!F
=Q73h#p(4{)F%S!78dYWUy8JEdS:Ut4Ms!R}bNh2%f.>U#%15BBE~W*(X1HN)Dx=l`NRog)yZ#l]`2^[LH||v{Kl(s.4DDn5C`{F$3cM)6mUxD1kO;R%(Z&7MyD^.:OVJ2LH26Ic*;8Bv+3uY7LDCl
ovvU!Qj.hl8},_!E#9/>Xu'fuPFH$9FI!BY;`9|<,tMHHK%Nnio(_jy<(v;xg8i(KrVFNLt{9Xd`2MZEHH_N00dG[fm^wKmCQh>$,DlGa&dRyMueSfpq9~cij3^J?X?W$Y%?vFf6!_UIPbaU.R>t}%
<mX^Ne#)|9e6u`^FIYVHGNop6m_))G#Y|kdgeZyq8500pCW]%SG5A]mbO`Y<e~R9;T4!gQV$KTopeewhaF|%A&iHlO6_h6)!b8'a4BbSdTrghEd2BdD4~D[d!V<>)g0vGvX:+SGoxD8VwV7Ca!$~oE
m;4#JD_X'2#)>70NwMs^9}V[,4z;mA5ZYM09&<O4Tsan&7>jpebDt*R=j:V{UQ<bb.R7FEU9ffLFzV%&;PevI%^eA~vp7p+JPXEcN9S`BLE''!5Yg=Yl!X07'>YygK~>~{n#Q<tYYQ}HOffwdCqkKh
r'$yz+^qGT!<n.+i#sS3Vdx=QLlWkyl4[<ho[>_HV[h*yoR}/=/3/^B'[D!Rm+qRps}%iTxK6r6O$Wl6mAkKlSy~e`fPM`&d!Zq|TOJp]j+eT4YnP&TbS`M**gurJkfun`^VandK$X.&|?%26V40oC
jO}kG$)%R25Iz|g,$IGKjY6Phf?sNH!MQ{Q;zg]J3:'J3uxa.~Oe[jckk|)n`u7L>$7r/+h7gp1)<s!lIwcY,j4`^^hPnl^LM9BN&KOcxStLdTQ?Soa'#Ia1seYF&~c;IG3IMBt44AVRRFNoT(163l
rSA:)K)2>>a.<0zC/3;u&wLR)C.yA*o5ycaEuwx{6OWS4({KT)Q61#n=+P{dFNT8SZGS%ku!%&h$SxZ,hZ|m+|R^0[U5/_zUQ#0RcE<N;Lr7Cbc&(>'b=A]ZB+fW*%k(Rrco`HTG;}:#8t>uJQP9M'
YhJx!G7hvWdUn8U*RQt$l>!!&xqu1A0J}g8hsAeO3mR}v<<djlBYMAJi5|{,B#o,$KJ.mj;Qr!%#Bah_C$K%>7M~MX=}(p9OV*tm7)HlWK_&~ioY>]Rre)Oj5s%eiis]#Zc7IW?kdp%fLF#,qBY4Jb
Hgd2k+nmQ{VfA0DWD^);9l,x~t&&9.q!>;OGWZ*XN]xSyi%~Z+L4*VIBs{f&S$%N{Dqbo8,*%ODX~;Z<zW$9<q`b&kNp4+7Q'xH!V]{gsT$+s`)9AFks)&B(61<0!K4CNb;5#:zJ`xpEumZPM12$,I
o]7EBH3$IZMoBai$JTQ&Rb~b!13(D%lM2V#%P1MQowgc6lR>g:#dlQ(a/>cp]Dcj%[_`y%sG*pv=?/8_Ojzc|Hc)I.9kN{T4x{P,D9$hjc2;gI?R*aQB9_;Txn9#eu|wC7[7vxe^ZVnb>UetAUjO0Q
c8qF&<xB*l~MQN#Xgk_p6]8NJ!b0Aj!U9=Br)(C{+pd?K{4a<d=xfCx>G6gj)d7NAb+I]zgD!N1*Wfr$:RzGV#9bz#aEO6feEeGN<W>c'FsXF:<Kuuig&A+&K:A}8X&}f|,8hVO+DaM21DuXuv~Q:l
<UquHvtjQ2M$=~4z~]c)9;/o;~>vx%Ulcd9)FN_z>BE(T(%mvV7NG9$^5!,8/l%/z`z$5'[|!AarHl.'3L#6X1tZ+IC(!k;4}/H/DkP(zOH!6Gbi7cx!^&V|dI|5iM5[u1,4}E1bb&p*hRZ:D1dkF8
[HX72Q8m,eZoMj~~/76R!mi1Q$NJM,m12_EgH~lb>}EO=mk(ib+c^O{w.oNmtr3D$v2Wau3YN$e{7E/dm=pm6mcfr3SBGEq#FuvD,`sbA=[.:0g&/A]l$3B86+_{wntJw:Pjy3/Exacjc,6wq;AxRV
Ktm#C4rY2<<BS}t3!|qy&,r]X#,?>}E`e!%$Mx=[[3hgX/r/L9fJ53(m+M3|$gBYqO3xRJf%Zos>|?xepDTz7Y/KN:Y3s.Rad6yn(wbj1.>32W=D{~Yqt?HLe|,M!&c[/qc>NliD8bKGagJlZn}uia
?au:8M$KmWofQ?hP>j.XZdX5z`[#iR)v7UIPj^9PFeTDG5Hvw$v/PVr+T%*MjeiB+a/oR6q[yW=XHDD4MJ`)S8rB!;`70MnKD3c2MV7L]d?OIttqon[?9VNVL##cI~)Wl#jyptk(y8xj<Z/2##iq*!
!Mdq!V*U^=nrM)/H?o$7`vtOGuMyTQl{$>7}A5vbvdwxyu!LLV+`g2^itVi5iex3T)~.psY)bOig(?z2HSg?d%,UvbGaLT]a{zwdd5eZS|ua5/zr}(R!*;.vPQ$IxdkXr%*Tu)$Dq6c`K1Z%s0&wIP
o8u',n$PvB4'UqVb(&}/{F+^zqoi1HvwMbgIvBAVC#2,y4btEcJh.BL5|bR7B~J16oV=$.j1;?aOEJsN2H>c}eCtL4DR2uw+,Q!?%|;p5`<qG}G8a*KyY}rNAkRqt`=4?6Ctej[:Nn;3mTv7cniDT&
#17KvQl5BTim/XRsHePwO`iSw5B!HH##{RJERxaBaO,!M(|X0`p5'rs1cF>SJP)K2ITCUa{[rv9UpgObj`(|iV3*3Y]~'w?!XyX)>q=)k:eY`=$s`IZtU^|%lE!W5.~S6<#4&SS_m4|ILHRL#uVR~q
$2y0^PERb5yG#nHbjN9JvIT~o/Ib#/;BIzLgNr?+)gcdqT_9CHcW1e(9Iqo>N;3OTEQu7~krX)17rjY8YTl'`m;_P1(bgaSD*MZiNt_Vo4s+ScE!rf$ur}I3HyFL#~ny1Z}d36M2fie7ivN,)[hm(P
z]26=CrpQ!nv%F;>tV^zagfS`OlYP^Dx;o__HHu2cSj|G?+=Yhxq!~w|t%f#o!MH](h%n`3^7j.7~It3+5%*L1*^34!b.[{KCNd5[v.kn^_D%;UGC[w]?fGp/&ErxICE3vBIc(x7TUVUGt^W,!n03n
{7wo+Pl1,/95A[/J(nT=)oRl}jBxSfnH.o&w}SI]cr>|l(W,(r+:bE^R80Z6khbdsw<Ys2%85<Ur?PeWZolJ=0t_.Zt,y8,jG'(zFcYK/helc?jX&+p;%f]r}j&Es:{M*g.D+#pZ:)uB)%igMep;O)
3Vbjp,Yj6voa.N]l:+|7X%3:U[*2DeTkwf^ROf>1Lq`IBwUL9)vnKf4Rw~iiN[A^7.s|V]Vq2Q,rshBp~RFeL<jdB:&![z9`_4lcdNkwd+U9G>FF{`C`BI<>N+[ve%|){25f6.Yx?th<U%{i,<J,FT
C*4|3`A?RGj)?p*a]+$0133%Ozrm0X=a{|FHC[Mx6xdZ1Tn.<(y)!y`2IS]o/h5q,6kMD}}cE}k`uRQuLzoa7S+$&,{<XMOd7l*$NMSXcSm]t&c]tY;5U#^Xp^CxR8?e!)1/p{Vo[Yd$MGIy%vDs:k
tJjC{XB<>r(;Q,o24~:vSN!SFJ]fdW7XL}u+=8*5meeQpocFGrd8[s.Kzw>oJrl;'aZ5rLVH1{c8/,GAm7=XLJyjLEkX+Oy*4h(o8NX/X_i'&ky))/VNX>o.ma#kB)a1j4{=Q4z9U=^6~E'c}&)sZ6
Y|/:a&l3)*nW+mQH>`D9|b4ne!7aotaVe(ny^cK'kKMz|lo=CeFGuD?8q#!O(o`#>jR)Hru<:j5w&6w+(Y`YJEwiHP+AviSzFstO,6$nA&<n<<Wp9;p+_OxxuWvsSS9HpXQ8vn{Ok(B<r:i3C~=y1(
|=Z4$jfEWc'SARoYK$NQ#h?6l+0%DwF]pGJ+:Z1f8G3SG4w25qX/GJ[~lnSA:gI'H8DhjA8fI34QXqiL[gA#R3{7tWrc),Si>^p~A*:3=&=$)'XJ`xl9){]bV+z5Jvo~be;%?s[;0*503?yh<fwN3p
2k(6u`5U866|zi:H2`I|4;z}6{3,1+Dj|TJ.q#TqJ8RI$X#c]=V[niIv5d<:[9~zAxXBxYDLt,T&.YnX1U)1``s|Wy/;Oj9$VE?Kl3%;,imq0w25]kIw~zuYPHk4U8BBP$AN2c/&45ql$.pAgPO6qm
Xhrf9C^L5'35vvsc`QpNGMfgXmkS/UYr;lm}'=w[}B8]Y'&s[e&4oH{Os)(]Eg1E4)o1Y~wgYawq;{FW(FTjBg3&o4cvRvc#J/jGrl+vecqJS`13$.Vp%a((UNslS?a**Wnl!2'syUL!u]vJ^evkg^
XgZ}.<!6Ev|U.<;hnY2YrS}UxMBB`Qlt&TN}iaj~tJ|me5)TW{*[G3M'}m=/ccr?5j,)CSKDs]Q1_1+GQiI)F~r<b!K#?tb(y|x|i4vZFl9UNco3FB%]0u_F+/*C~D`RKUtWv*~A(>;CK|&50.'t4q
'|w26}&5=$X8,cWN0a<me*3NOa:Jf>1yx.g4o{>!Emd`QR=xL2)QmL+EnJ%u+(>`j'1gtLuj..J6z~*BuaURM'AV!7nl7J<LUIMf#[{?}m~2n/tg/wx:Iz6*L`+/c}?+>JmZ?UWh6xxT~QDq8DuFx/
yK9#)X*q=wLm2lX`/|z9ZBXG.EP&q|Va~r`C7s7>qT)b^zicDQXZ9d/G1s)<EHnei^+Z1o9?+rg%8/z0N<P|4~RQ%!b]J#qco`h^/s1F*Wkc%7]1HXV{_vJl5BuJp#9vIDD+xeclO;7sGXN!r)Q9(O
f8Ld9[3MZU]POz4_]utQaUeOR<c}(zrt!N40sE'YB:qo]kixkB}!b!WkFk};NK7L`CmE!]:/fv6(uI$3~!XZrn&kQEJVLg&1zyNo?WGSpE]dtLdYQU,aB){GF{!ql[ReV{u;3ns?(:xSi[AhGrZHk{
wgPbL1#2DSZe8oN<~nEk:gjLVr0{gf=%gU!'.*[kL'ypy.MKcvQHK$t?Nrc_gu_A!XXil6%WqKx%EXwF:Iq)$zChMBVHuQ'6!!3}A'x}T'Btir}8GvmyM9G2L(Qc&oOU7,[$M2_>t27)zorl{BSdAB
(G]W$Xb]~]D^SL&7GS]=d[{R2SiDThM6FgJSW~%ptC'iVzT:<8=q8{cN*slS{PnL'R^mW%{lU*Yh{G}Y>,.]X.QP&qt/ugf|.S=jkJd[XUZ*,3D7ozjn02z=VW3.w#IeB's1.B|i4A*liMAp9k>fn^
wBUUxV<}u$3(*_xB%Ae6d~yc`^3Y#Yt|[h]6/~KTM{JR[0`d|di*R|rjMrFL`}j'g71PQ53){l[d$7=R9,+W1vxG_$htr}~+Q(~yEqhW}z%De]6/L|DDY$#T3L,oJ+t{YQ}Hzdt,j2>3G'*#>WQK8F
.[MQG.jJ`jC]x*&U=MEKI`ms#aD5eAj?#d%8ku4'WLrzIpa|'l&_0cnB<v.ky<P^DCf+4F!`XX'dB*A<t&KDt{F+yEd!vPO~sVdCAKA,t2,<PbXjp+CQ=+Tn7#rmW8F#20c,35e.3ljL)H&5nW+*hS
Kytk`.k]xTsIJU$eZ<7MZ,}(g1gF{pwh]zI~_]5hn8|j?Y5TKKk35Ynj[nH1qVnIL[>1C7rdoW]fFd,#rZebJ:zs&D+vw1)C<VQTBJfi3Qo>ODY:]S4!*>}|',Givak]Zq3R:O{WOlz19LY^?F$#,a
Lo8JK!!Y)yKqZ(uz>](Ph:BFT5|h)DlV*zFp3^7GXi?q9,2|RijIkpwu`~F:8W>FXpyfP1k2mW<B*:&=M~O|4g[HwPsJ$)B3caomp]wq#HJF6WI3*MpBm_/j*UH80!G'SP<uuFqQGz&ag}JfaeK+`O
#f>dp!s!1P%zJ'Ioc$J0$]is(GR/J`ufM3gveK:Gp`EC>~[HY3`IXJs+MG''M6v1:s3(',qL4N%HL92suq>}X_*NCZ|1KgjJvr1:.V79UN#<qH9==H+OlD_y([nkwg`<]3k25Y<:,8DN>[39Y;9uwH
MGp2h<G1|i`%;%?S}N;%^>f5T.]9:j^_ZkXKXP|_{sKrLks+.T,eoYi{1J?.5edq&Jr`=AwD`xXK(p8)Cq.0<t5.Ou[&i`DQ]18028P1kCvN*+G`U(:(%RwiE2Q|'S:k1i>yA4>?P5_[Kp.j'X*;0C
u|scUPf'tl><0d[{88GQrGV1G24{;$(m4ZAb_WH/Gw>BtS[<o}5pD.y~r#Z9Wd_X1`!sDHqyCKjcQz^7VwIt`F%k'==wsN0vgU_<!ongrtpbZW6hFG;qiz3Yi^AXCiUpCI^/G7+r'<)As?l!JGJw7>
DU!BuK%;B%:zVyocaVO`_S>LnY6k=!t6TNL3t40Nm>0YU~c5u;4c:eXfDAsLlcTvaEiv%waGC]}0+XiZ8>`RC3$B'R|&yR/~c7THG5Pr}$XJ8*&>MXsK^&J,<CcbxhRIU9fp/vikTG,vW!T$x}b/bf
l5c4ki`o697_Oj2%mU<iCCd:sUVA*W#7l2,^Z.G&^(1rcgdTIWn06osHg|$)CkuQAt,|(DV`|3)n%,D;.0ik.g+tQ&u~`mEgDMUs09:L$5`.J;`D*{3om7>HLKHdcFu**&<lpReMBO0<l>bV4VoVI2
HMjkglAeLr;}I>.8Att<xS>X]X])_.JI::zf2VC?W#W%.TB$mySC(_y`_:0ZwEXf[ZJjqIOlG_kg$~o!ep!#N%4c}hzO)QHB|r{$ubt}XwG5Gj;$P1.Ws_GAo7JC`PCCv5aG5m^qmhasM`T4'3{NYq
HJOi'xrod6%weVWaJd#bv`]kKWD)35wO'$:LAI,:GRD&6;>3=S}eolXDw;/DA+94HdP`I6wk[YBCjrc|33t]]G/_FP#oNOjrltqpOpdZ?mS3.fY/ZthoOjHB#u5nUzqG}/[l=+oHB`2wA(?aNRz~$$
nvj'%x'ezYm:,{rwaeo%{RnbpVsQq*&=iy$A+~('?FH+'HsiXmcT3v:mUN5[P<M}t]yHkmhD*hNZg[HuOPjRu6`oJa3+&INr'C8kA+o1nbv41miGrB[=eoyTG'Eck$~doLNbMJO/pN>o{4Cg!xrmh4
Kj5:QHFBy;0xWA}1h#]$ckA`z|Kx/*_osgu_=r]'ek!NtEqq?m/yJ9u]hm6U5L9!NS&YXFMK.3y_.uiBm`ReP/~OY[BUikgW&2^6Y+e]OM'+wi?Vw'K{DY:J?Auf?K4zg`W9lA3L/w`_b29zZ[arG;
.gT.!pJP((}W(FPNFvrnrpZ>I^SqUCOmJs4a&pnSpN``7q[Oxes0/Rx%i?mrRYeNz|x^ce]cySY!wcEOl^zYA(66?tFF+#d!zwgeQ`;5;r'm0dg9aS^*yW/]lQ+#3yO<VR9l3C61gYu=]gRhRp~TDa
953!C(qeH><#N'B3es..D~KwS<p}%d{rgxQ]2.;Nr]k|>r[:eM|t;'i#~~,Y~g$C5`4oc*bp&+Ss}_|%pWTw#VSXCQZ']uxa747_f=T1_`(WLh0U6/nDkR)zrT/('gvP;'aG6ez^Zd<F~SwmyndHF)
hCMfqslE52MVFD]_=ey{&[(~w]|#$kc[Qc[_I2UAmQLX=^%4rEkQ^r~ara~5a.WCE3>|IK]A_OZD<d^^A,9=u0jnZjQ$|ueac1_6n[)1L`m!WP72fD9c]K&oj5sfRNb|XJI$=&Nd4]ogcu}9ei|ZMP
)zAZEHqOfJn06u?9MpfZt!F6xk4v90z20sPh|C=JJ}!.f2h+)4b:gp6dTd~Du'V)$Fz6uGP0[mQKW;^qT*.U/EYwx8gGp'>IHua}>S50?#ojU9|DZ&ayyZ]vVgs_:V/lCqyoL*G;tXa{FbW(vIrkPl
i[2R0>|,59;`GfTW,1.hk9=`v:;T?&Np^kWvm_<'#(:6F^98):Q.|QDwCFh!Er62~c7L?gcE%*.tD~!?j3M^4Vf8qdHd9FXyt#ZID>p[Cs>XeIqMt7^_ju2T{VtGY>Vpi}4Q$)7`;<b<im5A+9SIh?
!1*m!(v:g^NLMu;rD'8krwf(JlgAMtVVFpI:uRe$eZQBb9N#rl+,CglzPnn=3'CN.c]`tUi`x`v{$[A{$~jU[i):P|i''Y6xEn):He9#fNx~v)w)&=D^92b)?RKX5A$V#Z5,vYZ6N?I4DPny)Z_yZ:
CRQm,vgwmwW~N{q+>?5$ngFMiV$cUj#arZ$h_EOi<?,t$gKQXcHZ9Eu0BVyt2_{(;3*Q$u/']>AK/N3I}xh)Bt4^9Kpt4M`;i2U8)zficuTxl)}~%l7:lgSlo,!hg*?pJ'}n|!4?~=Z/kuks)NKtft
w&MlFA.cgG|oHH!EIk:##+QsIB8%/xs]Yrc|P!0qWS89aDT2XSwH9A8oL(d{;38;f&H$~pGkF`=>/gy<t5hYx.|Y,H^i4PEC/s3ZX/7pQYM`]ZP(l~Eyh+2H>)^kJL*h0k2.BL4aG9:G5a^ScPD+|'
|q76/8>b[X{AmzH%fsCFZW6tC6'/R1*4Sl+b5=g|>Ak!kFwB6=(DV~?8FCO1<VB>V:GN$t,bOWbZ30i)3m{,*LJuu9+(L0G/I|<LVC>!ph,*'tAp%l?N&d_i|GUsyb;;E<vH43m{fy6xa*+&hn,jUB
*`=z&LdCX,EzoT%.G.u|Hv9?&cHz;/S$4'yjdr!s/>t$0X#3~YWIWl8KWllNxl1[=H}ok_mtZO`kcFvT|^xhaehh#^/q$vaz&YiAu]+6K73_+lq(!XT5MsBvgqaT[XbQM>!$0D=]d;/]0yMQaaXxrC
2[]D~&o+J9=AAq!Rh}({n5+v`.;:+&)8AQLgHdmbO.b9#F.$k^xam^dri`+#*,4d/yMiBqK4f,;%,^NWFC3wsX+/dZ!1iJ/w:4/lNiEx1I%'5{ba7[8eM%yqjX+!_OTG`*i4zM.coc;0yOvnG*wKjI
N]'yMO0*=2(SlGm(MyX+F,~3/bAsLt_Riehq!oNn9pDXQYhs>(3O?T/Ix<i#[Eui%5TVDp>?.R'SKHvS+}!Dy5U!G9SexlJ},SQl[E2,Z%9ErqxUgsGCx$^_WSY).9h?c8#.F'd~GI!#d{NS0O6{1<
s&$xOd&V6Kc0x;*N$'Y&0v5}Gj|^jnkT}x6l'wod5_o1YK{%uhU^kOpRfHoyw4qc&K1eBnxZr%y_.czj$.yjB{oOH6+&JYq]m;_+`Dhi`5_)9*f4'kY'k7?90?*M7<6C*>7KTCP!$L=Ho*]5f{VccS
<Ib/;r)%TuY)Z~v>mFV9lk[TMz7`l4sgN>)Q{n#5z07XZIJlH'_^Y<ca0%?&/B5.,.*BH}MXvl}}=RA}Q&oO)}t'z.v4u:e*jM9H[Ae)&Z30Ae'ymZ<KoG7Y$_0JAD;V4%XCx&Y*6eG;_[S;&Y~<LB
tyRyQmLQ$#^s!Z,pE7&U7K{jsQ:f;l/n(iTMr7Fm262>'k2,`J[HtZg;o3AA7nBWgE}?+W|wuZt7]4KkYU8}4.ePDk7uMW9?c>N(p9I(_J`ZJj>$pZGzpTHJ8f'N0Y{pGB[UxvKd=|VzkDH>,tyD'L
%Rn2{lJcE{!$R*Q*?5Lg'1(35pz<4YVr~siOr7IAbI]k!f~p=Gaj1f9SS{g5GA!x:KUhT4/|nN04^W3Z#iezmeR^X|GixaEjv^SH{yb1$<4/Uqk`0UwD)U?Gti9+>g~Y(ZzRw_K&G%PqGkI:~06d=S
sRTPmGf.1=y,R&H1{<TAkB3_/P,.u]$j6F(c>8HPlkrDY#shGXNE]nnKP3iZ![yVU!%Lp`O&k1Cp>ANHLqV^353q8/xtgnmC]2ro0Buff7b%D,X.Y<VAKUy|WQaD$0PQ!zs7v(=N6Z`q0+HW<AuF1v
M:RRqj&x.h6}#S#]5|6!%o.?o9|;uZr4F<,+Yx76DJ[%jP_R(1K/I!4DEx!>j#:jIkr!`9+uh4&W4r~fx6Y{SYN)t}2?lVvV=X50:Br|Zt.H0e33%+oP{+X3X^>O<1_^o)AL0#l4oY:4+Z2I1G3Bi#
j'9g}EWs$1Vzqekw,6bD|6kA>`%!>x?[2{]<0JgY3+8jS||*:x)d(&K2cv>id?zG(o*k.eCOR8rr.Bbw0%VhJVZC9l^b1A.8E'=&[#92KGotB]aP(fpL]#bLqs`!+(jvkrhK})SM*(!xIH.c^KN=Vp
L|%W5<#Up'6[:}aS+)*Fe^{9*Ui;q:OBHI06~_J|#pz0{*q!x{w]O,^K&V%B!6eZqVUrH9:u)ILg`';k;5zq'7{JK?^~o7V5RCG{(s^oF~zZh|.>._akO5#rGczF;T8;onQrMdPQs43OH.zu^$6^5a
TMSOhS7ig$_%[|suU'J==)Yc$KvCkiqq``wG&}[gi455WqK+(1*ZjlJNpAA6FeQ8FZ3[G+gz|y)_Xu0(26v:'%Twu[(a[h0:c!KxP8r1mNprfJ%Z?B`'7t5fC[yy(]BV~4vLe^]H!qn2)5O%c2QbF6
cWqbu_UoT8LAEro1Q3FuB6]w??I:U?`}QNgdtZfG_^c2d=`i:*%>#LiJcGP3TQP3%w)Tec$r*F';Y`hBR}vkv]wn#$8X9hTo9L'ToxY{sMIW!TU'$YZd<m0s3*y%O8j&,rFH3(xX;rt.Y&v8e!tROO
rEn5(xfzAcIeWl>R8lj*1];1$$Oi$S2unDZyO9d<G1Aa_!>8a=.]opd]lVvvsGu~rXH04MvGLkBoD<g_^v5Yq/{&sDGM{_t;ikzfOW6ZNxKAC.,15^$d8tk]AHvBIWQ[wfSdZ!TV=6}&[c<OH)qG>V
P(ytq6WAD,GCdB&<nEF^xwOG>_[`4%<6+iJ8gvs?#PdSF#2m<b$a_8oFJI5)s$mRxe>'k*ys1+I0U.wl%983q`_%h1i|T&_[pra%0*9yU)h5Y:yo[}]4ds9pSdRVy'#9N5w>.tIB>bNn*6t~3D61+u
Bl^4(;v=ECH2_Fp(Fvu7+d^gi<M~%u.BQv7s,0jaunJ3>)]%11<Q*C*i5Bt#%hMTE8W]jm;46)?m8DCbR+9:n,rRZozn!k6;cdeB;^vQQd/P,.w2jkImN]&?+:NJ2BGd`9'l}6G]Jzl^Db*z8?XE3`
ke_xa3[um/j;FLTKzQ'oJKS,;nc6$77{}O{ZzN#,ML<+S_JuD,BT!q.8+P+&?2}l{EFYAyXiZP1UjY].MBDnLXAsGo%4^*sD*xg|jw5)g*x6HicRiIxl16,vJ!H%D4jt*mNq=/^clX>IR4#p>D.G[g
qnJ4NhN;?2e5gW/5DF4}B.+d%!%9F^uqgCFh'86N'&Kz1}yW+nNQ4w}i9r5z>oN{nQZKB&uje969Eb/y4+(xJ<'Y!tM6&'(P(0kI&#$1'M0o`'k$~KWb2+!d0?7~'&S([X&#nZl{c!B6Y`tn3P?]YM
~5B2.cpd5XX/_,}GiJQ'noOR=.>76qUwvAcEZi_xK6'i[!Q7o)t`:TI=Qe`7hxSu?4QmFyWs[b,*4O|HC^/Q`Jp{~D!;;}%Y'=Tqp*(es{f_!B4[[nVVFcY}T>=gJrt3Ak9gaEH?~m87_:LN%:`N|u
&qtOK!/L?uY6SIyRJP?I[^//l>Sa([,a0oq87N%lCMEEU#N!Ew}LCH!piX=Hqm[$?Ew^5~/[{29:FovYTkHuk=HDaN=O9K6IV]!vp~<k>&0n7Q+'#%GoB#Rz+/T.j0RUq/x:1[beOZ{Rpf:BL'+DZ,
JvJFlnp#(i%]5ynvYpBMwc.#KV/^iK7y!B*mX1ru5mLApv,Zb>RH|hLKulCvD>}2bFq/JihF0cP8EVi=Ld(m6C'l4x3vIgvF[FSo>7hTlo}6zGcN[&$c/l/X>~3Mo!HdKsHje.nPTtCUGJwq5/2[6%
A[G&jxdqP7a+3x&`dV?5RI|+D=g<C$+;fP24;B]aD,N)}6}gQOAn'&$L{9)V;==Ab('vjJ*rO](1qXN;2idb?PQ=D<S(np7HkaAy`WbWr.b&;zu:g`rKWv;o/a)8si!PJ^J&u6B50[3c7/m8U}#,6G
Ei9aZ1GA~)ZRDIn7GWjidpxpDc`9'8h(6Z<bJ'}1:`!'eakKj*ojIq#/bt]8^Ah_yH[v<x.eSSde.XM+6}9IYZQVC5Uz>QP<rE0|9b3nqJk5/(}!<j,z2GbP$YnnihY3'.)1|kUmeWiBm4{dm^avp;
'^g}nQc/?iW0oClMFbC]1QctX.%o;V'`V`7Id8RKgT>ffoLWOS<l><D=3St<N|b[v^gm}3O0<O:Q&}6oX(=d&;EXl,/7cL?pve*#+]JMaoi,KxBD]kE%~S8</$B9miz{a[n:1MKln$_zxT#gZD!6Ux
{jGo9d;FpX)tZO/G{W1oEp0Rj<(E4dl])WxD*P`_Emz<Z`w+5CjkH]W)?^+[V~K6n?vghX.b/NOs)k{=>2W|X6XXO_DHkD2?(j;{^K+|igT}PS(*IHZa;|Ir>CXV,]*<k:&i*amYBW^8G[p}sIaW0W
tpvg&d/dI;c<n!foJcj4_%|6<E54MHv2dI+>]FO#&T_X{6+(||rb|Mk9m>Xh&V.ZV.da]d&:e9Y4e'.i````#.QwxLf#uGzutN7:~d]oaO&kfd1jv`3BFX6ZYR+9BP3+KX?ZWZBmcCx}}:WG)?ZjOk
As3&^ZZ,WdN;P2kBjf'J6!Z8M|ydYonfag2c:hP,!wkq%URMk;0>#]&%{l+A>wFP^h=8~/ypM4AKO%C12OezdUNeD|<I1cXRad|bPqydJ[J~H>?V4z{h9bhE:LD~+>Aju#dIi>On#}^63cM4sa%`(D
wMdXELe_TG<0b87jX<c}DaHbm/jsM'>=>e?~|;#[c&5*nt>99zdGAu*pe=Z:j<M2G{:S/}|Qo#ifeijc/LOcN5,vC.!;kVmf~xZx%35?$NupH_/:4Mm$qIdsdYpX3t+X0Znv=V8n)#l4^vIMlN&L4T
8ZdgX;|R.Q%hP'v3R(qsGvl_Fui=/U.x1K+b8aau/P0V^iOMg>+Ow%:e>[d1A1<'&h~nC(tUH+??MEx+]'Ket|*c;&PtF?E5OYo5IpRr=Hmk<27rHNDX2zO$m+_pP{T:&D?4Bj4,DR+K6v2osUiq_S
lKL)G7BW>Z[q|5OAl2fccI~W5m;.RSKMMp~b3(xBl/^bof|uLyC%CJOp;c%Uuaf0t'xxuKiOA8EK[Xab$KYq8HI6<z3pD~w(N1E#ey7L3G8)]YpNQx%T1Nw_d'n9YSFA4$]FQ69V#XoHC/w4NNHy+B
Z>x4,sdx'2t`+K~a{#0MW`]2id<8/}%OGvtj#]tNf*/Y=j}=8*9<FNF|lHtG1Anr~[O(GuCA!M1w0Y'*,RC4M$`U^e*&E4I*RAD`!%2'm{/:g;6[q4N5fxfX{/n0%5IXOW'&BU/U%O_t*H,aD[MRZ!
u~v<>,)tPyJN/JBp{[&4`hCLQo8)H`.KHu(gtl];Y(ZWq&w8[+d&2GG$/9!kQkWY;FEFDrQ0L!_M]aD_&T)u_8p|t}&D5VE7pJjQK:In<|?>Gne#ha83Fll|wr'Z.Dt:i_b9f&.tOuMV2U?EASb4x+
=QSv|fxBcuPd%iSJI1<|UUP>!f]O'kFzl9+[RMg>*zCr'S<)hCC{oRAoT1|zX$x7>JI=nB}x,cK*FYCoC^%sFHmGbyJ/o'Lb0X+ZBarRFhsj%v]2SS}Cmg$[Mw/]3%VS!XUE:]GmG?lW])(3/oO;s0
luBYS|d*`>d|=e(v`hQmYF9.{EZ:AvWGa=gQM?#o?/'+66A/_EU)nUmmcof9%mT|EF^tJ2r+W$l3;?J*2B*>2=r,YyG`&<`C:}69I3.}R+~BK6H2{WpV')CXCmIG'S}'Nbo#|oWq<>Y9.o[8%ux<E8
t6dQ7}n+G.jfy4*/BU,/cg4lRvQp?T`d]FLSgc(g_Z>zM~XtGm^{QYku5].2LP3:<mUv;EmcZ?$d2QCs+1e[M>ZLN$o>u?iet{:]iwHC~FTQ`m(*Z)XIa(h>Z:Bd2L?70W=ZRn(l#y)W)hRUz]VMMa
{0OU2IL57Wsw.{I{bjAHPp#6'7fW2qDtppJOp0jrZA'(1Jmp~y`iXI+SrLG$O^>$r^Tft]<DWq&P6S`>{`gVzH'`)owC7CBz[:D4BCS,Imf$oD5b=XVtAV>Z|05r!G3SGD$UVEmg/P?hh{j`BLZ<,s
~GEYzx(M<u8#s,<~(^ch|iJMd(DB|mRotu]Z1>Xe+&i+Fw607Tyz/KUW8lnn}7ooj?4gyPT=Q>/+)fC9xeltmGBQwTl(XgD%y1HtmEKm_!UvJ{2UcPTfI'qm(his0SpP[~:Sr$5idWs(F%QZOars`k
nDGtoov|3go$/h2tjJq?Ml>gIHZ&6:8(lz=4`|k9os%_!A^bHK'2h7XFuK6:O]PTfK=c8g`#wr5c]LW.V&[mlF5J8*&Enr/{'Ldc4jWD`;&sj&QiZp4e7X`*k.eTb?rSAYuaYv8,;l;G`Pt&erFAvb
:hJqGlN{C*d_X7K<YR1;EMUU[+(+YkabR7LDy^'7_{1$8.:,X=$Jf7+eE)rHBxyxALzZl,xGm*~,o+e/tbSf$0*}Q>6bWuz*c`_%l>0fUvQ$t~Iq2jWE/^)eM84~zko`nf3jOe/#mfaB*^c/xiW?_o
S>4)~}=?*!_Nxi&|ZWsQ{]zNx^y$SpSxA3WFl(`B`N&>Iel0Wr*LP'?Z_FAy1)Nu#{E&j`A1GUx&Wuos1MV6oa0|}RsbX3vTRoCIF#nzN[FHUC'ae?_(YFA)A%D6D>d2%`Q{0Xfd>':H,~_|I13!jJ
iLj_d)!GnqvoZd[^()A}c$P>R*bM>R/1qz~d_r?2p$P+,t=uYpp^!,X%:W'K=TcLF^eS{Nw[klqzCOvW;DVe523'BCK*N)rDuFmPV8M+CZjrl?>nl&tiW4+bNB4Be'#bb8JF*s>mh[feAH,+Tgt^Ex
^Dhewim[5nlt!:,j1Mh=f2W<UY?HRs(Ot{Frx8PLK41~K/j1JZC'keIgnX)61'=T/7^mU|yJ;)?6A]<S)xdd^fG&HygJTp(w2qi0YCebnoM;u3t7~C%7XEqWH{aF)0W0CiWa,k~`1AKV6.0>ujs<Kq
ijH4N3r%l5qRyj|=I5IO'NPrb}JwebZHb>LqW{C$,E8LxH3ev,6N3sCl]TJKkB06~]/EI:pAPxgC)4Vo3tty]B+7'0X;Y]Q_<I4xpXX)S!X]&4g|X#vhH,)Wv&V},ODSSM'AuX7}<vK3s4&3FcT8,}
>gdD2p0GD9l#yN0FBsE7ts3E%lZDB+fU:=`gK/EkZXINI7H`pku&KEPfJ%^6??W2HL3r>=Q13DHxCt.(S},`}AcH+4DlR2tT,moJ<<,lI#!+=By(./&Fr&_q$%jsgbnI,<W#c>qvh=OcEtiNPz+29z
fR9d.Gb{#oJpUIioU!qTA6:IubLgB89<Sq].TQ]=0fsidG,mTlV=g`p<J({in:g*inm0n;])L}W,U:.E]k1hJi!.QVfN>,rs`0S#pZR#0A8sK`U~}z$zw$#rT)&)(e1ACNjK5t{Wc.4tt4YXck0Is=
NLrGmY{3hlh:gkHo730Nd'rX8_,]?'193mCk9*)~15R~lx7UPX|TYu'9Gg{NB&>x`R]VBGh.YA+~eq,Fd2^4N>tfRtC&g'LB+Uw>[&,mJ|!sH3=P[1dkX`e'>d'akk4nyRZNfYJ'Ko|x.+*C?3{$UZ
Spu+2A9/o1PTy!#>#'P7y^aLx!RDjuNGO/T7mgaZJgC:kBT;f:w}>VsD+uh({BKvQC]ltkvz[^[8+8{.QA.~8Jc:yP$>}8gM0Fwzzxv~dK?5IcWAhj,ddjzh8`bkQ.(dS[K2Q!c*=5F,b0'n7tUMb{
)Sp.os#O7bvab}g)A.nom](iNb&/{v7OZ?TSmTai=atR8wzKl[p5NI1O(%Gw7m]%rOm%koJ>d:Q=7oP%/hRt9:z=8Rvx<E+y?:1Q.sL?;q^e9[1g6ae&cDX{[33C3Z7/G:.gPa#i!][^1S6_.j$lv[
h(=ZO%U4Gx!P9=x%h7],LLH(hdCS8!Y[7j;y=elD^?P}&4h^7kY|gwlxg'vs'Yb<0Cy8?,%&W?k|GOC<Zl{[a)tW*|{h8n%SFm&QrAzq>6P{uqwk'p%rML/^QJr~l/3t(g3g}!tX.z$(Wks6[}F76r
.b#S8LL9WtwU?msx}zDFDH.+tO+kD#Q89g<(O>sP;M%eR{9ncNcUYS|e3Rx&L298:X2M3U_PM?!$;6En5FW3qHYUCZ4T%]Tg!XxglU{3*7hHIGy`pM{ZWf0hmp+qYPteiQbiG'q_xFL^8o&OEqVV[y
EVwlm,3v|tF1WI)7>^_<k,yg~lQrWcO6$qbq{U}{r,vlU/l%)|^T^;U|5YZG^`g=+j<'XPwwm6[A{8b.Fh.QA)ey*q:ed;QPge9WCEgxQ)i>p9e!'IR.s[/xT'}4=K2u'jUBj~mp[4YZYsD;yHly&~
mzPK51?BIN+eYCGO~w_o3U#hK]zTE9=(p{.yr8{JDBtrOR9<(7'Y`Abm2A<s>6_eywT9HR_K~(o}kxn3R]aq#~nc/.<hvmP`!~zaxutYAa/i{a6Zlg)7Z)3JfZm%}&<4)]/x+DMW5Rt[EnU/u7/~Ie
2<v{)V4{X;gkzFDc~5Qf_c[$<7=B>>KT]j9;Lb))cH|/W%tZAxH+=/'zHm70=:4}dTjP1;^~JE1rOgF#G:B/GUqfs!ir+9A#}^!J4#U2Zh69mF&!zdk_YU:m>IBz^;5cLWzM1#mBFu}jmNtdCQb=C:
}M!ZM(dGG&*it+roZ=whvH(HVa=[ZSu;7_0vJnTg8=VUA5JpEIH'v!|:#=b.|YSv|qUn_yo]BO$:q/~nR06/Wz%~KF1/>1eVqHlj`$ZpnV<=5Z](KfeJ^nKI6^vO:sx}|Jl/f5YB<rVUo>Cp]N<8PH
T%W`k|u:{)iws,xgD#c*8?{*,wq^2Gg::r:$psWiw5=Z]NzoyPJ*7lo%/[hHf?1Q($.y:4]4U9tbkJ=U^#`YlPU+5#.?t2hSz!)AAv^;*^k+oMJvR+RJwPSFdYP)gOjwG7gF%zY6O1r`KKtlhFG+|*
U;D~_U8('s:)yV?BQ}4[46N|HMxMpfu|8hqz3Fl`plkIH67G^%*1=JoI?{v!*s**u){IJ7,Yth:,?f/0AUR%qs)P0AbZyszVz&Oy*KtgQF/iMuU_#pVC(o$yXBImB#MY6[(^D}tD{n/h9YwB4/^q<4
]XJ5Tp6kA7)&xm|h_68;c%8;4z_qu=EWPc{HJo6W&03x#VDF#?T]!$Mn9M}dKt24*AYPS*{`nUh4hQq~7m=gfc=jqkKm*72ghvl~!kFv[{Je$N3}F$PMRgGG9UO[%:(!8Gmv;mqXG<!S7*A1;'C+F5
:7H?xJp.~fy?W$n3O*9&3K%~h[i962rwz]CWn'dnPo%$_jF6Y]I[B]=]w4j^Nqie?OFW.Yn8TR!Tb^to<sGU|k!^rym2c%]jZXlYudbmU%kQrSe$xR?FL'v[zBzxfO/zy0*zRV5Ne:I;z,5bDFl2#y
7cxnrU!FeMuFyqjM+1_iSUBOr2;.hK=3_2<dr'7ML=r#SZ/.LWg/q^h;o5wd=PL[cu7c<!QqefVBt2O?v0C3L'CAw'DPupSv:.UUbCh]iV<9a4!!tENt#61icB|j&lyWxZY(h5}uc*Pn5Kxv(SNiA<
ri(XF?o|'=AIrsWNc,6i~myH:[es?x$0O}$O%e2n?CT!}XgeVTB4!WJ+&=3{0|[N7W^1jO(3<rH&=,kao}4/ts(s:^M,n0('Eco*z)+.j7fiB~CKn}b6W4*5nU3RL5NlR_Z[zV|0!FQ7mmA{Y.YY:1
97Q/PJ,Q#u%U9wpZP++v!p2.&j,PXzs]%OCd#W^lM{zGjcnY9SgmGj~?J.Ys0{/5L6R+A`P<tlAobV+*Wfc~8;n(sZ2T^5)A^0Usbq`S=M!+o]ocCP)zw&JO~uYKz'w~#G]M;KCzceeEbaEQm{f$=u
_n$Oy63riN2,;H.9MKNrU2,)Q)5BAn>DE{OZDJC~Zsyt:U5c8v0/M/$}`44E,<jF_[t`U)cQI3+[yv~Q<k*N<8FS/o[6A~eM3MT`w}Xtb&&OP0?6T2%z%IV%p91dnm_3TrTR8p]E1Em!v$F8COl<K7
C[4i0zl`J3hGqGm$tcZ2q?km>|a*/:'l:Bs.M}6VsJl7U;g`oTtfkru_Gffy;'e^oy_qAP=:&SN+KLJ!73E,WcDEswF<l>:y!j1t%&}rjaV+^YyeS3A]fWIF9^Uzn{'Hnov(,{wgOpEIu{+OcDs)iD
U6E2D^C8pm0cHi?J^ALt=K<?8T74<y:~PQ(G,KIV%pb=|F=T{;z1x`H3jk43;>~AYDSTh{s143h}81R?ShiTjY<IrFkY2yuJbg=X,z6WMU?Y:9zjsnBAs3F[z]Kz.2^%Td?'ab:^VlAQ#XO`WIW{ZF
GIF!CcWw^(^Hb~WCEXc9)q/,1$W':t*..e8b3hm9)L.f&Z6*Umd[S[VMH~0]A+NfSINObK/r2eFqOOGy*lUO*u%a)&0BtPU48Bvp&Jr`}jsH6A:{%4,d)/MK'!TLnW>5IFr#tXKM2,h`>5!+iHGWWz
~cS8xmF&9&&b)m2!e20a9M}wtf2^YcbW]oUbhZ>$*h_H&{Z$.DAVeT>OC:DOUn;WPSDG]fMS:=qK::6,5&,|6JtyF7`lju3)hcFXq;2.#&{*empTu,meB.|dZvisxXar_P{V&=Cz?MpG,F(}kvSSdq
X'w*;9~I'QgOumtDxY#wj/NE/8OV23D_QGje<Kl1TdK+oiv]{haxl/K[$#(q?47sSbzuazoT9D'Mm|$EWm}|3yl9qY.KhWp6/zxko|K}EAg$s%6#pqdKIJVG8*DbKBd2Wc}^+'~#31Uw[,yc~qo6/:
rNRGR^a]9/W`~<^0|5Kfmi?e^fyH)+x_B/~W4,=DTn4UeLrQm%bW<sS7TF/7Q`;jJ`i,vO0nTs2X|36tq`(IIp+!tyY+b)U|>w9J_TSj!MB<{7,jA:!T!4X)6pp(DZ)32kvD2(?`?/}Xy_wny}<8A;
Rsz:Lhjrm6N#5MrW>|wI`Q{7xBsGwm(#z{^ZDgncznkJ%rOu*eZF>]m&#8Ov0iTxn0M#o%NJs}SNIVlB4Fg*+/'X(I,~/*Vv3(d$n)w7j;J<<6lc#&]KZl%koorO^jF=%HoF>O6_EXS:x3A.sB6%L!
y+F,[`TlQ~T`:Z>NaW{{#;:vhDKi:E7Wdp3k.>48sa2)Ing>k*D!6!.nAZfO2;8#f{sh)C9tL)[AL=2EnVeX40k7|`iMZsu$nY]rb~(.uLF.YCp<.knK_>B?A7|8U3*ANxYmZCq~I.0r!u;Q?S2&#Y
cfCzqFFRkKGy!5b[FTY:8n=D~Ah6=`=Xy$sNYJPT[f<BHe7rMXutIQYqh+U;;Z8?#/=39GUZx~E94~)^T+91M:wfWF<R]]m[]~3;<H84&!p:+<f)W[keg)mE29)SQInQ2pNVBG)yQw{tK$i[95_Q%0
JLdLWN~rWHDw1?c,>QU5s!ZRAfu2(Oi|7)wMeJ&$GSA(twiHVmrj7Nm3B$N~m=c3M)%?W>&x.C.Kj$.=JAU!=1iyCx'{B{*RXEN49brx]d>FvGW6IUbqTM?K1Zd)M1Ki,|mj&3~R>=[0gV!AhBa&qf
TW5b|l9oyJU;5rOm2P<=H}fGVLG25!8pz!WZE'Q?~nlJbt++vW/,S?:{{]85)Lr8yAlA>^ff6<Z5=no`05p6^{ggyA=:|p|Qs'09mK%7l3mKeT6|c2K#1oS~_;LYPzumEYNchs*[{=Y&R9b30Q9mu?
ID5X*.WN8Mj%AT&6e{{6Jw!Qnl4U$t]IhX>B%Y]1m^UX)K>^;)!}TT5J9N(%^J]Lv`0J4/]24{,foA0{x~Sz}l3CrRgMsx5}Btn5iaKzfVIYcOysLSpETXn$y&4<c&Hcd9/F^4c{hLet^?:M+cUEW0
*8=JR^spp!ujp*!xjPlp=t}s/rWVcp__5OlZpeG:rGW;h0T?ah8|hSZO5N8[h$F8c6El3yHU(znzavt2<&R4pF3^Wq_O3FsKa^GK0pv'7T)u?EZl;<pjHp36sbHJdlW/$WQy,jJ!H+6p+uoMl't~Cm
V{[FL_g=|L6B&l;(<nW_uRUiC},_lPuP[L^K6Er%fHRTAvz4Wg^c}:78n5$Cvy]Mv{pn3o*FZE`u)0oUh<fl~Ud[rZ2%.(3pJzy/iDxXi0d0Il~>guw<uzb^WN,9GE_M_1?.`ulIAKm6W|?8IyP)y>
4gCAN2f9$INe]hFm;86Xvqfl~Ra*WeDEC<rh[azlQ2?_$*<h66U_K?yIvT$TPRO_R{|Q;7}psQz;Tq2a8ye]doa&~`byK6l}ps0Zj+_Jxe=.y%b*dF`Tya`FJ^3*;r4Zx{gP>g$01F+jA[AhD<L(/F
W0$RW.W!4>n/~%}W,Qcx^p2`~T_?~qTB3GOzhQx5ldsUPAZeEqkT5>i[c/xpeE;}%CMO&1~46mOqM8n`hN$PLKv9.v=)h{GoH&N&I0dB})vDKam6j8rZlP_WHUkbYjP69|J>HoX.plXvKC0rS2%?9p
0}%6!AQ]6uf3lJ&~~Rk[j[%w]!wW_w,b]WWN|5u:ucG`5&^aO!#c^lKS!5tj_1$vH=03)+h[:lXz:IZm2C}2fr:ry3QMGPRQX>2YZ,xsq:]k]dN>./;j:cv^/H[L4G.d[lX.NaX[qvZ2pA!aypbgkW
>%:%sL(Ry`k&~*XfrCp0TD~+]5e|RS9)O+pl*0%9,RbCj#p}W[(zVC:vPjD5(y,teRmTMwmeZSOzR},#cK(|gz6$X'oWw/R&|]MXIzA$>p8d_/~>M>Gx3_8~/+e5<Gd/XfYrg3RHa{zrWaJ`]X1vwx
3F?auwKaA)1S3xc^NB9XYpI^MGP>E:CLG_*(GOjN/+>u,uiC'dcVQpBgh4y!Vk9)+v]S9=c2,?k~C(r<&X5hADJ68OH1OOwgMYrBTroe</=*sl?EgCi1d5*Hp`ZE{vGlm<+qF9d[q3NH&fL[3%$RK?
,)zqtd%$V<_M6d:]:tMH'<W3fUo>?hGmzU=+xnKi=At8>QFvhlC$pzmz,;EiRIfVk0h?[)2hn:w_U(CHTAH#T?IZqE%$H$*=LA=BDQCYhRV7I%S=9r<`ks[I;/pL7APXC[s(!r.:P}bv6,Sh8JxF6k
Yapj{qyoJl5G7J]/U?g2DO*IT=?ghSly+R:y%)>T%Uhg*8j?=zUn1#bfP*7d*9K[iCA%QEp^Z5+%7^9~3hRPf`Fe+)YI>v>`ERNnMq.`8F#f#k+41E_GWX$CcJA}Ps,>nz*j}T`;*7~$ck>2n|eU:{
k]1?h<VCYZ>Qod*fR4n0SS^GK,<XBKCh.L%oTNmA13T{'>^FV#6xdiP`dC>`$bFBjMoeC<Dk;'S&BumciH+*Dji},tC_'U7LUd>K]d#|MNzm,g4J2Dw>zzBbAp3A(#kK`O~dxFGrDvy[5WSVk4Dx^s
oNGJ,gRi5iE|B8q0|=iZ50{o_2V7I`cAP%4y$e3hl%YTaD!aIq:Fm({HQViyvD.vx.vWSA~gS~=#.8r~AO#'HY[aZ:tAaK/I2n+U(o2bI)^2y<<v!r!{e?JL)R)1#:q/v%er+sENqr:$E#iexLI/rm
kie4Go}DtxyN9?d:sAt7y<pG]Qx;A+s|Y+^zL&f8ZiF!GbM'gn&(8|mT>M^s9bu*w%3%?Y#^aqu~m4>aeA]ox1,^~QQvq=^,dgnLRpvPr!!yOhPsyPQ|7~H3b'0`y8!P6u7t!:B8nZ6b3Vp}K0c[A;
1t0p$TVl|a.w0~hP=%KjSg*9HpQp3wM#&a}>;;R*FViQ6kI((n*,.'h=djB.16*~J=`T{a*F5s'|5vtk;M3IIISyjD`}UPU,hy{A;EhA?;SV4t7KnqCUW~v7OXU:!T27eOJ3h*._'gKbvj6v*N~dwS
==hp$tS5dANXcTl8*[Cw'q't?YG|B;;gQ:gg$x=Zv45hQgh_IFEfu]mSL#sVt3pvW3vJ*b/Sj]M$UP08(gl3xFuznN(K!xR6qLXbWqh/8_/;#^!P`Frl}:3h3uxq8tX2jDWb`0KgS2zyR)1rZ|;0Ah
>e.&t/NIXx9Ne9e:k7(*cfU)$1>sFCSm'/02y]$wltd[kGNzZ218kxvsobfX,~k(.;SA9CNGtS+dzDGPnC'{KeON!8i8(oXQ++|WRwXm=o,S&R5XPRi?#bp?VyoF;KHHNy.e,eu/2LlBLmW9mz~LeD
A*PDpN:;kDEwxZYjdzIX*z<Rj4CkVKzyB|AWsrgKo`gBJ8rTbCZa!C$93':d7z`foGo3~,Ts%wh2cS|cmTVcV3]U<dfL_FGx5$f9,9Buph*b;`mOa;gs]FOi3zK;4d{GHN#Z78+qtZ4>by+^S/&,G|
<w{C|q?IsN4&<IG#GopB~Zq}J;bK0ERmaY3>'+B5jT~Wj2zHKIZ:PnF8?m{&v(c%GnTUBbStqa|IM6Km&KmmdV`UV$8Ug3M,iJL$%k[8%M>TN/qVP=Fb:Qe1kECEE_LEjBEJ$vTFHDlxCnu&#i9X9)
/<{[h'nWhri[!y|o2y5:hi:/jANNY/',nYY!F841:lGU^a=_$,Ag)R#~#E6mBQe1Dc=B'EDw.=i&ChY;}vWw&!JPUgbam&,^JkjZ5f}uqkQ=fQE`eY[Iw$8h#uLhsTSgE1<h^OBF1HMfH<}9kQX6B]
I8<zU<+k6fG+&z((~YZfBt[D?[yS)g+W+&(R2'1qGRSU8{/[IZ1sAq,EW1VFf0$^%qCyuh_MuL*8tb%c[Z*=mnRNl/13qrZFzyrm(kK.p_sxGPN+l*%P:P|8V2PjZa<b,tH=Mp;{{McMYEDs:,=C&l
tH_dZTIr8Rs!GjmW_}|%UM68<5<[:#Ci3]VU%)AO~uq`Lu(0vbzf?=zQA;4czR4bSnv?O^1sw6czSg!|;xZkC;)px{wl6G{AWAOgi87&X+vXMfk8k,`z6ZJ:w13?MZ{5xb)|_d!Cw?x;~A`)LP3UoD
v=5.i2yK=0En9:=kz'R.cFWX)8GtA.GUksJM$^,'{o*)liI(3GK^!W5Lg?2N[i9TFaGiC0X+F>Ux2VM=Ct<G,4H:&tHSAgV2a$jsJG,M<rH!C/zzRtrzsCA/|r%L_U`_Z;m{!D}.71pp3IyW1Y34eJ
}q<L6vHbW0y.:$,,5{2k[2yZ~d>E24sd^C%O]}~D36*]LCkG4I?eP`fUO2KJ5~J7jwCC2QW.WHr+lk_E2*cSxN=!nk.nAGh[&k%ZckUUN9cep,L#W^8n?1;:Ajg{wt'C#s/w%8X2$jwHW|OCPs%M4j
F(V?Xo.%239PrXH)+bxilraJ<hmZvZ,&lAi'/fqs3F?*0AQYc5L%0,Yu`Itvn=$utp3F3%?7Krl;;7:z!'>XL<e6P7zlgQF+gi]X[I*ut~>%d7Q,&&Sy4V3q|'[JxG^/uC3M0qAxL+NAC6/ifrOhk4
{8K0%Z1L=0PvK]G).!+x<sw{Z6PJu8RAT0?MCZm%)~Z<r6)N:V>wqYq?Ay.D/*+=eo;+v~P)DB%oXgfJr0>,mqi=Q14r!Wcz,#$9'M`Te]`Fi]H!+FzRgm#$bvAN72z<iW4pF[D>cl.uXCBe5~_QbY
E85OUb;9``h[XtFRhhE&6=nF7ck2&`knJ!/3=bh2*j1.eSI.Wd)4[{`Cq,x#n[105k3p+~mYM9iPncj2:E3wqe$Z'Apkb%beG!ox]*+f1nES#~rnIh4}n2h;P3|p(fzOa)}An;G?>u~E1Ft9;0^Cb#
}>;QdHXk[AeX,^uI|,Z[aY3Dj+6{~E7U3&MxXoVNn.voTbA)[}l7j!XwW9zGw)NK:kH=iyzo$o~yv.kO%j!tmKL>{LsOHV%`g_hz*V9AAE,Bx0IhtSB],j5?Z(S42W^,=%y<'U=QNB^lo1_gymJQWP
bk`yLdYczBGP*^LEqTo*^x]>{SW4VC!.qLxS_U=_]b*3oJu[KISXB2lX`65BBKSb6I>_>v_{52{80A<Dmcnuq(p?Yk8P$uFD,,>[yt>o)A'0+YglDe)1;hE${L7af3+;AO4WsE://?v'8nhzC(CCuW
=p,GgXzl{cl(M5tb20x>)*N!Jb5+ymKU4lY2VkH4(d0E(7]KJ*)IrrquyVO!n}ZR'dEowxMUi_JLwrV2E.93M7>!k`2RvD_CPy'3vLZOlmV)[:H.koM?Xi|HRx'dSV%^yvT(EfhE0;nv~7da1NS8wB
c<ehJD3&O}J9A2J+[[|(p*Z#Y,#?gTw+6qQ`l^ZOV,71(Pj#lUw4`P3,?$[bIo`,RJ|I`tSRCs3CYQxmZ3f7jdNv}?MfuubATh5S,:Ty0(o+dMbeqs~*B()^]M|i3oEGC!MX}^q:;[UWHpotXh741r
0!;9gWtD0rFM$!6U5qs9TL(Cq1ryaU,1oBh+|!An^mxRP4+t,AcJG17v_^.9BWVYOTb16)k6gPN^`m6wXFlIJ&8Fr4h&gp32,5nii,[6v{}tQt2LTTa!{(elouMIrRLOCOZh_d/Y{rl.&r[.{]KKp8
9`.iS,/SEay_zCHY,VuDU6j*8~+I36*7i$'P2st?wUuk`78Q8Z+g:LJYWo)vGZ(8F:wcNC0/qIIg=tN.5^k>JP/vDA`X,t&,>Jxeb&jLG(cWrd'd)jp0pcTA`}P7?i%)2BLx))q!']>9F.=S9r;kS7
q3_a<Vk0k/$*!p]?`e9yeq{:d*d8r*%I`&w?a<|!xbNb^4(%B.OO/qk&es;,xr8`1jANlX_06KlYJ6(+<*)45Y`yw[M&^m=GUwL:j9:BTn8ne#:NJbAm&N4:?kLS.EmLdRap}tl4fwMgue8jX5RGP:
p;zno7cLIis+t~~.~+<d4L9G0<W2BMEruMrOF|PLuq=,.OF_AT1[~//=3C#x4:H_M[zB_Si%x..W;`'']UR:<p^}])p!8KMd{z[TnJ}7Tk`rn<R0(_sf,;T+3|'+Cnt5=RlY9daD};/C*?|x?d;Q|$
WwsV623.eSpOgCA:P<TU~?v!&h$Wecl`V!tQTwry2v2[0MWu~h`kmfD|C!P7Vo}n[ns|&2./I_5wu_3U95ob8t$7l9_mtlLT7s^)A}6`r6Tqja3DvUVB]K*n2(XHy,SCuGO3q0OntN5v%A5d=0}>,0
u6.=KaCWtM{SrL;{uvbDnG,bTd)e#%5[|r]v73*:wm^~`8&o.!et'sM]R$t.at$~%w:'VxU~=ykbp+y)wxk[h78z'JNm3`PFpoNxk+ZQloi*&Y;RJ!5^G3,<Ag(Y);r_%.+~mj8/T)_ldRE21$r8.&
{1Pw>|qWEweQEAu?L4;0tOn4Rp!6GLyyEl<r:k(z;K3Mm*G];>R6ndavXbqi)|W.{r2Wl=u9%3!5^H6_lPU3&Y(^<f:?`=zS%czw+leyyYsoVPB2[r_90`[pRE!%],m5nZZ>H<)e&U4H+T+Y8vNs_<
=PYT!1zIOt}3/)Wj8EyOAv~=Ea]5;0SQqf[!CN2Og2QIl)eG$q/9]*GHVJSd](HCL8wvfcpOL7Z!:v_`Qu2sYe.F:C|lEyuMq$.vUpp{aphYa3aJNmHt,InJlm^:|KlM<cG$JbX*h}$I>XL+vrsJ%A
wwYv#8(lRbMl=#ws_[fyop'4OPfxA'C8/xefuLmO.J3P.3oNYGWh9CR&`3l9~8Xik`!}1FQ]6x'M'p70s'w,p09]_O(]z)RDtB#q:73#d*?_:8C756j[FMYpnjMvpvg8B:~0%3TzO)P#T)%<G_T/i_
(iV3FUph*ka|dCGD=8E5O/~Y5|,E_v1cO'/hR9kAH9&UK_ldgA#M]cEb?al+(~G/ts.YTHS`U&2RBn57M|ds44ID6usB_^+JJs6IqpGb!(Rhbh)PLz}^I6s$/Mz[6:I*?BFRoJoJq|22](AZ~cD#jl
]+M~<pejBS%,xqlzGbhDN`t1~faShdHb)`XVg60M2lMXVQT&`|`W]sh30/3S%EF8yO%.tM&g]z&rE44P.)r8f,3]j`R^D9D<Vf{6y4MUdLEGkgkh!1<EWw4<?cBA*R;8B%wHJMWvg*y$YUiap:+zg'
7V{{]7+7xAa!=+(huuQ^hCGC(S*.H9`d[zZE;b.Cr/3v=<3)&z3I<=ClN%C]|>8}kjrDYWnQ=MT&OXdHNbFl:`Jxv&y'1}_9ZleQzjYtUa>D]}C7]?d>*leqR?4wsr1'r90gl[>F+a~e,CR~n.tqC4
<obxa[o;%h_8VWa`f2W_d2liS9bL5paAn'9_~3C=ObVU3}rgT7*!l^U&7u]g,0XBS1`!wlcp>j:_>>5gB#UG#y{]#?pRh0X2BKt6_k+a}qs]wf43bNDF_hj7Q?;TUBSUn$pcTSW^%Ake*LdPx.Q;SH
ff$C]OwL)ej?,MejRv=x%#kA%zg?n]rqaj:EBc{*_Z.7=43rc<'mJ3pmvIboWFMqyW)|o;dj[Tf$Ob,oNp9]%ydaPMUHw{9r(2z6$TA`k*WkH|5kS*^[xky&,~d1O`ec+v,u)RZ=6Y;+anWDnJ}/xR
5(PPX_FT;aji$7gI2r)F+s_pdZUNo06d4>B'D61r}W#9YKqyxC^W<g[?48H^x!OkNkwPjc<'BLuIAP4|9|6/]|1YXz=BYL<l#^Xvp}9r`toHzV,Yt!2`5?47Gobb'Yiq3?uieOfCf+YD|w?3T:4pU>
3>.xDg*1jYVwQGmO.=}Q~fU.D~ZBK1jz$)!z,!hqd]4>=Mg7~:.P4:GG0s!<ij+4|(iHEVc,*C$$E][r$'S?9vG^zxcS<$r*EF#Lc&0riPCTOuscxl}hN)T$YHFQ|oDSX$`my%$?b,NDOrpC)%SH1e
n?RTWvj}lCT%_oNc5]qro/rC#fpE,K!*a?JI=A^3:BE`GT]bFjalL!!lz`PHp*$|fG~{0h?Vc)W(xx_ScVrZjH?Y3Tv|HbdHZS{Ms?V<bv0!=q5aBf!9O&9qX&mHl9aF_HE2Co$J8;0)}e&wXg~not
zO+&Ls2c]IaON1!|zOG3xv29P;s8YM_(8^gdb&U'3/A7h^`AG[JXV>G=/x[lG9ZEmw>g+2KZV{{LiVUjUYL]{X]lwCOz6bCk6~'dl?qWl1uGa.>/1#JBiVxR{toACEFc.csY/f`clP(R{X;g';i1Dj
owGt4>}DMj=XU^2c,FhiHxKE<Fm}:,Yn&/,gQBl>6YaQ_5B^;B)9s=;2KEoA>Ie]tL^jS5tql3|Jc%_P}S?`YvsO%>|t7sA)=:ZB{5WvPf&d/KJ/K|AHD|s_5rA/8n#~;I$Whg0,xoyM(_U!?f9$a2
4G9h,LQz0.(8k4k%ZYlPIA79W0n8/A<7}n;)[>%.,K&N:sLN~KSlgPNcFP<W+^S_P3XYA8Xp4U;]a03$K^RSV8+Ok`v0PoWN~VxN;sSaG`[f}%8*5>Y}v;uO}GrVqI7qu/OXGX>jz:M78*)EE?>QE1
CgI1LAL:%c=&?FQ){]<Ae7QWZ[0^(as/j't,#q9~]36R}z#dF(FCy&`Ya#{AB`vF8'BaZeF%lRG_~o*CS*$!'4)JATeGt6v9X,~3&zE7ml$gX[^f%2K)_nWuSNm}_5%Re{[]A`Ux31<GVKLu_2&,^J
8{}QH{^,wyGrseK_9jIT(Uig*nD5].=PQL}x%&SxPX[IUz'!f%~Rhmbk~~O$,YuGdBosmLE9(]jP90IIBzvyTN2_d2X]k]1__~4^/d~CC9Ga5~+yE%7<CIVLse*9{nu^/Y]PF*ZKg9]C,DnH(/Abd#
){A0R:6kQkqP5YNpn`hNS$Vk<zGY&A!jqUD!:+?(GO^7{kdPLPp/jo2j/Dmz`mJFNKIA)Pj{<~#|5X5LbdjNsl~HtV03}+1KjzSe5]Vzq5>BbRQsbsM|Nu>ZX9YX<(iwc8<'~qSEJf*mfYpQ<e4FYC
0{nt)]`4$^#f!Cw+d)cI+As?PU~XkpOrc${*)aet<Z=F#ArN$)MRu9!L:|tE^*#/U>mK<9zWWbKHTTpC5!DI~^)6#KWF,wAP_CEZOF{mH;<c{{xmUq2k%I1Zo>{hMPBTxH.5Y]/*B<if<Td3?$:|RQ
,S2o6!JJOH.dO_OX0{.FpD7Abh%Vu55(K0uOyR)$+y]Yg*KUav!y55b:dF.=vb6ST6uL<{P~m,OPFkH=6hT2MB7zcy16RWxFB8l#UK_4e,g={'<S5cuk.qg4[w(^%iTt$Yv/PXE>v3p)ZcLByFjhfY
D~L2:kqR<aVr#{Q|iu&y,p+eG:vM:/CQljnc$]aJv;<*qr2kkgym/.z2jLr6]r#1jAEO]C=;?N&H0)0i1+Zc'xJ3XBefEOA)KuD2vKzh5KJDn'A[p5f:pgRLseN8T{D|).wZz`P<WYLDF%&5'cG$(1
rR=4e+4FOm8r2,Yq(^/LgNnVRHynz&1=TbfTB4Vk?{Z*Q.d2Sj~oub)Ls}AG6[p6$TM)vp|(.ZI4<P]6C>XRDv}DTE+*|QC6~{gbzJp+~X=Wk93!)6H!|LX,oHIdn7>/cy)4;6[C]rO=h6XSys/c$U
8RU_G+(|&+YzI5)_fdxO'7t>&`DX=04z`l2|o<gn9j/GcdWVWy}lm1IJHyX`xP}.f0+>;B_9ZsByX9kWlQ#H<xH$1YlBW~EC+6TjupBFfo(N+u(NSzs3TL'LW*x|5mhQ[SX=KXbr/lOEGiLvf3`LpT
tT}^M:iVt$h#XGW3?/=+JLt#xdv|=v{kTIYa'ZQP4yfuVFa7rp:=YU[y2_0TYqr:uue#*[=_E.D/h*bx3%'.M<re}y`..8T^vzO!>Vh_XN5[,^>MO~dWq^SPTch2Z)+zXw5l`NYVUQyUE*]U`YnYd<
0B<DvptFOAIY|.e$.BVO}ae[++Fi+$P(u?|pPz:?8CIMvrru!]'X73=#|+#FEyurl6GsTE_2E,MMEc.>mZnY8z?,*1{E,0nHC(;vw^Bdy`R);j:n?,YlTQ5{#Ac~K:Dj3erM{0}uh'Qt}!f(P^Ei+4
`FVKt_?~R`HQMy_6T7U$aKwid`vQ7|cap&M$(3Ew_u.$Xz=']UNzfs6}z^s,!f)%IHmwi0n6$vA/dvE}QF<#w!s/x+OBMGbXhoS6E07aUU7MxhJX>&Cd,f9E,/tM&r<Xi#B(MmU=:fX*}w|iGvF|O=
[Ovax9Lh:4v;Z3T9OsWk/=6W}hp|KiR[2]rswIk[r31d4A',e%D6q+%#,.D8uz7g*n=fgxBbggSiUGa|_zZ/=p8*N8nBkGJAB2u^8~jm0Bs^>|V9&^(dd%)y{H;&?{U;hm5A4#E^5qk;*X2zIGk;kh
+ngg%#XhP$urhfen&w'DdFqnEET1UJA'#m_nei0q6W%e^kVxi}Sg/%Br)P1N&*|NM(Q|o0udMyFfWo[|%3CBZ,=rW?aD.+*S:)w.1!&coK.mMo(,RJE`LBJ:/xOgimrrcDEIQcWD|{hHX.ds`w=7(Y
[gc/s[`(d3NuxJCNS$^]E_ybb=g9liD4+J<L^odPU_=/:nT4B'e}sN1<oPGat'f`KhJh,&tszX}6f3lN)K7622Q*'xi?YJs00p3]GLgJBuQ'7$,|,E(Qmu5j>p)%Ng]>?`cFQO>hy*UMv]YE!)Ftxh
fYYkhFikEYvt:Z.0(9mD?s/o$q45Ip7ou{a3M*~5kpTYkC~fkjJ7DN4Apm~b.N+0{lq&EV+#[Bn'OIa5pQ<?06,M!BcYAQIM?p*WwFfET8u'IHsjyayx(NM*#(:*e.GUeTE}#uAuK+_/([UWP7`$*+
Bbk2onH=WUMgt7]B&/zBNc#60TS9r__E?se1Q]5l>(>Nw|n]u{$'CY`0}_6zD^E*zDEy8kR$D)(q#I#WeL`akr'!|U;g9H=}#0T/+b_Qx7=(1AjnL1w#|X+9bMd5OVL94'AW}dO/F,wULPQFn2O4!j
C9(tU8i?OT(97%PgMrnb|ZbJG~b?M2>U5adUj;Tw3/|_mT$6a`CnMGF_!b)Jd/%vhi5v+/vF_B+r(g#X}Xt#uwv$Lc=F4WHjMp=CYR{?IYzX[:{xi$=VtJa3nk=c(/xS;YEr50:y+w#qQCAW$UFQB6
WgF>V?1y_9z$KcIN[|)EHBp_ada{I_NE2]Yeuk5YL;_|'qJ4xEAf)a=8^U(`:yWESDn6C/_B/mbc)Twy8;ffhln/$/x2d(_KO{PZ6qL$K'xra~8H2FT5mvy,p=;L/QPZ}N&$6k7]]margfvc3]mM4|
/`02!:dEbB/gT40BS?YK)0~[RPx0FOJ/U&O=^^0Apg:zZ%UZ%u#UY;WE&NWwQNW>^{3O$RYOZ!D|R?.t#f1pWXmT0X:&QDIbc~(c}6:1w~C:BOR=PX$/[/N`w!>H<w3Gv*RmA_Jk!hD2'Nh`a1Z~Y8
MA`Wh_lUx:E_Y/AC&NYgsM={GDeyD08TzRjlx0[d)Ame%QT0qQ(tb9uzJ`s*%%QprkU/Lw(OE(W}>%5t8XL<X3{n0{V4MuN)1a0G>MF2HqT_Hpr4f/uY=ru25<JK:u>GQOD%ox*z9g%P2PQc3<8yY?
2T;RSwG!Ch'<ZS7QL0+31[yRQP>0B#*5J4nn>&<{o;PblCm%pkm?[43%nVhW==H|HAl8F}P'mhd#+mqYp].U0OyQ0Yfp76UAp[FvWsM%Wi<9aQz|JP/#1NU>zwc^b?D6BYNL`9[o;UJC5)#oQ`bm&s
ce#pjgIMjUs;2(/acy3%$nr?=.TgO0P4V4fg_I2n,KN;QzF0Y0a1f+O2?K{.EHXpj[9HFJ[mZ<5V<V~Pk2$Gt?l=I0XX7>Xf6LlIx_~;!s%KKkF,y}VeqNwlt'JUZoI7n<**O4)=|`s2BflJ2I;lTS
]=<pRMWyzj..18Mv7#[h*3ac7zFcuvW%~'!'<xV(JKgUn~rV'/8VQ$:*OIVzJJ;D<>%If8+MJ^GY$n^ciWlXg9mPZjd}f')~:k^V^9<!.j?U&L9GiBexdD$h{~5anIxE{%p0uvX3WmPo)UL;vK?Mx(
n2}5qU*((vkE{M1<gOQT7.MNOAPuS>LhB^ifa/eM${D7&3x<b6:QN2?'L`jf(g:Hc*$^i}jlkOcmu3y}Y,)C7`=]tOv]M.)=7MtWTS,i8H8_dMETn!Nv+u&t&%WA,;&_KMkgt/;}'DApB&0SslW?63
__6p?+%Gg1.QoG=z+%KNAI5:;i&e4Upa`LWi!4aVAY3;`J|l|eafmG'qUio'=eZ;}#PyY^<p|JdxdJsvG9!f/S`DFfKo#2O=Po~I08JOyXpy?=PMHvB;]>&=PM]rGQS(Rv9EGR^3D&]lj_t)+|W!fU
L1M37+=)PRP=y%vR)R7]71~Fs51%Bsrv('X7dj~3#3DLW(Ggdu]Mn(1sCa3[]B(yPhN&Zp3VPYa)ZsiyO6'IsL'ZJE3C{kvM(s+vZ+KJ?/ufMpx*d!(7|(8<)lw'aAu!'4%BKhsIV4nbDDes&irHm.
:BN)jGS+B6ut{#r^sHvzYp6s_JiiJy3W=3b$pxJ:)x*`F:VoP<t5~p(ld:N1Mr#o/~LV#C1P4|[:}:c:G<aAJM0_oh.YHAYbDuXz.I>R>6W{/7UdsK:;VwUPRzTb_Gh>y!OUELx:Qww+()41hY2+Ze
,FRt5U:_uOGS)<<yvn5X*!kw'KD/TSG'?#xH$QH/9R4YFJ[XG|X`cAP;MB&6au,r~^.ZN$=qbwY,O7gbapAsHD6+L6<n8rq#Y4q(B9lvkg+cFfoGPm<oWir'>N_z&d022TD_%U?b:!MD&=yhtP%>p:
Ix~dUY#vnS[*,xFQJr6*:L*SS3$uwe=[X(W`*ED)xN^r{##XbIcKO(7%F`Rnmu]5j5WVmN>+'tYy0H>+*JW*5JJgOPZC,[hk&G]):Q4A$pi&*kmz%/F*^.~sa#^j?^gX.820Y_?}}{)0X<xnR##$u*
;7E7PJ;UsH$(:K;hh8bSDPw5eaV/(nm|:_D=,v<1pU|wSlTxyY#PRm6v3b})msuQxU$m=:nWXqP`GO$WFMc;;jWCfnZzYg;tZsa7R*YA]/2SQ&#7dC:yDMv4[]HNq3zltnqkWN4)hE|1$UIBY#zUMo
FgrwAMxiAfZ,;;btkCKy,?Ytd`<6?kwq=:IT+XNT6Nc3F+'DpX`Z/8+pe'{cvD!OXvAA{_cmq8K:__&b>797%_7p9Po(cOT^;3,b=}=Zcgr}2*j}U]}P=c~Fh$N<k#~Hmh2'o/NdiOxJ[Knbx*L6<]
}{8I<fXde0I|kAX<Sh]bgcR$!m>`jTYUMMZk?;jxk[7[l1R%?B;`i.IC*PdN~VP4YW1R|(>~}+%Q~evC)~rP~D;%jw(a+8|uR{qKripRw.e!2AO[pXmmh;xri2m.oBqAFpA6lO/f?O7#T+Y<tc|N.y
h(VrN*1G]g(%.^Y6)z,2fjs(khRJ41qdyO)_xB3.Pvb(Lp`ojk:4HX)!Rf_&q*vrOg*a.=:b~.m5Y}IO|Ew18[h]S=TFD8;MFTl3o`oEb_1^OBNGHx7((AA9W<g6>JK$PR{+$}::sq$YI#*Q..P}`0
}EgT;m|6}2mq6jEeBCDIixxNC=!gbB{|Cz}A])*u^,7oC6W>Y~TEA/g!_>7'WjU)G)iDrx9X<P|FVmQ.ulQbD>t.&:9tjkDEOns*.U]_U[z{LKID76{{fJtH+1wbk|(mUWL'h2.W&5<C^*o6WWVpEd
/<&RKmE%GfcIWnDIA^U/7U]}Qawj1,LHh1/rABpK%';zuq5az<u$RELw:$q4$VvZKUca6JRC~demx?Ro~SaouX!e&GD`}R;Ro;4~UCwHP5apPtInw?G8%RlH2gPaHKn1{iRaZtni3)W(K?Qe)h,yXT
eHgY.|}8vYvDnP~n=OG5;+kw0KonN%Q+]?p<Bp~SE3J+qB:?8&rcUITYuFQF8HRaVdK^U3VLXYNdD'K!(l[ERXcH*pS&}%/w0<,3|ab7[[)G[uH^nhb>L=p}NZ9o!skngI|&&xiX:lqLLmb3liKzR)
a%!z`;|U};z8P*iNX2C>yiTRu2/K?P%DkfLJi.8.Ap9T]xGl;qM^SSxs*ms9;>dX$uuEV;~!vxyEbGF'fT%l0hCyb}Uz>T>B)+jna~B8/n%)!Vx&1w&JyJcepEM,7N!0<2mQD;~Z$1~cuCN~bei&%O
6YoL{f%^hr(ot^:m^JWd]7b1=5J7{N}v75rtN^PCk|f7ze#dK/r<L+<BnZuhCJ{t|0NWuf7+c<d1Rz}3bt(fC=b=x>cT/oQQx/'sVTE:<AcJzXEEhx?>>E?vY$)):'Lnw4[*N/^.ttszPP,$I;e|_}
ox{QZW,'?VmKVQJPq;?B]^w?uF^U=^94==xE*QCR<|&^yL3`M:*23J*cm]XceU)Cp!ura5LaN$K{oPrUb)QNi`l1tft*|sP?HQyzaOi{6i)d0zL8Q2*K%gLpoEKaPU|tWq4`w(zj'd29u`v:GixjTx
%)UM(S+{imqDnD^m|2<n8p>JjJAB$fu)t_2kw621<D:Y[~z^46[44vDKi'U&3ka/UqH(Z=:/%ZW.35G5M_bsKpZ5GGKn?#xjF{OCmec63}6{fx}BfygZl:?|bh]OOy&,3B+T>(lCv>3Lv;5kj=^r,%
^wbltt{tA]JU8{yZ0c|Ih%tNj=he5b**(szZ&]GGy%`H$uN(]:Jia5_kOx9HfS^Qgso<rx,At4]a%$7($&aZ%K(Vb+99$^!}KBtIVc`gK:_le7*x9O0MyPoQ**Cm[Q4EdWm}s8XyGxU[LfC`^b$],[
Bk=!U.A0fffqS]Dkgg}nm,y>#O:Bxy~|wAUZHkAbb_8au]IS:.i^H*J6Z4#>29vg3SW8gW.(_:j[#a^{{%%M3XzSiP=Fa}Znh2*blRt.e.WBj_H;+8{0QjSI>k86WGie3:P_SHrA|.T)u(xVS#Ycan
/gq:#Z(2}tva2i3/^nt+YGIE*?|AgH6|Rys,;.PG}>|EfkzgQrt^$_F0YgU.5B73di+2<G%0HE_o/F(oN*uHOlF:_n(DYF,/YiQ~<6,SH,~G(Cjk,Q[P38Z;|7q2~R{U(sV#X;fAA3zAwD>,Exv]?4
8o[kg(q6d._DQc(BD<'2{s>cY}S#ZC;0.gIy#mmk/di:.g1cO|Zl=LL,'*(6w6OTc3pFbV{48_77?aG~#8C$dpG?+z{]r:A=m9|%2#+>AO3`IuO>LPN9kCk]px[%]G0L6x.PRoOiM+{A{|+H<$q,;{
k$%3V:Rq}qZ%[QN)8X7o`/T3C&jS4Kkw.{DFY{eh~xDS(KyzqQB$J(JlyRd&=/{w$;B50(5I78{^k[|PRHIa8nnf$$g[60G^/HdIsK.l,h:<=y5vNt<s68'>8}R'07?0aQ!*34}qGDrDg[(drp7Q}k
1Y1~BrMhS_23=r1{6I+w0?v5y8=rxzB'[{N5ztW&CC>B.~=4i^OSR3da^4_52+yOM#s(%7lSch4yn}*&K35pHR#+<k>w5m8Jn55C]P5V8n$z$#UpcLR&EwLrHF4]a>Ed4tTGgo{eL*N#P=d.LTMS|=
HdjFg%ua~Q4Y#g'o<urP5`Zf_z8t[Fi'=ps%mp<pX$^7rJ;8+Iw}(]/:|m>ToBt$3d':vJ{Iw_0=L>9uM<OSXy?9F^;niZ'(S#d1[.U#F^f:m<4vAnS3EANc17t+Hx/49:NeB+n;N<oi<TaK$7J1!t
VdJ6_ef.Le,wQ38G+90}5OBXek&?D${5GXFDsfT;wOVee5oJkgYFCK?KHCBftFSR^)_g]TRi'hyc=|ENrvvEOUV%Q|PwE;En#'2a>6)bhD&]kSQf%k9Nz!IcpAo8qVvW15%34j_C5Gk;kj1RbpO9QF
fCkDVDnk3B]1gn>t49ex4hIbp1Vs'wt3qPx'xxtHq;.*4s:dD6nE;S7W449Awp;vo&XdT|C19fo=H'4U0o&`;k~l_{;k~Fk%#vUnt4Gb`D,1J6931,T0]!,)z9|IbKLy8d+E`Sr!2pVRWG5jz4Vniy
0e*9h}Y$8tIDWJAw|{g)i2']?UcT&i=BGpeI5._s96ZJxFT4K+63B?iN)=xq!0`)5,Q;wW3I_b_M/3%PV2GI9u&B2A|/L11[ha0+Bb'r_qwbMgW7e4bK_k{#K,T'2nR8_,hto2l+C[<7YHzQ})^|wZ
R)bD.imWwrO9z`%CE^?Z#TgYvWSb?_A:IUpw8|(u+pF?YQ:[SD)}`6<[[=A.wCnGbz04;:oL}lsf~e`JQQAo;Ka~g(XX!!xlp(IlMW&U2<))(k>d1BbgH<XhVxiwN$VHD)|EkPA0HzN`jCxU%IL00)
(/r~r1}0PHh=hOpCJ^Zs3vG!XG9bpDBw&;K>j&~Yy3uJZ}DoX&t.c4#j^Vv)ZPPuef/A5ig?[<:+_5}g}Go=S4'l<[0Djzz.x+1(Gb]V:E2d2.H4BZKQf{#~#V~<LX(UZtPd;cv!i)L|0hbK/zko[*
eHZ}$V^Z3MJ2Uf,=^KfH6Tg>C{xKc7`}'PW]WXPAe:R|s(S(WHB2XpT<Aju`tUUg[&u~z|u/VrjMH|.HaI7HOdw>%$LaA_Rj}[{^[Lbw9nDYbVXXm{5lBF#Y<Y61K77*g/u<;1:D}o>W})LzkkrYJ~
H]qPS!}mg^KeAlH)IXy&Ylav*7OkIL;W|_iV]s?aHt'+0$=.f=UU[V{I;ov867aq_ZfH:j9UE&VHBi(d9Jux*!Wv_}*#,_g{T+fdH1y=boy4[x.!qyRy}TReaJ$_Ubk*.,y|xv:32sd~7<V$9>;V^$
HPip/3bilGRU8X}{04{|?WCi//6C!?9bFvt7lgO%dV_Z?D<b1;l<&8UKf8=>esoM|$yF`FeF`>zt$dy.%E^DP(*VCddzs(cF9FJ5ZMm#/$MId4]{0g/WozrZT`K%2Qel47Yo]|%bx!,crHn>D&N3*a
+^O#cF{r83z!Ery`PatA;v>6/y0xrBxf/Dxe*EBH_dOlq|D?vKLD{{cqBu.9+/9D+V5'uWFkoJ67<.7&CPI+2U!28p,3<kuq=X*CroX'x5}KUd|}^|`tZ#9Cl=vusF|A+p[T~i{f]C3wGE}CGi|c.V
%^G7HYYZjw7nk_FPT+lI:,`]XnNpy'$6Z8*N?k5e$fpp~3,SgGW?Pz/zC{09*K3fX}t]|QM*q;v:b'dCgQ}Dq*MphOYqC+RJ;ufh:r[%T.kFjQk*xQc[YuggxV9!.saw$x.u3pQgrm^n2,Kz'wu:]v
5f)Q]?XL`Irv5%%'[M&?)&.%`QQ5]I]cn$JL#z[_D,'8ZfuIkenzikuu>RtB|4{+8dXnclc1b9S_cU6]~`Ry+aW1v7=hlNbE.2T)q{w8byN*3q8X:k1,q^aKqKZ/zbk#;kik/K$V';x;MPnQLb6=+B
vE8UD]1,NrsI{OKH,.NxT!W6^*E]55H5^}]R(TOOf&6K%ccUQaqS%jjAFZ+}pYjX#eR_GVV$0:CxeB/5Ivw0%Dtih;wB~b9'=w$W)?dke9BXumx8{g[4ur&LB0h#bYcUF.EWvS:wChJqM/2<K*.lVg
Hep6/DIlU.uiuJ^EUHXA,dkZGNOahV=Y.,T<%p3>9Z(ykZNDxdg}pf/q%7QVO)WT7N[R%sS<k7fYnii|xlq8<*W/T^(#EWQvr#tYcAL'AuSha5h<Km5|*61+kp_XViEI1[WN]fnE#1A|6MjFT,7GO#
9740VshyR_*6a3#]rBj:2Eh+mg!I{91l0U=3mtpT=6c.ftnK4`{>nH_~GoitFofpxua]=je;H<W|{1XG]4>!eJ77)`uF{pma(3CpZB[HK`'!J[}P_X5[wBCW)(V<EM5xyN$x1Gy$Ott.pKI3Z?:I0&
ik:+DWY1ctQO%s/zL'(A~Kg^oe*>jPQ5QK%Mhf4+B[g$^![*63c4gnES*/X}%~vm!b3zGsi|*z^h8b3DQOh0gk5X5MbpSt<Wp?$LuV{xd(Q|t~TE<Ta[4M>nZe2C3uLqHwGz849WZSf<Jjo<WrTXEK
?~'a8e>HJU}kd(<jl<a_u:8(7$Up__5oG;:tmXsIs8b(Af4e%S>/]S1O7.(?z}3iH}]/lnbyDeI<FrpLjaSal.xb?)42hy`D1+nmqeh,tOy#_O&<w~XZ*z5xv}%_r,OiXCmD|Pa^'BmYZ']6agkFdd
&jStS!vI?&Md_P/MqhCP&4UI|mDJVnjFrRO`GY`]dv[Vg+'F3VFnFm}~FKt/[_:w`lB_=#L7UXw:jY{{iQ*.Dmk?WVdqtU.fmPbDiDVM>IYF$)?|*V9.;:iHa;yy64PHmU/B'Qpli~~%7tRL/}UcHU
Dz5qL(KbK2>{]9EuX3`t:PYMdUBi}q4C[_};MIzfFwuoqLo$jDs*W.VH4y/v!!puD)$A'IMG`2qwFpi<Oa22NSU%U&[2jmg`EEG{zunh}nq,l$CcJY?rI0joMouxHtiJjH!.<w'zflwP2JE:)6iw6Q
Su8jMQV7;jK}eppejW,`3wOv'+78c}jhuO;Vu5}6La`7Ylmt/$_=0n?JK_n.?m*nwQYzGqY{XJin~Fd6>IUi.|g_9Rjs1XCJ=Dunkc6|#'a>N!onI'&JEzpl,<Hs[x_hX*ADL2x|yVHF}pXl?eEFY8
_0$HX>O(KIckL:/kcB0>XLzt%..b(fga~MO)8tn7$?kK8]?+bE`6$3}VeU<)oxd^:Y0(Ps=6xd.2e$S.i%6'm,vh=S6O]|z&oFE0jEz0=uvy?~omg~h7W%v(uuxt7+19$GSt4Zo,T2d$w6v9fl8l)$
'sRmOB9)z:D'S5g*G`cXxNqUSU0!h8/xl(^*]cSqS;V+MgawnApWU2wLnH(SZCMP4|k>&Ze&t{T)PFJ;e)6hKpMOeE$Cp8rG8fxNTrayT?U78^js3JU}Ax</hezO=Zu(yhm^Z*Fgo~cv:8%?QX=Gk>
cAT(l$qPc;on;]LQNY5N4=.wguT)PgP9XY{29P<*>)tQUuTD2Dc#&i6u#JX{km|]4mIzBROE~!a(4m^3e'03D'8_R#(F`!tfh)_A3asp=HKaa_/zQmis3rVq}WqY`J_Ws}N:f1PqgyCZ~iHvWz<0Nu
Jb5iY~s%yWalH=2o25$qa(|n,H5j2'(e%:Yr,f#)W+rx`Ze~n^F0qEaY0El3g6*:v.Maq!OI;2^OnI5ip{XFSsHMK}.;:7:S]_GN3WAbG/2?4K_}u`C1G*E12(LqEVfva{9DJTTe|t*016F$%gblVO
~y{GUO6,NO2Q1|^8RM9&_>,ob;!c$1,'W4DcI;!i.K807$A$Vy.{Z/Ahf47W~8SytIEw&N2bks/O,4O8uU]VJIQ)vB`z#9>*x~73z#2B:k&|]'*gnpe,Zy.M9G{I>#71OpzfgsZ4.ziJZ7cY%whDYI
C0Oz%IfL:*Gn'qrb/F+cdS)Q>q]A_g4E&}d$hQlXXTS&4FouwWyV=tdi'p)s^N>HJ,XJT]Fpb;Ec[3n%0]Z1,915D8#1!Rp&%Sbv=yN^7g8W;V1(s8:/_dMOfa'YvgS_?|?K+k_:MT&V^z)dHy&f$d
R#.=dn(.=,x]&ua(.rX>nS46%p`01;B#S.]DL5SY~R`M;NE6MZbAV6t9V3fm}tCp&1Y!^rYN}4]9em0|t&U$RF_~t2Vvn^[t8YeLCR7vNN1b6j<o)n#f,00_drcZSmT!|XXR.}n;s*{eAfi!ZuDLLJ
;MWn4{zntrDS&y#%'nYKwz)A3I2NQ{'!7#MRvMh;QCYjZ9#jK5i9!2|id0J:To%I*Oou+rc*EONp0%eSKYZl6^$|(2yO~:vKldItK>.kpA]z0bf%KoZQ?#m4NO)IR/cjt3EO?ItD$E78N8GBQ0J7>o
/YE`pBTfL>qecW_:{)5Z!'el*2umqRNUZL}8_~J58&F2_&7At5XaVBpXN*}n!Nz&Cs??hLiD`K(~UllN}^Z9D3i+hJ&ZRZpuD3zC6'3[iQpX({P1RC0E:.M'}O!pC5GNK;TPBJf3v?.dDYc3&R0Bix
&4RwvS|%FUIY<,BJI|_m32G6f%p5b.Wn,XpuEr~U+]A+JC6^$92GV~RT/eGNW1=74G^_8'u?i[b5{Yvs>;8jzkIzCxaJ]M&yQVxJg*z4q0/OM975yQ.IJ|I)X/V1)n$?)Mm1+.A9mktx*RH<Pf8UY`
i?}tOb#=#+gB0Ric)lE=Q6*S^Xi!{)i_X76U{|$KR?~1m9H_loC%<FS}%aOW,rukA__<zISYrL|=e;_}q;#70RsGII[T&psDvL]+e7W<W_,{IPAK!{9u7~iA65AG+qT9.f0Jc0ifq%`B<ZEB5cVyz=
OK<HYXK~s58v>:*p!{.zUJ2z|1Dx|gY/B*ojb)<K3e(M}uh9IO[mIFyDd9:3c'Bj,xy24YqlJB4QISD4HxVGo$;`*VEm`B7H~W^p}?hm)qoTPd;7m*b+^b6j+Jf]M7OLf6+,Q`y0`tiB`Nx7gE]h2i
M+O$YI^'Xs[RjGh99NNw*%~ZI~nru(sdrtd/~8=n(MW[5d=Lg5l+1}<qh*,Bv9!ZzpStwV[u5v:;.R!YfUw1jdXQ/xF.w{m8;XQ9BW^HpA:akAE<~=~R;Ycr!#PEfapr`(#Hv]C(*PhBlu6A#8(HMW
82#Z,O(%D4u#0P9S{%AUl)uI<U:fH:nyQ6m508LI#$7c%vC7uR2)WT[:t7p?^qo[n]MOk?Kn`/75sp.|LP=`>0k!cWP4W.Y#.,.*EL/CPp~jBcz>3Ynj4og4+La{>Hqj5bY3%JtN#DBbdOIqoIc+Sj
W^TN!u~7KAp'a[Sk|5I=caXI!7nZHyq$r0(Q'L#PP.sSd7}9P{0gwvq,OUk'eu>V]&fdOx9|=<huw;sxIV5(7'KB4*K|gH#`jo4D}.dn~vRXI_Ho^N{1%cW!XPMY%Tvka:_NU2B6qCK}P:]]/u{)}?
d#.4Y'wVaeQ7=w'x7oViKO%*Fgy1`xy<!k#j^]y,H~4!aInd%MRKX,KdHl~AEAxC2e|xc=!)M1:,V8r'8BD&1!z?^l5i?gmw}l)?*J/Ur+bvQ=RCozWq?&zfY6jpkxe[Sp{[``Yu3j!)aa$.R0K|T|
q'/mo7)g,?92TQ,4S+,M&$u`3G$kNo=[q3A`^QG#R4y=0FSx,1u7R^;P=2dw.e#Jy<hgD5M^Q,l]_H/?`#qUXw;v{yx)55^&GY.VUg7b,L(lx'u(BAT]}?1%8GX)}_[}q]`W&&kKp)h6Ucaj#:UMXN
yzkQSO&T5&9A)DL{s!K9_cu7shdI~?A^mX#e#k_OkG:yQRBAaqH2WkAZs;<|vlLm0bmc_;ieaY{&9W~Mj><6hl.:K}Fi='0)~hjHL(s+fjvhacnZ,fc?|1Viem%0wcZ%PDG235q78J:6`vx&x?+A+4
/ZC2G$W3vkt9zL/uu#+_MjJ%R_K|TTxZdi.I0TOe4&XI5z?FqyF'U7'iksafnjVh$;D(qhyrci?_nM$_~2S!U!'_TFlzF6u3I%t,lUx(`n^jYz18S=q7CtS;:t!a^vJgjkpgE52Q_1Rb(6WZv]a=0z
$D_:f(]UBw{BK91}T)g{}YEws5.bOY;g}w:c%5n<v769N&oNe}r1|i4OnddPd:pVw'I(5*ER!z4<.j5[N87E]q[ZfSw&#pNw4(dTI1O5w>krr!=]mX5C}Ts}?Cw?)$d'}k^dF_!7P!?F?<jh2GN7*e
1|;GMFw9'r:(U7c:M4XRQgn~]Ynp5vv>$mI=|NU`YhLh3Lqwz]b4#m33Sc1AVxOZM6V_#`:BlPL01s&d(/cm|UFK7t*P]B)J&7ZFY8./=3LjmUbYR4/ZG{i;Zjh2VZHh,D=k6|%8w;ffU!Uw`c.t5b
pVTLnqT5dy(a8+.(wPV$U<?yR9!j#IeVU&Ui9'*d~vS*l`PS+#H6Urv``~CflI.>R{CL2R$p`&Oaiw'tZAU<C.)MQMR.WENVO&IbB}N**s9|W<$G~&Fl)gB65zgCT,O0(c$Zb(OK%zr*sE$y(thy[V
tT_]_H108B%B0$.Jh=g4h.V0y34agOvxCyj!iZm7AF4{1GoF<_*F>&zlJnt(=:oE(sZ5PY*PnobuXm#UFvLXg>ag4]]*4>UJq^j~u|NNhGHPT&juO'L}I_X,q|A?IwIkLM|hC)yY+TBVc>r,J:{:}O
aZw<)$FJwofbFZ`kca]MCCc.^d=<cXK'xgR+P)%eM3&&PeleFI*4<={QzA%9dvuzcHn.$>lt=xg3L=TW[ZQD#[ugyj(RZ$6<mQ`S%w|tY^]Clwn<r/LZ.)8~vQ}VXGXXv,3Y#MEUcTVS{J&yOzC,Q[
/{#fB:(y;aK#fatxJ7Z269g/eIxJ5>R`ht*57xi)SG[&`s_5_UJpl,*)%fR;D9>aQdJxWS[qKYacXg2&:kk&l}8w85ucU[jl^pFkuKpLA~iw<*J`^,`k$03MKaRFojhj#x^Sw%D&Z%c+P68r)A%mM+
8d`2{+0]g`Q&J[;xik'M87U?:Ct)ANt/}/k#:_9.[JK7*3+NUo+bY~K{BL*9Yl_%|7Vy'p?<64D$PFb;]n.D~1)oojNPGc4C{.YBf^LC(o:6j5OU=^JpymJjdzF~p%Tp6(Y*dH)pz4a4zO]*^K5]^0
*Q>k{r]BGnsGfrb85lYePb1k$T4I5X_j$QUY<6CWYEZ~a^#x|9;M{.c^f4&fl^~,<3/ae$!pu%diOQ,^ju4dP)X(:_#tj<E{Z0>KKUS3M!bCk:Y{LXE~f94vd3y%cc(x&EkRmd4Ax=tbm]',QCMX%r
prHTQs|Nj&]?SE+Ft*)&>fW~;&,tP]}or`|hGb{6[y8|+.;$|H~DvmPA6!sAJ+B.$_u'?do4*f+_'wLx19:I?$ru+2w+]()!!gebD,%:^ma)(am5.lUJ^J6C?O,tH^y~1[*WnSW/>z]r>h,ksB.wS$
C+aB~OD)?l`f5xVI,5`<zyJs++B&gm]eoP&*:I^+ag)<pTT}u|o{<(m|M;f|y`H.mCH<iM7.c=HjJ3,R9=pq|;52*..i+Y,s')?'L!ZsUL])L7EgYj:!d?O6wNsCf($16e;5RNxv;osyg(A_0}.l2S
RmgYh#YtEv;&`w59;g4It}^s%T~+S<d;ffXvbS3Iasd!`]?o*dR2iW!/07]Wk`n$}suA%HrB,A_)z%9Np'we]&%t].iIESl:m<LC_DN3OHQPIh,YqT6Q82lit2,gbA>A2Rby8daW&z|}!aF=,V,Lx2
TX=SxW;h9eG*sm:ig!8k6~JI:<]PS:'[,ja2<3h=UXb3fg8m6T,tsux+`2`m87_Qgt,zV}:HV6uy*X^0kp]eL90Pq`?yNBxB<huhE]%Pg.LsB[k{N41giN6b'~8.t`Xc$m$dLC+YlA2Kmid[jE#2Ux
vWS+vfrD:=vYYIS)]gb(7K3e2'JgWHTF1f[otD4JK0vZVM!oq$xEK`Ok]/1&[v]6K(.5s|?AoGB}</;mA$r82X$E?s<ChjKRyI'rilKFw}BPy_y,Y:0E}Gfu'b`fk}F[KV^6mTLEemX!&f*LME.Cts
O)`B2qnaF(ri3M1qYU73nhWK4!wkKlB!j!z|v>mo/;>xR:J4aeD:yVTOjkc^,TW6l<ZoI~Um(h}TnT;wuIh*j$T9pg$$Vuh?FjZc?e{VOQ>'mzqEB}MQ$y+mT|x#rAqi+Ux^5;fr`'71r=my.gX>vv
[<f~om#z2(c,eI~P>y2;]%x]a5as{XurJVKOiqY'EP=,^ysne3NI}s(DW.fH)}k]mbtm|#6z6g8c,c#JnI'NqNPpv/^5%|=E[&|aGXp!Ww0awgxL~M'wd'h('+VNf:a1edEcd9JQbWDY!m])^CwsGz
r[ug4~;5=JtLW(+GoTVkh:Zzv}F}w8Yp3`X(?uyP.,_R&tQAKE/`5n2jIGDM'|EIzCjQcNmOTeLb(xG(JKcAT{(AK1AEl8XFC1)nvNzJURo{bIBQ~X<`o>m'F)1vD[!:#lhq2I~Xl7opV{,865?,db
UrcV=xE6_CkDy4HT(89%gf:1:+3Yea|{yHov,g}V<mQwI0z><}Gt;0f>$BA+Rxf>Cfn>qXFOOfNJ}gy17[`_9NXd!EKwB0Hy2N/XA%K7|T0WuIHZk}&>WAAfU|GQhn^/5eC7<f`Md>g`w{Ba_di+N{
2/cQg=u.6*3UaXT1JFWFgR1EjCspJB7?Q4)+MvrQFervqtWKwJ+Y*eNSnG`#wlonI}*~qJF]Q:%hns&U^1l%}t4:]aS)/ORRa0AnoW<AQC+yyh0=!h4}sc6RFC<7wfA|DYg5Z/N'V*}~ahfxHyl^9c
JYd|%.Qi]L{O7~yq9if0ie;w,lD{!zJc`2WvudnCL!ifkNgjqfq:}!&|zd2Mo(.NVO>zzA^>Dd_4Ots9>vU]^lr/*{YgvP+dF/J.E8*HyZ#AZ2[^A]#Y9XDRSVHFgZA;Xj/eCr=:gX%De}Ke>5{x)9
[!4K=L7>N+fk'XV$O(Ep(ZtUyqrzYL#W(XC9GrwW:k}zZxMo,E5O+'sdKeC:6B9OStz.!O%mH%~g&I2]dQB3v_]<iJ_Wyy_%*v.Nv|5mJ<2<]'k*Vq^o+?PA.M0U4RSK[?#n13x=HjPJ({gznJPfHW
]Y{e9T.R4fNHX;x2YhuxnF[$uL[e$A*xl7`vu>t5fwwIHfj1p:6tn/:=_iv,j(62N4T62$%*Fq_xX`D`n2qdofRxgc`ONM$s9fS.f$YT.qf?7C$y6;sO^:125+1c&P;Yi^p8#TK_`Mu&bT89nDbI,H
vy,j#=tPKQM%?$(W:d|i4Zwd&kn^47KQkj(o'UKcI0dA+_X1k*Ms>q~e~NrzF&H!6Vdqv|eCD^mdwWO`oZk89A(uo'pwPiQhy/v5=HF|/e0D<d~vgh'(:ycLKft>0kyc;3+ii*o>3WHlwqnO#3^6D[
~lqondvDAPcVOtk(CgH%|VvRL.K{fo>+b7<$ds[e9`<S^8g_vM>$]/F5=(<?0i2giXX#2+,+%MTV}!Nr1xpmJj>U%]v5]F2]!/mBP4!J6$hc^w8>>EZ,)Y?yMC]gFj(NmcsZLygF0s<);iT1fr+>{2
9W1,[k~V?]PY{m$$5jk`:V/n09{TZ4zbU*4!'Hz5u/~0z8L;.^0f!Hel+4j{aR%v^Y?e:byo[PQ|]E11~_HUY^|6I]QpI)_'~PWi^_M6Po</YZ!Ef*dNcK<>YliVEwEAB>$CTl9{q,F0t$]'on}$a=
/TTdTgbUNNNi`n<`y{m?b$mJjk79yOX;3FSc=E>Vo(8d>w7;cTA49#C.L')%{C4%:p^e,xUyiorajan//[J]C}+fBoa![Ob<q:<r;zkUopCm<uNipobf>Ixr67LDXn.YLEopYv_XhsCw)oj}9V[0qQ
I5q|~N,$^2WdK+0PkR{.c]pamCJeEqCLrB<R(>$,3tJ/n'ek(i4]qV7jAiiyPJcJdU<$86Yxvrj$ic(K>bQwt17w>8J]w5'fBgKCsisx}*^+Bm<F^,YQF|{Dut(CAeW]7OjNwI+Ih07]<N}UCv`;T1
m26YTN9Z::;K[#(Ua7$YI,6>xV6+j|<<w~+,slL30##~wmsY=aBSikL)e4vzz)LOK.Vj(feulSSLyjF/VIT?HFwM(3(IgT9(ix^#I=?<YKduU7|!yoZHiXWyt^'Ed{p2yvDs(2kRnuK[=ebGgIO1;*
lUKpj#,EtztxQl!Rr9Wvkj+M~fm11gaP;L7:NQsLe1[UG?P+)&E?)UUEiJVvSpv^QgD(gCg/6.!D8Txt3eti&6ZF)WllT328ZK>>J`?]S~Yhz$j3&hkUSA1P=c6Z9y]VzFSI&$iI]+0P?Fir^f2J4f
|uQS<e~nwvK]qW)8=[93}WZw_Y,`5thqx~p^>4=g[l4nsAe$Q9iqU6h#GNM'l0OBB`w)f`!S_4*c*78qfeDfD0`!yCuvP9:0+X!>FP/,%t7%w}vJYL}=*O='m`2iR$2<+DrS:&^z+Naz4AE;i4~coW
_0kEZ4wZKNIl5&JpF%VnvLrU[xE;fF&H~R#OO(IkUd`}ZYyQaWu:=hSa^&)+IUJ``58VwYHF^1n1/yEbF/Fh't3b.Yh,0S`r5$=$`^DreG_.;x#4zu<w5RH4B%jGPVb~2Ulk1{qG!s;xb'#R:Wl~/0
v4#1P6716nA5,!XpfX?$=_Vp]:KyvfkGpgEyiLDp:6=awTjPL'A(L~qg>zIQB5_s5rBknPTw%i5E!iY66%f69kDN{oM.s4lB9Z+7b01`|V?~ibHTc)%?6h4<SCCbb#h:</js2?D+Gq66Wx^ke|jn+$
^Rz7>'9ZieTngp2YN8iG|Lq3(FVC/(5o[gt>yJUN$T,u+itrp3~l7*LbQ;w}6BMV~,`'1L]M8gvy~O7dm8F*n3>#l38X*0#9h)~F0+]UXg,/k:{jy|b?dOYLk^^6%M=^_)|h}$H^Jz.|MAU=*9*G8q
D!^)V{ue%S4a8eS+3v%]=(T1{>ngWK(N%BzYn0l9]`jOo`a];nP%2bW]Q^tsC=|_,;dt,],A+8qrO'8J(M|IZd09,%'F`^FoA5&'E,^Z&CEo?6NQ3Z#0;993H.r9?Q~f*{uuS(#k27RQ+d)+&k`AP+
w9}]+,tkFHYk{R4yMR_3`yW6bkMi4|t+{yL_d'aMfXB[f7FgLSFR`:|cbM&_w6yrpTs8$6cLN;mXs.7k)''`L}qlwviuA(B?bXoc8<2gtO:[G.dl5a+^H7A96h>`WU$Jsz#.2Fde4^s[3ik{]%t.z3
Fo8qRHFHpM0U;:(E&(AH'^rAa<'+B=o:}C^j~m5$GA<FD('pXG{M5!33BcmA2Pa#WA*&[O9.)FF=Uf3=4MTTY*xL}yz[I{<p]}?/~r?[FLyd~~,/Lq0=Bu!i[uvJVZi/3WHjWS$Z'9H0BSLL[`HDh]
XA>VcXPC463o{_U/)`?b)AunF$bn+($'WGe_%+d6WDIwh=CKxjo*V70!)/c)>cvy]xa&3Q+u!icr~>#*1l/,P4Z3A$SRJlxTf71```VR!!!!!!!!3GB4wY0(&Vv8dO750h.,1Q;TNW)o)Z|WtIYz[I
~Q!gu?B$8L1Ms*a)90Qq_W~j`H'hzs{X$Foh&)9;!zyA{y}7#0^gyCYH#^UA'^)f#oX?#BsUHK7g.6}a]r>Z80F>MdSz{<7wl=VFO~:v*|]7:UdV!#RZ;IHE4Z{SZJ,W?d)(0=pWg,(MTrYf]/b+UE
,8xPR($i$b8LKfUQzxw5S]=vY*mge#U{zt}$lTc!!!!!!!!!!!!!!!#xMd/?QB{Em3t6|LRRXbJoqpzN1PuUYPENn7RA+r%$'00KPL%/#zR^]nz$f,D`Ojf?}]a+Ym*8Ra=L|gsuF_:G>G_g%HL^z0
Iiz&c4O9yDq4&,Sn^|wXK2vDl~AQts}Ar*F&F7T<u*B~+:ZzrsJjMnw`^ReCPr!FBXF`sd>H%|x=i6*c})&WB`J2LQ!!!!!!!!!!!!!!ViF`=mrXl=3V6to{FIlcW/^L?tY|sU#='r~Q+cLSEt!QpB
#Kof(]LsxLY}{hQYnB)z~~4c|'fS1eFJ`Hj&_d*S&<D5Hz9vj8K%ib~6W=9Fb&?Es]'I=A:'udQS|92e_fQ%580l5fz`JRJqJM2eP.Oa|j`_<z;AL>z+=iQQ?TvGuz1(XINUrpz'0)cl`4JS=u|CJd
y~aAv'G4eI^Y6cT#$#Sb=562p97b)j`owmVB~U+&Tmj$,x*0y],hDs3AW^E_0>`jL*X&_#|[X9Vo6/Ty5~%fxvhsY`ZR}q:P7:ZM',V^(Ki=q(a6P_~%*d3bMVQ6YofPpGVjlU)G1a5z`dl?#df.z'
LVTG^lNSUtL^0U,<d^UR<P1j*FR_ZZJ]_j$O:]T}y|T*!EwhC[3WUhl5*>{^[QdNt&Y,f$:?Ve,p%b:L&V_:R'&yL4*v$$bh|&RBd1pGi.{SIeko.'3._};~57zd>;&dzv#p$gYLipHU?jwGMOU`Sp
)NhQUG02!#P'&co88/3<V^A/C%kDEStr(U<iqu0&|ytg3lpm|)fYeqrE;:?=]?z}5ID&tLnZ$%m`IHTm?P6;v7D8Sw^$Sb1SyQ:Px</zyh_[wt|d0bJb:hVo.6_KzcI=Phw~TZn>(}Cw)ZIK'|UK/>
PF=`$rA+tLg2vR%dm$>J.;TY$LYSMDsz8gvAH*UFCeVk{x9jPmRXP:M:Oodv}a(Rk,9r>J/q8Gt~_Lc<h6hARgJ)4^YECxJfS2Xv^I)l{z1vV`w76sKW+PsR,+xJI/iI4&?_IG|8w=?Ge_]Hry`o7{
Y0&j6xucQ,zWlY4DNZ8&]{I^<xG.oD%THd/+#wWHz}Ob~Kv+E]Vw0qVko?2>)bn~DGsdIW5u|J6<CQm?wpotNp}lT/v!EEI~Uf*<p2Qo/a]OLYhDy}Jq.z%q8y'k3vNrgytdad9[*kwNX=VMS53ZWq
Sv:f4/r[ZC0}C0hVD2p%~mik4rP7OzP&!ZA%NolOA+v6M~:J*hz$$2_4IZNfZxj5Dt.d]l}0!,Hm0=&I.k^nSo7Pz7{T'b=z0WA2)jj&D,J#ljrGTQ[o?BT[pw|y'b`w)d;ed56b.N<.b*%51upJ;#
a,kA];*W>nAe=e[j=giU[%VNled.8.EYX:8X2}m5z<A6l#eDy;uD^bG[}NIr<C}|DWj#`Kc?X^`Nyl|jQ{`F%q[3RBB)Y*YO8_t+wl+YKWAwWvBDn~EM)v}BZ]/Qa4~2yW0,babf4yf`hpy'd`{Ko3
n7j?p`090zzS{oIg)I{l95!Af&`[DdFCq~Rly1]Px[6U1R?[Ix5$VHONf^PIvy_b(VRk(o1w/RRKt,B~g;ql|F:'e!m3!jWTly+:hDzu8RQze2KNyA84?/d?CBU/<'5JM7g8&WK$Kq*mLJF06nn3C%
p(YyED({2pe=u!!xs&AQHmx7y#*{hB*c?;b=ovFmuPxj9c>=n?gEz5rlBA~c,r)*QHp=pMs,ChOmMh#Xu8.qV}P1|axQyS9f%hUNV3or]P'rkD*NJc;1tmq58XiX0K}6mJr<mJ}paO:mJM{Yx7(7g'
:bR22bwURS0^P6kNhE/AN.uLBtYcPy33MUow7r+74D~#.H3.19^i7P5q!uR6R*Y0a$xTJ9pZj&V;.3NKf;'mxxi/,)LD+Aab<+f9!9`cYd6oBhA|&!.h=J'sJ]ap0^HA,>0txXsjGFzL,8=Y(*FkO&
tcPS2m2Lrf(><6%$`2~RPCy4,jYcLerV=B<wIsF=O.,f(LJLFyN&cw2neA|md.pE+XpXLuqR`P%0g5d:|>C~yo5G1uufJSkT{nYF+f$%{F{g/{k<e2jr&1vPQXxy>l)}`w;.XZm`b<JH,r>5U5$v?A
TG=G#Edn$Hn=?A3_1GAcZi`sK<#Jyvf<xF1)!<5~VUjEC#<.6(BeQ{G}4]/>~h|Df7qpl/T$T1Oq?+B(xQLM&g7!FA{(8}f(%EJ_E$Iw?$8~~)E%I0(aYx|Ua*g*:G+rEGi^XP7vSbh_A6ViB;m2zb
=AifJ=[~6?Yk5o4)AlDb{'U{MBG(^/XhUyz_*Qk$v00Vs7!8dYr9m6eDei^Ow!vIUt?gwbzTZ~$Ras}.rJd{'sCrLLV.3kU8n&ssM(%JXL}O6KC#N~wt0?KxO~D$aHmW/(V/dYnMza?%O'jEA_/>Lq
9C);'Z,JOP4eTxNz_Gv7jMSyX4_#=2D!zx#SD{_sg:zUb6V'2rK{ND}Mzy`[5wKi%*R+o/('1t$tE;]iRuXLvIbBf<B~EbEh+LDj,*))M(Nu*]Km?b;_4gyiw+sCj/~($An&8lLcG9_D4kces+T:nb
/e.{p4LY'xocW2Mm'{s~;.V/lt!4!,(A6m!g`#lRv^s81r`{zRfK'#MhIh>p+pc!0#<z:u$yoGAI}B*F~ma[grkg/VA]pH[Si3;CS#_*M>FwMV4Cw`W6ZJtgG4^v:l<^4O5`/$JO^;c_Z7v~k10W3S
5K5lkU'm[iZ6s9~|/Q7c;pBS`ka!!AT2PU++~_MUAx$::7Tat>GPi}(CFLkmQMb~lc>LjKm=Ihs~b<)'w4(Srvl>s<%E]aAOvA{WY~,wZ=7sWOi#}zRIBF1SRYl4UXV{=jyKGebhG:pAtHqqUb1#5,
%jD|R4G`+5kMTof|]!y`P&1KM,ph?(w(i1m*xP!5p|1YTjBC;?n`/B90J,vA4TT<KjVTr^)re1(k?fi>LU3k$?>d4=H~;NP{MPP44LO]w2ZjNm:!KvUU1N.q1VuraSei~NQ4u*);Vvt;gQ[+0RXu,a
;9j:gZcMA#%i:{PvF#oe#Nk9hYY&#22Qs)?^^(p.I#*b.Q30cplqaiJ{S~~Wx=CH`n4itS~mt&lLh63$W**3<k(<z~gyHn!;OU*m)BJa#d'D5sV^sT=,6A3,rO3;$BDZar!0bbxxSx(emH>6C_~C1;
_1.Oe65mI`]`Y}J{M;q^!Tw(V}9`'MVO;53KpoUKzu;x[.7Yx$/2Y<6#o+Y9QVyY=02(^F)k^/D6?[HV)LkZ[*Hj~x:<lrd]j~$lHb2/4E:y2l=Z*g<H03&S_$,ro#EVjgNhu7#U%tzh>Nu'jJVcMT
[N[m]vch6y47DZLi%eXa|.)sa'1zYj3JqY:*b=[x2xLn]^|6](UV/Ws8P>sSt^&*HvrpD+,4okV5xEhP+1E3EtF|Kwl0izYk9B{LovS:jm)3/aIyiqO?.WoEe=3w,KmL&9CuW=.'WK>*?I}TT!ev}K
%F$E,sKy_xwV7.^^mR}IyQ$E<N(b2I.wdB?XQUfb#rw5E7XV+Z<%5KGkS0s]^%gOz$Td4Dvh8jpRFEU^VS1N):J?18#lYkx#V;ml#<;#j/006kgO[=T[}D6TgPjg_h%alj%iNa40#T~>nU%KkdB!fW
!X[ww09I'gtq>#Ku}X]yMEV':[vXz`Ryo5?l:40&p~aD&eetX}UCBbLi!*PKwZo}qTcH^vU[ai|3vcD'LZy8()ZuoYgBDqP2>m*Ayua|~(eTwqvP<Uf0wYM^8(Zv~&MPZH:.i*#df#XFlh[A}NlL7$
Py8el#4~{TcP0>xnOB,|Zg4|]Egnb|)eTg{C[Oi7snn`Xi{&0MT&F9$W6Obuw|]feN89B8^27E*a*C9v?,f=yhG~i/bU]GuB66:3xem~`gv{5VuC9AmXaB}CX~6)dOmZMZNxAxz<O;Xwo_'*i82zt:
lQ]:wBr7.jxZ;Z]MxQ0TiL6g3'T/`+wL2ZI[h%[JXUHrHQe?4^zvN*c63D(:ceHSP3rj}vT(JDZy7#23Ktx}r;?![PcC!%=]$L5G%SEDL>{z`!PV*8z}Itk)fWK;)#|DV5>,!:5x/4lZ,e)6II2Jyh
*Z`Ov(&0j3fUcq.R;GDN8)e+BEMlS)CmNgB;?8+o>ly?lW~%V]YQGHT(eTq2fZh|TV;z5q6pfu^C}jO=,:I0IKT!D[t4MsMuOjuEGD&H5J9*x$9hbh1c3{:)KvAG6rh^8f>^tbSGJ$kA+r=vrQ{:t`
QI<i}*M,Mve6PB!teKRr,a|Nk]R+:EUrKr3xFMHn]nO7oG(AODH|wYN<n(_~hIN_k|R+Z?1r$j>jC:D8Q95#CIL!=Nm;)%)6~D[VkM'D;[BF1]aDYSunyVD2)MS_!WxZj|NbEd)[&i5ZK572L=]U31
]w?/[jcppZ0Z7k&j_gj)?il>Z'(j(QVmC&Svy{xMJg)'i%ER>p[N*3H3FhKfH$f9dN[1kRy?/JNv1h.XbVMuhTn<7(tA&%5O({#c?R}8?|i=JSL^Tr81SI8*E~*dw+&B9>Oy0V/n+;:]sk4NG=$]Wh
,,^X=qg#<|Ww>;Xl[s`x5v2ugI.QHa1o^i][18Cc,$rr<`/$PuOd#/x$RQ:4*}TL>?TN]#LthivgZ7Yg.uSA~svE0qZ{N&yd*?i)M.Ncc06m=K6pWe^4XL!}vw:>;$z79*^Q1]+vET{t74XG]ICxuL
g=+y^FXK>+p&(X0%s.TaSp;p?vX?7[GL=wiFegBpEvTgn.8OKvzPq84$+te:)bO2G#2qkdoqIM_.*Encl^CiHmJP!eIYY6pS0%.?4r%)pl^^6jWWU0`r[}'/Fbo2n;]o)E8~29gy>d~xo|L*Vzc*h9
R}dCNl;taR<$TIC<=Z6%$>7g*NC6L}U`tf['=j6#&[K`ue__&1Eb6y`dJ$J*??0tJBA,jT*R_DNz+9|?)qgq&0DYC%y3fXPsP+F1at2pn78=J*#%7i5)ua/=~ygIC9y`k*6&``+}b8JYJ4:6us^s]r
Ptu:<]&7UwT^;$c9+HF='jX]^D^qz6X=DKH&&eWgw}C6hHdsSi1mspq(0~^;ce>1VgY#H)zdJB8wa'GR{!eX~#2&S9rKc~S;%DEZD_]p4_i)Ex7AIm2FYVJX&rof4dG}wiKrnM4!:vsc?L?5#>ghI7
+;ELWo$<WR|'}dk%P^/VaE]9%k;S;j1Em3UT(j!apx'.=RE01{wG+Lwr;NL1Ex2*S9}F!,Jlc::;5N{N3[!9bX1uWRr'K[<ji{_vpQv1#%wtP%'YzY+GCK&v*ZjzENS!OT'K(85c(I8tZSvnKHPM_U
U|^aFxGN^Dy'u2ZQ`!Ar*ui9+&QKv=t73Hai2>tG[Qsr)k?=9i:&n6eYi**j!~jOmA[=N'H0mhz?H5oZ|%!7]v3oZWFwF2lNG>pQsmH$Xa){?XSdNk08GjOmh%]mevwqZ_`;.83ZnmH%cqyrv8.Ba7
)EJW=fZ!`yY.C,cg.t]CX!uf!i0D'6?rDdV6RlC8??QdTHA5TTL_|Ls*&%5ds)%N5J2hlPu:&vqg}=83jD>+e6(wd%?tahDo=.qd/rupe=Zs)8iR(VLkG,;z]5:*#>boBj[.3744g[^_8Yu3`Tn`og
27K;{$T{1mgz#Mca;L3mkLb0rjNP._WMNpy%D7X&KR16j'1zRg|o$,F+v^bjqJVg:rIlT[U*DOll<rG.iW49bx,5Q9.nrBe_Lj_N4DHup>i}l<aD*L(Xj3.jcV?)wb&g(1g6dZ8~KD4CUMra!/qjtP
+v~,+wfw[99dsWf%MdB,aX>;ta/jiSlBM0J^ewr5^D}]}&kp%4bKa1n(H>)_:E#&c`zMFFeI!mZo}kmM.Lk^Aoj!fsqe}I'>M{PpPV&ScU.c5YuXZGFB({%?IQEu)'K}W+Pp!k{R0^LezDBaNv(q/a
mvAV4pfB{[X^faUZ$!8%vYb3x[C2x=m~q|?TJbav$xJM)z^'{aU$4LQK63qS7L]`59iTH^XZfA|xVX2>Gf)2}LmGfv{Y]/WRoJ'bB,{X!&3mmR2&;G4E'B_3_>Zh)r04^n:hnGd]X)}[gLUQ{zwkO^
*v9pYHzDf.VamYXx?iie454(`%*<('uaB0(B='w}S8d&;9YC^Jpu92OhQ}pObOE,qB}c}WP('l7;XTNY0bf~UMaD2Yx>nxf.X1ZL6|m`?eYr;)0+'}yb[6_9:I>XctEW:O}I's/%^1y2S%}mShf>GQ
PM6&gX7g~6{[[4>4_Ow%m`RvWI3dB<6b]uzOzv{kvcbf`)e)sV8'K6<|X/PtdFfL2>*qSE5)L^sN;*'c',Dbj}]wt9m(9`OeKc(hmv'mX2GUQ`9rvb]$^1<7Tp+e[t.l{M?blOUM822~`ys)y6L.Xo
I8<=v=x|2k9j8efD6HLhHD<s#F)5zEC>{C>W|7<ZyoM:?ZpLs96w.M(I0fsNkkd8WC5igc}lDQYYRwdbD~tZhBc%$!s{1:EC'Wjn[PNbO?sOPCs#*GXwW<#8T*k:Tib/TJ8+xS,a7%&o&NY/RSIS7$
4VZw7M</j{1jM#%ltli%DGH1K1F]WP|)c$3^>x0`[5R1rd:uk2(ZxTf)^^LPVbzD}fa|cD)]O[1^9N0{VZ/cPxuk%SBpH$2AUQR}?lxDpy8d8Sb&d|ILd(3g9O&1''DcPCA+%^x9X$~zwjvQhSi0#7
MG{A=Y?t!o~Z;8`5$$zSeq(`A^Lj7l+bRXJ[|7ZX`WSk9iR[``oSW3&Mb{U.djZ5)Ydy/9e=;GLV|OG4,f'Yrc2HUP#1dTEu(U[^T<:+xZH`Wrs:++:)eTGp1l={2c+A}i^(|F![U'Y(Z?HI/]TCDF
dmtyE%g36~y*{.JB2ugwC;tHFs[fJmWUt*OJ93+4Lp|?kw5~K5vM]Xl3;i>$L<yn&)G!=NGeXezVI%O(0ZiJI]YW_f0olu=p?R0CXutsrr>S9?{P%ghRcX~2~M51x(RrI{IKzO`3C^+7rx0&gmOE&3
4(5f`LQyk5QXe61%PcM[d~[co5T]0IC~vR)4>J=x11r<[7=0q;fAnNuMoPiE_zN):h$<BYCO^1_%+^CG|h.j<lp996c~{KU{jbhxKqb_Y6bNaM?e=<Xts;C`:9+MyiNq~3q^pehnu)lp$osoUW5d%`
IvaPp51H'SJaqlVZr$8(_6F^a%OU;UrC:q1^qyW)jOmhX?Oh#Wor}MH`uSSe`k){H{?gQNf?NegSR;`t+OF:9&O+?qX~s[Fo/zTAKHM^En}ja4h[]2!|[N!b24IBXLU{hl|ZWV~O+)P>MU3t<EcqU_
A#dfr/!TF+~D<m0sJ]^0}BT;S5l,suVHUqfW7KEc5$^vFxzjP.XCrAZv%fSql}(8sY3+jv{(t/0KBVOtO'*~rY|)lIr?>1[ME:WETbfyKMoqbc6CXn(MT475|b4[X{7zD=tUz}TH5`7CmbhWBc5N?p
RgNI1o|f|:Eo6.R}8h?!xC/nbg|`2vgLzCVfZd|ZfY)y>TSJ~Su3+37%hG._lLa~Kn0PQtf%MG`Z*L$D{8<[ptX[#pOeha//9:pKPZ[sTWq=YIupFeO&+!.pKn;Mch94,aL':pAHfmJzht.mj^>_Zi
B)DkcJf;VE.i:]mVSVTT+~!|}.!w>;4a62n7~+LDC~/3G{>?_/g:ny&bA!wb%OFkR.Mi4umJDKkV{fQ}1U1cpPMmre3q,::Bi^}H|YoO(5:1][2u1vWf6m7j)U#[S;M0IRaDW:?{eVA.Ifex:8us#=
vB'ONPy86?)Fc?qf=13L%c:wBH!Cy<7asNbzv43{x;h|b5Hf[3C3tUFv:aMZR$CV'|GO&<'B$/vYqu.[,_,zh9*DR[lXSch/Zy;ucm)_`YF*D`^KtOm1{xU}&af%DW/z5%S}DFx:V+H2C><wi1(KrC
$AYzJTPM&ZCjQ|Ag!0[,F*m1*&C,?{>c7KSaS^=F}4,%CLn^][4>i!~z^dr6RfroQ|a:r/>`N.jd&*.<ta`!j&)9R1g=^nvFY80s;HY7X]h$&E4#Z%=)Tfe5yeVSw6w?o'~$SWZ*K>i0y3Bmdjjgek
oVi0Ga^^W&$[K}z;Hl;o+5oIBhdcpE}cO!8;~#>:z#XZFb![cDCLv%)AyP7q^FLX%?.'',TxIbX/TU;[FM7}[Zou?^6/YJx#,C<}pL]T#,mF$F!'Q?3?wGL73R`.eh%ZLesXQm`ywJsxRjs51N04]C
Sh>ZW,pOBW2N2FAG5o8_+M09Z6/s&p#3Ka,1.lykmjO;QZ38:uJfJ{?Rh+,uA']t6L&;g1oqW*hcv+HqozXF4=[hM]$;{B5Q,&=716fuhsK/%eyi_aA4mT5=lygER!FtE!Q>OV5)OOns1B)>[pTb[2
CK7Z_Y]`M?(0:8td3q{8'*c<Z[>m6dMbG`a2Do9YB5KU7?w]I>1BP,p35yAeht0EoNA3&Myhh?vGCAE|y&%w7dh'CQsD`4t=EkCVjd$c4h1!+BlL:'6Oy9p%#]5oVKjB(K.WyRA:8EJ{jkpOv;+3$,
DFt2Ov?+#lrN(cVZ4<=~4k]a*'/ug>VUjquOFb`nlue(bjEdti9BFF[^6TH%`0>2d5666&zU},hm1.aVX_E9Rfu>I4}~8~j^oc0f>6[Kd!#!}_u8V:!(lti.'3U}JADvPvA~b^.=RR2G?k^F`8J;Ob
5YBy,yBzUr(#uaK8RAzi+AVB{_Ln='%R?]m>t:QHnlC#<3t~Ehpii9Tgn%e]'G=.G6WsO{Zc!'S~4_BgF!y);<G+&ua:32:c^<Hgym.HLxyTHLa9GOzsTL/cyzfMoQua<`8:rcQpR*>kzV#,jI7$>O
xk[?H>'k#_d*H``)tM[gyEE,YW]jbQ,<(5!FE33sW*Ozz:'law3b`KE&ZT3!HQ9Ch_ZDM{l$[Ed^~9|H)iE0${Pz$Z}&t|5jfVa%EBru~rC62C47|iMkpRFCR=G>mGnKG*zxW*B;G0gBAa{Y6U9Ae6
?f%gvd#6'Cz'Bvf;r#A7%:j7I$fMfV47CaqOJQZC/mBUH2?5:r_wfCv?ZN.}H^#z6M$WHsA]Xe*Y?lVL(qqUP>T1X^~8m,}xkg}e,jclXb[*.y[df3WFx^{grQE8f1[luTcgdF7)f*4o(=KH4jh16[
Y,Lvox}X8P8[_Oe$mYw)zi`zOgN=VcqXr1?sM<S]U4C~d=/uy^9N$gl6ZzxfTr(#.qdH(o[(<xK$>XUbO>K8u4MVmk:JdSz`2g,Ri)TAYOpW.Lf7(h(ifsY36.RWuQ^;vq^u?{Y4{<fy|twL1W%tQ]
(;Z9u,,?8i9oq6:^yCo)0o^73QW!jcc8.q&xLz0FO8)PG''##$bSS=dEB~ZBKC]dHY10U;UNgI^eai*:9Fs]W*C:;AUzZ[hsaepm%Y:qHQ`?qrohhI#[nY!|S|BJAL^o.5HjMFu:5>^N#plltKmr(9
ymDYX6%oNqDr$h2{<BbbvVP8liA^8R]}%~pYp<SJnHv/%]F^lF&'#,vnaiKC#N=aRqAaYJo{V3QxTu+dE;._dB})o'*~|CQ!lz*Hn1CRN:+!';/%^6&ef_8q`TqOltJ=a6m5?zeFD=S&D`IiLM6uCo
,~Xcr>p4dd)H8rA#ryvu5]xJJz,~4I})FFPf^vW5CP5jnqw8xE{r6WkiW.z:Ri>X!tk]%$fSR}DTER=%y9IOR6`(gtYr+aOZSsW,}|>_6h^w>)GK2RSJ4*9nA7%bZ~FaA;4bik2i/du:z$9BwB,9Q{
)O+I'Z3HzLQ~'G|QWc.nM6O%un!qW*Bq#BkZA)5$Do[{4{APEsANJ`sAiGtb$YHpWEafV0]bzshrSq)&M<ZAHVU;l)xF~}7Jh2K]i^bUAAw9r0lW:`v3m//)#]itMJ'5V=#|&G0p;g6y4%t*2V|e3L
`nUl8'*c}|Z[AR*k|gi0lo>L&`{N$3d]%M1}:c!n6Aj0KLoO!D.[GQllXbSy'&hjhV>t2W&HzVsh$onH<ECe/9EkW'|*&`6+xGs'=x8d3y{y]''EKY_{gsH[F5q/&r|gSl`No*qi8eHI5m#6/Y71mx
)M|OOW'e7HUtP2D9;o`F;[W,GSmZ>Qw>6g.9`n(gvFR4:J)1,pc*sz!/lUG,rATXP/}/ml8!)tEn{Iu`yoOCLG&2iX*'<:c*Z4](U:bpsNEO[1iD~G,q|:>9'rlZ#[~L*a[kv{9/(HC3!j:?eS`)6V
2]PQY7g68X$i&{U|!:1~JG1~9Z'*WcTP4Nc)2ZL2q8~QsEhic)zrj'C]2g?4=G|:(t[cEgC|<d5skbY~gq,/$_+'`?aa8pFlDn>${A0tYS;VCs53p|dNri`d;pb4ErzUTtkcvx=Zp,D#;c`C1C506x
[g]5=H&4AI'.xmsi~DwF8kj}W`o8JTl:K*m`w#}(eE[6_I*X2b;7~Us:B$Tw?H0EzkK^NQZzH}2&Y0=v(xlE2{UfR>n_qeKMZX[U[_Y[!{'yqZ$a*a'4or,=!k,JmHG?Pu|vj~:[;+sUt>[=daZ~u#
1dEgQUhk+Qs$Dkb5SXThU7^WzO]Ew9*MWb0%(={CEMW/PN5J)R+dm/C,)=Kr)7<H6tD4y1;f49G(d~1^'e9Q,>TiryFt),7B7#WgieC{Mbvmv=kx?$s20cR1ygD,^sZiyXU[+h&bJ{ig[Ipm)3uR1!
.6X*blnAvzgD2E[1Kf,1Cc1BVb~^&E5_zz>!EZA]iEQDLO%NnKD9Z4#HcBYOx#YBgnDz?=la<{wZg1H&/*8QNezr^WdTnpz:MBr]4~ro=]f1~a|[yo,])`(BNUM.;=CJJj'kmq)qLjeMXg&;?3+>cO
A2,TzE])nxA;iH!TH54dDF|3Nt1%#D3Q<PSzeLBxjxtlqIr4w'7v^pwXhBP3Uv}<R_5uFNG|5CscjIi}:]*Ak12>(D5G}lum$}&C|GfZCX%{+4u|#gSXel=U2!XX/!6l?T`,goBXNww+<JodK:!c~J
iAC4eOkKgcAY$sr:X72w!B:x>KtDS#[VPju~7Lw:T&X`;3?7~y}(QY4kkqQ)UQ6}qSn9RVL(#O$Kr!ak5&IQJ>#i!>)Ds|i;7:Nz8j.#'Y5ht+:}G[<_tOz?d=!d*yo*w8&Fpjv|<Y9[za{k0G,J9a
3}xMZLUa5D0{'.+d7#}Kf$VfiZ0wF[!m,Z|TeR;}RAys[5z$h?1C*r^]Y[yJl!f8`rujQ6;2~L:LR&)c%xK/`lAjNd;+J'zne6giQPEe,X~NY(!l&`XI1SA0I~50FwG5W4C$zM#I_^$(G%TZ%%}Qit
|2:,l(hAoGmBKk_<f,hQ)|&o^/Zh?)lQtUa^AkCu1,pXPNopv#z3Bz56RyvCIe53=.!JJ!SPhJTQ3R_.sLpAN)DOZ<M4p;VoqRA2BBg8p>}G|MkprrXp&g_m4dhDA`Pfv6kGe|a:dMSPEzW[53JuoY
p,{n($V[hpf9^?!*`M$JGQR>#t{H)~<}Ds=t'5|^aivRmy4{X^b%~DC%V]WDnk6w8R`[1~DvO+_uO<F$2S~R)fx;viR70:a7Xh/gOkT%)*/bWE$bvea!?=/|Wd2A0PNw2&WX3pAjzwrJS1bXO}o_Go
age=_6.:iEb1MPu!`QyF$3`}%Zy$K&/.3JvfkhZ${OvCU)v^R`?sJ3{G.xEry&^:HhS7Th_I3H9F.z_FU6'cyBX/BK{#TcMNW_bqM/dR#PCPZ>_OLyL*E$^cUB}ZA*lJ%/noz#mvz2ipjjOFy&ofO0
hFc}1+i?j6A#lwM$Ly`A;O)ZjP/0UdZmL]W6vN&,CokXyPsDGI&**y#f%!5zP(hvIpbJneaYy/[{6=0$%^pLh;8{A|kl{<&l*xTq?!5D5}}h<~l%75>S[AoV}REc<.>{r0ZC~'Lw7zc#A1j%&J[)j0
oD|,!X]R&|4~5oR5A=_'!Z+NUt_lgZ#wzQbly13vOoRe0(_]}bWK5G.T%,XTMU4~F^q22?pAfLRvXk^H44vVJiU#d8z3>N3d`(nF)~.D.$FZ9vhLu&3dv_Qo&;:Iir&T)52!xHN(wJw[pf+Lm^=E3V
18&c(emZ))c~'F5sl<UsU.k=XPNRS7qF#l=mh2JD]oY'nWN*Nthd='*r^qSKbI$XnYcWzLH<[E>4%A_n}*2LOfYGfUKxKX|l.i*o'g79++?}AojF%WpSJAmF&a>yZJ<5?D{>#t~C8EH>3bCx<U_t_.
*CPL]+*QtL,=r>aVg]h[>G{1|L`:HzMUW|F&1F!J;1WQs;n14:[rO(]XH3}_+_]04l0bxeHW=H8)H$*l`!PG&=*igb[*otQk;EeVplgKGmc~X;WP=1m1v0$dK>|102_]2M<shMsg5UEt8<[{3+)1s4
:Z}z3,R.kRQQ[wlIy=i+ox&:Il6l2)GqrMQJCS({3,(wawBuj$U'5/1xmGMn3N*',N(>=]%<$NlSckJ_.HEt36:Kd]cj=_`po]#5/6uC;<>(kCWqap!]:]KINX%VlH<1qHE]xNo>]>B&=vj7'NIeZ6
Y(yF;dI5uG&(BWPOr5JK#mq.^8i)TrX1)3yc>xQTk`NngxDhpq1FXD2MuU2qB<#7N)d)&j2MGV)ds^w&$Y<_ueU+,4Cp<41InA_bX;u<(V?P2188oyHgnhX%CR)^M+DmsY#pV_b6SGif._Y?Np=avb
zRX{Y0;3i?)Nlz7^g3P=^Flg[j^QEowM<VB6t9zebA.(U8j=)n3w|k>eb7E[T&f`J[xG:'dBr6R#`K)+rn1XV${IE0uQ0du=`(PsI0C7|cYbXl(i5M+rOm{Ap~S!A3>_6<r][bW5$8:fp&BO]61$Hf
pKLz)hFL#PskS_NLtbr70!}MNUseJ:P>D`<5giog^BGD|kV!ox/FRhbx(3~;HGhB,SQ.(k5yYE3WOcGnTECM;bq]XeiY|{L#7UfmZC4]_z.B[f{z_*;#`&3!4izFDPCF<*{/?$fn4AW6EFps$,p!`U
'{#k)lT~zpDSS7_0?fdO]q*lu&*igFUJ[bl8Ad(}C]Uhc^A[q4,c.$$?i2?d.7Bgh(7LZRW(AZC|t:kp+g{kWk?)QY*E]t!d#y)*cu:GFJ!#6IPl(4[)?H7R:i0FUs%]^/7mbiv9v1r|A3f[bs!L]7
edRd+q7M+z(~401FbW$wa2f!yR8xg[a>=gadq%7Saq:4#67%H9;:R3(:~:0Gb_n&B$y+i8Fm4Sg.(47t0t0'N}`b&7<D}4h<0oPIC6G]Nc+uy}lp7&C5:dkJ4nqe}:SU!IV*1,KZp's66)|y(*w!0;
+{*U3p<H5~!IaWYWrO$sC:rwh`/r$]zP5I82'GFJUwP^Xr1dGY]Wy['s.7&u_;$5C*1=P#}d_^g_56NR|p~GYo{+[p|r3%hdC%cv]?}M(pY+jM8.:_pw7zPs|7JiSM}]D3e/H|fuz.&Rq5.^ETL&AB
h]Hq8~}:4IGz6{Vn2YrrlOQiZI)7Yioq[KSQ|}J]g&_..zmXk.(v~zk30k$&nbdT#;_02wR;{_MqrGe);seZUWj{yx((!HT#?g`lT2=>]xopB8L$kvLdoga+pjQjTR5Vt|$S[*h#Mv:&v,]_G^ffKq
<xBgJG^'cL{=P~GOxaAZol+DAH*sm4(}v0L{.#`U_A=]++o7Fs)NFe(>_fuhqury*2no5a.W=cut*+(!l(p{)iCx?hmYhieUX4xiQQwsftcdzw^*Ew*pgILQ>:2+mif>am>'JWFUS!B+2lNUvNk.<i
Pb2qexx/Fed)pXe9<.]VwhT0PmF(*c4RVklfm*`x;I0#Up;T?hXanJu)H^p]5Y]'e$^__,^m>U%*~_ej!TD/G53J9!!a<S)%<O/a2s:OeF)Y*{9Tar=Zee$EX>`4(&_&aS9a<Q&k6`i2K'<'u|y6f[
Fk)/tc6DwoqTnI3c:bv]e>480}K:]o*uEQB6'%qthV{kC/%XH/TDIh9|3HlU0]qIz9$8=>?cjr!/RSzo^G2}A^~:NgKUl]KTA4B?w>8yoqbTXTwp}hueaiviQ0.}1v|326pPVTd2eKCdn{_5#?mZTl
|^^j2Ws({]1o7oBI($Jq8Z|FG?/DER2UeS.MM&|VYRVP5c_?fnBCvL>HKp9_xOhJ$_ZCO'Y:g#W%$)K:_4j)1~Y845Kh!C6r3W$Ozf3Yga/D2qdt&?[zawbX$i>Mk{;3AYmq6L~vpIZ`KK{.qq4z<r
FAr>q&fWkiS)XGL66kvwtj0_8{]uOOg/u`r9IE]P[A[=f.?'q,:k_Yx[)bhZc?P'6QvGjvdrhC4cRW+|boZAo/O:$W+h.GJ:Stca+oy|`seOfHp!?/T_(g95[MOkieN.9WNyga70|%.cFpX&j2R_1*
8/,8S+WMWS~jeW>(sQU5:.c.<*|2;rHK_ldVhSPJ]n)w7o]VrC._$>dfy7%:r[LZn;DgV+'mro#G4H7zJc9QUub=V^h2K6M_~pB7WQ!LLl$tXz8ogaI9SXK)>ie(K)*`Mh?(T>K$G{3bn3RTv3=B][
Z=2!Yhpa:8WQ<`QWU;^LaZ+K^e_:aY}MvbE^OTReceCX2s0B$!6dI;Hkr}4f`~qKCfqNaLIr~NKVnwX}=C_0IHV&W}w%WCc[##Zn'`=}k^}15r1rq~Euk~b~GLZMrfF<XXSfZz)T=S{[9Tz*y?1YdB
>rgG)8(S7NXx#W|`/+xRa%S5ifWtsQ<(Nz.nZj!:I=$>^*k5mFB=5c>m?,p(|lXB6)7<aDje*0pr|}*%,j!.*s:Hs9f6cX'>.m^[n%.{gwQqXDt?C5es7yv&d2.2C+r5daCuMBLzYk+}uEgqk!6$EI
8_2^do4b8H(yv,uqgpK~Atcm/6hoU)f*!?jmm:(IRyRE*>1]&/[R'[4eks~=?cwU|tjM},P9)e'8c$bS%D.#vrB7bC_~)W&F&,/I_IrnLQB#(nL1(nyo]*e]uL:%Hmp%Yd!*_:^O<${Ma.V'd}|!8o
^AUfAJF_azdg/Pt(y$ZiLP(/ExXcb{o[(&+$%gaL<PV03f'KXXhcK[b6'&);:e{1qa2g'e>+R%p3)|+:]D]a<AJ/YWL8w~45n9:4h=^)4{L$}ASD9*e~(o99bs}gPS'TA=yvVxQLdk//IIeeB6_s%_
OIg~OzY#KN(U0!bn|T?=zz)?4Glz3r(zqRe!TZF#WiW__Wl`[T2k9!T*v!sD=2^pN&q{A:F)OvJvJjJDANZuyU[K97vCg1IxfF`RG$?Q7/Z?RCW=ayYF6sUR)kB10t|j?4oI_[hTC26OC*V|!?hL$G
OFKx=aQv=8&q+HA~._$!cOBnt^{vzHkT.HSILeud7^a#/)IBGG4G}_U0t9PxnbX}dR+2s!ihn$QLoarqpo:%]|uZWb:&j;>thAtC|1eE,s#VxWEfOr`0W<th7'itzyrwh`f3n('3Q]3YGw{c{K'o1U
6.Mupk_:86AoRuW[L|a:#Py/iyv(Nk_B7uFdWgE~XdC<|7#dg;'!MrH^*fKCAk&n(=F`C3Y.qWE^JuBKqU2sy#{N?C].v1y5?!zZb$F=rau8H2gmy]m=|F:NXm.hHUt]Z*l)tGU.1xBwR'XqmLsv}d
;I?i&m%I5Kx&yBvWg{s)H:ln0N{;d>e:5EEPx9|m9UE3[}4u[v?.;Da|pP8^x<C(EVI&&Z0Sd%f5!Y|yhy'8.RJF7txeXjrIC[r}n`?C8kcnhPd<RH/'1ncW}Kp**JTPW<n%GqwhtOuWN/k,~#IFjs
Z_!VW7O;*)#u$GkFxFNQO2x<M)$SjVFzYZ=%,s?Y?Z;#`(wH`%_lAgd*exbr#SEaNhyF#Q~:?DHOM1~GG(E8b1Kxkf!7r[VH<rt1P#|7r|`|w.Zp(=&TMvJ?975)*~m5>C5e,2o.XnR3yow>L$fM7R
yr!eiZ7bbQOc=78I`S(^AG~o)t_v.b~T!9:gYHK]Fqy?Ojc7~$#NETi{*56wEd+B#>S?lp]BT5E~TZd^PzfC!lWP#Ismz+D!SH!*6'3[0<esqV.t;RbYr&^;zV{KU;3J$3(RpVqw?'*f+`E:rg^cq/
O`_9pcTAO#MM5a;0AHFhjb^vKn[n*l18xw~UN6MZ{}JL'~XWI)7|sSf0/[jCo!GMq{6#:E,/_F]}%2/_>Zf'.StON;Oq1ZHEt]'8{`;cRcjC3FgW%s~H|HHfH]v=?GwP+GiDQx&gOX[&ub#GZ$dO;9
eW*y!aR2'NN1)H`2!HcW%lG{dQg}x7JNOae{7oblCUq3]m3qZ$t9Ju(!mJMA&H:YF[f=a/(F{0McnOT,Cg[hYRcO_c~aQFoQ1^vypMc2o84HJ6C,;3Zr2RM[~g,?]%I=|T0hEUBme_EIIWdbxDh%Bb
|?e,IvSn=_$D$WG7*!%#$rbYzDL&F>t]2/wZnqv6!CptOF$59!|bBX&Km.h8Y99`L7vZ^S`hOf&)KeDJb4+nm+tdA*zD$3mt%D2_Nq]V_F4#}>#f{jVnE?R]vzot/6(B3u~BP#f!b5qahK4<O]x#ma
P;l`tasV*SSh)fqEc0r[[,,}`J3X7sd8s+L1IK~SHa^t3LLNnki*%`n=)+?zVGUAgddqLOEE5:^((SlndoBUj*E#hRR){F_/)!!g7U'b5ELv:K*Q?UIK5<a?/C^<{Ys(WW8c(Mqe/f7BTx}e68k})t
Tf;kKWsUlG]w`Kyb&otnMLTg%XeC9tp,iAp&w[e<^#MpKT>l,/'^5b+7]~$BF4Br+229r#1VRtd2ZQ;%r?sH&ADA]kug6}GCEP^a!D7X_a:QQWXm.Y#e)9VZL|O*F/k[y5bwkYvWB`p#>HQ[A~pPgp
]AXLHLlmX=Bnq~sGpWu1sSZ(JiXL:]lYG9G=slFafcm{hr]ptzt;'|!_G{*#I_%HSLr6p~N;UqG4DDC9x5&RW&R]pu1MIj{xYqp.1rH0|'UicS~hAfzgjiCEXq~DuQ}Xye{xdR#NAhmlGskY6EY5'g
:xE42&:|{>d3eGtLS;]H{p%B9[OAo=4m.1dA/ypHseGC<fTM}KE55>F!6gpE3{L$sK]R0K;TCZcZ+3|R(P1j3#L3;(5?og)/fJwd+gvj+<e>LFjGiwmFXE.U't;U_g4_sU,Q+sJu6f[m<R|cg_[LR*
y<xRxFJ_|#[Ph?SV}ERtS~kp~uaHX/#o8M}72EC2AR4p#I{'q2mxrc7c6nXOS({.bH^+d[%=l;tvTDgl)(/mtP}[?o>[B'7ssk(cP`M|mA[(omQVoH]ZT|;6+k]4.4jA2W1P~cf4%SuRlh~s*+{_[z
6Gh<3X<j{?*]5r&eO{d0hUA$y)uxb!5)qeIK7[QOl8YFP=#uiQOCI2n=nw'~5j(K%XCPCaZsuG[|ueO217r(/.kn=sKHR1Wxd[%}zm^APq$j*wZs|glaR|+D2i]HQysYxP3K#)*nX^VNrEIP)1=TUg
De7soZue1SA{wmZ71h{7Qpr[3FiFp%:nZNp,&}ZM<7%T#:Z(L4DmCA3N*1^.ph|vNVNNE1tq>#^#UD+cR'KW~Yu6UvI=H(xJv_[{nBnwM:f`+%~sG}e!ne+o8M(3'/kr4y/ja3_x:a>A/p8i]ZOAui
rIK1aTtKKL#=x&t4W0$w1Cw=e2]`Vjl7z>_A}<?Igm$:3G<g+|j%O,7d{atE.YVKfho=/ZWXg9<#Yso$m(LYofP,*MlgcBIJefK)fl=MP^L14'fv}w.CylocZa,$$c{S/Kz2s.(CRoz1Z/*lqxGWCk
bQeQnQzpL(le3w32g>1q*u_pGv!D(i4u<x3_rgBg<bP{&9%Yv>w]XfxHlpv_t#w8A#+u5z`*uYfnKkn_^M!yoi:8xq$MMFG`2(yTh!4`MrSF35_)2pwa6R:Z;?10BxUBYkckQ[N?Mdth>l'o%zRM^w
rjNA:jirDXa)]3Crkrxzt1*r3k#j<DmM>8q)0S,p~:A*F<>b'TwTi^(8Xx'ss~=mJB>qX7ktB}C%TDAqdkx$c5QfS4h6Ff|(,_K}P}A=%4gj'sL{73Ef3i4O{l]Hs,H[L!Ca6ClV35r2Y4rHQz*CT&
[6SNM>H>o)JU*|lIn,]8X^R9M$T{Jte6X&T[^|Vk{4J=d}v77+{UA15^N1&)9'T{)>_fZv:3?71&KQx|}G<hqL.&)?3%7A9Ywl9RLR(qr&8Gnrn.Ph)lyOy'xOc$I?mC6.{97v]`!ihl$i1w`cgXKk
gmhd50$|;bHyYif%JQr.3(Y&6hOPd!?uHY9[.b4e9ze9*98c+0khIQ5r4)Ws1eEXV=tSrD%a%2}S=P~JaDD|w:(')8`g>JV<vwMu]*Tp'H.}qZ(vC8s=Dx&ID*B)D$Rrk?hd`(|xtaDC|D^,OL]HJR
Tp{$!4i92w(}V*/KiENg_s[5KuvL!R_Cmw3aNy51DZ*J)26yc7s86up6PS6;c7LtV9SBp410&LTfBt=7)tHydQMc0Yi'|jNyu]^7<*S}r#sIL7h}}CZPupHXWMK{Kq>?%$nfY;m}TQhfS:_Pa,wJ,'
F{aFmjI5DZ_8;|mPQB&I{!S!Bq.2_kuZA'Te:^[d*`Vh*R^41N_pe(5Mx/QCf|(Lqo^/pA?AXa`Nsr/RN<CF*B!nUu[[7oq^:84HeOE}A:`u1Eyod>#RI[Y[&9[vDe}etP;TJAOp8^sAPn&x!9.+DH
E&];VtRxQ&/JOD{BI4Y+AKgWUsVA:ySHc9>Dj:S;gnYQ2&}{_F9'/3`%BQe+*m[ax3k+mAGTO[Q`K~a{Qm8VeB7'Y]gk};1G[,Z!.18EKC86J0BpjKpA=X*'g~=Bl?9n2WK']a'N;3'4P=N/zH{z:I
lHZD%ln;vb,X%S:~A#eb6P0I7*7aQgOU%o11=oj).#l#cE2y`&wA)[P6A=?xORF|q3NG%0;Iy)gbx>)xUd53QeFs=U5nR}]fQvj*,Otp1Zy%!nNF%W391C|7bHn_:ie)W##.`QP{c'vaL_ZVhqjqB7
QV3^G=W6oj4{oBOF.sXD}lZ%Dbm16<'Vt2r~7_JrD*9=9#1iYx_TELm;dZ|GWYn]R)4p3<Dp?ejoJ*ran}[$Plxbet.YS$ldaZ'1]I>ozW(L+d*fp+<Wl<ZF&qYbkjnd>9`2Q8NkAS:3G#u:)V!#.6
.':gY2;?JJ+jM0DysWlg9Nrv<uU+~+Hsyb='|o{e1!Kd|r,n>T`,gFgS*_iJn?j5Mgz5L*;a;J/G*CxN*ZMw}l1UN|;{#MxQS%L=k<TEtuP`XJSxH3+>c%eu~JRAJ#B$[C_Gmzm~RHqY}Vca<axtmn
^.Tkdn`Jtm$n/RYhWcjq6B?U0;kJTPI!05Vfr[c3n1n9|9q<wu88:(lv=D4f31L)^ajbs!8QTB<zgC,2!DR9O&j3(TP?^d2jX9Ahvs%Y=(dnF:^Xbs+wd3s`YG&zojUv`*>HDOqN2,/8f<?elC5Iyz
1?DR/jhV2Nr,pSPf80;or/YR/[kVKuz)5%[bDGd_:779;N!R2viF=VKZ5_lUAgv_u`?jF:GP{|5RB0?0vD5d/kRhzh_Anu.)<bgb=q'VP9c14g.3=hvXhJ66FgRv9vi8v._(eCEEPTT4^ZPf%yUr|g
vQIdf*;xC)O/w&h2A89B,&ino4%Kdwe*Gtr:;9Kmm~~>v:m4^6;|]4^.l94;Qcz=HdAJX1MfBeW.x)WVm&aMnV5i1Z?.7jt(V)Ki^<f?e&?MB.3ORu3|=,.Bmi1C?l*<:VSp`={pSckaP1,uUw:54Y
6mEiD&on|3X!'PGOa~vmj<,z$vT.PP]Pu4Ue8q;f:JqfS.P#bIlO{K10igp`qZo'>tm&%jV1MN=2|yvt)HUo*LW,9J.9kY:?/OCbfRQ7yk8/xkI|aqBsFUL'NLoCi21N0[tt=+YJ>s19?&=nGR96e~
c1g8i{:I[j[69P*%A8}2zmt&;S'IS,dDSlsjTJ`Tp'ZgmZv3G}GIwFtCFQ0c6~dDb0~1N|/yJ2RC/y~V8H04';Y8z;'P+=+0RiHC]d6bMDJ%2u2X:d&HTXl_Na4>'kk|WXG{XlCZz9/wdsmF7?8m]'
OSLzXnA+.L[:XFPKz+I:M;>S%z0wi4Q0:S*RC.v,mgHJ5fe=Qk<eRmSO4?_#4&Lj=Fy,&gkGX8=}]1%Rf]p!4z!vZYof)MUdd.}:(u^H;;M)2;Gdettk'JcJB}jL>P$#,+y(N0#3mYC'RQ]<VA[il{
AH]:(iTm8]PgJurv~(C`+8<Qp5]jz:>itP+YsD/N+LERZXEC1=_F'Lk=/W!D=%&_})%:94n0S6?D{s&X}me#l3<`r%GVSr9w:.n])&)>kuy96<vUz}15<LjRGY0zdy`49varUWzDF6[e~iBkPOAabO
Ss>^CV*}Y(C3ef{xRmi!y_Bj^0!cyoV+Fx<C+p($QnBBGxrd??2#yu:~B([A=V:LL)tJ,/t&;4ldjS+]PikOS::Nn^hq_FM'&u9^e,P/^K`%sd3:*>vi8l=f7;X%Q?)Iv_c:(z~e,ube)lgYrS=3kD
oIt6p{.N7.T~5F^``s]uI'2npwI|CIZ[(h_6wZ)RX]!s>^KZ:>m]:x9r<4![2_Y+Ua=~S%xl$YLy:;4.yO&lxMvm7_bY3euqUR2RfXJK+!<A1e!|IfNmTDmU`[f&{4MIfx0ilEQ$xG!Q_iVtB(v=}c
5R!/2y:PbzRSr%';P}tr_)0s&6`px{9dP.1c|_'Vv`HJ$aX.do+'i3BHUlp_']V;un|1LMLe}.yjeTh&$cLU!c#<eQ~X/SMBi{p~'?Anc1|D!F'_G_uFmf=?Ut}+#[uZ~E}|G[L%PCY:XgiiRWV*IB
X+`lHa)L+YIKD9`t+S&(zmafJydtVrearb6;PUH2yy;+QwVX8rXH13>7:..$'*VwnBAZUm~AR&Vowx+Ij_8i.kCOcc2^z&,4t]F.jysOk|v3,Q5wNwdv*uWQg.i=#Pi!3Ui6X<k1M;OoL{`PK1':xp
5?0,pa*9RamjPR%o_hgF^5`ES}liXYq%fkOb+lN.{!WF#V^AE[q[SIPKk3*Jj?XUZ{GGS{!8SbPdU}.w_S*!r1AxWKb`m:MEcW`5ns*5{wVwi:BHaqGvo#8d7~upS*cquq}$c8]*^0RtGY`wR:VkrA
s7D_aF$6!')xIMxQUWdK_nHflwK3qB./9NK(C#/P<Ek}iEu|5igEM=r_3k0T3!9v!i[&!vzP(6'66zL`$oZCt^4.}<4dtX+HdzB|/.y{79TARN2y^EX%cN~0'fWR73eR(,;dG?p2rfg;tMm(#nmCK&
$TdserEgijO;D2$mF*s9}WyOqLf6!T)*C0K6FQO[?6n:$C7P3p(K8jz$5[[y?v`/nA'=9'<mY>om%nIPB17jK_PW<w`NjLIYc.,vZE+Hb([Qy^hoh2h}GqQU</~VO<y%HY0=;bQntpzd#wT#*([LWk
Va9:5uza$'I%mXV&kmG0HxNBt(rlcPxk|%PD##O|{DW2'm/wKFMYwVRat_9w6W!KS3)!l+rZ7=/q.j*8gmf~X?L#?H>k6igs2~VuwUC>'05W+L%?~y&TwDz<W$XcV]z/_Cr(?P#?:di:FGOHg/Yi;w
%0)#(N`.x9K+Gr[Od;Ab>eA7drpCVtudrMj|Fbe.pl'0L^|?[6X7uTD}43Zo1A,$ZK]/wsZlfTj0.rZ`D9%o]uD5/kD]w>)Mf*=2h+IwEWINR;1nB{*>^N]cSx}Ms,KRK(xJWo[?Mp}EHB/m'B$L37
tqV=6i0xdzKZ`I`2q#Zt9w:%7=%Fc=LBx5E*uir##)]WZDqc^!DjcO3.=#ILWnn&iMa5%i}2vPh%U_o!%SYEnM0fQD+9$^{P$9ca_~F%K%N',X8f|vZS_!b1Q^T$8|=zq{Sr*5;_Jf!j83uv1E{!'H
iVklDvI`piM|Sw|?O~1jE3qQ=1*8cL{_dcm~NR|?o14L43gkC|`|>(/GMBl}0~gPa.3:HBG'qtsyAk<8|U2CinfxaG0A23ialRw8~zJ%ea7ZZa0/>cIS[ypAKNC1j.(w=+KS'!8UddF,C{KsiZ7D3'
%Fr~*8e1#S%JT#dZ#r+,:mVU(ut12iTRrg!no%%T=s#WA3n9(3w!}53gndN]1[J!I[s4WH'HU|gP%*OS_6ij5:=>}h^Uxc(g>&HP#+kK9yMjfXyKY+_e)iB4%c2,oGbq}*=[`Iz4|=O+kNuR?>7gkX
'o&8h&h:%M_PWz?jCPZF+L:;'|ts'ggp[7b`c8sG'>#b{=8&MBp0w+C8.K69wwt)0O}N#&)!YQH/|1Pp`,Bvd_0O.~am:ggz(hSw.DWn1R2nb&{Nxv`.7kg`2(``Kq4cVDy?V4UngEBtlbwI!41rBp
Wzfa.B<&h^[d!M,lzC19!vr)4MM]BqN1iH>o&xU~L{9Ull.:z{^3#K$T<#nE:pS#|E1k,49rg[]f>$x<fOCzUT7HT!(~48;*q&(bqR$jc8u/53!'Gi=!+D[ezJY:0K[wt+>2SG}]Ant?71+:+IW[JT
_IOsnRKjkUpNI(N^2W`wo2ZR{`~z_gg^T>?IU;]v7>PUIPu,ucz(WK]n'<y2n]GMXZ,l0!(Xu#Se_~feDNiRr{[!pP2G>VwFY}C(c/3<'ekoyI>EDxQ`Bn3MRyWkd<uvF!)HjU,|&~Jp=R?_N7Orwy
TfY3o&.;)`Pugn,Vof2}Rr>5VC(qheH27s307J.UvCnNVTfm=]B>Ixwsjm`R7r4Dv<czE!4%J!vx'T>dG%#F^(Lp*MRH9Pp{)n88zn3Nay|AAZ73z17Rw>&OEa/flj)L?&XEGag8HI]1D|r5Dwa%#`
Qmg=H|JuUqan$x$mnN+Qw!*Jx>#AwW+q$%hd;)V3'UJX6w7wW&jxc9,O?Lj%3rXmJ_&AK1E`*k?';cp*X8v=}c?r,i^,.U]O3o{43'tH)tpV$]{}^nH*ROglU&5MPSm&>k'xNtepyn%+%*!vaKN5LU
XhVgtBwz8%v:VViov]Ebhg]Cem+{ukRRCS+C8'/~}:LL9rhSbO[dyq7ryh*+CYZzi3NO+!;#M85lP.Z,VfJ9g]TccWKx/y)TY4wH[+gVBWWoMI&g,}1!,gELZuc/6zuu46oNn7x0#^=2q!_yhP_Rbr
Q.VvtI7*If;8e)Zj>qvPG40?VAHT,e3W+aVc^WV!$'%Lt'T#E3h,0E5R=Hqlz+:WAw?F=&/go{tH4D3nu[gI6YFcb7D'V_=2ck$Ky~~Hv+t`zg&_C{FoQf&5OL+x+SW6FF>EI$V('}IA)#BaVNrAC`
huc{YMit/XbQ[J,KKo0Xjye,s<{H4KexQ%g_>si^|h|.,RTfE8gFs>l)NG_SN1]8P!%M.)eBN1Y/t,H!byN=U&si8g}=.15,1G#HWdL*nsmT&w=:UhQAhG5?i$(b96Yqa[t[Od?Np+ufLA?=c`ltAS
#6&'gA^'n9kWI=z;T>D>`x:fkz}uU[EF(3es230&6]f=YSW5';l!zl2y&57xp;ZZltlmW2Bol.F'pg0efF|jT9xxxK)UEcr_!#cvh!f%WP&3fDEt*=DZXV,;K?%jc&}'!{V)RqlOlME6={xtB+_::i
w4p1b?eU2#[d3BNMCse`Zzr=Pcz7$9$*OV'dF4COeGevkF_MyA!g!h194>;&&Rb8aZ2[K0zg2#onLZY?4I4Exm9_M'Q~iI+hCEEkUrkQ,h4RHD:tl1lnv8C70wLGY>ix(mFkDZ5rxA[Eo9`Vp%:RL0
E$H.Kpy~qFo,1)M#H~Bw(z?(E&j3%w6k(1XoLrhZa40xIPsHiIm+8U'm,$etL/En<6H$yD28gp5XHp8|seUTN+?+Kjxr9x*^,'r/ZQ!7!SP_r0N,LhXLp0%m78~nI;#aVZp)3!3:Ub}hbgbg(v3+&K
0IPjOHm}Er'(52t9_L;Ge$J<Fh{y+;4RebnlF58RYCgB507cdFL11)9&)u{%R2PE(b^l8l9V(j|)']tw'&$NV]P4HEMOk{(k1#,:oK8ixwQte}N~#U9^`k&+%&sc{{bR,r7x6T.y0BoT?lTIGe3ZCb
jM;U4dB{k(jSxuhG(dCR'GNzdDzMs4IJXgE2&TTp!E?;s[z%a{B+G+/`!1E)fSW.TKt%n[cOuO=+3tO'eZF|Yb;RA>V)zhTcQY`TXXj?zg_/R,.iF|qU#+LW.z*T]q,dG;FPQ:aetn=c:+ZoJL~8rO
[MO1y%Z`ArUA|zaf!m:IwHts+U~J^1'k#1.oExrxnH1YUkT<,Y;R3r2|)A;OtjO,J:z7z#eVePD2Wn!<dj=f!!mgjns#/sbL%*q&_ob2^/[G,;h6zLz%^~/sRt$ouoT_(oA!V[DVt#CG%8TE+bcb/+
c~6e1r#:n#0,m9I^3~?%V5i&9EHQy{Fd)H1HL`YRm4&LT!+q5|#/NH![j=WDok3/7Z+UII0spTE<>%_)}D!UGbH%,oQaOqr,c0rJ'I+c,I7RH$r{hn[;w{?M,g3xNMSu*0n~E6k]ageTBMiG`|Y(0=
'~[p]eZknc`2M!F[g+9ITC($[1tJd>eks+:B>w'&U'3Ox){2s9Z>>FQasBDJ^t8`wPag9lIGLaU=Ei/5%C}C7%6NoN?`TDcVFj'e`8v!K><'A#2(l5iumx'F3]tM8r_bpNWQS]i,!|^0&Am6+&1`Xm
1E]?N~6R`$|}GJ`dR:B|3o>TQ*IK1k`OFsC$Y6RqI9BV$C7$td/V}zCdO!CFZKDV1Xq9fE'P%p.q.!++8$|ZR$=&:l4B|UyEj~TkcAX1BU8;E>Naj*KO,vo^,5w~l.9+f3F+[`KI'n{bOb!<JP?.m'
23Qp2+w$,h|uXKy?+=ukw{#:GB]oLsxPlsHRF8>YRNNVY3ME1lBJ0.C=^,dtof+s?#X)2Eoi/H6/!4Gf|=B(vNTJ??CINJNdr;UdBGkQU%yCxO=:O78#'OGCh$8Y^vI(b]FO<:U'd`q$$!T`k)v:d7
U`^jHn.HS3$t't^l6uFC:eD6C{s#m^y>ez>XR$0Sxr|?Tp.>[4WJKq]}c(A]n[=&%U^Nn^p!+a_zGI6YW+MV$Qt+uQFgOh!r^%Zq4BHcqEZy<,kwsic]^&d|COXA4<9e:WA==u*~S/~:[uyyDDSo_t
4V,5Hylac:'E4gGoZb9yFK]'PtxK{aoGSK=Iz;y9BMIi5..>0]=%k`5W97jSQS;NQl<y/8QVqb{`]Y1EU92x6_{rVz!K>d/:th,~)*[HtEX;o$SE5u/p%5UVg0!6z6e+*'vlwN},_NXOA3utV]}dP6
n*`RtPrs1GA;eN)p1[EV;TFT+Iq,r1j4$_L`M4(w+sT!I9v3nXZ%#Y'#R5N^Xd95MXA=^J0x)&s`z5A'K<KRJUq{))&=P?)L&Zx96KjjAYy::NM44%hP~yjI(NdgT)vC!k|RQjgbu(x/6iMF8J#xl{
ljV.8'(V]H62h.4p~&MLGq*<9I}vZVL/(;<M:q2M7'$UJz=%YZh8{0w]pxt?'nQF0>'<c?0XA`SCvmzy/ZYz1C|5mCo3Qnog!`E)mM^3:(7i:hE7>%u[Btj?Bp4=7wKd(w:(:wwR?8QZJ,0=Vt3sau
)ohD/E?&)z:1(kfQSsV&c;#XQNnXBh`3MF?,UT1]Oes;gPR(LfwMx:_J*hhr#t,.|YrdX(tPwBP/)I]q~je:{0A|nh`?FZq5%,;LM,Sf:(C'r(N0Rd]7SBjKUX~P&>rOw9d.xF=ETq'pF#G|%</Qsr
4hG9YYRo_QZb{2N'}q{|Fq)>.^EiGdSpmEi,Nhin<poQJXP^SU4J<2/1r)hn:p|/u!R:T6%]P/c&n?wd=[^]Szp$kZac(/#1.K?sKIfL'&lb~#3ZDjIcy?aV*tJH7LejP|yGP[m?a'z)2evL'3<X!w
z4fNGr#t9V|qlOm+Y=uP~D813zUDA5<o8}|GXbq]u1LOK5qr^b`{6m_bB,{^gXTQsi>5w,my)5`psT|kBVJL!(`|G{Hu:B$|njVhC>|D=BOTn`OYa8e6d?E`9~cZ`s<gv:|bDqt_dcG*,}UtIYzqky
<T+(<5Z#kK+#5ovrFf)9,s~eIJ_}[T'TfOgGDp{E>,~)_cL0/&9YfK4K1m{6t^z=]W+d1Op&,D)#If3jrT:OR0dzSdOei]9=ICZ*A>LnQxmE$h0?t}]y(`HJLQEsLw5QomK.h_b~ptnk>Ez{pZb#+s
:Er^=W`yQ0T|mfTO%oIUebi;k<b=gqEz*yd]MUiV)#UDbEtb|lv=yt%}atI]++)mUH%`oKT/EwV:$E1v#WJ/8Q%pW.+xa_rTdhcJ/_!F3z*9D%(x_`xb='Sf'4SXO]w!Qo((Jk*f&_[L_i[p'G27?J
3jo~&oyr:KSd46rwl>m6y<Yi3'X+Hp6mx&kqhfwOV+JWg_j=~KS_ip_|vfTbKx7m)A/RV*~q#}o2).R#ycqct~qX9xt{Jue~`DHr{Yg/FAiimUD/>:|VBt#wHk2OMyv+_,yhKMIk0#5?'&YE4dZe01
n+[nn`Lj97Ywl;I35O:.?%HJ2:<.5TNLGp{e[wfi5ji:AV)9;%3ohVgnsP%y{FxSqg}zr}pjhU#81$(}ou94I7Xa^E:Z/NK&eVV?>6WWB&6saZ~8|Dwc;sYLaDRF'Us5.[x.WggFX(/pfEbN.W`:Zl
2Mb?kQ)Y_O(/6[8tMuFoKJDA{=ByMT|r;Sta2mx0ICVRxjMjAOkvL<C~qTgomQf[O[JG%xf6X,Rq*yRO.F^P$=DF0QIUro(,qr;/oO?B6SeFhrt_]D)O)5&e!Wt(k.mqxSn.y7R{4l*qWhcbG.e:_A
GI+ki^s40ulN,v,x!Wa_idv?h$:.*1!4eMDk)s%IcRCdtewWD1sohm9;p/zFRUlT^q3TgF~mA5PWs](fx?du)s~{dFew2f]y]?>j!LyJKkNJeW[0L'qr8PyfsoD$P2tnB<LP&4YTU_C3^t4eIv`j;g
6G%>zSi]P.N9'F^%)wx_U&kx.GWY%c,R}iH)wHnEc&r&Y&tr>;~;e%W>?;%+g?8}cZcpu97:1Rq*?n#Z^6bM|NQQr>{}'hrnW:i#^WeQNMb%`=2=QxLtWL(F1QSZN?2eK=zRLw}#rvFbSmQk3Tm2$F
]y}:6s%e_LQJdwn'7Q_1V6Y9sTm{*obpy0Ev)+P~ld6sM(a8$`!lhX}4093v}h7uCx6RI;{1AT1u`mbCu5:;<8>1,|qZ.JuN3&hWz5CYS)(LIj^AyT</f#nOc13jDHT_rdwa{W;,qwM>]:=<xp;&+'
pU!G;Cc;>P`m]N8O8^L`zbFPcj4aJ07(T|AoDgRKQm`j3$=,8O?2YvSD*)MF=b`CkpbFY?igU=H6cO9CUA5cpBA9Ld,t2[zBDv?vY=0`zq^E5STh!737a2$C[V,ZGTg%6?'7YiYs*NUv4dHAmH{<t!
w5d?l^3R_JU8b=JqVLe+1:?vx|QlaT1ZMS$+1HDj+jU:fo6*WgqV>g>RPR%(.ef!v<'^d6:jozKW9&T!Q+D0I4xWctRZt{Ee*HN4KRCo*,xF0#FsG`2eX.vnqqsEM}[yXAO_S0#a[,&|xnJRDGeXqQ
ZS(sjaFtn?R2g>b8bq_xD,A'9&o?5dU1trQ5|hSoi!lBi|nEyKPZTI:SM.4l<]B~|{aXKrj*,`FGk/|5>XOmjf(dk2k{<=,=![0+=~_sM4Vp)Aof7fA+T,';=<Ts!%c5zhbC0s*4nDgxHO;GAhsB#=
05#HNIe,l4Dl}W(nn0t4*JX7Fv7]j]&o]sI+gj80Pu1o9m_747aYz+&fYZx>f2Qff8g7ugZp<fpWt0dP'AEmn)6qFmK,yqTi4~mv?T9K+FE&m[!MWY?dvCPNs]kx4,gg*|40[{{xvl=}ocwQvhhPAL
h(=x>Iqkk|eI!Ym=L6Bt^Ew}JZyscxv*B+,8h^h?1Wh.Qf2ZHq^&.8+$c4icE[4t*cDQBWgt#H[>wkun71yjl0(hUf.2JTdF2W{hkM.[%H$Z)14~vWC:F49_E5'|+K<8p+YmrXM|A!yG3efx1J+04f
o5SAXrnOQN},=*Ef95(Z>:Z+9b9WqPjUa1*LlSH3{#ns*D2CFRwk?:T5`YJC&hXJzi!)qZa0&|X6P[('BWpK6A'n>8W^cUDQ_wvV0S`]o/;T9xVa/VF3M7AuS[N|BRAS`O9KsB^K:A#^.B!Sy)FT$%
q9iQuYfBrs`{}uZaMeurNXn{6E,{?5mr31_ysPiw#_G~xE}O4bCk#D?PB+w2>'X19iYBb#+.9xouNw|TMiD$V|=CLl3W0(=z'L_AAU}(qYC+=QMrgsn;HIf9|WX_0<I7u]_[%<*<2w&jNn4O5bR#pd
fBnxuUo$bpw/xrG$v6jJe?Y+h79IL{Iknnbi`v0.FdG%VH+VT]}}3)[%J~XDt)9~t<+Mv~4D=`Al[q311S7tkGa]G5)rthjT~z]npM!_Pq+l1e(cc68k~#QI)/Y0AOI6})uwW'1S+Ode=(YHK1o?`7
G+RHZ_CM{+u^(TE#Ou|QVMRu5~z,[h#Z_ID4Xws`S%JSE>V)'~4q{3PpoeoY'bfvY0l%a2T6ax2M1HtH*e7'=z?,!f*;T`Co+/PB2s#8=n<dY%H,oHPz4w|H}y&x4O|UTnWPU_xxiI[7nG6Nb.`{G5
vA:l%H$c{a#72?nU*1;M85J}3f=938+[u9>cJnO{s>RB/a%VRGbI{#zC!d$G)s;V:%%'/E{hE~(qXv%bTUX'}I|s!I(q7U/<DZk<:RzKrk!o3+5V:IaPmsdgvW,x$Rts4{xk|6i~+&:NlAO>NDYAt#
fq+<]F.{D*B9b}*FLXrU*`rBi'pJArt8?32{TO%kz_|tMrEYmt|5s~~6#o%Ms2DOSt46A]U+/Ca]fW2*_g|mSy=I6q;F6qtxp$q[v~v,*SWk/e4%(>f44;T1f]#82.,tPU5P][zL1CJGzT!co^kc(:
DSi,|U<1&m_PK%&2,2J*CSW(v]sA65[5IA=NS1RwSkmoy}[9G4;8Fib^=k<knA?yarX<Qv8v=#Jk7/os(<X[&vW{nph~_jzsBs6uAn0tYkDe^E<|T:=i9(5hc/e0#zel2zME<qj*Jd#YNC0QKKvvTC
rIJSgX7EU#=zbEGd2.w^Q'Ock00DaYbRLW~y`+4G8+W4;(Rj_pv.S?VA^$I}#^3Uf;EzUEXQ=`ob]NG+qW~du{)GdAIZhK<y$N!dJ=.C+'S?D#JHOHDvmboe#eo(|FCA6qos<%n}Kk^kX)]KZu*k#,
+N&anIupQ1I_Dd+c0R]gKhd_wBer&0nO*Pbksj[l(W7NDh87Ov#[BW%gD^!.2`|aLFIC(<uG<BmZnn_+Q*t#g<M:oQg2Ps3eZO{87lL!w7a4e%!i%|%dP|[a9NU2dDQ=enB6nzA{TPA{M2C:3]=)m;
,`F{:vP6lF%|I~i4QD8rDM^Uhw6i4!F.WR~2aZz;h;~3H3ewQMl8K$(HEyb4jQv7b$Kp~rcFyJ<(>~c1e.1m|&`]gU*f*A/xv;W|`xIe_9]lMPXRyL.qg{p^ece1VZ}G{}_u5j<gdKDr]zv*sfC_lp
$&1XU*vR,#G/,y.XO]c+EV6Lcq6~{Q'V,:%!VGmYg|YpQ4HQcZKj^3Kp=kF,v%[I/^CXs7+b{pmR:m70&{2kHbypmaS$LYYs.|[OUnRt^fv+I^%Q;C2YPb;|QFn:/hu/3*nF)9'[=Bz(alS6ZRdz~q
A!%S9N&_ilSvh!nC.Es]ZUJ&[.[s6#+5LA|$T%r7;jUqZ{#71`P^MiikptR_,0x0XF8!6{c9R6oa&W7J%buVF]%ngrPG~=0Mp+IItc/QIQ|Vjo!^XIl,xE,;za.J;?/I^)1`tf{uMH5t5Y8epqI!vQ
D'RWa;d;BnA;!7`:gGGmB|^:5tK:9fAK*Y5VF(^$7udI_ZomaMCbTt{<s9wtrD&87dC^SnPdq|7#fq)d;X+Xr2d73m5r4,9O12]))*0'YdwC01GH{2yfvI&Q9`z)mTvYe{''6D=LeEsZ![4~)5y2vx
7^O|5fQdN_Oq^57HNn/PB}](I>2R9^<bk[?ssy)Jh7,DO0cZ0Fh!`G;tHN's~b_CBP|i8{%>M]sh_uH|vr3Oj_XsN+U6y/T%&podvgSJ(9tgS>*,!s3w*9,2:5}bo(]>kie{NCaNyuTKv/Lb5njj8I
x:!R'CSb^bQH|ch[?=&xy6PqV|hH1xiF$?HXw#=&$Gcd7qlXYaO/s9u8k($>kk!t][(kX=8qRT%MGKqMWY,LTc!&1&3V^s*xu?vjF~uV&EWLSw~JJYqnc*J6Izqr>x6}=54Vcl&eI2:#Ck%&gGV;Ee
IH11VbMLVYKS$}Y0gp'8O$dAo7=$tb},*<qfA~jC&`#n`AX;SMdqJ$QGwP>Z')THg(JBSKLr>$f>=p1HZW]Ij?h`0k6i1V}+S=A}Z[L.q|?HxUZY6]Wz)#9t5dY;*C`Jf[dTnqwpgd*GR6_29Z#$!I
}n[6K>DC>v0^`+F[dmLL!7$71%ay:r=Jl&_mJx1K(ajo,z{L,L4DtH[Tz7GJ*el>rf6z1z[0^%}rN0GCsr20wF$FgV/oQI.8{V5F3yraBp63!aK`(eZ(tYyU{5+i#2>A~c/s#'d<yT3OOSB.y]M2$T
I9nx[^LzUqfyf;xlo9V}z7>2cXnoLRhacypACc8!,N7H>f$15Bqe4EwZt(u`4N(D0kJ*6/Sb.6GnB*o~c3[(5F!)d=1NSIT5mdePa(VWg#DgZ&1u}s?RIXkxOy*jzqnhA90ESem0oN&kVCp6IE:266
.u(4((.yB[4=`>N;5lO#x+1a{%D8d}182)4hl8gKu{}^y~}.DO4SNP1HOzJ=8~!lCrX~kufY(>uzfZZ0#Nm3<'0NgiB/y}XWcHx_K4vam{LJ|F}L.Ix?H*=!MbE:M=P}GB#,J#T,T^4ay_=XR$v'^n
/l_dDaUAA0>8rao,EI2oqN3]#fiKir^XrSQr]<9|?SnEwJQEya7dT.]EdlK';~(Ieu=D)qOiE:j`$/$h'[eJu&*|]zap~FUl#30Fu/iAwEX&IXX~iB,ZNwu##^!o1AI*pOxp8guwd{h,g1KaN]VoMY
+52]cy/B$S[D<hIhKh{:np[i?CJ(HmRCWIkFiF+6SOxEZEa.$7eILlau,~fdK;[8s,(d?^j[4AZALG^kfGnrGs)WN2jKXY2zvZoa*`Z=mp~&?'iK0~LqUD~b0z^9n7tCFAwgY{A$.Lk+H:YIx%l{;J
e]M37qXfzm2RZ4_W.v[ow~ptO^k`$3%z`E+jVUkjY*3ZBK4j`Rg(,#o;hH~?hL&/Sem*ur3~6xP<vqJ/:Kf_;XaQreM4XPR#+~JjEeXiD19p3MD7[}lhP>T[Q]/]dsDf3QC.]^ZaM4M0:?$.ga4ww]
=mgS)D<(K}VDy3LQfR^^/epHuC'O2t,dxwlXq>1F3;5!(08){_:%T{}Wo(9BpV(|P)khW`O;WD^|H'/azT(Wi{dA(iP/#pc5rb*HHf(0tZkD3z?y[j1{]#?LY(^}F|qq~=QT2R2?qOJt^Squ]MC^o'
'N#V'H~.v*(&weBsH6ff[MX,~u_Dui4Y`HpObB`rp{K`FBUhFn.Z6?+i&2OYeA_,<$Kmn9n2oF~&$5:]byUZ|1JY1lWmRvz~T$2!QxRl{K%Uzry.7,UVmZ_(^(z&8woZ2Vp0VhOq`2]]grfh+1>yT1
W?3x&gy)C.pTh0O(+v?B[zpvJudEJ+H;qayySX9aqF!7_bFh`4O2I+Tm3wAD+p46B}Wg0N$h'Sfi?Z_2:*:IJiAQ,o7h+c'p*At$8u+:O}giLUx;cN#A:g`:>,]_5I6+>O>u(0Rl{!u>!(8,+CpC8$
vNtb(T1[o3wf~h?%Mf7w&j(GXAl1ayb'KLoG]0>V`o?dm!bgI)t#/[B2D<H9%Jt6>(<,)I+RP'8?+&)!6QR?e/z8M8WJ%.$~nQhB>u_X?a(1$7TTA$L^J?laMcN&fnf<sdVaHF/D?>1yh'o'>.DX^y
R|_sl~]=`j]Y/XUC4Y{<g%UOT&;zYL9mbepmo,?J`G*QUY#('Jb`p5a~zzM^`7zTTFHtM_eQ,G}F_y)KSsm{b0kuWT5^lc8&YryrI&.bMOHhxx<N0w&13v)yKGe|S0K==ms8Xv_Jqd6'}Ykrg:'t<X
I~3;5l}(3R)E:YJ<cZAF#p(l>STsz]o.e=k|y_Fmj[P35k6%*9Zr_GC{YP0c~jTEB+}t1A#ZKUvHX#t?(.j6f'CYZi4E,IF2t~1lN,!bABJD#JVGJ![6>%=jOvVdcN='DUh[zUFbgSr|3+%kp<bf+I
+%Wn91^y(A_03E=vlog^$8<,jTfh:f].<&^Pon,5Z<SAfZ*X>dod5Ft>?_y{a|;X0T3>_ze/^k9=fa5C1L>h&=cDHm!i'j15Qw?ODl{<Z+<(/M})YLjD8$h#Rf&os:Y+VTCa(a1r12rjE;?Ew]6^E/
wD=)j*FnRH)2k5kOSb%Vi8_wi<}e|q*Y~/%hC$J3bqlQFL~}m1eV!N[i.o8u`j(/.5bIX1p8rE0^#31eK+c)Fk[MC3]5,VbQjLm#4BfQ|H.W>Bunudw$Z`%o:5$l(E9}yW^Bni+:s^Guu?.{Jj/u$4
<|7UK0r{OSp(VOJ^4p&^#_,6qSC)C<?Unr)oO?1520m/<4C+m1=S)/fjGE9q#UgriW$[C.nF%1q4UTQ*vt6ei<mhL+VRQ9jnm1V_bZf.y^^w:B>Fe_[u/(;S?&!LvV$Q*:CA4*4d5!^24Go_VAqn2h
xgCY,%khqtpcEhoCIigX~AwvsJeHs(*'{Z8~.k.EM_v,P]],_0M}`0ek?q[aDtgW/OTtyS2Ce!rM>r[]cTE%A>kECib?ng,pQ;7p?zOh5UEFk^*c0,3OxNPxdA7b?o#$$<D&1r`]z##xqZ>(qEdpR~
?shs1$'kH$lRNX!=z{R>0Jb{Q%m)G>D~%JM2]1fqr<Eo/rR}Dek!B~*.Pz)b4E0Gp=(X58Tf|8ewXoM=+P$X2^w?/+6~u(x{ZkI$Do2:m$D&|T'5]feE~AE;KNDDJ(tIkq24fm8{u.c430ki_~:I3?
1&#_w=sPn%Em'pMWG1*ux&{ckcyu($?zv$d2/>lPX+9vH>2$1cNr*X:S5i438z4nGo1Lh^)JQ_ac2|H&Lq&Z3#'O$Knu$NqQt0g4cv#}fdF]ZhT0)}!N*EJ|QK/e'Xa4^2/h|,{s6vh>)9XOfqfS;J
it_2%Fb(2,H8iK+6}v/|`{ce;0gzU+n7^mF8(|MK%'JO/Uw:YgVYYa+>lz'JiX^Bdy]Xm+lxMqsM6%0<Sf}i/9B.VJF+RRwe^d55bo]YA0cGI$B[s_=W3?gu#C}T5N_mQd/dAqj+a1i+V`Pb>V2dY;
]~U1)L0RP=),X1[H,.o'y&3xg&q6EqAt?%.;j)#_30D?61H!S,?A`)KREI*0NNs%u~/]*ozd7BH!>VvZ8XK2F*osUYl0(yG.?MTu##GtU}0,fP.:NPc?=15I6a>]/}H3He>5^f7vQ?m$s)h0?F#,`V
n%=0DLHB)PMVxW4z~q;!`[nI$3u{R;*If[nDDuvBmt;o'bOzl20(wmIr'rpb=2$3ez.nqT?Iu&Z1E}k5[:g(ZQ,glV,({,`D=Ek`qj^{rwq6fb:QqQ[E>^moGnH|66)m/U{^zP>6QP6Cu./qGhWO`F
[x^tD;<>rXPL|i`gM&JCc,R=a$2BJKUQ,72dz%2z:04gsoUdD5`<S#+i)^u$%A^*Uep'b%+TqXnPzOK`U#5^&g]^y^i;mM]zVLP8zNVV);ntT`_<Dk0e2}+=DnIXC'{A?w3>YJ&|*T`1R9&|sTKtPr
rBj5XL`0u+5+z;P}0,$NQ2JVA#i;ABXZOVGlR7dlgCvu?e$D/(iNm6~O+tWglA?O,!w^}2.`wL1,0KrO]q}'WF<.>JMVIyo][RgXPuhncUw(3#cycpI?Ql<^v:1jJ8s=kAWlE6heyUzKQt}=8di._a
5ZKD.YjrrFVwW$S%;nH}.^k~j251p6ClD>3f?Q!1;OJ{9Z1xIrkW,zHj5DKr<p:ad|N8^UfR+_3KeK?h#X(qTlz,`Ey'/C'jkFhwWn)kAO~|$(AH[`Y)r0:EIa<><4qot>}Df4k6zx/^#8dh1a#NQ|
bMor<a}^%udF}xYbLzc#}JO[e=_QX6y8ml<&L>}m<64kEdINv^_*[k?'Y<=r0`8%<h}U2.=mh?dv6'DSCWoZzYHZoa#xxN$3p#7uOne_tS5|z+MhB8qoJeg5r&LEsN%^:+lgtF%E`(j9/4?4>o?$EU
G$1`yK+OcdZs[Z8HA0*OX1>k`]7wz|xB!iI9pkIs`7~;7B|KMV*OmI[~[AS%LXF5s(ofpyAfFR`nyJ58xK(#^I*WWOx4cm}vB*c0{o?P$U>v}VYuf&K+:=#G/eSF>![XLg.q.5(*0,*/ulA~RbmU]:
w8gp*cISQ5Of1VzHC./jKV|J>6cn]`}{_|<J4P+s>{pY6>EMWm,f]_Y<mpRg#:ZTP!l~D:bB(;!xHYi!_B4{2=2O#$&Gns)opZfMU1c4r71Rylw.YnU/2bR2X!S.Zt(DW=9p!k?W58G#'w1_xUv]</
bxf:xkN9m6}~XOepPdARm!W~2'Nq7#8vt7f!,^?W,ID,S!|UEE^;~Z8Ec'cobirK=3u5q86PXHxB?(t4d<fnin_fhNGH~r}H$SkM>~c.Ls:qO](Tp+OW9~li+D!=Dbu=D|F<437^)Rmz~w07`iNw?$
DJz+:kBBb^j#x:[lI_p_}xUBf)_O%4zB4V/WE#kRJnA03{lagJkKv<~8^3{[Ci:GV.AIMHWe_eFREx/eIS`ZtTi.(~BdY^JOtlE!W0:4OZWW4(JjYVK5tm^5hIAL^rOT}[gownwG3LLnTJtX7lvK5$
ASvPkaJ<Vy8|,_7Lwj(1W^}uC.hMbYE?Bcg=$,k9.j/rCI<)4y;&6,ZVKR#n?Gdd4Q!9`g!47lGvNLZ)rN*1xfj9bGf$gE_vs]*2PHv`8{*Ov6ZF~FjC)t&&~~QYO5`EUc!xA]DGF1/Ybds?ih0N#G
5G(k:*A(}4g<>qm:}QzoQm^U3K:*(m3_w$LrS&={]Q}_V^BfFU&{I{hkh:ch#P^'m%hqbu4smOos$*J&#Zf)Na`sI$;!^RHH,}Ho:$`]2=x$.*LXxO78:7($.7~JTs$2Ba7Qa>>*oGLo]~')H>q[Ox
6v.DlWp)2Wj+4AI4lQN=u%:ClXanXz&JJ~8f}}31=Ww.Nc2.NLBa=GoPFB^w1i/,NVf]P);Dj#qtjyaJC|CkcbCRt3{s4Xh=c[JFL9~|x0xLI)xpO{;YY7nF~M=mE2HT7H(+NLi=KwJ7>j.Ar(SfjJ
W3nLNnfkx|cb|~0F%=xnYyc,)4%A,=qNfStV{k)`MuZD~H?HW9C)o5%*tDwO43+<=!J$qS;N*1D1GAFcL/R|[2oK/0qNJ1wv/P,Io#w:5jf8]!or#TYA9lI'I{f/lU]YCJ5XEDdX'T>:c1PCgT[`:^
ruknw#)n;RoxYr*V&8>0bDa>|DR~eA&7y9Tt`iTfVtddyM$+AJSV=qRsrulNi?bk7t_pz_OdalgK~ln#t,v3/9fZ[Gnzi}K+%)|JPWnT>PQ=:5gFR[FfRosjYKWG7C`9O}g$=SS/i19gx)i&71%ZP1
Ra6RR/4?8.y>p4YANsN<g8;h;m`65ceV%CdTgMrjC>MEGot:m?4ZApz9PnOf%9s{]K}E/C~[*R(t.(*Oj&+u<IHT^S3hZs,zR?]y#nb,NFeQ..So4qb2y_af8*3=*.^leU+*nZ)(.2!D7Zj}]uZN5I
m/z),gkli]P.j`;KwnRi4r[/Jv?*,/L2(+vo~woSmb~X&pSl2A}8SeJxHM>C6('MNz!R38<Q&ssZ~WUKMJ|6m<!EU'9+PacYKeZdc4JOPENbR6m*~?~_PjV[7;1ANdlFbM%!^LRC6l[MR1zSUak?H/
=wb,(S.CK#_5lt4V9F*sulmi39A~d)NU)Ub2e$^(]Y:bft:vuv%#JULoyGQRVn/y`sB:z88L)SGe(<d%^nF)=im>uED#wZy?FF>Bpd+^mt3$Wp`p93o[_w|~e[bI}[OF&#%8`43G]Vhk&uO|H{?,e?
xC6|D'TVylnbRQH[]|=_)[8Q4v=f)|Dh(/p%;g`G'q2dM'ADU.Z}wN<J|L2v13I+/9}z'dM<u]h=QT8/quAJWLvTZ?8_Iu*.I+*O|?4$mX.[>Spl|NYE7qi7iZ|ck,.Jc3*61kh`Ie=+oA^Y7mSwyX
P%6uV1Kt0.3,08=Mg}2C.SQm<.VX}uP(Z>F0z>'iSaK]Ik;<R~!,UxbQIZ_2~glOST.//o/~&YRUqvT$T;>>OArI^ZzNF.Jk:z!Z?~BUZy~P62MLJuxO$T<2H`R!,cZ(Lz>7mO0n3axNhA:|>Q%c'p
iomafboIE5$R*bdr^H7vzlSFKVmHLji*`6cHS0T/.T[RXH+}(<,}_eV{<60Y%gS2$i<MEexmE(*g_`vb`dkEUo14km``c]|jT_ShH5bR4jBzjF$mqm`c&vakt[>aL9)kRwH!WPsM(G`[,,>P#*P+xY
8j;>[1ik[4><!2n:V[JsOI.Ps,3EpkoWq:Sx9K*?.]ngwu8jPSun`2~/L|}iMp}MZp=DxtsYLU30??7lP$[a6p/9%>Jx^/9rnExFlRH!$+|i^W7%9q/sM*=#Hd/CDc5`1zsbZW^g#^kbdM*diY`DRm
sVNe>$<X>Pgf=AwCHw)Nn[yZ7_>0N95H}FebPRp<.+K,h|AA0{OHC(.P!8DYZEj*Dlmc%Q3qwA$QdHAC}fq*btM.EDYct,bBt0Dy~mIilr)G`HEan<X1~_W]a;;I<T{/)vswISd]c#5ik*!tL7$pTT
0Dw.PmByy{ah+(i{^uoQ^cL#9*`Lnts!P=1JHPr=KLb7._(Hz0'QU/H}`?]Q^Cl;E5t3$U]5xuvGL8HO#rcPv7;2UmHwdx`+RFZH:TVbpS!QgTyDRyy&ra+Fj+KYRk)%Q]vw^Hwe3j1#iu}owVTog!
F59q}h0%jQ$.`Y&NISt$+,Tv0N`)]z1l(g%$(T&8wzBPo~Gg874._hn;.<06o*'2uX*NlO2V5Q1*Lut.lb6iUc(Fx;EuUv2;F;cHI#S,2l9Wt250l2+jgW0/8o/UB{wOL2p]%oi(w?R$Ha34%2I+Yi
l$h~/)+i6*IMwh]SPQS`H;KGc.MejHX^<I>?M^OS^IYi'okgv{;lmunp&LD*:%agrJ*xe!8s0~MG72YX.c7QI1VLqRNK#uH96}i.2?cJvo7bRUtmrPgy96tq`*il6P)xFF2I,!VE3>gw&n!,]dc>Jr
R_iIFq#*2GbFLJ.kP/;gz7<nc%tkUe94`sxTemQ_0&e/6q?1TiOZ[|S3)rHlbGe#84b4Z~>}jD.*CHvoE.6#>gYV|F2F8=%zX]2I{E3~5+r+#CFYbhif1CF]a7_1Q;wfwA2zThY)dwn+w&Q>H!fSij
ZpFTfM~Ky.6)EIem^M[|Q7G%ZzF(MZ]Q&6Z13Y',%jH}o66nk}:+Fu;cXX4z=:E*7^nMe/7[,~unce`zuk0Hy^_A5.RsN;N_S4QjOy?JpkN1){[FNqsr~j^dt*/J0Vl=7[ISnhaqAO]gT7o*f`.bQW
VGtpz^36)Ja;Vj_chmgq<SWSdSoc|uy:Psi/Fgd&x.$9y,(ol,;cceXe#3[zn+#6Wvy8tLej%lT0Iiv#Z~m{cI{_)<G__5wE|;mWt./SSYO$72MX+Nm(krw[r6Q%K..HEK&kQk&;DXnFrP+W46*JJj
~!TV(Y~9SM;$u*KP>i;lp=PX2DKYx1M)+2+<9pkuXOolNX~R:x{Y5%}vQZtRUWLc33]+^d(R9!QQOs><CbsGO`f:6VtW]|~'`OY*>t6=><^'em0O0gpa|o!F;A'PcBv(]s^CBMI*Vfb?.A+plZBUND
=BS00tLiw%kqruxxv.]yT{e7cp10,*yQGc*T}niiQ1>9XKB3W4>rm_*$,sl+.Q{hn0iEc|5H>hFRJv2tnVr+xXd/p$9R:xij#qU}xRv+9[?/k#RHt_'9GYPaK=Mq5UtFD5S<5Gqossz_(<ZHN1*^cQ
7u:E(=CmuEgE1=2&ew4_k1,R6OQbL+]>o*gn03(k7?0Dx+wmD;>&!>%[BueyXVS'Ly81[B:X!6h0}L_(grNlH/rlEQ?MC/gtWJDE?p%a2smA1p:O~1yxR)9'KD8p{P0?4{n_Q&k/_gW6o0nxzJv_X%
>vBph+Iw$D1;7|r8z,y&gcQc'QOV;thJ{>q,?3SZ$xx/cWEuhyF|q2L'*HOM}fmGfJAq|}b8ym(h0ef*58er3rF9OHuBxu_M3,G9w2|.5'S%6D>>j?{r/jGk<=}|kZ)(rv_DjsByxom6jAlz%<3t%!
`$m:fh)EHG)*Cv(WC?t=lZ1^//DEAa07u#<SGU:5AGU~((!;Q94%JtUayNur{fLRR3HQ_aAa6H!exbG!:7l$r{Rf&rQ.I7VaUiCWOq.tCZ~6!/hB96?|RS.D&L[?_fn.zbtAPN!}[,%qF^v<YDosq{
y$z2ug^I,&xwu1+pa6fSwz)oP<erPAv86PjRx{}$4PJ:4^GT8$b'.F20JRD|ipL85eMpQ>#)#9doG'wDU`nbF|+>0>{/6fy$#f^M(91c+'FynNFwOmd9~nFD}l|hO+`06;tKIi;S}`*e<?^<8YN$ii
!PY~nC2_^bG)qsD]{:g]y>tzKt$>z%#DL0l9L12buThDfWRO0r~Thn20O2i*G'i#:+CVSTo2_&lt;`5;X0g,F+`s[!5eyd.~r__aI;FYtR2C})kwo+byl+5I+E<T</Lt0Xr.=*3d?C(B5X[}g87pbr
Kz8Ys]j%?UZV]d~%)1auz(.W8:mh]mL)Q*kwbhun(2buv>H}i~AKgMy,sj!^|+P.F7hF0:e.OPlK?FXl7[.)7mF:fnz.Gab~KyGlC~dV,{&bWFqg%w!e|enmlgzEN6):lE(_7YE?>jn+3+PELbbPi`
loP]V[0sAiQ!w(Mbu;[y&gN0lpJt<8]`Ski<NiZA,_wDz![t4b2f::p/x'4PlLuQ`Nui=LK!Bp.&3Sj7.D5!=j|4n/^hHH8ojA?3QoLe^MpW|wh9WUb5Y:EX,}BrNGr$Po59yQQ20t6(hZY,DJ:E|,
:/<=XV+V/GBma$&Xz,}fdhO<IW92rB#inw++o{UDjp|rn=X>^)KB:qa.F}7s$!A4=|/qJS=fbU:xy<.dZXdLlhF078j2Hy*)/Qt,Q~~wbo`B{t^K1RoTU*_&fsq8};$eUcrYE`#&?ThBkT>5+JnE;[
0]{HkvAw;(1%6qTyS/Lv0z(P$yM)wTwr}P(J#.x!%F}Y&YqrK%:l},}BSqK(}2#FIDh<a)CUc[7+jR9Zuz+/_r):.N2`.midy1k&W5^&vxr?_X?kdcKGfL87(jJ/:$RyK_vd#zr|iz6+qNk^jP]cp:
[$z(y]QwC6t/LxO)|~dGxWYl]q`x=kgD.Dmt>OZx_{b|vo2gzwS%08oE#~jB:m9TpM<q:2jQz&TrV:>[.Z|*,ZpbN4[rhcFf7.rp<`}#_N8Oh#8>b0Lha?b`NGE4ZQeqG.j2yWat>:LqpRjYM)o+}3
juJ2yj|~Arf7JYZV269=ePk~Dacbm4hY|V2*`.9+`BjxvUYF)#XVbn=[u7|MXnu>7r(Gvp(C(vx=b~+Pno]erR2cbe/SN`wZ{klSvb}rGrg*Zs[?RX_kJvN?`?keI`$_zgaZnW9#T3T`3)15Og+FEB
9s_c<b`.!s3{s|7%^qJ#w,lb(JB61U*D7XYElKhskB'pkAXIRgMBmW2$8:>4)s^^8N3r1!IVE[kk|%>v*NO&&,qb!N2,Sk,Q^bl$`jb{cXZ6Z$<~Jk:~`=Yn2?d&eiUAM=),ylK#$},Y*Av!/vy;J}
J63hxAh!=5zXXk|tZbwoe(MHO%81j^wGDPWVnwT;{4T+?C)*/(J&p_ZI<_AqV4[iIs<GAYb&?&0Kz5L3Ayo;^V:;mL;i1^UaG}|}]R>dlFxSTmC^Seco1k~uBKL0*?HPf9%~}~pz:;esLDf}xqfzeb
IR!b#(oQ#eJw6S%B_m}d7Zc[{]+WmB})gXM>p:[.^)2[6F'oER`,OvI%884#fq*M,I$IDYIyQLqkhTvT!ULza4TIpLW4:6ekze>hh.?0AQNvlYXT)kVi.JT{AL$9Z)Ts7+oQ*;P2>qdtx_eaX.bn:)
)8~|q%55AZ0:|(]jb87?DJ^=Yw:zkd3TlRx8n7j[<jKIwR9SN'3Jt(ZHOH0$my]/2S]$b%H)ytcGa^.u$Ha=!Nwx<0$Rmt1UBHflIsbDL~xgYG.+M5R$]h#JUJyOvYK^~DHvZFcXAY^8;MK!]&EX{}
ovUM^%W83jlIN#$)b<|[zE1vf;_/#ZU60za(|Cc2JZI%0,?f{=W+t+2zq}c,2*I?eZ!uF(s4H124^3JU#0?*b0+B/W).keAv#Wdg,#:4YzBJ]q(y1FjI4WlC;Zd4{9:sN<ND0VUArbasO/,7J+N'ny
(_&<pYiL=(||:;fBE]xiex,pLOql8gq~RHMTSiyxh8`5[AqE3h~bfte7f8$u<Lz$L!{?*={~qJb=zpj3>Beae+o^*(Q9>)FQL*tIwU>]`n5,C5u#gFWa:>Z&OoC`m$(EMu#CW'MWjGB92{UMrV#9lP
P[(Q,KGxx9cNsJI[{Pp&VMbV|kQs}0iv}~#TkvD^KiQS6ac+%>c{KobDn%?vV,`ndT!?B(zQhrGV%ze8u`G4&_u+S$6,DyOE`Vv^=BS6,w9UrOea<WsmYY0{>,D*Co~a+Oo,k/iOEdwIv}G2Mk!0+~
EA_zQ]Eg(NDxaMA7Kks?BARL4(nf(F2xO/nDUVPmN}1_(f%/#vLj;}+ym0)lSvX#fw1Y<RVN|G[yptD{Hl4lO^#IF:&=_<5H)6HoxUA^Y*vJnz`(&2!{xFs:WqzmjtSq_>qahe^6>B^^.0gYE>#1/U
N5a4#tv[=EPV88DD^s7j,=PxOs++tBT$GoB>^t8<5s)Wn`*.Ta4F_GF}H$8]=_>pUEAA+*TxJ!Y}10hWM:w9JBpE#!shY.w0yGr6j7?go[IOK#O1&9Zz0enP^SaBx|k[r/`+/F:dN]wA0D0v?.CN*{
g;*cH^=<{jU0A6S_UvC4M[my>_6:&XH[neKck#yd`wi`,|DQt?6)3)j#(A4X9,T;yPPb^Jn$7EGXv6`jb[BR`#wjnS2}b`o=SC~g_3EYPv?ambkCxEd(TH{AZJhTXe]ez}v[X!2wndD$<dBKF,Wk[M
;_e>%ZB#82kVJoi}z5~O9{v{}ig&Zbe%z'_TR)V<]4g/4gl;8W[=?~Bnai<B`wB3('PA(WfHEVcX5[)_0]aa=q+W=6}bJ/wMewkmGUeUpcp.<#jN#i&$7zSGtnbBZi!?:lv&N?JOYI_7i8QJm>5VGg
7L`=&9~'$&0^gk(48'_++uhahu{L?dn[nY'*R+_;JS6Oh|V#9S2KY!nlZ*0EW#c8R[%;>#{ped+jeGvw9gv<%^MIq8j#~Sl*B)^,`{2L6a0o?n>>~mKg;#)6l9re;]Dsy=gIfHrWk8,<Kj9DHpHq`j
P;m=IjkUY}a?C[>?hjJ#t'p'e|0Q5(WT}d|1{o_;|,3Uho}Swejal3qccvnh'KYvfu&J8uP|S^808bO2s<|K/_wwT(u~i]'#+W+`G61{dbQ`sg93%k4QKO=j>Egur/;oYt4WY`D<Kae=2S3?G[a?]T
`:!k7ju,gz|9P8/xXU9IK*5GPPD_aHMU}gOr+OntUO3(:+`2$[S>WgWHA{=;G)..=EE2SiMr0M/>C^^'PgbQg=vY`oLd^N{B|)?+|?hj`eQe4uV)#GlYpMgKSK_NbBbUrGuN<ED/GbjG5_i^^fgRb;
1DoQp~++m=f$vs5NGW:X(to{,tF%+*8ZOWu&wQk[{.PPs'u[sSGE~hJN~[FNA6~q{(,i:$]*yVeUkddatC^6spVsq^/^U:gDuT/Oj{?$E$)bPQT=!rodZnQWzk>xcge>5/GI3h(7j1Ap(dcz5dPkoq
HNC;lI8lTw+2{tUo^kef^/o'i1j.N1qNi%gOYz}Cmp1.55g1u7;a<m+^RZ|rI[Sv!:&Y/Kz02U'02X;>U;Jjk53j1,!7w=zWJ85]v|_!pEV(C9GJc=^PGM,#t8|Kw*tA0>Tu#z,h(yp`Ex1X>^oKt2
*GIfmm;eIge;Xc]F')HA'FainLQpXstmD!CAgRg^PD:~9lCR,pUF+3AOLq~]a:FRw;o0.Rh8q?Ser09OpL%sVA7b?`g>3vLN^'[~i0[CHVC59z<%Q!C.UiL&z:AQ~,pwrc;(q7'&3hA'h`z<GD6i:&
uM58~7*YN6Lh~UO}*NVQkiLWhYgb86)u9/8hn8y4vMQ~D!^VtF!w4=a{0mHMbFZZAvHGz6Amz41V8W:Q!Sbvw:lf8t6t,2U_eroPd?4SBaw?'7w5:?KH'!|?EsrtCSKPD!>1/?IHlS_h~$vyomvgRn
1.2wEyUOVLC'Yl>kHL*RCsJhIt[,jdvSnJER<$6b1e;G7L%VMj#}}.FDce|pD{i/%w!axs~HZpak/|o<p]l5PDYcx#)xTIdK/DHLTYC`BV]|ySlWC^h^tdETlP`M/$Z1zENGYWEiF2Cj'5^B[u`)NJ
.hf4,*9Ap%BT4rM]>9PAZkVpNaE_R?g~96=_%GDrUCJTmDP?8P#>Awdv]fJf?e;Fx:h=fGu}7x^S7T1vvFneAI9q]3.mI{K>mE6)(UKo0%cO_|;hYe#/3n680pTjFgD)zeKU6'9:U'**b;QNl1UPk>
jzl~]Fgh()gBaJ0!0{WS0A|:SpOr]9erLJ]y6aP}?:~&m/#s.`BO0Bv2V8)25^%o0sj5<3(j5P3n3WnS'x*AbfPQ5eD$^~R65<g?o}/]U{(FZ4#U8UP_m#L:.rOqG;bx,Qkwiw|NwBcReuCkV:OF1l
~x&oHsGna&ib&=i;Mwp%QC(qhHh`Q?yf2!7!Elkgf.6j,WgelnU[s75bWU#z.ZE.}=*')TV4YH>KrW/72BXc>ni/fee!O}Q`(:}<Lo6|~Y%zQGf%xvP%l?=5V;oy[G2F+(~,Tp/O{RA8mH&5!/Qp9N
RPd9KFu`PMv=p>LAn9puaOqYay~24#>=g:MY7H0{D1k'}P4P&Uh:!THwfM&k{,EuD{A_QOBJWulH$AE<C&4Wz:jG=R.h[$[U6Hfjx9g19#$O6qhV4Po9%]DOq/MajZIp=NG)i9cHm=A*Q4x(6]pA,r
jLAs)=CA9*bV/NurNAIO}tDsIS4sq~Ef!D,u*vsN~ZBdexx*3Rbv%21LU,jFvlKuF:]*JI8v7#hX.quy%]0Ag8KQo>A4o}xs;U#/fOKm1c46=r'a8(yz0;Bp]9ot|Eq#ipAn3.X!K[)dt.Zsyu;DjC
GPr&V#iB7nj'99E)i)Bly!Uyxy#^/Ig<Qbk4c![JRM)U+2+k%^/N?Na:7:)!U13TU(3(9QB<}g,wRo3f$*q$[oXj6+ivDE6{e,~U3fqpLp~REc$94HqROHjc~k69Z_nnb6Cm.8('_RzOV{4I7?H?yv
k,)A.n'_~!fSUJaP3d?l#j!A;nIjB^hM|N1'.[(}MQ|e;[xfHfO*#Ja:H:)6)QglIa$x>RMDy+kHc|{qkDJOKg7WEnxz8hgp&EDyE>;b3!H4~`L:,K~C{ZhKRDXB0UD(Xl+D7yuFk}<4V_NdFe,ZDK
vKP6YOo'%>z9obhvD8<IXIt7KdIYoiX]`O'|UfVaOn_r$G`lmD^~Llr{3*9O2{:~=^YmY?CrW'lur:xphJ#A13?2]DW0WFE~rearHZF3X3B7_%PxN'aoaO.lCnjy.i1aoK2>WZefxCvr_R#PiZq8Z]
[bVGW++cnL~]>T3zQmPU9mgp!X?4Z=KDz}3XaS}ES)Bit6m34{V'd{?n;qVw2pog(Wt8f{D:yJG8Lx!l1d[Q0)IX*!E(X8K^V5kO<T4nOZHyp<63S{.;Ykrd]cgqAH|EA7o;0bQdB%W&z(a^3tq%hw
^t1uy]Z4xxPvsG(Se23%!7[3'Yhs*C.:!af'!D9OVsKk1/9aH~}>*qoaFwGSUe029N|1pSY&Y*0Lu:<5M+EKF>#t%?~k/0E)Z[G!7Fv(FK'h{+U2g'Y&XC3!gu]CerfrnWU9HeLacP2Tq]MQa,N$7U
G2oSq=UDbm}sy9Lv!8SgT6Vsr*v$xc%+=|5V{abVKB{dD~in]j1Qpv4gzyj~vu9Lyo/aSNg5sOk1t_=qi>IW^^2NBXYd]_KT;Ua6xHeaV]^u~Vb+_+cbUzr#672#HoiJU$AX}OUpR.i=x9,N'//oe+
B_riLR8%;Pbbr?Z;Quk+9Z=zV,sK.(^q~JVjUK<`AA[16}8CN^z)S*yl]Uj=w(!jV.p1pd=u{$7z[wGOH#pqSk9A#xh.Mjkp+~.!8RS9aESquB.5D1<QS$Z`ZEU^3X]?p[Z+awjuSwt*PA','p{9sL
'~K?'iR)p6_o$qs.QekcX]tPTu):;2NNzu+y7M<eTcd!(_gUFeshOw|V:p.i<_i'XU>sen>$9&[MzMPju~bfVRJ3=E,I8r%GboRgY[m++Y^w(lf$M*8'<=v>?p1ljDE1r7}4rBys`gm[3o2~j8[c7#
:H*U8ahiMWcY?bUlvl{6[>6!E]fC?,(YVqtJTLaHDw'mh6hGvw[}%X6SSm/YjaqE;b{PAR$F=h3]X9==E=F(C1M6jh?Fkr8WyUI;snG>0`tvh7<qze?6IZpn%0vsV2PWWDE0Y;;5^Wb/wB3mpnLn`h
+PD%OW8J8p!C]N$RFae*Qp8P/sB;h}2K^O~TOT2Kh^SIZC`W9.e_H=U3X<c+<b^XL:'j)][N(Vll]#t;/#xu|lY4r$YkJHr=G)v/j[b!MBt+2Ra&jiztoI</1Jk(a{v[QQ<cmQPy>X6/j=LS%_]].Z
uQ[QhM35';UzqC99YgBTV?*U>h}Vn[!{AIruGj7GUTm(O%`oDZI}$j?w19~BIBOl;CZ8a>]~'H([]6^`/VH#BRgX.xF;)hf'VSR4?NdZVZ{z_}iOP/<rdD1v|tGet6IIM_;Z3]ml8pEju#?Ax/g=`S
H$O/8yYG4DFi&_Jmj>g^=zE}U0pb<RZjc[!I816J10tD{vSpCU%g6p**pDu4)=S:9T[ZfYU=8HG27GPn~)4A[}G~g&v_Kwnoj!RfMr*EQ+8.fP6M3kh8_E!q^dGgUuE+RBufy<tqz(Hcqlb`LcZ>r2
ACZa*&;IXE)^6Gh}[=hZ:%Nvk.kU#4Y_Pigu+_K?~,[|ET?<xcCa,]{OLMhYS:=^'uTo9<7g&p(QPyA8jfe5o&YETx%]~jBvmJC;rZxhUd}^VTc.'Sb3Jm}_3$KO>)^iu$3>3WjP%s(]G`2^u7[aEk
sPyKP3TQ:sGlo;/&Ul'PVX%~KK7*}A'>^+_FP2mtDh(My;7,ydcJ(bn1;XkEV'n,>9vU)LD|/GHV[a/5E>q5.#8B_3r.{pM=S}fdO30zs[L.<yZ{)~h(4Yy<WW&H7XDRA)O~};8_ibwM$|I.p7KzY[
xA]}jN4O?b9|$aJGn.$)Cvp.rZ#zEYeACiQ=m's#2T,%>ALq!%,:=l46+2+Ol2h)51(&}Ocz}Y[>5ANj]`os?Sw)m~yN)cSB>P&`HC%DLQyp?wx36&?&[buBZgh4$R8]h!=>_P'UjMAG_$f}gfcbJD
=arX+M*_<&KAlYoX'pEUbA5gyH>v]lpH6(fYGE`<2M(,Nhir!/PB[]u/.S{>(Et4<k&&S,Vzh4ArFv,_*:vd0}BKOm9v,?~RtLnt)Ke:ZoqhS}z;O+Dzlv5K$fSNbCOdI6]p/uVic9`i/y(isGp~S(
$oB6[2u]}uu.:~OzmgNW>;u:`%l'#Y,d*>%E/{x&byh4Es[zz0!Cngv]HuO^bpDg7:uebbx|iR(Sye'V_:~xrFQBh0;,_/zZ>uzX8&fq(!bbzT|`4gi^_$^[36()o8SHZ~.Rj~v3Y[P*aa$mI2`t?G
{/%y,.UprR|sORw1~x,jrFSSPl:O^5>U.6S/QRc's,=eOpxy9)[O]='(|Gmu^0<Z='vQK{L_rQ#)9nD?3035c:J>o~KV:tPo*ird_7xy,Y|Tn4qAoYV:?iKse$N&ndIyi1F2&EntIXd7R/mDMzR$BG
Yda;pfw3T(SMn4Lwi_]6feKJLea|HAbE4s9FerV!bkZH8!F,hX<f`TS+^`'6XzNVK1_D>GZWd[usLG~9]K,PwfZ6SxoFy(h0rOH6Bgn^E363EUjU.M^_5ocRw1o/NcR'f.MC<2u;c8#i|L!z%SchBw
4Gbi}lqtlP_r1`VrV0#vS<lT.u+!Q8nE1uPhkwTr_B~|vF,9R[bmOjV4;d?pZc`z`^;~yb~m%n](]A|OQF>^j257)5HMh'S<J=?+aXB|zz)r`+EaYRm!/xO|xrL~qIZ!qp*0jc{%~Xik[A52BhmQcG
*Bu)xzra<=nj36y:QwxejQM/[,+}v'Kqb+uhU}31w)QTcuTa{=C)`QD=`l9:w,{Dj+YD>9oZe[b&!E#AO;E1*Hchl[m7B$Km*EJ`;eImi01!k<+0z`43P~y3TX04^b)u(36.]5k9x./QR~!_x)XJC3
^Wo|ovJet.DPKaY6n5^sTYxO_0o!g`Wp&h}S2ltkuU&Q*^yy<gbAY86k=c^MdF/(*eb;WOZIX#.bxdI$h*FiBW%K.$nx1d_~Y`V7E5EcId)86J+{HQF]vU>B's~A)Ej&K+L~/INR:ng{~r{W<Z=4_9
vHmnyp4bn7*_?a;#!?<*!k4O'(l).1&UhcK.wvt%mc}^XhxgO&F*kExF(uPvp5*Y(c*wNfK1Q|*TIw]ad__t`LfoO.w4|4!q0Z$w;hqJ4l[?;NML#W%w%f^*r`.L='}!}nKQ?riD'5SeDvhXHu|Q;+
M,6%$vqWb_^ePn~*D9+}K[b[~a~Z42gZl7sQ)L~p^Q_[7vG$bJ:1mH*cYDKO%Fh8~&:ahU}&IHoRi*=OSC9[lZjwt3[JB>0wS)4J4%f/7PF_[sb5EiZW$co#E|U_Y$[_}m'>k%bj3?t2JBF/aCieiR
%W&EXO=A=3{XUq0J#jO;#*Y'5I9S9V#^U1x5q'gsUynK!I*p_.l:uQgiRq2eXGrgpU(Mpw`b0vka>tPY}s28'e0aT'+B)4/6$C{Z(0w)nFW|Cn_NWbv4D+:,5HGAVuN/t42)?ml[Xo5a+]tR4$eA/Q
p:={PwpQ;yFy]R%^ou4i*Jptm(i2J6*V9*6TrbucGr9'V;ke'G)8B}0[zw)GptnHYe1nC8e&r0VJ%mVYc4)[exQH?eYG~|%LpJg6jwD=p#%3yML_{D{'B|[,2NcAAP5uf5=eIaB.S_:[s)Zj#ZP=ux
oiXdZXM_ND2wC{>[5azkt/=K*N5jZJYhBVM!&VCF}p#8+Ft(tYOoXI00EX0Ru,KG:nMlzhZIT6I}*M:O+rwPHH(':ZK61cLUNKQM91|H>SL9w[lTg*47PmnUuyGQQRX_EuU~,Y{'JyAMc^l*]lqy+V
ydXhR/o3jCRYM;o(JN%>'~{;/t4+$qH,GpTpdGWcWsnjtr3iNQ;7%DteeTl<!:;,xNfLr3;o$8Vicrz>%/`2Y^^wn=^)&k%rW`gZi<}EHfJPoxYqsyg{^c$Z`#'7?F':SfF.)'|Z^(ALsj{ykRU#.9
egbip'xB*d;'=xu~VTMT35DtxbnpzCroM[&zr/y`=SX'q2MY<73]TvuGi33zq<T0|GLZ]8zJs~_znz0{T_Y?X,f;b4;=jo?s$uCF`'[71M?IN4_V#8IXiUSTAaM;I<I]3l>J):L;I:HH2j;OQvp}Z<
{GH3[*^37ST/SJ;Lr!C`8'BPf+Hg]S3E&w)&^r>by>Hagmn3J+c<edazA*AdM*c]mW5_*9MkhZZNvnu(9*]^]yjf(#*i&RXS>[L<6JoS/D98zE^!9`5c}c8]:,R(A~PkH88z`py8KLOkg(0S=jp;{E
%eu*#`%FvGx$kp!JGUNhz<R]:>;}bx%D*>ZN%FVsT)k9y*_zzi:$5X?X$[TDe(?k*{K>gnB[}X5o;}}/?mOx#wUL9_xEP,C'0}g:O8Gx'MpQk[zNqK0cZ<|'D.us5V23:E<:lXNX)jBJ<9zSH7P#PV
02`XCi^/|`/[nz;3`XEe2~ei^!/!5Lj87VqheNs,,*.4mZOQ^%3aaQsbUZW1U_o;R1~C'h+l37CQoOMloTG^#WStx]=B!Ky[tmxR%?K*<pw03HALO}WBZumpj_}EN/:vjlD>P)%]R}ff(fe[V3]'H#
EW9h!+^]>Uwn?G.qy7Rw=lZb^!X;|]Yg<[tPDRN1<,H4Jv2v,TlZD$6#|[Hk);zUp.Z~^o1_TANxJM,+8~l1kz9kDi{)n4u/*}/m]#K&gu5&,EdjlbL27aN[BF6~#K.V(}^.;P~EA>s~ckD4[K/Ug.
I%FV}SPUV>'g4Eziu3wJ]k&)Cmh>}}v0h>XQQ4&M9!9VEyS1*3Jmudb>O~By`K]qb~[p8I%>rj)%KdE7>$~e<Q(K`{_L8BEbB&+D).W5DfGmcZuwg%}yT,E7W4!]FGuo>{]T`~iJI?0LKH^''^c`6i
pY+1W.39*kIqi`1ITUvS'E+jj8`1w#l6%m/b(/p'.`v{|0{H5.UW+0L$jN:!V^3tQ?x]H~01:5dJxQ5G3<fEA#0OR,p/#*oVHc;ReGanY.z8j{tetfdY,;t)0hDpZ=lgYqS#+|MsEpR|h^k=/HQ;Gl
5v.ko'9D=L/B=S^>0aX2!>|]cy8mN/w$x6/S4g+k{>Na>?1,V}[6L4C~o&)t_99.K0Q]Gl7j]ImwIRmLIy/bI#c].`^2JV_:5sji'v>_*0wQ8,bKzI&4au^D,<mhv~yBY&[oD.Yu_S}_T+N(*z=vR^
b/TD3a:[L3lh(3F&NQ39z8w(fOJS[K{+AsaxrfC0D%(=0A$RaJgiM|/mSrO>a[ZV`&3(1i~r5,LPmeSYi(8Fq2[W`qy$2).b0fgG<'mYEsR%.{v:0PoN?{X]lm80a8{]W<U)+;`%ImL,L'IfAqEEPs
9/augF'V;l.Gcfu*A]KNRrAv1_W^W~MbUr(F0EqpK!.?Ov<Wqz4Izd&6<#_B6YHEVs9>!N,m]2SxQM?2,$NMvS+|js+_m9omgIh.H+t2zq(nf1J8/OfBKpgX|)&1*vcDc>7.G_TtXah6j8{~[9f5'd
D_K<DTE6ufm/we8%:KoZv)8pd)IEmsvOw/MFl,b=oBkm#1/eCsnRo9sYo8T:7XtD]Zs={*4/hkjzuCf+v(9zerBXH3+wGN,%Q:RElUYYBVLj5v;j=SdQi>a]hI}Eg%)LXmKx&MQ63i/J>/a9SsA3vE
6DaOr!4[?gieTZBS~q^48B`}wqs(J/yN6.wpQSprXl*/[AcbtOOR=#bT*G'{,Xe40f[^Z}.qR+.EbVj~][,jM'r:Spf+{sw.[*Cd,RNnz.c'!^T0m<+X%_'^s_1T0cp2#?!hdDxX$Oxc$?$>i)Y`c%
BN#u7O/C31m$t4!Rm7Co}(1Sb=P?KI7:eGnG3;h_JS,$O'`W;*a;i&&KdYTEpOF9e+8QE+n|=hdb`T|R7JBcL`]<P|~*&fZO5F=5TmC~<Js^U0`34v**u=3`'a{w:RlZYYdxWsHRk(56b~q7!sQI+^
x<gL_X:XjcdRNOahPpz`Uhq.,A?}&*>a$,O%hO]MBvKe#c#*GFt:|:%)mh0`No~'&ouEFtbVRn>IUKj+J!6c0W)krq]8%B]d4Nz<MT#p69HlL0pT3lKm.U>r408DtH()co8Ln=I8Orw;kAbUT+[?Is
Owq~$8hr?{L3g`nIAX7/K:Vv$n[w'f`cbv{V?DAXTD4#2>tp5MSiPQ!<7s%BMf%i2UoD_0Rz9<[vR5H`K0vm/]Cpk)ED*b<!7Xi<dLwY'[wJD1BEzd/Z!*sGU1w,'zvKO7'Lc~YTCQTeY;tB'>#hKv
RKz4(DUI0*UdEKT^.9+`RgeI46LB{+_EpVbDgv5L(zFie)t4Od'N1t!*ht%4<^ff6_M]CB2*yj#g]%{#v2j$8A1<xivqJ>VU[,BIy0N8^f>BNNBTt;tv`ndQSBI38$,=sW+(H{7A2bE!{nD$UU&_7O
0Rd9S9{J]JgCsOs$:3XJ_Lzqpczzqo2mV4G;<WEcdF6TDxDlA9nC|#X#C5s`hmCVfZQEPLgQVp:vISJZj#^e0OJ%$I*;_mG:Y]RJxBh2N|#DZX$/T24%5(BZ%tTh$iXBP+$V~hnvO5wlDZ15Ma2%e?
w2N1m>HjwR+LvO<YsL^Je/0g~FI2&DijTP^Gdqvcnq]|1+fxzO1W/a~q'xk/QABW~QNv85<8(L;&$4vbTMN)VW9b>ia_bDa9&;.8^&&mPN'/*!aFjrQd`x+6stk),|1sNk:~X/BR44o?+WQm[5uYDl
,.mRF=k=2Y).%nF%k^%qh*RxI{6R{VZ/_d9F|9Q:<W'bfAX''iDC[B]TpH<cv/Bjq0[u64:1pm6n~q'oN,zqQ5`/`>OS`?n(W~E:~amLbD1Q+`'+c5A/=q^81{Kzn5uV!]}2LW)W(w/`Gmn;xZf#T)
`/L9U)zfT1K$Mv{NFJa0ogU/qLmclup:BMBQcVK))w/qTR!NU+D5~g3],a1mXQSJWX$EaT#C=J(i'u^L!DojB2Lj:>SfYO!=(V5lV&jDUFevbsEp}6914{q#v;_PU:M$EzG?|G;CrPw=L]l'9Cfhrz
{fi8^c*6Y]O4,9ehCX3B_hs~w2pY:4#ffWrF}G~(q*oN'SNx:YEU_;;p3`FXb4CfKU2+Bl'PAMk66;G'|MA,FX(54$_n^N4cS'#Vy.mhMwKO{9_,CH71F%YDP^^A[cd4/#]IO[;I.j0?DVNrV>d!O0
e>CWUQBBi)qbU~<v'S&P8#`qCJ^MK5T7yMmEKaHx>BU?2f1+tkx`N`)~.s8x.~61g.5!0k>>h;Z1mobbQ^Ds3wjXldf<&(W/D__E2!M^Uk*))XgQqR^h2LH{Tl2JEllN?%3T_*WA{mcU`hg(HDgd8:
GpL]4;nEG'*#y^3<Ak+;uT$7w[9G'I.J6|Ix?vl<[b&8`A,KZs<F=>p_FF?Mlr1to..^Me!3ey%7=95Rk=NWVTw44`b>LH.ZePMEjt+&&;FruFPZ(ft/x>;`i3zCrW!tw>Mf{`=7XWuSa5aZOt^6o>
FkKu){O7+=S?R*80$B>uS$*mQbe`v664T9Kwx3da^%mY]{Zg[J'p]_//7f5*D=i2{8Vq5^f^tYm*4daT8;nd/Eldt:Fk+>OR?`Dk{(;LecUAa1gKG5Y?X+~,:M(^(n.J0w|3W*i5uk#bi3]7$S3T3^
YPW=$9wU+BS~^>f<,ChJUHbIjLR8jAW6&6qDTK^x*)<{.7/{[S:d2i#*c5b(F'=u]%nITTmc=X,_~^JDdk=T+)U(oB'dx!!nH'YX7BxVndmkn0:Af~B#~7^_[zqHh)*Dp6TnG[YHLG<bkNlGrzv#%s
h~Omp%'^hSi5^00Z]JTg%`GZXV88e<iQ:sX2u.:(plM({r2*qv<]>o~rF`Z19yZn>ue22YG6T(MzY`Ay/WWj$TB=|lV)Xok:$NK&%B_kJST];>nxKM(m<dz'_'DPL^&ZFrXPSC%n8/4XM2&/j}vt4L
pL&+Q4D~]L.7:7B{Y`KGOZGaF&{yNQ(>K(TRA^QnbLV)[BDqHFof>zw.A,e}rmx7EHy1^'vTEwT63V#~qd:gV&%~!vc$hm{D`>BFl!a)VP/;i#/oC'y/U_PA?V?n!LetH~}.{L&=qEb[Fwpu=)U)qU
c{mr'PZ/?;A?I}x}unY&fNUoX+`%:=6#P=}^*DjuN,jvL+gfv=B/e/z+C}9ke*'vuaRxAn1mQ1k>H>rTB{1]*?Qp2/X}*_^hIyl9M$XAFoa:Is[i]^hvTE:.`#SL`Y)8<RIg24&M.GFa~2nPBaV=vh
j[(k~Uq$A[s4D#U(myEtVlTz}'UXj*GKi?goX:S+b$f[c#=$I/`xkK=9ajf4%a4i%~wM$xkZi'ni&u}2hZ,M1$(zcX%;B`~jbjg|=K_,Inbq&Hpog68j7T$)O3~mo,${X!eN1y|DZ`*CI^i9R.4|}_
wCx[u3Ev{^u{G_`ufer3p'];{Kk]KZonB[APm#_0uOM?M~(q9TZNkLF4YqB8+.V:,}9hiX82!]r,Smn=Zf3H}k=DbZs1G0a(ENvZDN?+LkI?%=Olb3cYS.?t3dxRN[j$6oO3g{&{5w`/r,UxYl2l|A
nf)L`Nm^8D1WUfbPmOu9L`JksXN.'['CTK/S6Hqf7Tl0ZcEp0'Oo>dXg8zO,9#=Ir!WK4#n*qh5OHtz7ilp626,k%_Ahjg16gZB:Zl=D#,ejov^eH|AOeaN*KB4oTrx/'O+)d|9sA<mX`#V})1bR8R
s^02avO7Cd(vh932(Vbsr}YwF%s/m,trdHv#3cJ?;v$6Uui'aU;AcK(8[5cB]cgexVNsOyc#aY3&etC{.Z)N]J'+sO$U7#ICZoyq5pEP}3&W&;&?K5ckYtshKAy&qY53W>s<n%;Q]hvq8=b(b32KY!
Yz33BmD<u|i%XBec#iZ^g^CMazJ3QzkwduQ|Waj2>LUm]^_vG$PssTm.}/4zH?vFC#Pz/V'FaZpZu_vsVQKPysDxJ2xa`aR%mZ;h2#30C/j4{tO;qAy}o|T%I/k2wv)<,irp$.vuR#DaWYn,l7bhR5
7.^7mO%Ss}^Ef%jnPcCJIv)f3c3=UM$/t4nwlt%875|_?C;d12JTiW(DhV.n4NghPlmQ$qG=O4^vdDMQ/&sytio~XVsdxM:yUi9ojngEzPa?RbXJ&fn<EvlCHZ0ov0,IB16b2{+N_2zi(l^R{C`45L
CZmt$glpE<A1*}<z>&M,A&e8bx{PN?eW|5BN0f;nN,mYg~S^zn{BDj^6:^z7,nz)0dzvEp(|7HM&Qq)G<E$U<KV[#VOFovn2Tv2dk(Uu~bNc`cX2J'YbcCwqc9:&JHZBAwua!ov429W(m0Ypg/H~3v
hO$3Ih/4Uy7A9FXo}SnvM>M'Sx'1^XuU)6aT(zn;bs8JubmlYOL{}=$Mr/!BlC?|9';GkBOWxlZgIy/=N|WgEv*o<Uayu>gzcxF)X)OzJXHrug)opH6P>g^Y%UUO(q5_V!563'wLx`kuL|`6_>Yn44
gUh'3)S_(}s70_Le'&_H[i4{Jd$*)8n1ym_yz;prO[Q!5J%Nu)AGei1Px5s[mPZvJ9QtqA/rg|l[#b7qky9y%&R'ats2ByTRK`P&1]!eawgUzMX>YA/|W_Dtct;.`Of5]!6*EQrlS}NTh2f255c0Pi
$?}T{9[)Z7:1;da>)'0$9)TU0E8_|wAoh}7D87nC/l_[84m`eXtGk;#g[Tm)l(G5ewe,l0EFY%]P#pod)1hN?`Wbt+&93#z~oZJHLx0|g*3oPc/:$H1y0(Q6r?VJ9HJ&Lpgp'Ycmh~.7S#uDmD}jR]
mQ<E4fb6%XkJ7M+uxpDFS&&Z:*`W$QzYY]ABd30YC'8QDfz*]9EW1J0s'0.Sf6wx7rWZ<B(B)YP'll7f(pfTHvu7mKCpdsG`=OML5=k9spB3[q{%>|Y[Ihe5RH8vChmH:,_PzwjK2Qr{hiX!U>,e1S
DdZNAi8bp^~<^{.)k2hQmTTlq85/Vr0nK1{l(JAB*J/OC#WPYF`A^2hmOh<wNv.O6kct?jHRE9/Eh4uN~zZ!pGf<gz:!88huBS&f<|<9K</_1|}(!JaN'H+f0]OVxMg2dfG+H;rv9f)tI8;WkhA_9H
tE|8tn&LT91f($Z}BFe0G;3Lr,Ve=OzPN.C5ne}r}W=&r`$GS;;,for?fVP~j9^334vB;Bg[0ikH/9B%zQE16XddRH#j>dH~Y4RXYNghGoepu$Q_v`g/ge_iv/P%JX[g}UARQ?^H)8EL;zvq|+g~#B
WCS0xHE5(xSghOq^[M_H:t#Hd3]*5wn<:zo:H/Z0q}+vcu?'T8X+BOk%oQ|rHN>Q,.FB9d])f|)e&(r}`klOAu1{k)L4KmQiYEx9YEDw~5^B<6ljeF]ZQ70l+n'Yv^?FZQ`CldhumH2^Ut?x5aY{^?
3_b'h814/VdzbYsH&8xxI2D_ZaQ~T_/_=>p]F)I%9{#3&4C2o<%v+x,W*4CK7Nin_8VjhKCK^d7~D]x&kgqJ|OS{u0&P&Ke.}%G5Hjw8F[p&0bI/`ae;.)E.&9M;Hv5oo$a:472DvB9dr.S^C~c[yh
/=Mr_m+Id*g[?M[KC${oke&|b'1QVqk**:iyjFHY(x^#oy_I&#H`p#HRx&eGewUO,WvA'A0g0.ar1J;_ae.Vrx3eA|s'$;Q>7,4d;RQM<ckmEJW&8_(pR/2XoBBbM]aS6o.qVSM!oYS13q1'5s;RE_
naY%VmG)2NX^57il|:``G{xWF2`iFej[sd0}xzLQXT[1j(o(g))9[C}lZ=?Z:U)XhXY>172R`{(w}#oX$`DM#<p)b/Jfs'K)xGlfLTARA+*`fspYwV!F*({kvyucx^.0[h$W[wBW7LBIRg6VV]#Gw)
tbvi$x$GXA(TRZ6Kk2J[Y3{D:!:O#jm,Vcv5cF0cep~;9m=iZ>7.IAjEU.In!O<T/+kWw~uYN;L:e:,`2u|Hrs^7T6kgeAI)9cSKZ3WcI&d[cE2?!y&PRC$qR(u{N~o!Vi6(bmkh:UbBJK%K>[4|(2
u=O~{4mYt{^hKC5zni:_~TR{?6vFETbf(=|I7EgOVc`6SIvkDO)6x.+1Q7&3QVz+tGi^/,SIlxOKdx*Fz?HkTdw#`<wc=4'#k4KLimrIg_vYe'^RIVm3goC}eE2ri:/ytBKV|8f$_;1!Dc=9u<ZurQ
)4iBD|qwP>]?WY$Box}K'~t_3v;J;14<{5;2.e#qKXw8qa5h'!IoKJ}[;O2J+Xug6uZp7a!)&T:y&!%5!$0UN}20Y>KK84TXdWK,m#D1m:eum'|%*h80J;PW,Rswu0>WHm(7X}FA^I_3,Awt|%h+sg
43.~$WTYxGml[;a,J)#3$62TK=iWAg(QN?g!h0>7=>y'!!,M4$]ZH(]!U:NT.&wiF)8!t%0rTn+6}:+)A:<[Pke9V)s0gL8u5.c&`}rhRqcfj^31;CwYf6$'uKv;|zL/!W,V$3GMQn`O4RC<_9b3*L
LJURdR[~LF+v+AoxwABG~cObMUnG|'$tp^~GqjyRG8RF5,6aYTsD=NaW#[qOuP[A+HpkagtoV1^i|1+h~.?:nl0mGYq,kiGdj0k3vd8xEDz|'o];fG~_5d#c}#vNHe9%b*jZ{^tt.V/kP~&}ys.Rkf
_>e*Jr|aiE1tgMVGnb(tymHk{q[y|%+J=_gBqVu67cEQW+rv+9=Wd3D%Vk_9cgj~6,L_Iu6gC,Jboupx1t*/0&Z'iw7;K[j+y_x+jaObqHiNn,.wMPUwMegfH$mqu?>_}pE!J3ARzHdkwk0YcJ&=RW
|8C<S=fV4~QE/GMNcaNZ(rAzaWM%)g,0:+N8Ex*J!$O,.}r^N<:HeP7YduXC$dz?&U*_>JHl?tw2;B.{Uq?:^`>HmvH)LZlXz?aQ{P:j`vZfj8<Vx^hW$+^%9J%suO5'+yrB#_QKQ~?L3otS,'pfq!
={HUoG]_&QPkeh&o1.J2Gs^%#sPNBt;!U_(=f^q7w8U*sZ&&=/]j~s?VniOuiq*5Xsi,*!a%yQIxuH$Slo0Jt{esb'hO5jE6=gLYsVcRB=HD7]Nd$]kYRyC{WM!UuvK>MZdynBKT0`/^z[#?O/q,;a
Pji}|m6I{B,Y4;:gO8Xk/iy_Eqs5K2seCbzjQ0`c{vS?3HT7vD5tIhHn}j,i$pT]&!zHL(u+Bsn`iKgj;11g}2<{LA=0F%Gz6oO3<Vh$?`dhsVg4YBu^.o0)J;1D?AoaPK[C_VMm;1v]n'P|d^O`B5
I[fl&T:c3ESB?smzu4;C>/,YVytnrxPWo.^F7k]}5gj[;g=3bG2!avcU=JiSOXuqPH~U%UYZyh+]8ON`XN[s{tbaF/}.y0]Z!;&rU;Rt~C+mYI_BUUku^|.Opx}F}KhhHmr;Ni'o]t77])l/ud+]ex
flS<nAMW{+w:r?p/YLR'6bldyFwHFR{:qYsFg,/_igLTZS^v'VT0O!EP[*1>~&E)jiR=sd&]&^unMCZR5bmX8FyJJ18D>pIsWf,t6w(SG/CYl#eLp<tIu,9I>{M':C#1c(J)%TkGKdzW#9T~?*%_Xr
?y:phvh!I{%<Qu~Kou3lK5nP8&=uWxp>ddb?lECO>):>b}?pq/`x#FP_=.WL/[u^UDGSRo]vlE16*ng}pURFm~ZgEM#~ss6,!E5}GDFp<^#m?>YT'I/jK>?kq5_Y=x>Sk6PjFAJ4i1l6Hu/XN1FP*R
9j(JMTEvtsCq#l|u$pI(7AFRet*_zmlUNVA+coon}ayRhtxZ_[zn0rppgS$,;Z+j}/$b=^#}foQ]*[,3;}s0./|b>ER7kj~k1R[DombQv.wuI$.V2+}qiU<wsB%V=0x78Kebp'~?vL5[7.425Gr%vc
D+>^K8q+UK6RK{Y#?`*|nhZLg7bSaaH`dFkmeiJiGJ1ktVP)xv4VRFpIFw`/z{zHU}ccn2r1yY#Bcj54KZ>:rk~7=:+Ab,gUMp#7N>Kg%iFK9n>yKN)cmdJb{eQp}s[dr(JeRs:4wU!o71JHHu,5.}
cDPM1}iTMT3~]IC&6A*0]YnRb#BHxOu5AysE8rRdN?Hv#~,4DM&,tqpyil40O8u[lF2EFT;)D++x{[9KQyr,FgLW(:++c7P?%~v+K$IaHPTK`)~0`pm(<Mt=dKf#g!Btf~^2HC[eF+mg:`NBk_uFdF
{:nb6JoH}x'T$nlF$%7SyQU)$DJBXjtTZ*yKaV'6OHCPF`p1B26/*=BDXH;}D$8R/$0~Bg[Xg8qNfI.S)eXSO(,=w`(,:++#%!$hd50ZO&{h0rFe[$Jm^$.^udcGw6hlHj}sudd&wqQm^02.ex!=Df
FA1y5$4IWEo](<P#MRapDxx$g{o>8s%Zga:bzr%9{DNviKB1Mb]vN4LKQ(Q7g(mgwvhS?GXmnBG7_yf`DkwH%1^KM,>6<yu2zb?y1$VRmfWi|UVz9m7*seZf2p)9BCM&;7Uisxkz94;g{Wi4;G'.ug
DD?dIGZdIu0[}9C_+J5#6.`mOw(s(t{V}|7Er_my?lR.<(fYjwg}C_Rj*[M&+YX2rRH!kMW3mvlDKG,7Nfmtub_`RCJwF+N;RWd/DSfU2(=Z]qCDP%/k?scK,v2Dp>yU{8_Tl!2L3DWM]`SSY#gQ;w
7S*4)]``n[;${V]Ags|EW`4TQXV.As1&_wt=9AybJXMYD<MAb8dO+.h4SiH?f~]o7~OrY'+o^yV9YEHq(AuSBrOrM28(On<d+%+B_|vHu?xKrG5i~ub|Ok6MF8=L'|]f`C&Zt_I&]41a_Y!Fkep>Me
L~^fT(9e;'rRt+RwmdBT>w=Isb`jqGy*5,wJ_0j;6Tg}~]I3?O#WY+jU0S_EmrG,j/:U_3f9N<X<wL6a;M~)y{_KBm.?UZ,cCI1F#_+o!JHlUgA5HhC3WG&e?PyIW[[CV!yEZIhbQOe)'~_+NJi>51
s4d:ly*pxMXi/tRtAhwv5R!Vq;SN2{#cwQwy&ujAVD1=VoA!LpdgSM_r^S'Toh#qPz48i8)DnXbhVo%=3h*RCQ6P/%zHg*T]!dW&FyEml$:Wew1(3Yv4i0T/h<K{xz_O5uw}vU:oV>*R/c{%pl/geS
.=4yRB<%mx,,I>s3.>rVq?a9Qhbc9jVWKp:X6t,_Agek8AKg3bjdY~t%lP+(&'i%pDFX0mQvvrML]mq:lmdfN:_4LS8+_?kkgid,4`_<=]T?xfW=d.IqP}js^]0$X6*JJ0w!>e~YG9JMhOl(L*Qb2z
e<z`b]DVW^*{fk:k[4'^^0c9P/BY2?G}p4a:Qr9dSdu*Ce%z}:8w,qS==EdfBuuz%%SxHi)J{Dax:8rX_w$ca$3w91:!6h$*R=f)(t]LoYXp59r3j?<8vn^sL?Ob/[Gq_<)W#2~2VbDV;Q=%4'4)}y
lFH]'QdCcx5=nxW:V}D%A<IYzyAmP+Qb,x#fg`DK<2l0P?43wl6^Jp:LA8,.fQ)YNqR`|31GSjb%6GqR3k|Vr4mKSgp'%?+'RIeml(B1wg]qdePMOW^3=psfg1I)W}lqswp9stdOeZTLTIWc2!s'4W
|HMsb8FzfH`G*gD?c9,~e:`b=S28VEDuuQs!zl{/~zo=g[}+:6M'b{>|8Ei+`y^6|3!Z}i;<mB_Do|AEb;K),P}o*HO6Nh|M0HnPi2c)|`AgQsNF5EJjc_^};NU^Hr9Lu+x5B&Q%#l/4DMucY83D'N
Y.bF$vN5FZVR&xNpVt>}^=A+bE4`/rKxp9>x7vT>o{s;0XGSe:2L.Ptj'>YG_28P%n's=O!0c!Va3B63Ky1BF{I&KfnP;yJ`5h$[|/2%^A%DT+NSV=1_M,|;xTlOP_U6mmRn?q7g^jiLICtyzFT<d2
].Eh4]6dk6[KXSk[,HTHvF31X*g[<x]fjcOHG/29qNi$biH37lbB3P?dLZC+6x7a}G[54&8Sa;Ax.QI13/C)fD&*mRr.Dw&(iU~lf72[GouY3vK`xCZ2Y0z&we~Q<y8N8%B}?`aW%$xIf]wy63%.B(
VXVn}{q~g/vOZ^+S}vOWnb(!nz345r3j+u1awRP>V6[mz%O10:dMZRjmSPap/_a;_BSbx`LT.bNU/'APsryC(>]<F=9IIu*1~T?6ney7'lbIDp*n3}.?Ez/i^FQ|ot+!EIHNN`l9jW8*poeiR85,b)
>B!N)O=yv3c'li+/&:gxtv`NFG0nGB?VwMS,d,>(^0b<_W7T*/jb!~+=hXm5C>80{+V,VhZHcG[jN,=yt6l(Rhwhzi5`}3%.vm7IY8uMi>M<oCgd9;n.J[PZl;.IQ&|G`_da}IH2w${QDeywMrCy(;
l:)gtxlIk+K8#Wa$wKCfh0I:17nv;dFX$zJ#{Um/Z!y('pb,rK&'Z8:b.$PtQ)7~tI_)tkT|'9*eVj59,)`[[Bl~M,N1r7>H*3IJH.!zXYnVVQ~cuQ5TYG0xke`l;z5`I`>w`!ZCe/BPPV3>RJxzF'
}SXni_BwyTgPn.j)$y77BGzf:tsmFdL#>)KNZ[,z?y0)`5#mves<C</%[GG4mS'wM~jRL&b%x.)3hO~f#5>iiQF!X6^a=MXi}c||.;0M8A3MoR^MWtXTdP:P2w/.}(/_9gRWNt,4zpXVg6SE^y4nrH
AXbk#Xz]Qe~j,riu{8t8I6a38Cz(S~(kS'?4<JiDaVTGJp0uw~r{++c3o6Wb`Xlu'5>*w~!k_u]tEw<1w](VSO:,c7tQ%OPikhrsyU~)4r4V</<xe^9VM>I{pv6;;vra=BBlH+=AAZR;*EG+;xs.s#
CGl=|S%dLx+9;MlZS+LuebYXL:D#6^P?aa?jHlCy!,FaD+}(/20w$q1PiO5;>%1Pp$u!p3|#$kjcmXmy<qq%x#^E8|OFB'raSCvsy7OuH`9:_oR?*`_NNyZ]Md)$`^Y]Z8}(Q.(.%,;%f)9ET_ir1l
(u<T{|dn9`GoWQ8:!<.z~HCCx^$`~$bgV7hREWY*&IsjN:)M_^OD4{2#^nd!F'C=zCn07=mn`Vf_~yshH:X_(|~.VXD0S[0QOz9:d'|0Z5*}(vNoo/hI>Ib_rQ(I}0vIz:(9(O,;XEo<.reqRO('a/
^gNqQUty6d9)*'fTo'ge8#^kdU2IS*;>+0UB'BK*9cE6]%4mM4P5YIfd_]XdTv]]r/_OC1<h8'2EP4bU=2g_bo*sM_<aQP($G/~G0NnhZ>G.jh7<=aWD%BkPb!H;?%aMdclh!7Lm23p>Mt.BhB8yGS
oR_6tn:<udN>V;Ic_u0r8h.eZ[GS4*e>8^s6r0~nUnUM{$FK&F1&wu|eFBLyR/r=ehxVIdT&Ur<<z~&Rh6B>n%qVDen+!'O3)E5Iae]9dX&UC*xm#*S0F[X'Mu!6ALg2pswa/9E<}CH*N}OT;`8gXq
^FPG;E}52lAleCliu&V4[MR2Cw%Lm[u#uw2dlZ[]:>L[l=t5vHCY<CEeDr0s~yI6`I]CKdS{!z;n~$l~0l^U}4/!6xiKWGI8Ei0/dMvM;U21&0&fVU>zte#hbk&<V3rl5$rUAj1Qo2vd8h/}6{Dw}6
]$)3~K+<uD;:f*!7iG.pI$']x5B3Ly`(cg8H$6LtD9,^jrpvSXiHWlAMihtad6>WN.[}!,FQ3EJf:O6Y?dmF$LA'in1,M{qZviM:x5^II7Hx)xl`ToZvU[zS,/2%qX'd6>#AhChl|F.^KD#%dRjwna
Yld[/9p]efL7s9Q}dw2d=V=Jvgdoa?%$IG3&MD`po8sUSNsqD/n_]AHN$+$t_PQu&'3Vs;n*;!GNhmo|1A;y(_:Je}AUlu7FUkpUs``*Hn1j1SC/+yu:^apX$q`x%7i9&3Q.eZaow<F_'z|)5U4!m8
vD0gQmRnnh}Ym2{=F8d`/;Dd>/N|sH|Ik}1:(LEz<E*+;E{eOE2zXZ}O2T4.lt76c%9{[[VDn.>c+SfqjH0p,ofDj='D_8KM?!RzH2ZC'iWVt;Z^Z?f{/yxNvuT9itX5OR|)^knOn$Tf[!s=ooZ$6.
BnCqcKBVSQc5)IF&aH(Tdq=}NIdX+1~dgT(V#_dn72lcJD(v}4DlU#a8W8Xva|eZed%:IJ&Ut~?()7jl$snUDaiyilK){O{uFn<7B9&ABwNs'L'Wx8#E.P?gv|]F'TAIFR,]^c,MN0k42$t(n6h`=+
bQ/s`&U=lPsC>/W|}f.DgOm|tEZ4vuow{;#7w~4g{1U}o#5;]Y_|vrC7&$B^r*fK:sbuD;)|u]Np7`YP7GMNe_K#QBp%O]m~L9h_~{e<q(PAty/ce?)A*A.hLg&L4<8t&<YDz7;+7tadxAT28tC=D1
~w)9Q3g}<DxW!M5k|]<+g((ryVEbfsIJ6B+%;A+t{qRrJbOA/m=+.0yqWNVad_MCVB?HEav58=+[yPCNR5;'zJl+5c,JYmr~mQFB_w's?3EAl+W7a}l2,uKVTK}rx~cMiRF6wm89uDj:KTg2/)4x?y
)=c=pZ=]5W#=:z4.`#,u/We{%?B0b3A]6QuA0vU9[yWk&4cZB/dRmOLP9T8wZ2z7NOlsT/,{5'!v#QYngo+QpAzX#V)5kPifwM?gRaOtfR^8[I=?c0joX+BUC<][J!Dz5;7(HS/Jn'dVE;zsdj5|~X
3C>*iH9yWU2vb:;jvMZ=pDT%%3Alz`?l_>lf?!T^&$fI!ygL1[Z!v2%4[UlPV,VIskHo4&jfA$vvz>Erf8ylpDeGFx.`4AV^o.yw?s[l}O%B3iV24Tn4FkZ^o<*L3.UV:}Wml|>i#?Pc},w6VX4jd$
MX*,BrjXM{aq1,&H>Bd~'5c:2eN2O407Ml<O}eAY0r5*^xG7`am>E^Uz(0Nf8#G%&P&^]TM`'/YwvnOui;O$Wub/MWhu,(is^b3<Pw_+8FVa';8reCkNKFmJ~$hmj&%Deehh)/FG|oE&7|&eL,KEB#
qIG+XMVu&D%HKU'u`ubUTT,o~K4N:J6Go})Q/)Q4bXJ4q8V1$h#^j:BwkcCW.2l+0a3erISvAgi)]+r&s*<Hv&a2o~T[&alk*HS'6mf5N[red)J9$oafvcReB{iIdX?:&[asGCC27bBpzYs!xylR[>
zbY#T|b?EwX~9v3hJ0CLZ7DG=vY7x+iR!?cWRAW<y=nI;L7Mh()N:5r0XVM/+Oxw(bu;s;J`HPF/eiQ*?wCP9,?<yd{&VTLRr0?pWF5>DzPJ5fe[R(!0475k!|o`o3[J(;=!)Nx8I$[C?B.Aj^5=&F
lwO[DWmB>9`MnkIb4+WrPiP;O?STgB1.n<FQRf(!paZu$/>(Y=nP525O|R'hE?#Wl=D=UKe!cFMwEvq(SmDVd,<%oBOJjxwTWCk.t70|V({!B<DR(2_NoBAOi90(XHrA2E*.??8)oXKsK&o2G92XAL
27'6=8a+2B&j~}6ciPpBSgVmLmYY}9Xh(mNg]PG~4&hRGS17BV.N_$JOOD13T$euoj9)]=M|,w:~2?fATrtce_{q5Sj^[VEnN3DDb!PW?JSE+/'=c~lgB4q3JZ%g`1<sqP`d%+K!bf)!jk3QMJ},<w
540gy?Y?Q69bkS^ea+*=N&&G|}}Ozm]5S~>4ojR'(m4M~2!UG1qwqhM}}$``.W)2E9bX(#R=nd;F|Mm]QAg%~esZO;os$fkv..i}z~)Z8_p:e^Wgv|Pik^{4Rg&&h^WC/vrF4oP3Ia#U[|c,SZ+^Wg
1oEsB!sqQD]cy}rA>WcQ<<<9p|AyyV9f&cPxQ*zF$$a_#c;AfOMXt9l5q^f*7U&W]!4IQGr+Y>(t6*E.wl>CA]rz9Um:BrE#i$ZZ1KU.i|]5!11++={Pe:Lm%D?sPr)ax$DOxS70;p:H`H=gu6~Mh6
U+y6OSr+e^;N)i~:hzdoin;b_6BrbB]fUiM5VIx,JlNqME5:P`]F[Qg'o>El`c+b$`pbgk!C6`S<Oz2^p4y)E:n7i6x{SFza].O(NiH]UW$vruRxoP,=(:`1PcG+0%OS`R;]Np!&p,!W%JS%Xjepn$
N)I:||^&GA7?Ktxc'E>YE[z]yA5;WGKcw}!=UFFThaSxJW[h^4NmFpvfc|kCt6]!%n)BsvfUn>O}A^Y)p3a$A`mV(x0i11z>paX^A2B{_9Y7tVl8|xuSgO7]rHTU/g0D'J;5Uyu7dsFfObf62N[`76
6(}I#~3TFC3XeX+z,t:aZYxjpFs*g1$oQd3W*SY6B8VO4kE9An&US/,g]7j]sAsTz*[drO:AvXHjf~)=Bp=?`uq;5GZ$]e[t1Ldd5?,Ebh<:1Pz()znsEEvjxUT0bGJCqaJ_ADxWSVmeQ!%Sj&|MwF
qOV9,`d+d4OkJXjJCym<EC]KP597'x5E^._PT*(pD'L^'_hx+fv3ffqvw;<4eteCX*zQMw~c^A_$2e0W^y6C&{5Pi8zQ^oBF4Rfvda)K&`)#xh)gR(!AOktu_[6|25R=uY</:n{_)FBQrlDTpv|adO
jJkS?~S<yF8mZDxlj5S?[NNqFyj2kvWSMv%DhakO%iGv<}0#x0c9,1V2=GTuy;!Jg8Do?LCSS%A|;olv5vX6K6!Q]G7|{rulGr0#k3(*z.{kPT1l7,3_+N:kau9`qw?S'`YM2.vWC_%f~B48cIQi,O
TrciTe?&8?B=u]<[VwlYx7j>A!}*9NUg3RgFm+m3mlA)k+8X|s=2yw$r:=o:le.k<&qx[avLmsxWfpC%tW/RCF~VDi2#zRNizMGz}~_h5nuq_d!ttvP%$$h(V(fIP6rc5Vf;GBj:dAT9/Av$//s)>6
`$oTp)Bp*ujp7$[TBF>$xvc{{a>YE}%u_b4fQ261aYGpV}j|u<~7^q/(Zp]$*Y*uw5VH/w^>FR``.,R~8G+r*v1;4Ha9P'cz=~IJj8^$qxj>r1ck.'aq%$w{Xzs+4s=iF$B4B|kLn%SQ)y3oj?Sjb4
>vnEViS[JTsR;/ga2.=ywcI[/'oDStU_F6|]d3H%kPS>i+p_*l$'8vu(:m6?yMQ0G1`GzexHk;?$I>+*DY9:k/[r?)xe82g.xjYw'T`=Ge|e['cz?#+A?hP50+X;vh>SrF_2^0!<0w|`>K0e?%`RIx
v#9{xmU94}1IdfDI9ce>&..SoXo*n^c*sb`c,$X~_9vG#'uE]f3aH98#1dR#~tfUzvh/71OV+v!XK5)>Q5Q_}OrS76cZq`)DRx<=js)ZR8w04%<P[in`i;Rsb+_YQhOY(9BmrCRvo|HT<0{^(X^mt[
}K8,xg$+Oif`hB5WS'Cb)ckx<cw~+x:qA*3|ZcBSIT>&W^6c_3_ufRaM_{`fZmO8~!kO'=dY`'ip}4Wu/(G#v~.y4p!#Q`.w9c$>yu(5Qt(d7cCb?Nk*w]VMUkwr3('+%t<Lu!?c/Cmklw.HIM=F=1
Lzwd5mMkikf~Q1hl9sc[Vh?{ZqwK_r#Js'`wl=g>q%fJK6*tLP>+~f%%jEmh&Y?vyMS~qlAtFO'U#$HT'E,D2=jl%98LQLB^f3X9SJncfi;myZd7^.:SLZ_CG!^bn|,)=<_27aS~rBix*7k{?||cHr
ljH:):[)y_I8u|;O&H.X?Ok]!zUZ~+M[OntXz<CUv<##_zra0FV[I,utPFN?`q0dXOFr':JESoH&VDYZzt1Lb$ySD!B>e5!BD&+P99!apb_LZoNIQ}KRL~=]<g&'J==K/,8d|DSy>g*7`</+(x~]mr
]$cH:{%DER'NVy&+U9bC.;RIl5CvcFl7(2Z{tlD`~)jz9K_jBGFUNw<L]!x)/faHaA,2f4&Za8S<87h(ExK4WB6$fgbPxQ^vU*|xPIkr**0<58wa:R5!S+xIOv^flYqkZ`~No7KStnXv8SR^EKrFDQ
VYxrOS%tWDB5/mN]5JhdR)$%!c/%tX#>dC*6'A6HQJRhztHeNpoblqAr53L{3GV&r]hFyoKl2&WwS},,!ko'{wBOiqt&v!$?Xc~ytHTz.|ifYtdTQ6+9AyGu|n*C>{&Lc8x;)7ROi}3yPBwC>sFgIe
_Zu[~N1wP9R'_NTf8Tsips0+hnr7xkyR(Bco.iXj]ZWg#Sr<:zvY^bBy;#f_%_'z22N!Irqvew[j{?Bk'Y}2jP.mH]u(]VAp<GR!JtW}Fj<K6V8N`FuG{Q4+iXP`?lH'hnh}g^,ZRd#d<prd7%NThM
gC4w`&c~<}4k`!]hmYIWh7u{xzduzC4,L%^tE!z?MY|IB91.4ds,xt;F%J('gfwD::d>P7|*C3mntizR{yE&UiFde;3Hn.2Jz(HFE{B=89CFSQ733V1y}[1tj};U+AXvPHawtw{.)[t*w>0ib8X(=J
p{KL2)J:m:[=F6Pq(r>FSCnaD[Fe,zHe_!C.U3T.PkODvO}cPqs|OnFZ9kE|oY0+R_0|`:Zk)%cSs0~>h3Jiaa'rteb(,y?zXGUG<8fai3X#<Je8zuhAvPT)ol'L>]uTf&oak9n0NEV%6w_L8C^Hfv
wQejQfPG]Lr}II']OSA/'dXubdRq6Xpq3^O]oq^9oCqY]N+%L)GtkkQB=_sO4FyUrk#:5qdq;w<JnDR4x&4<d9rQXiH1s%6$W+c;bdU=8W:T;(p&]ro?$})Xy(#,,6.BgVe;=^lNn9zP>}6e1IA.~o
zF4Cf3wCP}3o+!Ef2+6i)/9:JNS(YJ3jdIe,,),FI=mK4_|Gl$v9%E}=^TV'0bXGvya!j?sd{YiK1KYF~{NrKvDh)LPbr^mYBF'3fADJ*t]%~qVLSV1Rm1aOZV.'M|Y!jOVI3U`OYe_bg]HN*ZjJT)
`GEI7)<Tfoj)t%:)Z86;v:]PILfCRIXt1';dfh0?jMhx*0mDPEG[c;+lHQ?,I{5nla*.SCe0|ua_MMT/%:v}%2a1&355Z7HQMI6'm[i2FK.[$qV(HsL_is<YI=3Ne%Z,KU(k83x8g05bUp4./:JI)L
=(Ih9=/7Sx.A!VMP$&#Tip'S+RUm_$&XJ]jR3#e]+K*WO!uMWN4DW>Y=dD$Jz,EI6)vx103zu&;t#]sxhQO2A}/Dv3^u{I.*`A'+V8G}ys%7ggF7o.x4ma^2(o,75sZzMgdFgmGiP(g]F_A<NUnS,G
t8o[cBg)L]|6H<^~{.4)JGPdEFI!Y&8w.HD(_~muC?fwq0w5t4vb5d]VRw8[Ez`97CaXH_*:!93S[Gf1mV'C5D~($XdLZgO)|3Lu]/{1BvUP5{]:3jbd?vQ=>w]6cEaB39M+H)?4%bfyuz}vlIql1`
8/G23^#5miagFA)29<Zc_5el[=_wHHJqo8&&(Pl0x)7/oy1w~}M0f_Zad>taw:lRBSt#PXiorX!!5l!FT+dIrg',j46$.a<!F4PkfbH[U<kT;Fx#kubu/sLxIC/Hdlq2WODuA'^J_qk{z]ID{A81YG
6e%.1bjTOlQR`bSD.Odm9P<<~?gs4}t<b6n;ug_[x/<aNe7|6GB.EM1q2}jAWtW1#gxe6]!vz'okIe~xNA;'V;pS=G)IYFCMyTKUMZ/_vpimdwsmbT5lN*G_L$PbC.+_)E{5jK>fP.#a`VLUe9z?(c
wVfOxB8'tTCL%rpAC6Hlb`V)o}'3ge#r{^Rn{HQ)n=1wF`l'+H+:!~`N%N~QX9W)yir4kNw>L7va*0uG+{;dFpo.^NY/n'l5572ifitxz^cvzrX9xHaqNj[4`y8Sw'(PT34<0)U?My~/Wg~`oJ<)/&
[dpSQ$),D4*9susX17U%Rcq5D7~[CD_l:R}SQ}m;Pzg!Y(]]kq!;3oVpd=B{OI&1rmrcHgh*bQvd~q3a5s%g{v5W`2kGbeMm+fb^f?O`pd6oUfrdob.Rt|eZV2s%KGVJ};,0d0>jmZ%Gvw}Y|x681*
^NF5yjn`>ke+P[6GOFjxa53L|/u~dkRt{xa:rsic+^q.{0aWEupH9bP}X=Omww4,#4J^'y9$U2E:0HhP&~Yd:!4<fyy2zqS>)uLBHGsSgbP<SLkxWkeb<G>U;0aV3i'l4ln:vc}|9x=+LK;P:R5NK0
JIW;CS3u=#`wg=m50mt>Za'<cTs?{r75T5'R=Df/T;/M&ub%Q,4i%P*ck6;~4N0Zx]^<zr,/f#Z4s`w>0?EknB^g51UA.Q(o)VTv}|Oq?ZKaFL?&1_cVSYtvcM'Q%cIXkC^}1t;Sct/q%ty8mSM)Ig
i>$`*N]DG=/ES%)_;YFK=h,g8+t70m^Lo&#}4DIwMBK>u|>KNaW9d41~0oOG0tg=_(UA=I/=~=7A;<X_oZ({02*cUALN?%u$;qwxmC6EhYuj;ud4OUy5zZSlq+r?X5Y}!czUI/738Z!'<qj}}K';kZ
Z=k<p}kcBd6?0tbWgT`i1793Ce8$A8JyI6k~5wWDh}33nw;`q.QDrak]LLJD3?Q&^2lC,kWerA2E,E5,6+<]'X0)PZ&X0eadA0ZBD[y12O8l](XY,tOYSfOHmFf..sDf#79%.^j5Bltx'QWI#|0a98
Ko>3ZM<awd/]:H!|`<4aJrhm}OF)sA[9k&3MAF5>h}5rg1~YylWoV9R#DTwG}}+r7}bxQG,j38'FHuk;UW~>&OAc$.vw^)K.(zYs^v%Ar7mTZ~nFnRt9UM0W{v18)$=`yTQrH+Hr'nYUR{1Q0n{:'G
b^u9gOTqrO{|:,3~m1rf~d9o(7HA!8.!rgS,.44~G`.2TVs0:4o%y8QerxDs=;'EEsod`cH$EwqHKe8at.<$:faTBe)rA7:F<;ey:gyGy.jnxKw[x[CgE0:,=mQO;Hba59%Z!&RZ|#j9vOx/5iA_t(
;XcPgR#k8^5)UEqk1,(btYs(XmJxO3G*LLA>(gcBm8A:Wp98^*jqf}VtE0J.PeC1b)]4lTKu]v%6bwB7gC*'X,friP1:mLup>'>0PC=wta5YGtf:`Vo`N=|cC|+m,t&XM4ysF[U%8VS(=z'($N>xy:
Q%$2#|whe<)C]+7&^F>'&9BhgbT{aR(88R/7r5Lv1'JCt<~[p/rLAdQ+pm13hjMiWxS6UTG#.w}grS;6:)em~%AW)7D9[lsl#jUicuA~=M}7Z3}2%vzTvszcc/1iKd/7#><9j%)wCQoe:Y~8|M|wBy
V(M9o`|kSOH5lj_a:aNn`9L}%&mXezZ7K{b#tD[tH`81:1hF.xXM(EWpr`f&T]r28:SeQ<F==iZ^0FBgWx?R9HTnLQYxIXj5:jTbR=9u}w#!&Owo1[;'7mN0y1*k/=sH$[bm:!p'!7fX;B<2LblRrR
;{2T/_9xwaVilOWz9?lGv;'='j<eQ_'wXz*%;3!FbO'^heCB7oruJ('Y]}USAZ^pfK%'ytDeI0!'/3,BD&=}IOb$4#Ny%0ewFEI}Vd>%}~J#C'%XwW&mP}sqS`ScWv4$cpIX:[b<^kA;z+LgVR7:RT
Kf2Q|7nhQye$*]11/i,+J!n9HgX}~vZ3s/,EdK^QDXU?p~_+OGydT).Z#0e={qe7=?ZhmX$/WC+0Kx|{(=[LlxsDCXQ)I)W4>zbJ#Hn=1J{.HpAh(_`<4hhO!vz=)AYc~3K2Fr6%X,Od+';o`5:'[5
JsWaCX7ea:Fx$Gb4$'vF[yKj6'I<fw'T,k;u9D/{O8&mmO8.VZJioqJH(gi?P?D6R09$fF5T!Ni]zzfkuZbpYR}]VzA.[4HyWqLToKkt!;1>(Rs]b_aReUS0O8JvCZb/E9S?V?,I$PZiC!*I9NIEQJ
Nb7agBIacqw*|G;x|9xj?tdrcCFuH=m&|5x=yyzDb^?^u.:y#uEhO|mB$d!eJiU+_rRlW~y[CJ{6thAjLU`}joJ.0&nYjyV!jxu?k$>67_Db{_KruB!b%p&F&g>Zg;/+(KdI}kr8b2&^_kZ$D(P?zE
7uhHl+PgTjxpL$!*'_pe5Nc~C&7W$T(<R4w2Pwrso*iF_U=q~KNX0y[vo$C/P?Ft7fSs:,OFkEw'oa*)r7Jy[0M$ys?LulpLdguT)3pB|3N>L$zGJK81uc&x^M+8]/Tv#:v'[D$oIy[jz5!YDM]!As
a}sj^#EtR2k#EhMS930#;w7O8PIo<)%GoayYt55GbL|IDw&a5Xkfg'?Wmu%.FvWqKw0rw/:aor'`>UFsYT~Tw;|e>nJnc;1w5jyd~<3+Dfk~~J'8{KLt`w[(X}sMLI)9{Z6mxttxPYBKhSU{r)!L)U
zisH^%6&8xFqW)84b(ebA[v2G?gFYh{e7K5NKvp[q(;OWdEvsE/^78RAe4paI;Q:;~zWtR5Nd:(}`g<)tx`sY^l$kuAR%4CS%R{xaz;%S8D2336=}rUJ/a~S,[hcX}uBD#r'K+X+5<>ZA{deQBs^{J
A)ME~|f+~J^?A]&8o.eYY6$hjvslEp%Wko*nB+(!/8>5|on+d54121q+4gOz;RB?NlYa8};dB)])Shkrr|%T/S/yP+AFeVKQfX0T7|)BdWO)tA[vnq|LqjWYOkBfH/x/q!7n?Un{PNEtRW']i]u.%?
5D.kml?zzSv9+9/b]?~t8^U7CUm!.$ll}`cirhe5rG{o#Zh~)*Pyj`6g?KysS#cTxfkQ16&MB7|{it~!)Hx!|kH[Mu<=u?n2xV(LK}Bqh5`2oca>!B3g2luNwdh4wiO>B:E_UxEdRN|`^:^4kCwVi$
.ZVI9DeH=`^KO{%]6iMWq)/i1o~yrXhgG#Vt$rj^ygB)a+{eW{.<DI.=ve;byXH.cW!O]$St%]&?*[^[edV5OO~a0vY#k<m6),5bVv:J%KX_d2]JCphw|VE>&=Rb0!&l)*5Kwo{hE[6Jd6S^P[g}jB
N|]]fRPmEDl[hbY+{[ngm1(HjS`y/9g&V>YX8p02aM6ZX'|#J}/N!m_A8gdFO|)Fs8Cx`|Qgf>taEeKvWh7^iPeJe7W|wmX`V4'&5:ozX%2:FW8/%$to.4[OAs:Q>'M_~f~)q{y(4!G,][+(5oT38_
,];N2fA)Lzk|LUWH4KI/#Sr;f(Km{E>4Xuub3bkNVi8S0m7tJe5mvfI_(Hp;ce)?tlH]J`5.ZH/]2N|z,$oM}k+VcGz(ohz,zmLn)ubDI?JZg}B=ExA!Q[ICwyH|l):=Gr,QDGXCTStl2NEGB|5Pg~
`hl1JPKR2`G$`<RzBa}v3D^Rx~zYF1pz),`Or_W,VoQ7mgeR77,]hTbzb]Wg}n{Maky*$pT5q*i1W`Xzf8h1Su2/l}EpA5w[sOjtPnsL9c*]Joyd5ndw|q^+(iqr5QJF?Mh0wcQ[)T>yM}.!(Xwk>E
)#]a='VQ85.v`U?Z4*tj(bJ6nhN^dJ%ly1g'S~.czP)f[Y_1}/N9z)]Zwl1%9$rr66J?3c&(B.*/!LC7T|CAb.'Yd3T^zXz|#1`B3RP~^fw5iXXrQ;63oSi$Qu[y]R_lG?R_cCSI'2(w11?DU9Z#4t
xQi/LzQPBL:uPc&$0xz%a3Ie7K|{o'g%ki,+/W8{C1![91MLOhs#^q&2?XK50#yldej{r$?3ZG~vlL>LW(lmrL3Zj8_OXojqys[F|Zo{C0S*%jEKEMFV,0Y0eKE+6'z%2F#SMrc(VtUj;i*~qI}Pj#
it,*c>')HgV`10CT7$;:M5X(/zLTLKG,)~TODxA#P,{be>go}?0WS;unD)KMh!qi6#j&cmZ#V`W^yd(vRuRvo'/B<?'UIANH3gpr:3D%rR:sW^sm>.`EhcrARlGS3ery#09PSiLd9k;Y2NK!pE!P(k
c#HvB7K!|z'}$BnXHaHYwR+qFF?RoSlxa>,0n;bUQHp'fDfax:AQf5!0g(P%SR}+u2ot]3F2:z<{8Ny|l+=iJ2,8b[PZ/Z*T2?TD1my)iglTE}4,:,/IJ4bi|QsZeR58fR3l&IO_ON!nF}!=yS5TCd
<]2&4E*nU>'d!Km&W(+tHh|k|E`huw[.Y|vX89;TL^FD_;d`gJCiNqX=4$2y&f.t/^HIew!f[}<wE:j.Jjt{z}z!7CG90lim*uN/Yr8[<V]Q/`4s|ptA7E0riv=&'7&9s]]hs}Fw7k6cll9n.?ivN6
'2>JZb#w.v?X%Zw1LGj:kyW_bbv)w_N&4jQ]C^(gyex|`hZYMgn'cGRU6Jd'Let7uxgipOpc6!B<MU'R?c<Z7KJtT/G{p7mdNSs#s[D]JzhN9Dl|kExX5IC]+FkO:zXoTX;M.TM,)J~;UT=jnk9;US
qOQ;JlNaidUlh3y&K}/K`Tx<15[YNgXC%9[>0fS_60Rw|vwrX,>1*IJ;5IGljraR,P9)rI,,;hbM>F3T'4FR1]qz8U|=y^tPmt+;p+JLMSKA}.:K1LU3+%};N),^Wevg0BHyC__CVg<KanY,:icE&9
y6ko9ir^+O&igntX,<.m+B:ooTVV*nki]CeIn4/8GA7>d;e?,uKh}b<R:0WS5Jf/#XI{oZ.g'&OD=kExYX,s{aq|!K}/Cm2T^HN28Bl}Nm(e|~7^wO{t2FNUI}Q[,8~RS01hVif%}]?y'l_WF=TSWC
s#Iu'g{_2~uT;aiy[G_}Rd)l=ysOlu=bcF?`w|ST2(`TeJDAM[r4InS!>Kc4za}FrR`QK,&g&6nn=N&=}P!,!ZCp,$/9I(pt+H[beRQDz&AwGC:?Zwz$OimSN9aLG|t1)I<sWNe0VloYfIaYN3<[AJ
HBmUOz8wHzeLLQxA~$`1?;B=9!%.<+ow^n6Ru!jn.?:l}&R[1]j}ef_h_?2A%QQX%ek7>}0:5GK/|e/uvb}[pr4jw{J!l4NHdlN5WZZCojI_sBj&,yM)x)j:arH2/F;~`d''N`m6^[[nY&I)&}RSs(
)M0'i1}=x;&8Hd;J$W23es$PH;a!bc5yOZ;KnP_QZ=Mv~G~TGZO[U<x=]=CyNK[4kK+.aq8wU^pnaym}0S9[R1CM8`hfc/F{7X??`R$3A,An?s%z6<:cJ6`,NW}]Yj%N1os(3q1Xx3gDrzTQ:C78_S
~9L%dP}Z2I4/p.ldb?XE_T|DAB[!,R^:f6n?RGh^[WN0I,~)(KL:8_g5=7U&MLNg|H]t^H:O5&+I,cVB8ueJxW3cfChi;^s.z]+,70D*b<>SwNMDF[4r(JrLLo*x24anXXsLd<e]+(T_3]VW<Bl=D|
R#.+MxA[|Yx8KA48_L{cpADjQywh0>mAc:FZdOU3)0t8Zb8Z^M5y}oY$QtTNzy1[cyDg,'*'SQHkmmE.vX_b(~guM<5#Gy}eZSHRvA9.p_5`LQo+qFN_!}!}{x$)%V92?A98#v(JJ.o=wd.Flk(LC(
.eNEX>=z[ZZp]>&ZxWxn;(}<l{Kw/UO}*x/*tX.5dWIx;*$x'&Ocs]'ruB~b1H!]k~[T#bZ+{=iseN{0}a%</^^/2)J][Uu%;[5TUkUXG(vS4<=;D!FiO}Zdvri>.B`tfjV?5FkTX,zbpWoM]$i*[A
j/bWi9'Hm#EZ9Psu0q1cRxw#$];g3;H;7:X7xybTP?G>j1/F1VoEY`w{84AjZMM8=2?y.fDuR[.4bK1T]It$=:2rm<3z[GnHYgPV^8C&oGQ?4gsR:'&md!r2>/Mf&%?&>u]:qw%s,9bX&iR?bWm:*C
:u^=]rQYha8+4R!T<M$9*{=PvRy5[|PNzkuh=M,Uqn2`<O,Cekk1SJgHk5ac3>U;RlS[[:KV>BW_~^pOS},eHVY{7,tXbIx,XP<;];L_[Cv&zjb!q1m1<XKt3^hw,C|MBQy<lybgXvZ?8TBat(h<<R
p(_nm=zQX(5K+9!e<T!?|mxV~{ArmT!GgBbODWZ#RLtV%d$L^&V?xauBkLiD!~qgf)VY8AXaxhL?R2,VtSGlyHEXYO40FYCq`'{/fhC'#GQXB?_+U=K[:b5:C0W{*_$<bOv}inbcZkQ~g_=fQ]</Hc
<a=^FiKz%snu)B_Lptt2'[}TyFJd,Ke;%?6uh;Dov_Lb~wD0ssVEyO+:w!j,)v|~e53=[2Ga!LA4D'/L[N]v86EI}dd&;5a;k%Q/S=m$!{avh?l%}a;<.6peK6I(GKQ8pFEXYP&N}ZrW]*XS4f`z(I
$>j~jVRKCnHO/<};M.1}gk_L)!b?(FSYI7*Riylq|~agjRh(eAMC_eCqcy_,TLGyxsdGWnD`^nLyC+j$I^um?/&A2d~&q;u4NSO3/'>tqdOC;:v|p0_('A$Em=l0jDt.d)BNfc*$E%&TEWVyNK7/'9
Bfe:(.s1!O+e^4d^b,USOfU2P#SJ,=LznlWpuJ=jv,*=}0TadQH_L}MuogF#qM;A}dgE7Wz>13a,QC}G#*+azE_83HR|9,I(X'XD:W[f?SR#XITS6AqX<#JA#j0^&4,4>5t7)zz<GUVkStfn6GBO#Q
M9H+(uW*fRo}`b!GoG2kS?xlOd%%UYUmL%j&LMRdoum8MLV:[i)lVgv0sKU[Y3^?vDcq]2+Nr[fF:SZs$4~My]'vY6cvGKShbPp'h_K7zSY3E,MS:9]&yCk#z/TV*x})e2RIT}a+l'^[Nt]|[de_2'
:qxJobY/bwdkl+Jl',]nlvhVn(/y3z6/fifY'9R>6PgK_Yurb`R]Z`J=s/,?AHP13}e52Oqw!IYYu..qgHK[[A[]5_>CSMolm(G`~bBlC')Y8:W8`uS*Czj!2O4s(;>n.7W<#P8LbALM2K<|<n8]ZV
yKK#xCI>f$$UX(uZMGC`XlNh)3PlJ>TRJ~YTw0:;zL&hMYmLj0G%(.Z^k7])+~AURUQRrzd2P|mzExbL|6f/HVLE`BEA&VI$)/8.b$'vN[?fE!knFS#=^'.Z''{c%OVbods)6Wa`t<d9nYlo2QqqU%
&|c`LnruFc8%B~DS=&NuR}MHI(`(TEu;j``,='/&huGFQu7ef'ELs!!rxiMQnC$FOA2l1{OSD`GV~wF785XTds=/<aXZpk1sGNcO^yu0zj]5a+0*vZ~)f,1j)]9w'G]cP)!ihcu5Wtm{cE[vEL:QyL
vO5pV/`iyt[1aLZ~<mR0hF>*AzaIonJk6J!(Vv?)ec]6S}J'oD>|HbKjA(y:TJN6PD>_gfs'u/6EN(Tf.s;iBFu'G9hSSH>zQ2t)|3?q;J[/}d%T%+B0Y3ceYNC5f|RyN>wp:np9Q&|x5|fM9}oP5f
5_g&H|>F~dm`eF+EOiPNnGb+B*sPE^#nzdWBXYZc``RTto<|[sYxW[Z4tQu]FL1QU{}}rFla~3d4m7uYK(P;|'2=PmdlgStFIv/<I4kLH.AL]+olHA;?qoOU_zYkj,xGvm}8)Wv%db=,yg6ehcAQ]W
$sn6&~_*N(9k/QBToG#HUb[S{Q~&by9Y((06v*X{A$jjfGK9]Ew>PZ+&!Ac!3~.vl(oS^r,vs&b^ed2xHSBwV+Vs(}p6?)E7Er%a!N!R$q,o$SW8PUKV?vlYwA6{99S'toEA<mm~&`al3fx|9,1<S`
~#kx2_l+&B_(N'qj5|AY?*WHH%<!4Ec_!IfJkf}~<pO9K,Ksf{>1:Zc4ZT[%}0cm+.'4c`n9hq>.?/2[}N_c8v])Pb82VG2UX4m6$V{Ov01W*<ZTS$[1A'US8/~x/p;}/l^JCb{p7%3`YzhqyvK#ZA
WJ&cpo^I[n%2|w`u1#$ZM:B}|fn8pg`%GAtkw,N4>T#+)5C7P8|;(3.WR`D4x1)!{By+s<zuFootR#/8V2nNSmpj[fEp(:]fFK%9ZVb_mmtMt[tVBJ5S&zq&:O+kI5~hynEK(DhEjt]j_wX':IQ3fL
ZF(:QGB{2SEJ{oI'W`5TZ1U<=?O>dv6Or#YGG+fhj49Swy{o;:f8K&An?Q`ZOV.B5z'_MYq}21|a`5&/F.2$oL/$J$f<`)_.:v(9'F7EHwjasli/ey+38>~1,;*Ps#Usr}QP?N7$]abixohScSMPwe
,'A)4sg(;Y4Uxy2}0(xNRCIfi&WQUfDv?1>e~fin/nkMCr^){Z7;87uqro<r4e4pWo.3TC#kN{p9<z1WqA)wv7%{nHs>Z{sqk[zBtl$YQd3)8yN%Xf1W_b13c7bY/nK+nWO=Xo<_awR1&I!qEdw;xX
sX$Wel&$~Z9Da3~C4b`bvZF.PG>/C03Z'3jJ/bHIK+NuI&}jR.N4y4*YosVs_DP9~Q3gjT^926VN29MeCC!A^nF5*+#6DHtXe'!tmyV<1!=!j}GHlhLkxU2$7qp,5tOG^L#|6TL'{f9n,=9ltC/^`s
A_Wa{Ft`>ADf+Y*sFhB=snyFC=u9+Z^+1>&BZ5K~e:MdHv>!k'j^D|fA$m+'e#~OVYFbzOZ1TEE[>r%dX=9>SfUZzG^T><<Jn%dU0GG^%KC_8CbiDV/pc6jmuZDMj2&'Hd:8PPTz%zUW+_!|6:9%?,
:1pC+rMw&8c/X}m1AcR'h0|K;:/*t=xFygN=#i|$^X[[64>Zv'^V++8{MP{g+h~Ot}f`2GTfNFI]/ba1GGzgh/Rdu*TCm3TmnX;snbt`{083eIyBjubNrG^*S.!=~[21^4I>`]P&$`wWV_=LRH1GM.
gv^nR,x,nL^uwU=h9Kd7b:#&2N'CmPu;Us}x5wN1PI#z5PGU7nYmmFdH]r(QS]wQ>q(2]KGPIgj}}7D'1#fe6L}:x&>l}(CNh(1pKACz[+l*.PBtGY5Bsbl.?nn+J{|'Gc1U7>9v>$6`T`//<HBbSn
E4G)tfN4qVJ(vsienAzWHi9U676Sy_*Fl,`rL]hy:5+x!767;`H#XvcYiw4Pm32SH!r3zh!M^cj`E/Sy8:57k!Dw=Sl}_+drxN7KC<G_Iwto55NV{qNB~yCrh(wBEhvd_gM<Sby#rPyJZHX3zoJZPE
ox'wOrXZb0},;_0h>.u5iJ~j6NyqtePo|Z6.W{`(aGC;Q]SymR*lCE.d+f3HX|WL`${W2f~~)1sFQ!/IGBLYhYc*!lahW}#O}=3LxS4J]>|{2~+#3{sx(^V}_7wu[p8*/!l^(M7ht]nzL.X){IsF^i
$t`*#xPe[e|uA`e_)]8gnw`q!]^i,i}lM,kN,{!vB>*S1/<3JL9SbqRSO3n%bu:}e2F#(I_[K:3Ppi|d%I}R[HAEw2hX6xi01sJ9+}ppb)O+ts{w&~U817X+;ytby=MwP(6/Pn*s0kKKMQU^O,4|}S
Hah<=UUh}8C[J7pR9|{?+}p(sgvI[!9Pc=e>&Qrlx(4j~vS&}_s,c.#%4iS$HYqx]z{&lysKKEZ)~&_Ej3Ep*es$[>L=D'vyIH[<A&3kbXhv<>AR%~+L}.'b:%&%9Lt]s/*`|9hMwJjE_y3G5+6,NZ
|$u(&R(P?Hj!6KiJQ:fz1h_$`H}++ZI&[}[Q5,iQ,h=xWM^[?]+v((Wze6h=UQxtqK$o}R!i1}eZ2=Mi$haxK}LR_Xdn|.CD_7M=l3OxYfFdt+yz;?(rE^,b.X{]5,^G&>j9mvN.ly%2]Kp<M/Kp/'
CH.MoSXbZ83o~$+nRTfD_3Py[z9h$ec2TGv+JXtnS6d+!aaPm>0N]<[C67g[VA`7dd3WmHi*&C?NPmBX<S8QRP?:HH'1.Zqj=T0kvtQ[}jq!vr_.'TuhMV`<]m//*55GNul+!74dv5?U2>qR_'dQ<[
u}(uGA092}4jo{+1%8M}&fJ8:;*Vr%wiln*6`QwM{Rc={?}$aw_E:mvJ`(^4+j;!7#i29k=,UyLADcWubnqDI>zo4t2=*,.;/fEA[<Bs*$3#dwRNRyw)B}jsS:g~f)$W3WQ1Pv*Mt/|rsKD*F!BrD/
.C3HZ(9)Irq`mn+s,n.=$G(3D6NSLg!J9:=J}gk/'hA,)J^mRYW`rzLA1iR}7]}?!lZo{]6i#_fp#}^Q2Bh0_+ww0H).:2'X%x)$8xT8&rX+0!1JCL&xpCWW8Ovb(</8n{p&*c<F+`2:cGpGVeFKby
naAxx*a#6+^eTO3M_8P^Q+_qM6HapSlRAaF}DtH}9D#Lw*2R}^V4Ucf)^fO{TRiy&23q59[I0:s.UylamwQ!'85P~GNe/qZhwct+'}hdOrd*UpuBLV4P`V7FO5Q4ao^ul^o,ZGr?G&abQa'O,gR`YM
Gy{AwYd9y`P5z)]Ei)Cw3Ytw|6jy1m48&T9Z|55ZVRE$&int|dU3&hREd1lxWaG`I'4nF?%%]8E/SDSZ/(n4]IoMe4eR&6^Lb8~FLwU>=aDVAWr[Q:R+`BsiY(bnc3oQG5g(&_>EKT{[d3_]58Em6{
jkM?mXdPkX{SLoG`qS;{Padin(hNb+rxJzjAlq3(&in$fg8a%A{fKwIod<tW0Li|4mN;sb4&nB0R5}(|,Iw2iX])w/%!'hX*hoi4`v>rc<g+(+?6a~T8Z:onTn$g(!N6|$5cY0]IjD4!w'xDYZNW2{
!(<OeHK=S1SgrX6ULq(sGPFSmH3j.Fbq^HTWlj`p{ln!bp5|k}($mv+G`'KSLz+6OHtH?|Fx1#HwBSJ,ivga8p0vp3[WPmzQzJ{F9bR$UOQeT45Jnj_jE=49[AVQ|&%#Ozl?^!>Yt?k`>^_8NwVP2;
xT'<*{Q~~zv%HgF(W^xb4KO,MLgdf6:MDrQsGfj,?T;ia!S&:T%tJ~0I`RaL7dQQ67p[KgK3&R3Y`e+UBd'[1=D$PtJl9BbS?>$Uu`F9ssT[8sBp3>G%=TJDa9e|+:{DO}#gX0s=zu(n4L#ne+!3jm
ox$%[6?3=X[jeG$BlXE7Pu2RVJ/Y[jSinTQGNLq;J;ti9aFwxYpMA7'tf]ZReqHRfe:'Z4Sj5v.cNWf,&XE[^}=sTe>EJpI>./8v<t1H640a9vb*6h{wDUG>L11r%l#XYwg2_6i?R^B`M/&YI!VPn[
qT^o>n8]c]G=5jKpkMl7qOHE_{V;Z1+bd?Jj#t|G.Dg[0P.b]bPFcexBKbfR`<M[OvZjS<FMrt}x6OxikF>[M9U&FSln72pbp345oQ39b:HEA0<dv.UA;:wR>Ge??A7AUpzuHPfU3IPG{lE.QZn$:C
_|VX1A&]}g8x!E)qXpnud`xy{hC])}s'~JLNAr_FvY)YB$47egpJ0Rk%'s9}Aush9[pwIsxst$L.K9Dpr5;,'%)SATsmm>i_<S~Hp5F9Rrf^E$|q(S2dmPI:s}oVHPEBkg)0uf)WT6Mf<|anPf<`2D
9D[Km#KF<O>!6W%KmZQ`_HO*aw'ivYO[r#&PnJ>nkGCmVWE{7S.J#VN`p|?`wG~s9#id/./ZqJo'KHWw8gU=]b{8'GL3SmeB.7E}48q>2,NE+94b>3hPygOM_u3/jZ2A7WK5*RGV')fQd)#Wr.YKfO
DKj>9>Pj)%95>oI,'XNTwGKgS]V68y5S+QoXt`YPvdEsNY7u/n(a[E~XRPqn]*nC60?yFwrQ9|VGLK>22'g|qBThfY8dXi)P12:<Rx:>M_X'`!q_`&S+auJ|mfY0u5,xbZOnd#j`<P}0XRF^qAlLis
?3WPrh(n;*{9J}Z?ty>!_/!DPwUZQWySe/rqdmx=i1oGd7'%m^NpKCSW^.EOmi^*~&^)&+txdi<r~,_0e?hoHZP8XyM<Q3XpiKh`GR7n4hGg(sK3^r}X6siWpEKJFVKw=<3.:oa1Yv^q,ll*yvL;JB
't*,7(h*;_tI.u`_^B=j4&ue<I$UcIl<L(xUlY5%d;`pc]hf8L47.2z+e;0pi/;Eam6VL*#K9GaO!jh{b)..>[uBb&xPyv!}qT6=qO>z_;9K,lF&82^SFn<9!Z1;RZX]j|Ku9q{tOz^HF|I<X`^!q[
#KQD$/Epu;/b1|^QP,qnWGIL%g`B[8vb1+H0z<:9gGWHCU^^U$<k=F`hH+&&$da5+M$IM2Np4i*8/mx'E3lnR%n1Vzwb=eoQg0iEvNF4qMHQ;ypTFWk.UBZ^=`TKg06Rm%<1>|l#(;MCv'I!>dmH*B
Awl,?'E)iG[hJ(2s5kuQH7TJsc/HS(#&}QXfd`y3^^2~u(E$(8Oo0a`w|}Lu#c#o%n&GZA[G8u!29te&&#{sh~k)H]uisa[9'+FCOIyCA|yO,cml/U?Q<&M.J{Q8l2U++%ugzZg{,[.Lzt9_{Q~&&^
+J<[nKW0}S*w[*|kvTAi~iU'*}JFU[QLu^1Gwl|.=sC7_k_ZC,)p=H{izPT%T7c[fFq4q}F;Quqy{nS}JyYGYTV3}nQ[LHEdw![^o4vt<9,{*b!Do$>R^tJp%i'aiyB/:C1?Yxn'qcJ5J}qEU+sX_`
|Fi0]jx}5Hc%iU,o*);fS(Y9jb3BJM7TB|s;'w%G#31%N$l!TVx6*&a<ePgd1ZD&mRc+CIXP.D!.]iTo/5HWRk,0pK~8w(lZRkX8>aKG:iwO|5A'wI/kthWEAmW:+m}^!R>S2v]xFR%^o>xZh)r&%z
KR,'`5a]|P+JUc0%^fK:c_(r5?MrlaM3]zMPX{VD'.$C/]bm[+>BV^X`S`RbJ4i8SdI'=X$xinOe|?dNQYmD(B8ih>Ci(sJHHgC$EO/KSC}PMso'#>~O)x2,<1thl2Q]{Uc{(?{p%>nEg/MVoSB8NR
kQ936ym5~zym3q9sqyI*88F7Ep?'=C%;S!96Uo%0IsDCie??;.L=eF]R2()VV|0sglCA:Nof<`t6xvzcMHhmHz>|y%[7fcHqUOjpg~~LzSoCI~:7mQ|FGL<n;~BHL^fV>fLd%cfp%QEKVvz(I+/bs,
PY#CM_C?]~Lg(pu1k#<G=Rw7?RsIS`&~//27..=w6B$Cc:XqYm`Rn0U2Q2,lO**UpgDs5ZH)hD;#}a?sHOJ+w,2B<'zLHt~HBaBp$;U~YhBqwlC%=Uh<c'uRoZzvotLruvo)</g>NH2Cqz8htGG_J;
0K0&):360r+q_/1s]8k{IC,20hIl7o|kWRM?!>|x$]4bd1JCMor?X17G1H0PXKQ=EHC?`%4'ZRC_Z(YpbPPOXi'(ZDi3:BSp>19_E/Y_s96T/!X'=b+u$UH`DhKo85Uct;5UE>ML=*a=2z(CWa+kSS
IrLHClq6ekODod>v3cS%qvm}=gZu~tyLmFN+P2>FuE(cyAeHTL'^`t:mq)8YdBOWxdNi9cA!7rbCLyXK~xd%||=^!u|5OxB/Q<RFx`BHP?m])4f0h%zX/P40(XOhM7<|If]0NAMs6}y%M7+<vA[$vq
Zsx+oh8dNB6(Jc1eWCei3_Vuk^A~PR#4zNatbb*/'h4p8WnZ&Y_]KD.?i}*Urv~,`/F^o|E}.hl]k'(<cR$QA!fFu^vV$+}?$7/p3GlGe9`>=/w<g58gcdCDY6d&SW=hE{p]k]I$=ng?]VX0X/4=#8
_310^=*E|5o~DD6f]sG>#L3L_6!!:XEC7d?Br4LV?Pm<6Cub;5C4bPl?FH~Q9Cwpkj`M=oso?QPR1R1!pR4;Hoz{FYQZpv3=S}_b`+jXn3b5ZfSGyxkh7:BO4zDN4m>f&f1p2.&$)_)+OR.Ez1<Ft/
MY}d<fAz{dx_qWbIm.G?(3r_hh[|>L8{;X^vDMhS^mu*wzPZD/{(kz<2uy$V&^E{3N`||/GX}]1A9}LJpP;'1+G6P$u~)weWUY`4=(a:_rmNayBz)N!RQ8'2<E)>7{6.`#=Cr=Q5r0$fV,!WmzJdh3
+u=28qQUpPYKf[[:Lv:N24rS`LhYSH*eq/PFO]>2zF=P:ORhBx#HL9n[K=Mb{X0>c4*=`lX[<j>Uv_0(xs:kI800h79Vb|DNv8y_NBh>?C`Fq5q7(SX{dHiP!HYEF)uKzW0lcoSD:iHy#RdMdoZ|[I
G'hVKF=xbx0B5Iy|m9>1iDRwr!CT}i^qaEB;0!6P8G8#3|N9*V{}7.(j:JcwQo3|e<~c_(Vj6DPUOn<EIjmU7>A%)};V0HZ[[Y5Z!c:}b4{*2sck3eVL~LmSvHmbrZ$aYQ}z`L`QKfm9<h}z:euUx.
x:p|CQ[H`~kB'4vMu^Z8)}?L4#'[J}:|G6n^ndo$Ebn*[|.SN4`+W+=r}LYk{E?%~sMw^0EsE)3U(pQN~5HR6uqoEbb/iJ:zno)amZor[dtH#Ir~{cm&5+oaGY(3{`EhB0ke|sIK+7Z'7=vmMPle(~
AlH93_Gi7L>=7#|R03#wl[>3h]!eNNl,?RC'c|G`T~s;Uq8n&!YoD!Y(Gzfv_4AuZsuvXxUla}v6,tTm9G?Vd]/j^Pnoq+<3fx69!Fy=8Vc5JSysuw%T2Q:<c#?uH|^f]`+ndug,pyWH[yx5CSdCN0
r1UpsOSIvnoFlF2y)L6r8*rT|=5EuxM{0xYlfeDZpVKI$DdG#!gM,47^5,T_9}JhOKvZ/5g*j7o3AKgEeWzmY8&$zFjc89V}r_Kr0*Us$2au1[x_cF0Ztq5AD%c$d`N{{K{nRc!RKestC:i~'R^:D(
ytiQl]Eu'=27B8sOc[}_SH%bXX3:mwWCPxqCT9K+wo~?sqQs(|mq/H]6)]moE=ew'fz#EhBts|u+Be{tB%k<gPY(l,PyvXOor{a$LqZ:NhtgG'B7({PwV!xCYO%C~uSa:>z~*2*B>W=+f)AE^GU+YW
N_+dPei0nIL;_bm2jl3ekqEuL:E+#VPl{.`&>3(Z%V7q?cqaYeTj{AM`:Dzx$d~VRusEYq&[n,1375_AX~vGp`EihCNLF:}+zqg^)?nrr3d$$B&onz*gD!uv`TGf;?~c&JB!Z+:<bGOoqU$,J4Q&xj
u#G]$YxcA_Fkt&Wcl!Cjv!4J<o+?3vrH#C2y:`mj1,gD&V}ao~O7E4Ar8MTqg`4/OAkn.XUA<3.A=</=x/!9f>*[LAq=krbkV!t/&5W~'R(=]^Vz)pq*KSx%X2hFNGE3S`'OZ`G/IW]p.?r}r~e*y=
fB:/kRL#d$lN5*!>t,{r|sa#eBqe;4QI,5:uahZT#l##mM}jpfl}hpY/2)wg[T(3/GX_p/:BBsQkp[QX5NS?<rbJ=Mpq7yK36%c>JtSS<{s%[Fb/:?2VxVcU9?=2{Qi/8ayXV%|QOaulFH6=ZFF{C#
f`FZ3/'C}~o8Vo<`S31s2#DMl=%&J+?zZ=EThU?ewY`r|}sjATjlAXP/'#W2DDfEVV~TK3i'uNW5RQ;|ib!g|]dX|%ErSU<q;4]I6HeYeg(`MhX8+sazrtaC'}x:fsqPXC=EHz,nV8#UB1#I2qk<Uu
d^[#%fZ%s54}jff,9Nz.+flYzqQ+0_17vEv)l~$=;riPOrk^ratFdQO,l6AF*_v)Fh?o,%PzXJBn}JjfPBNg=EA_aKvGzvA2je!x3B7a!G%h[EsW<kpR%RzT)seGhaVIrOc4eq]_|adZeaD2L?y~GT
0^}AnKl#J&sit5$p9v~[TrqtHyX!V0!FTy=DO=j)$,Ko}1hg]&l1NMdrhirQ#t*iU,O7s8R9W^3=WfI[(9x7dSOOYAxomd?!1)occvTfzSTqtz9TR'`,I&^K3dOf6bv.WXQOB,;Bs&E8*M]&f]u9;!
PzIV7{lY!e:;f,a;+o5SP>yJ)BH%.L6p9wFC585Gay,5whM9f:a)hf]tC{wdcQYwDu?__1|%37wa,%Pe,`ezPXVi}x8iw;`$+43%,gWE&kAr;?L$_?#Zn5Ln',h`,i6N8+EioPr=UIpx~5RQJauG8$
8ZQCw+cZURv#E?|X1M$5QJ{;=n*O5lNivP1Z)'3oS7>^Da9^S~{YgB%d4fG74GtI+yJ6cID+089O[*4A!fT3v#F%j02vVh<,Me!xRM&l[#b$te&erm3D'a_y{4v{sed9.`zy$9uKvaSKmF=Zq=)MI!
:iv!~zX~E%)v!93R=euOt8H*gD~EY$F3S!;5ML)oi8]|1O}Hh5&nvVaQyxtRQb_)o0pY;AJc+jT)EAx}:kh)R'>(a[O:Mw3TF0l_/:dQI4SCIbH<'O`W1iCi31yV&aV!46KCac}?:_'/q:xJm_|dwi
K~oTEn[6I7<Rb~KI!`Z2s85^C}%JC.&t_U,5[8Rk%PgOsYV4dtIC(~0GgP56;5m#7E3rx)K)PU~!DA}d$h'2mCLM[<cLXxtX`l$+SU+W*74,;s*)(v/!(Sz)Np$T[|&hodK2TO<=T:m<r,y%w1n:]&
O8NVpiFpq%]YKG'WmVBk!^Kp(ui+oNX{x;Urt_6S1$2J~niTVufYGw#byt0Z!c&7=<hthlR*(G:,ti+_Yqbcdsj1v[J$mdv;=opcO)G8a{9~5IP%+*K}.}=[A~EW$YZ?5{yl>1]oauxrp523*IW1k{
0'`$.X=g~M2H4^OdrmUrJ+/Q:;^4RB,)8zOkTTtF_FgcN)j7#iSHFiA>k_LaK~m*3rv0&wra&o)vRA)a>Bpx]lh({Sv2n=_3&,#?O1|8wPE;J<Vb?'=yJcdyDwdo'cdMUQ+e{!_a=ka<a+7sU[I>rv
Ls,HqelS:mgbcd|7^>td?63,#_ZXp`,B^H#4Gz6b&%[fgYprCDgktmMHeOz*}lK(hS68Jz';O+Fw!0|Ba#`4Le'u^5G67%(oF<SY^I*z~YoPNJlnB^nRBv/N`aQ[QE*JvC:),;$?d13nPpjYT`C0[d
L{W<0NTV;yD?#OvrB&qJ^PrTj3}5|m;J*a7FO!]J#dO_/kYf_Z;iiitSFTC|rnPXrvV9]iRQ2krERrRgtv!HoTI=4u'M(OdbANn.kj}S,D?T0*n4ybq2J,{;>x^cE;lc}1v&1(8;?6)8gtA.RU:JC!
l+%u+rEPGow{t#T9}<T2lHg!b^lLjjFAn?HD'gf&v<_g=h93BYiqj}j7CTrc'i~{[eyQ_!:S/nn,SG$e)7H:4Z0gAxAZdXcTPQ88q63?AsOObzMLEoX$;#eiTItE5cN1RX1;b?E^HJD;!hQh;p^^ra
NO4RYFDJyk2Cr/D}jQ2Rto.L7P13o7&5%a,^Usp>O?H(57O$C*LXY0GAl(^`p=%vpG)ag>GFdDdi;NV*PdPa&S)3EF^OA:9E6,Cx/D:FDoNb:E0Afoih=lDbR4YhKWN`?vwGz+}7cg+y2^+QD4pXy,
fYb%niW2vCmuKz#xYVc<D^>M&*,KYIt~1It{(yum{;`KCWm0!Y9nds(>4D>+/&U/>DpVut(+F}#T_O`)5#uj45S/,lHD|:vV'u~7b_#tmlm]BlW+P}Q'1<VW,SkAJ$bJWZt7#6'R.2}?oF]LBu6Bia
7).|:%<B$3Kt>3rA9p)c;P[jb7T'KOyR/24dJQtFOTn8G_wj4.w%?`{nI).[QHZQkbm3~bIQU=&>okr0t_wVY7ub$R_0oe_z9P]AUJxuq'*|b41vHfQN(9;6[,Mko[X8pxT^^g.|z9w87?|Qji:AHD
}SnE;aGK?[YBu]yM``xso7N0^0WHam[R?jAs$~3Qw3DlB$z~~|C^*|F+TXLi0v^J(wP&1%_*J#?1$Evq!qcujte3&u;IUWPH(n=&5q2x.95{:^SIw,^/wpWC>!hkETjVa5`_uow'cBMT|6|LV3pO|h
nr]mu=]qS%C}3ftT;pw67zwUa~CA1QH{eF]xf0[!;9t5:MU`':UaBJUHHYg=?qZU;du&MqD8TULhE:J5qU_cgg1nvs#)6'_F}IpU5gHp2tWReg5_FvAYPd`eyUzmB{~Us>CkVo<^#Xx>>Vb]/gy,Kn
^G`fk5!K,O33%r2>Bt]q#9T$Ytfx.j[HYqD]`!e4+Jl0XJI=R&vL`A&Pa'EqZ*F9kT33p8*4ezeJh;C~7[{[g)_deZy]k`ItnY7*hG}xRyz{4L:`aG>aLBmDaw+c+Mj2c4zgGj1ij[9~9bFGa8Lh$D
I3l>0YRknZmq^P.bp;PLiapI87nN,h|n%)zqC/Ek%k$*b#h#=f'bhNsO=(/3V'd:O/OtfCCwJigi%)AaZ%wQHj.Iz^*;^}|Vr[+;?oN93h&e{$M''D6Hqg&]Vmzxps/vNRk7nT/[eJEyK}'qk1Ck<3
)^?4C%G'sQhDvRZqh&`3U_B+Y2WX=_S>#;^ye[Rz0j$#^[o&zLRTOW):|bg0/#aKT=vj9$W1I]T|N:_;|k't[V'R4)53+={A[eIcHf7qBbH*RpkG72B?S6+^j_[=)K~~sW{7:Lk%,m1?wyd$D#Japn
hiG6^MIqOoA(jXlrG8'nt5j.X>UleD8dWWzpr+_{060[':tvV>25ZgMUMC/9RV8&R;cN`)Ll]4}mnffr{81wV~f3Fmj7>#**E`Pstc|SUe2E0zbUN}}Gwk]$^>0'+2Ep$<=sr+'+6YKf81,^7>H`df
^J}#q,iXIm/XE,KT,tkHvL!Kcj^)&2gzP?9g}(sI>CT2Z)`A8xg}bI.!<<Cz3's5EVe`o9Z&IQQB1L*B(an<T)[Yi=)!CumyD_2e*6x9BmU$E0ID_3I]H}BffZWQ=51OUXkxk~SM&VuLVsSpGINPHV
[U'QAT)S1k$`hcuo+f*3wFsg2Z;0KM'x,R1enup0kYz>]QwJ0b;BR[gh29IP4W^A8ZV%7fBv~b=iA6piiSd4KvUgJZ;{7,EOuV{[rd[[491|ls}cl;v]H6Wl#b:Uk?fJ6';p,]qrk{3BN`GT$${j3q
1bBF$lf4,d(VWy<bMObe'#SQA<EFhwDoJA'l=fJ2s$kQJ]&u+~r4eAHf_7F)naMMIO_2c0X1Cm&U!ceVlSP'qiHg8#ixmq,G:VLl$;N*Mt;Reu^)[G~e4h>Tm7c0_US%|vhQ6>atF8l/1:*TFjU.qB
LQ9`|CF&!`PxeG2!0$M`ev_BHBJ|]X'`Cc&5cyldMOxG%O6Z#<ixRz1Bhqs<6/nNJ?9fk70nfXd{N$30V51EX(&NDIC4~omRM&)iQ~u/Q9(BHTv>'$(GqEmFEQPu9=$UD#;.lNjEobT,p.fl8fW(Zn
S|b6pU7r|?K{/qW5,?uvJ+Du60)$qV`l+4|59/G0k8b;0%rKg.2WX=($GgT#{sXx0Ax8%i^;6lJhzh>2;E9o%z1^BC}fJ`Q;aS>|r?Ux!1;6O$.~ddKI15Ui/.~:YXfn60pbn(eG6DV.JKGqN1=FRp
^A;tOAX=*p!3_h+;,8PbBD7/n/gjmg+zUBez[`j*>f*8YG#7at%>EsnE<AAd{M!TdeOQ'&j%OI)u9f2MzFc#1gKY;>;q2J:b%J6*T.i/jg*9Zbk'6~[<'k%0yiGX#nFeOF8uhm/+j)v|^gh`;j'BYI
Bl7c;5W1[Wg)s~o^%&(cuttUhfb~GKQ^KY9JI7{xQD4EYD?KuE{]hdz1]%;fj^n25YGLY']>s$I[2JX7O<6PcF5:gzk]HKTi$W,2Fteb[B!0>=m%(&V(ZrngwwcPHXktt'8X4<DA:9bLrf1A14693]
(hWw;}W~hs}1b{[Q&JzWj+#c_p_JH<v1B>.:Fs7N[xK3Y]'}|PFnodIB5Lt'KjR06p:$UlACZvX_yAgLAkhcNn_GHmi?rGNFZ0zf8E28kTy<E1~ONw%VH<jJ$?)A1oP6]jOJ4l[wk3}?=6b$8dbTGV
S!W!;0HRUOQeENIelEE:Fy11xy#45]$i}w4^Q|e[JbRdhnq?np4#pr#z,GHeYV)e#9X)y*%cuX8s*2pu.v3K3IQrAf*160Y_n~r$c]6tr:{MT{Co_1!Us6q<>F>KzTaB=NU;OB2;qDA0.riJuUuan?
'jKralqk7rZLu+q;Y){'h~J*?DzDq=$5_Bb&HAa#,^H]O&]aqhD~ne.'tSId?':~UqhtVb6)KUjTl?.!xc`]+azuPf_eWN&t/?2&O*Rs~;T}<{q*Gh/O115h%miJM`FOo=ZBB]ONl~hB+h5F=YKlH0
z6>5WwT!qxT*RK_u3Jn9qZ_y8aHP$s<C{g,~AZHiHYWhg2;{Zs]QjWs<`HS,[KxAKt7NF&4RbJ:6=V0Nznb(V2Y)g2~(%(JbPJC<'|xNSNz&18ttU,)^8<UO&?oZ<5=qHf~LsoiBUbi:#s|3SX8CER
+g)}d8TX'2%&[`0'*4&B}armJ]y7GzdUik?aVr[=09QIwwx:o92lZ'PYPVePbV:6MIBF{Q9],68j{Z3CB+TQv|rtU4`Q1cH~[d?4&0!|Z&r%1AlilO7!?BZJL'nIo+)Wp3Mw$&}o.XAVBeFZEC!J~x
nBj760rdnXG.,`.4b1kW/p%SnCs'9(?oTf]{QUo(nz~iB>6vC[O|$zpnS^tvt^BCum0Awt`9v*M}tdwPR$HHc.iP3+^e_Y3Cr[r985nS%E%ZOKmrE4_zHsID>45Fy~tyYXF2yWD?NdX1}g4Jwwjb=T
fV<puJ0ky?J)Q}r)1z4Npr3>|t<uYfpW!tZ*O{B[?5MTL}IpR6}9yRW?G~B<wy[h2JBtWj't*ZfI8#_!,uKdHXy[AFWYu5=u9~jS5NQMns{KkQVTclX596{>OkIa`#[WV$n~3;ECAn.Vz/)U.mZqIK
|j1EER!A.Pd8|9;{|EU[e[|{)auP=4mX3J.nGcid#u0caxnAeE%8#B:C`5o(W!RMj&e[u}+K!Lg!9xdwrgxv$NN})g*FL'[<O:cO?Dw>',u)4TV/Lk5gR=^T!#q]9mkJlh?mgn+&).m1nqcjo3`QU:
r$8zY.V(M/U$P_N&2DZ}lq,%P.Mxs9<+oLr+4#3S=u>q,%FP{c?$}e$+:K`{oqM*lG!~goM)]bWPb:?#^e>:u%g`F0{Lo:8``/?,Y<%W0O8%ROG*:9Ab39!(RNiq&vWC3h[m?gQ)k84t!BLn=;!Ahr
7;n{}L&T{EDG=)um/^a3ug$M)>n*l&tCD1~bygzCHRr3>Erkh5p#=w$WTy=MwdA,*V=RT1:Nj[aT+H7z#+;h:<%:o1A,r~ok,Iq/LM+q5^{ZeJr8IA+d<{&^Y?]]KbW%Y~AoN^evdm9'&SW=3x$;}z
gKlk<%.u&<I/t`Y)}]s'+<^q1U/gE91eqqlE{Z/h8MF>/j!xbZ/qvCLoEm~D67!bi1oGNw~y?SL&m?jn(ADM5[_hvT,r5rOuhI1<zH`Iu*W#/X}!{FrsIf:;VeA2z(26m|g>kQl2,T=S4+[CZl|kM[
RU><dx8R~:)INX|L}}#GUV9<F=8+DpzA4?:JWHIay2Pgs[(_Z#E1b;ANSR#:tff|Lx^4J<Qp{7px7Y0nEr6#&GlSk!F6M`j8T5E(l|DhfzuwlgtVZVTZhv%5uG0&|8ah8`?P8,(Wxn<wcU+dq^6kI_
l'SfS~9j!*T%%]IvNbon>o/Gh(/S(Kuh,CIbHcHUMO>+>]ri;))Y}|$/2QY`}F>)BoMBVhcxE8{.hqkCx4YJ9uW=xJNsl^S[ZFn3s]z?!y2>N8}n(9GDP.^$j!W!B36(y;nJOy1xgshr[^vd5M[+,$
!^eBPfj*I3;tc6M3Egti4WRB=g|^XHtY>zVW}Qd%.?8o0;WpA~3|jU5y;|Bm>q2;&)(*.UZ8Cpzl~NFmA/]vENw]8Z9HdIn~=Muxmp_CAgs]KiXn(T}YNH*bN1:ouYZMQ|CpYr^6]WDO!BJ_(0<W')
n1o|Jr&N]+ILIq'j=H;pu{}*ySFLL:,nXG;_Sv:3vl)(r8}N)fU4Yez?Ln^B/jAQ^nN~43`A3fs7&1n8W?7'_9^bLrIc(9+tY!STD3Y>eQ2>ijTghjCtY%blg2}[F4BIzv'&wx~&3&q<D|rKyBp+AV
C(6&OpDtP|(z]tysSi6KE]#qJNSBvv)Xq;syPk=O4RRE7NP85HO(e+9MAulDl4'?bq.,SozQLr(13v&I)DAbkZm&[HfgSA}|81u7O4NZBu&T_rs&VTMQ&UYOBdr2tCUvV(;:ZZUR#cm1}1lPf3MSCE
U]=:hY:1Sp31k5(}PU',6TVIJ;UtjvviN4(!A~^dsp*eCC&(C+>gg}Zt'Z.UzUnG4_$~gquL?KpTcyC/*Bj4d(c'!xZMVL,V1Wt?6P$kgXQsOoxX6{7&~dpg`y$kE8om$(_p:bl7wep_FIdwa$D^UA
LoqkN[E^`8mI2[lpyA>,Z^Won1Nhw}uyk)b,3lTA./s<EFa.{kaq$<K{vO5E;+px272KwH`=tIQ=ux5d6.ou2W!$}jV3~5#*gR[qm:*Q.))7>~n3Ejx!Fsbpt$iF~luQKk{glB%YAMLWe0JfMn)hh;
=`naBy%lEJ|k'EI*!bwPIl/<?hCy5]euRE.?MIFRH7<xd*YFBQU5f:3#mb+XiMQtmvpXKe~6.`x*obCNVq!em4}VXAXZ]Ln`lhNwj%S[|_VWXjKWRh{^s.%bl(+=8?<EjDG[n4RF+|GBhxi''(5Ig#
!;Y3$U^I;rXL$5WW`#{K'=6.o0?Qb;7XmdZu9(qQL$m0g`cc4*8)4YRG|i0OfV:1,fxTf'lU%cwAr*OfS0BWqossS)O,bZZEur=Y~D(Q7R{&4zE54j#ZjJt8{|:)je+Zfo?#gHN_RAn*j|8]dx:D;N
0Qr9t#[CNep_psTf?F;k2DQ{yg^]pWB+Q{3TeIzIkau%b,82P4FZ.Px5sEmAB>uRhLMTXjefH2DN[)Qx2F!<}t|&:wi#F#UdDI;QoV%Pwq+tRZ)v+4'={{k}ym]V{{e][vnqMXOXKc)selR>!~<bb>
WP0K)}HUjaV#9iDu[;g=H#TX~sYr2mMQRwQO#s]iPbHgt)b#K.]eft|]f:dqxeF4}bE&<T%Io{prYg,=5`P}H+?wUg[a{u2!FeA$m#:1T<mCDduJ94XBz}S/I7d/0=4woqk`V?.Vf;Gb)UGg4lff,T
Ct;X$Qbf<rC#o>)2sBOsc|>Wh=|b|.*O'wdh8!Q!)g3R%G`}<f9.G0qlf[.16|]k+[MbR`=8JpsO.+{={'Unc88c*SLFe%5mwt'AT/`s0f{yDt[$IQ*22?zaRt[2G?{9.VH6bC|0BBE<&;6f+?wBhw
I$k^?!l|HGlB'!~8Ecn_3SFNtE#47)V+|VyLP~IO:ym|[pQDGI:]?v<SK!FOhna_mVmNw1f>/o:gryc1fXm;0&B,0~];j6YL237!3]W+lTpS'iE5lC(o6Aq%/SWQgZmHf2w!IGa:/0#&xNX,oHn{[:
)3H<$+s((^)UqX,P%Co?N4s(hOHZ`b`r'<#pGM_8vPS^6Iq3T!Lu[]zoneNq`u'`{u?:a!&QShR543n24KOK/$_(g!}O}H>D23H2ebj[j{J/j$u%Pm`V(}qnO??:#P}`IWcG`SONSGC{B!|W>NkYQ,
rBe<|fEY[hx}PABciWzxxA=}=vK,HPT$i~W4={lRJGHs4sVL3ZS6XG%H`o=|qp=KJ5V<n1a0|NePC(_j<tlp]Xv,x0)#Dah!''be=*!MXs?Q<(}<R#5`/h{uPIP/Bm/Ho>%.5<R6nia.irlQg1*$#+
/hxFRf<s+b,VSwR!cQ]UPz!nWm4fH|:F0mO.pJyCDf?9{'K<z)XaD!U}rMNGEw2Min%4JQj%GPE9Rw{eeJ=iEtRG',<LE<O0>Vr'<Mi_ZL(YO,zICDBr/9}Z~=$pc6.Y=>D`+]F|U:7mbETXQZqrrJ
.R7P=S*51DDTW%`!`O;t;PR1{$.dsntDJ1RKW7}_Bq<INt2%5Cnf&4QPTYa[[E/mZ12,Q;Q|mZ8dQ7`Frfsqp&&<wU5h4/Tzf(3rAkD>|.Vyo;'TjT>fe3XYKtZZ,EZ_/^Vdhvc3c/vE)>_dAsonAl
|S}s2~'x:=uCPZAH8[6q*3v?PKac78YzYxTTKZ5c{FNPQ~8}C<}v*v`RGn0Xy<C|mgG1&Y`eMJ*+t{t2Y/hZkm(LbSS1t>.*BAD4P#m`QiB?6+pSHRA3~RW6/3mn^fs|C{`;9CVUVJ%i=f(vxOG3t+
w7lEX[p~_OvgKf&#qDWg&(el;13$Pui!pzhX2pQ1/8D&jBmLKT(#FlVs*5uyz5=d`/9Jwc{*'zG/bkxwjX=vX3$}^~J7,yhOFVN,OC)F<]^Q{vwb<LuH^A9}pxkPW't,7#TmEGVqw'[b=G=($SL;h/
6wENy=pL';tdIcP4BW!fJnB~y3]7:u/NKhNXjC6dH6#bBRJT%G#jg5~!|%,sz}^vm73[$N96nXl:;;b~J_}.t%*e5IU#^kc>;.*_wnI77Et)NclX7?#Cm([q#!tJwDy`i(&uKT0+ZMo;uwDyOTpW2%
D%5/XQF*`!y.!Dglh`j.scu?1It*;9fiYrT34iNj5*rZ)!y|Xcy:bbo`ZM5^oL;MNf)!dcuK;8&Im9Y_hxhRnjS:ng1rmP&%1XJqWRgMvE]LfIqx!sn|y|;k$`Q[vJPYspMVJac}2pr>j:vf'*,S26
Vde>kp<C.AtOuoo^ji&DnQ3_jXGSIb,ue8|4E}g{`p6]djD6<|i5X1.?yc#o+;0ppQ3wJS]Ogi(fUa48!U;$lU$J*R'1hKb7+#S^u}T`Fc[G={>ej)$t^lI!0tep!w<c)Bl1]J.eC>#}MXRvG4De.t
|~_J>pg,K6xt%)riT+D1jn;DUByquvQ1$G$&qecQGR_,cu'HZaKan*!FkC33:c:AQcjL4SIEqYPO/Gi=(5bA|2[ih'hPr}D`7e<^G7tl{KFK:=b02m)RD'^&$<9(]jz,#d*I_LkQ!qf)QXiieT44~U
wL9dj^L:+pF#B!VjkQdA!u:rT/bvJ+!8;lys&wl,ZY?IxRe1Q(gv|!RYKPTZ:h;i?9F;ih6~>_%77$Tgaaj!=pYFqxLgG4nl.KFt]ynJv/kOx:e)<DE2pZbK]P&#l,AZj&,h4i?6Nokk;F%>b_ZSWj
s&ax?F(vCR>5V$mg#Uz?*_aWUht<|0p5^<LL`=3=~r)D{/QC7}pHD[q.k/a%uUPHSL+eQ]Y>LO;meqtXPH;3OyL`OL&hCb7.Dx523C&z5&=>'N!E}j$2jpC:/H)7+~^?A!+<FMubV<fN?QD1[rbu{k
Wsw]`:H<jd^'[aU0}hT1.O*D0IySr*wC<|!sQoH3u+Ci[Vm95>k{Pq(;7zLRmW51J==83^RnOV%4lmjC)7H1qOV7osKom03GgN[N,4xg*lE/jEPWRT|D$2XTPai<y~>~iA/}`}:4a6G9qCFg;(_OTm
:9JB606_.;W`1t~zJx1t*e6|r|r=|m'd}&SHfA)z&wMVeKbR!1Wj?>H',&e|;4h29ZV>)A'<w+):1Ej6~A4,s5bHg%xVyWM<:,EbgP/QtWNFYUB&kn+#r_S$p]'u$Yji&;'c<!%I%4SS[bRX`Dqrs#
H45rNR~L<WZlu1sp^afs>b;vX?^VNT2$r!6p`u4Xp1c8m#=9Foi;7iFGz$,k$`A~bM6|(JcyCBI4H)AcX!}m?<S'IYomHvaw,b)&!N9Mh[;.7^DXF]~YEV.!7B&4_BSP9%gI5l(Lm`1J~<*IWis?QD
isUxmjL+BF3C[1L}EbhPUc:5tswRKKJ>EYR^oc_bi:mNrUt,Gp:`Q|*::g49N30Zx}F:Q[1{ZFdS28S'S4?FVkZV:0EOWQ2cN%{kEt:A$=V~JOA&B*N~[;$fB:]q0`34BN$LPWkZbhtqW$2W1Ax57n
0JD1,*r.D~[t~1zbA>{BH|fuD&#7BBg$d&/6g9aCzwl!E(__f[oJ}f`mQA2YY73>x'nI?z3j;4OUc*XQy;*dt2,wtXZn%`Zv,uqHmtAxiARcsxP_=HJ~D%'s>C<djHr`6*}c'a~:#r4zyp%(<)fWzX
U0!HF3z'Ic7Mik0!g;OEp(.hewlmnaFZ_8T+pz.oo/hrFy.aOU{URvZ{roxzo,nlB:HR8ws6hcYLL/xY1AdcUwV3=*Essg.*#J><kbM=Xd.uF>c3?WEcYr&5i(dw<&Jr`6U4g^y<;MX|E2{V,&7G_S
VzYesPx|d&i99VHoMQD7y0]G^XdUY$H4JLu_'/LL/On!uBtqLj>jl5o)Q>/zQ0$;UKZJX^0,3bJD'ilo,?&e_kFO,$GwbG=Am?I|6xuPINNAdPPhf5Xcvr~^(|>!sbiDZwn5:F8)H9Ch`!|L)o4k~u
!m<H,zABOE<q_myk%(tv*2/a=j^AHfM1d'&Garn`*b!pJTQX{~Swjx}e}lvj!1J5aNR]>nIHj+3I|=~nP]xaV|HgTj)|ZCmi`|>'.sd.]yqoJy$<Rer>3uV2!*{,GM54pV|72W.Z9<(H9L2'W)#~R3
!?W[Muh~3*yc08ZmbpX>)ms,>4Ngw?OTv/+DhvrV0V$g&HF3A`4G9xzht}z}<5{iikfOpge`4bL^ypwG,%K>4<ql{nN~I3rd`rUY>hbWSwsrb%HzK:e%_%(!u3#NmA8;(m.=vr_CS+9l00Mm<kD,i;
Iwy5=:e+UQwgIP),Z|P/(^0DvWP+oG'C^z1iJkPcuPmZsd%lT~(&B=RJG'BbS+mJ*46p:Vm[o;;IC/PB>qK%X}h%#G7&o7X6$j3hxS>=AoWi1y8:;'pSVx7OQ~Y=?5yx*zNcvkEaI9b(%PCjaY^A'L
MM1f%AJ|j*|J'LW0MUT4M+Di>z?2^NaSw*F7&[Wb4gu%|W,]Vgtsj8wluse>/FeNzD^Yzn4qF}Sb^oB/Q6)ta>(}PK7J?%!92r(]HDL'JP]VEGBNnFdXDn`^|1dJ;C5y*o#r,a9*9x]sZ=kCNS1W?5
.bSe}in>B<^''N8'mQYSk]'tknSehZ/#[lZ1a_#[f%Ui892]q</?k`SAiU^qM_|Y+ilT;kT&[jf6{OP'7j6]M]KQl1lb+?tE<S5vI:qGN4ku^(Vml,Pyfzt/E;yC.~bLkdQ#N4Gw*AIln=X?e.<NkD
($S?AAHO~/t{u?~rw.)XUT}ATrIYw!BdTD#|}_e24sx,+&H<Ts9t7Z_DfJS>[SIpJ0G`)z:R>=QEa/Tr{<MY4nmd60,CGl_'#+U$9nUN|{`wnx+F,b`5$GY_ZvR,P6YxTATR=PXYF(M~d[z==hPYh5
_H^o>T/EUxdsu~<wq{tk9JZ;i]CFqi+l_]|!#b]g$=3~9qB2`lR:^X4i2A2oyQs1:He*<x_xrr5Sx|a;Y?P{.6gp,O;CJWCuevWN64kLzK_'c[#C~K$wYkS6PS*U+A9*S%NL;KaDC:1xy^Ov%E#Aic
mtkC*c$z?.,2C&:0gP1F6+39<;raWw%!t0%Le'Xl)a^8ftOFC>4V%+)5CRg8]5:,TKnMD81GDbsLfRsNQO0XQ;dI_SLYPUlm?}WW.1}r/y|5r'CQGQW9gSN#?[e}gEDW6CJV:ANxJSW_;]jD(]G&L1
#X[j9zR|{(dhT;wOu0!D,uA?tu#]`DKQ)+byE~m^hMAhqmwi9XZg1Ia/n*%BeP>]zaRh,$#9],3M5$HNxl}{MEd<fiNK~H~N?)2W&^XF&]5(,_n+'jPioQp'$X;5iZ3(yDVZ?`+mx+,}{_7eMjo'3H
C<G>_<9^vEg:=l$=v*PJ[(wh7!<5+zE<X^4;5!fO33I'f?RD{wvY=L^i'9%G<5K++/d'^jn)BPO,a>.$'QcyAw<da(S2/K.6!fBl64$sB|%4^+$#T`zcXwP[1<1{d+q<.2kGxNrJHRhhp6U7C09$~j
GyRo_+C&)`%};6cZ*#mqCZ<HG+O23vW|G9.fw2ub%K.#!Dw>*?Q0YS5jP1&{_^r8^,6NE'LtxQfd1il)U>/zXY5nyseU3*?w:_YrU1Udb3_NaZ`Ec`bhI/[J61!29,]]$ym':t2c97UNU>Ya87Q]`8
]NCpp3ckY_TtX33j5|xyRpF#4s0kXJJQb&S5p~boDoraJOI'ih#w$9iyvG4[>XRU,j5;1$8F2Qqqd%nF$lsv4l>>?0_}IlZ;18/yuNbqo=q+d.r.na0d7A~P#^ckN(G8#19&/Q8zR0<ST_y)p6aVwc
^gc8&9?]GNJkbBZR/e=r*w_vSR8LY(8u:eoAI0!.*3UUwy`fbmDL*H+mi(off'jEir%ans5HCxss~BH9lO'if__deB*PEXg~^dC|<VVy7TH3W?%G4PL.#+MSQtGW<!.>,UP~l,+sP?:!eXM>w,P?Vo
bHj(bUgIFSvl2t3HXLc?W]R8nEc1<R.GB]r$i9U_kKgq`w,aRtf{wuG.9=uVH/XRL[f=]g9vsEdXR^89I{J_o</FB=o#b:%?#)(xM[3Y^nYU0$+mLJ0O+eALINiGtdUp}WM^h)^w),~Q.V{VvDP_|=
tV~8t8CD0VG)S7pOI>!_#vz{]mhAuq?m`DQaj)N$A+/`E?f4ac}JP7T{{VB>0{B8mpMA+=R!4)]l^HI)BYZ~k<P%&ADs(#BI<;hq<NnP}}.5|k*12D}$BX>BmPWaZ{93y75QS3GZX>Z)UzgIdjLs{,
:o,riGh/vf&m>Ge.05[z^&<u^=$j3kX(s)6J$:7'{%.:um&W7{g'2o}f:g9l=)2rnkWw.s8T>zN:mHLKoS>B&H0/dEwsWM#/Z4&ih^P&G.4W8_)+>w05!m<}:uG[TIe'FhUyI!UsD+:OmyKL|Q?^3W
,8Nfn:5ho%1,|SvE>sX_/}Q4tka}J,`t:Dp|j6v5feP~^#Xg.*7xm7?J#*xY[,R8&7NIo_]s<3rX>Z`U5tf'%RNCdtMTv84`'#{gZe`w}AL3i6D6WBhE_8OvgMBI.;F*pmN~,b5,|c{ah,*LUjpf;X
&fU8H=>389nr8OrI9Hs;yFV}Wc]ro2)4)7IM<4^s1;Gv[k=O#g[~Q=#YR$$1Pv2E8;&asj]5n*:A=zwH&$r0*Loxv.^f=_9/m{u~jH[PH^F5jgV~7GuCwpF0Uy[?^f'_i*W#=Ap0UVV7.la#XgT7].
!UN?G,xRW}3g]l$eO)c|t3<+P<f2]L?>'EwBW4#%kHjpQ?^O?3GGc021OcM3iQNbNp[Z~me!k.^PBq!4h#s?wC'4`5()1&>Em6Z}A6d|'vJ.~nbW!4ZZ>n'lZJ3T7n~'r>&#fs[)yJ,aGpxx3I=i$X
HVDu;75&/k4UQ)rO<'CHxco{'Syu#APH[Yf*.YhrcKx4v13U?Rs~y$B#H)H{Nu33s/tlS4+S6M5SqdJQI0Em'pi<IQC)^zRE;1Wh#r*dyy0+WhShoqOo8[:d~Nr.%v|W67B>m0*#FAN5Z7peA7#]6k
xy}R[$5;:qqw7||,FG$tuDq.QGik~dMwruIzcXw+nMDCYq.}Y3m5t#$7(K&;e%'d+hd3nMGCh!*#NJ]~T81Dm0.[;d5Y%WW3Qd:pb.*&#RKtz*ruxtT`i%0!%1lIPA]=T=^ef)e)mCD`Qd)JiI3PO8
p6S?a&/~RVSE4wd,nm+1o5{2OCJm.NeO)#whjEHTU/(!{Yc>>6axUgJ_qW=0N#ItSM_y6xkZ;gs{UtUvJ27;r=Ey|DXYbv^?xjm4ypaF.<Q*B{mU<|U/LWDj:SG%`apgVaa>Iq:%YSk,a68iJ,t1$]
[q8kO>BNGm4:5RgL!c<|ckYS^+GHwaTY7;Q_oU43LGks`X+.'}XIi//s6g4X0;Dbk1_nbpAQ={Qw/1=bN](25yWZqY&B6K`g|L$Y`nh)#j;h2J)US0OkS5hGXd'utSM'?jKaE,SOPE+Q]yn!G)Lf&#
CAMzp=edUo]uTJ~j3}e,.203zI[t$;e2*!z?$63X+'N^WUY.Z.ZGoZWUR>,E]B?1=,~e;%vmfQTdNC^!lG~VXiGh3zIh2F7zPw~[.o2TkNqP&24M3SNc7Wd:.0RwrXJ&!?2kkyI}Z=PvzzU/qk3AbO
/J!f5h;EJ,;UK[&U|$kis6,'[0:XoY^/*}FYvmBpp*Xv$G%R^CJYut>K1Lo/]8^7>Uem;x6nr$5k|A=?n:}iKrxrBCsfBY$j5unY|Ov]pdSzz!}to9H.#X/7sJON%Vj.t}sQNm[6jZ+MOW!FJRry7K
.l_&Sy`tVEI:f>T3kg)BTYHC30$AIx](!j6j]%Y337k4&X^Uc]XMuMkp:;(a%9qCS4#}c;,GW;w{/;Noo:`x1a6KQJ$<(c{87Acg*Mwr'NYf>ZyG_L%~HtWP>3b8*4mFwC2s!utRE|oU{nt;1sO9!#
&sXLH)bj:x2wPKPr2W;mgN&~D,k^!Q0sh[x~GEnd1X,id:J#(cMMw9Z4uffofNDI9`O#$kk`s>%rYqJ`W}12~>;Kn[`%eM}_m`,[dliZazwotn*:R]GV|Z}lslxk|U:JM~!cc[wFa`)bF1y9Ju7n|*
(aSrMtWL3PSUXdqr+G/21UJxDkJvqJIVCD?Fr6qBq5S.aqJG|K*te>l6Nq{`Bd3y92dT){UW|Xp,0.cEldo0'=Qm>mb{vMs)qq%`GU]*o^2Azh4ka;5y%7v1Q1R.t<l9V4iWx3mEpeiB!pzI1WF$*A
#}w*QxyHlcO/j6jDO2!/WskC](5%X[)aka}2LbQI*2!o&ZNN)]Y]NNwh{&1Igc)<]k'&VgN|T`F|`}2.5K9OV(3lAi4K6a*9xM/5skS~WcJ03AZFTz&rOuj1':e4049)Uz5~OkmzDMzRFJJoTADO#k
gCOI3nT1lG;nVcosU*D:qE~$pn1/4Bi}VXGkIZrsSI8c.9C]MG[{Z,G247JlbYHbEp_b=7:pv<Z|PE0U<C=L%P=b*:*/}njY69[|U<=lhaRh4;33F49E:jj!rkX.tCh6e5v{l9Mq1pBFL(&>N{u]{9
>k~d:j?rJ$UL:I;/wv[zh77ZDR(8yShG/B/*Kn:(qLA'p=!qmU=&ZDTB}V8b`nZ[VY8xRC7T(q*NBe<b!~o{<**RSLp:F`,wv3rKjp_8#F6IEO!ebvRc_<ew^7iOwYnL4bj^DV[tl(>+UHN2uaP*5f
H3+%y5(/K;xJWo'[TP+!<]3)X++}!tR7L+&Wda>fa9e7MK88#lZM2j}]!GF2jI0{GQ$DRQA#YJwFr&|G>z4Tjum$sU1bR1O7j#^a<9GPm%09i?`!NDPLA6vEakHfi(=B_A3sLM8)]>nntN8u+jHqA;
acIwHEs`0P;=vru'>'GUx~O_4%g/,#ec{9!:aFC`yA#3L%;Y${=<?vM*,>$'U'N=Yi=yPM^YTW]jp#LRj%&SI4TK#6z_eS)Bbb+U:jGgCoZy?>)/;TZZVHGV}IUQnez%Rm?2(Vl[gXikqyIawB#$}>
Qo|P4l.r12otmT~rs:|r~Fy>g53n!BsG5xP!7<,y=xN!h;?Gb?ta2#7IL#x3mELb5+4.1W,Yk`IBX#b9{9M/$j5]Sx*z&#UQvIJfQB,%h'B59vJf.8LI)`.Y[M|07j:=DJ<VlbG/^C7>BzB6Ttvk{'
N`?Uv?(EfR~ycR2G_'Qc`VZYp_.]W7s.v}lV9WR48;Sd3K|c4]&vQ|Tto$[!VU,04ZBYyB;uyPMcG~B)UbE1biI1OjQH6C4<nvDQz(1h_a=N[7^h2('#$xQ`g^kmg(y.h!b&Lz<Wy_:.4IyD,uC,(i
AQN]SkjBHCi)4J0I'TePT'T9<Zo8{8Q:Ax%)YXUE+Op}f?hqjpy1nO35eF8!_R:pFfFf&$nGwi&rM`pXoa44N#K.4c0U%Kbn=4|#;Li1o<p#%U3I#Gn(_T{A3}ai[[k/Vcd<F_*aD{^}A;'nheL2=Y
%XyC`&|dg+<.z&'<9>iBTAPOZ1P`N0q:u=qVe9z?QjrX;r)1hst']y;8=1jtYmz!F.F|90v~+wH?uci<w44GGC%eBQAE`z0ux<!Dd.4/RP,rN)d|EQw#5`I>D#R,!*|N0&T&[Rja?JSyK7S.}'GT<[
1j[.=1;4^r8EnP2p8kxGU?&8vIlS5^MTXb_Ve(wa:~]4Obpg$>%{cbI2FCvKK4.V9,~Wzn'r<4V%(*O$PEE*[Ew3u'YGjK8M*DqZPzOEwo`$tptqMu2Ro4]{`'bu&vga%[5Y&8pX!LHqR>P$q_$wNC
~`2nts57XBicT';*?Z9tQ6wU<r.j?Ac42{QoNPUjY:t_v+A4>EG4~(V_iH5D`5BO#J'zh&hMh8CZ]`K8MRRD+UkzAJd'!iBvT$Sl%j,YDhWIN2s`r+l*;29(G+2/|Ct3AOmqwm05ikw!V`qO5PD*vR
Z{i3$(7UVzOhNm3g[}O=qaio[,nv_?0SaAaglrB26=#ueA?]Yd1n?,%ac9Or!aO[)AO~<)U(L>KQGli9#i6+7VR:]Q*,%%]8XJeFxWkM&DFK?dO3kMyZ=C~Jd~fA9(Qb9+C#q;.3dVIJ%P9~ATM)FH
6sq~m}vg~6m#d:mgHbAYt86Rw5QzT+M{O28}{Y[($8W,g<4tdRZ~[U>6]_}]r2C:efLGA2!$J}%wX}Q/Myi(QE!(FH.mY$eJ>pGd{:iAG{$|jP}csD]`~2C_RX+|%0UJMSr(^;K|2dx'_L(h&&K<dt
k7l_Vk!Nv?Z}BJ1DZXqn$T&.gied3OH1w3Ia4Q]L)3msQTZ)5Ka0b~_[)^pT$>uG&U>=k%oDCgek:<'+wpQeqK:7Hn[9=6)KtY06'O3./.sK4Vi:|ktw]?~Z!=T(vb~QsXiSKo+jKFm.<~d6mq5&co
p0X72;oMF0^G6Jbbw8qg.V#VAu`dCnAsE5V%E1Zi)u;*C59FQqk)O_p?N&.~*1?WgDY9>C..zIq?yB`sub<'/)0'A88|DU&,nMvB[p5)vsZp0UB,F'zCEK_4IoEpC>mAWf%=k$)(R`}Tef[mZ#*UiX
b!,9JcWrd;wNU0#T.vQ?~jH(zqombH']O0l_&:L]_rswyFk2AK).%lgD:J5F5:CxdN;[4eMKLD:S&%z`E],H|Hp+v3MGcQPbafcpWCot,>RHgA#p`Ix8cHyw+hX)BpSwV)=JhL>;cN/K&)Kugu;3_&
)m/R;i`cb&]J{eQg4%)K1.io#%+#&'7y:;MghQ;(S4|Luc~P#WRr+Mejhm|70=:gjGtDd2WG0|Lzgn9uPNXWxg:En&K}L,|Vu%NI<i$>0v)d3Znn6lmseRc~}V:kf1M#i'uy4ap=Mr7F,+),B!LUeu
7F]M]rRXxmNMrD_6H]XcGnA;N3cj]Q5WDM4>pjn?/{&E&)XVt8mnk&+JYCeTcS4$${G]CXLkO^s.Z=El(Br5)^{(<RE<?4ts368sr=xTtzc26l)G$wW&9k}VgEq)8qe6;7U1Hm'QmN[YW(>y.[Qvr+
/CD|^PqfQNt4m!FYk/sL[r0uZ{VN2L39Ueb5P!!Cb}4_rvItY8wgm/*H5^AIO{}[l7MeS5(HQi!9TxfbQ2a0u('6NbY)NlN5j;ig#^FHYWM}/faD^OH%:E^u8#A?2W!Z&!gHvi01JPKs<wJQGk5!5P
[s+fTPh<lQEJvi%uC{tA_e9?%r6jyK%BLhiuAP6sryvwUYJ7_j3<#Gx]gbewSmK%z:fvl1v<<}<?j:k=uIM%RI6NNSsbJLO#xcOY*z*nCTkU6$O][W8AXU?D_mjx_b!!czo/)KRr`oG{8+1/u!zN,4
)9l?s]Ed8H&FQyLUCah+EB|#3j~D>*+Hth,Xl1>n~EKj<:{Ip?}L|H:DfdUsA<R]wk[&t.Ae#cMTY1G_!AXC7oeu?G.jks&&mZA#&]d|{CiZ7FT7D#G5V*/m_+#h{upv?n0+$!4QLc>+xDnmJK)3yr
N~n'WFGNZldbsJ(r;s6|o(2lh[TG{]1do*G4[X4wAe(&|}XteCO6Y6`+Z7=o2khu`>&!*a4bSX>V3vg'c({'f~>6pfq*GOZ<wF*B}}Puwx14p~x]gC1'>u:&MdUKz]GJNz*ZB2L/gA(UZrlE:dsZ=q
T84R!jGIqFSjz)V|~MbZtX.H5oz14<#!r3?G[%wiWMpTj24sF8%W19;`}hqgQWM6&%T4oUPsi/+(W]DvH`A;i%vEm=Unc{_N?iQ,itD&yKBxU(&GAxxaX!j|&b0XT2mXk{h4ci9*{i.C>d+,kp<*4R
,hM4H{RiNn}Yr%)Dq}u}bk{*8A)v]N]$AwN5eGZo0#rR6oJGy%NiaA&E6+NJROv'mBb{9W*P;HcdwF~o,=qO!&ePNnGWn?XuljnTXB*byLVM:qM!6yK==x't0s=Xu'W&hiF!3ti?~im_W8])m|AqWc
Bo_G|yJv_nUjO?kI5!S(sEuxSsS$3f(=6^zI#I}gg(|r}VXxi/d#!!}bOu/{thg6_e:9ytc!_w!i:7V&(4`ki)o+fO1I/A~U~g)ZR*2p=Uv<IUayu9N%x':V8bvM04{9xtix$0kM2d.k;aXJ=;Pb}~
#d4;b3Y?G~N7S{sX^Yk1;rBc^'S_(j+K$>(twG+kvPu!J|~>|3AY*(K%zg3V4G,g%}|`BQaMY*,_zD]K>gCz8o]N0+Q!cab<orAN|IqV~Qw$tI}wOjLT[eiUtP=9U</M/s5$:I6.w,qSYT,}vXDwHj
C~+j#GihOL,;*w>nZAXc<U}Wap3f2B'`2EVsQnLZD0X:(;wIFs3m*9#zr|I_T%`>vaD8uqKcEK]auJXPfzVpcr]q}gUn{HM(:[,7T+_X(i*m%NivNgO*Jpt3.bllE#x6>s=[b#+b*|HYM<&/C0EXj(
ctEpVs|Uwr1sWB&~^g<+foakSH;+C>Q2gL}ByvJxJHy#rQ%eRXD!^z?.ykI{`rMW[C'Ggn.0MR33_$v9f6`>m^Aw'TOrgq{2|jY9P9O|]9drXS~4w`Gb>*sFT%rP(i]WAqx.abgTkn<{Fw2=(aKy*P
E69pV]G.l?;*p<5%{5dIvhgYU}Bsoy&N_^9msDX$egorZ]ga=a]0L7%+R,n{V}T&:Wvm|[oU.$u'ZUXsXqt1fgkZLV#y:cQaiumXyeLF``G%=S^FRu]uV[.effZ5LTz.HHZovOCQ(3Q:]F)J[&n$c(
]}V3TzjqJ7OjTv3TkC%n8R[UkZ?_KW^(]APyjCo<M3_/N&W<`pF[|QyS6~WC*qY=oT;;su.89/`&*G(cbNXoKMhr4W>HyZ.Qvxx&/MANSL|P};9xV}MZ8sTj}A_N18;k+cmwB+bcCb|}'PqXY#H[#;
?[.!>I}{4QB:~{l&P>G*i)tRzRo:`<%<%eu]}u~&u.eJHDW7uJ&*]E[{}fa|yz4Qtk,0I3^$~gR7A:~8Rr<Kd6?}w:O<2Qmg|*b>XZECN0.hT<hED6z6BhFBi`vGIcGi);NUcNy9uuI5T?Bhiea/lV
M&(u'p|rU!I9V[7VDqboD4]EOC'L|}Hl&;P601([$N{|=TeSe]H8ut^|`'`|Oe1D,|Lp2D4&^R4&Pf=,ZkR}8OV+:`33RnMXTrGDLK=+'|]r^Fk:Dg)!b3(#~/tlVnwOz(4:[)[.[R#p;$!td5eDwR
X7ehp`x^20/e=VF4,md)'&xr1~kTT5>HKcoIAqgWhZb(zgLXpZ0|k7;{8mXi.vQ]Gd.LItBVW'exIdEj5`~o(2?rURl?kB2sAEv?TS:,}y(PHbe<h>6doASUv`}_bMp]WgwpbeOr~o9,;G<'!y'X_1
+t;4ApbwM`Aq)ifo]G*:01$fnLW{*s)<:H2eLNAY+nBD[_eGkP?m.o%m]d6idC*Q^A,c3xW4^y'gkls;0GiSz:N%U&dERIZ5'241dyMwq=8e>o0a9+h:DFD6>AQv!yYD.k(_j%t_cNDdIh#UY&D;bH
A[?6joV6G),|1MX}f*<{7YZNl/a?H8B^k(SkM=wSzk5qey$QW0DbzIOZ7uH8Ad<q:Sr}Z&{rh$$Vty)bH8f}sj|7<k)H!qj7zBr|#Bd_M!u9dY/X8M23UIJd[Oi~Bb}T>wz2!yacSb6*nowD;(W&q`
?V1.=Zvy(5/2QQ$6/6Jo:q_bne<sLj3T+}4Q]FLq/N^PV~*TAu;N#Yl6kwMZ,fn`>Kd8`h&[B]Yw><%nPSXpBCRUz/eakSIgCwT2w?~a3]E#p_i.A_z=W1TFmy!(Uit~_o/q}3Q9l7N1x]ubk4nn>a
<9]a|.PH/n]4`,}*[]R%EEx>jr0ocEUxpokx>$aZuRE.VB5V#/IPpw2n^O1Uz:ybT[l0)c}CBRYP=x:;EON'tFP#$PO&=,eVtbVL/_]tnODTNhKFoJn!Q#GToS:nbd*67VLaRHco60}_Y&u|cBL9cQ
?z5]%MD{D$C~eSNJUQTPqIxpdL2$u7>(t*H=N$fT,qE%$VLTP<;>D>,)fqJq.%Ih6E$pla;*PGRyI~6.8?ZT62Xt0SApxSL<3#kb_Y,cbZ8),}R>g}Dytk8|d}0N+QUcWTe_4NDL+_Z/ko8r822<=c
sqyW}a[<4HA;gl:[;|2F%X#b7cZM$ev2Dtt7{v_]TOg%:wexu?8q,BwHy?cWEs4Tmgy`'(']]V^AL`tpzk2s6K3^!0?o}Q^uo*60x:w,7;&TiPg02f1E#[hS:P]!}bWY+D.da*g$f4A<4K?`,5^3?2
EZsC~P1R+E4>oVx#i}h/gCB07%f^b6+]327^ZS4QO>xVf}>n_NhT*;TP+Ga[rvXf+VPbRTnUhN9IgOinFF;00z3!l4`PphVzhb&`bali>rykRpC|:g,0cP]?QvE|$b'A1[bckVLv0y$WJgDW1rcM=[
b9BaeMn<TZm;^;CQ?Sywaf(!w4DjFhyR#wP=s|oX{2yb{*n+Uvd7.Sh8M&Y<n~O9!;+=+7'nV<1TZsgvE145:5.e&w%/KF*R(DEE3fQ+Q10:*+Y`cp:]k,T65*M+R;^0'}ME<MF)Z+X7^1;>S?dE|+
*{taTWdO}D'IraIlfCA,iE;EbS|p}5Xe~Ccd])LsQi30Rq;aoxxsQ[zls>{8?v:z5(7aPK7Q*U2|OCG'DGU6uKaaPU=3[u</upG/B}eBYH'{F!e}XUhW=1i[9+y&LWdv}[4'2lxP=oo|P~:UIx#pf%
GA,Gw8M56xheuZRQikg/qSh*C1,jagg=bT_M)/2J`w7PX,q$2A:&DX?)pwZB<:1K/8:f?PhKc0br6},*Po^hYCs;gK{lx&)l9R{x^y5.MUqi*N~>xJ<%lIqC7=eNA,#Dc+z,~64Rcs:C]7JfwBUH<P
'tL/dW$+V3)|=2^+ajl,rRSbDyDvuow;l*g)V1=(oCiGhIZ*>B}#z>8$`#?{7kv%pO%%Q/JO5XedlvZZDmzCQma0Q70aU;sRL5C.jxa$PQA`li$Y=JueB#2SQnmAN45Dza<F<B^?aqU/G0G]&Cl$j5
$I6n0BX<bT_/tht2G88qM:KB`/H&4$aQs,gCK>9Zb,6x9yh&8!2goIFRyh%)J_Je&qFv)Q.RinQxw'ES0{O)c:(Mx^:hat};P.vl81fzV,`vd&<b8/+n${gYO);F4%E1X.C9sFQAhRj_Pxj.zy&%vu
Bg.7K0};YBV~sg0%zcX6<Ba5EZju#N{0a3mGUyxmQvSI<vY:%+It,UvJUchy0[<~>PmS|)5F&Ibl+>af.OHR;bK<b0tV%=B(YG!%e*ZaEIk|0j$|<NZb5I,zuyE*4Xt>sgLfp078vOTzfg6y/JMspa
7zrQ*%Vp.sjmM`O;PGW6%dv8.vG06}:lqtwKq<FJJLrWgC)<]`%fhae5<W!HA~^eWl{JvYJ3Dgf)4]cZZFgeW`I4ohufThZe.wP0QoY+5>,}{2SQ;^r!IsJr&0KUOP=7C,:bZgTrhyR#Cc_NfhknzS
kCH^S)P;8F]}D}xyZr'Ol^diW+VxSrz?R0.8U),gC9aaxAf5}gVu)oks`7AwnWG's~#vFK;[xLYv4#/+~Z~<q=o,vfS]umkHRnE+UJm*hvEbbtG1bre4W4S(kp76.n=uHOYFo0Q~q^>sDfqGkTS5j'
qr0*${~;XZ1TByj&T<.]5duRpMHZi5V?XD>Y(Jlka/QXpF(3uSS^QV&>Drmbh<Q]_nua#W)BN%t&MV$Pe#};d<i77NwAM/7#)#S7Og)?9Te)/X*c7qWa8JRBeWJ2vr{}<])8(.4<1}9}GZUzW26Gy&
eX%}M_/D[<E48U>kt&;mZv*6[%Cr?LwfbX/L3W+:k`BSUSa/[2L~r6VY$R[$.<:~h,(;7tB_g6d_V2SJ=Q'jcZZZ(2(;n#=F!)d~I/9(r`X:q3:'pT#=fUQk)X}t~110WE!MDT)v^W*Izo<6WRRg_R
~aam6K>Ycc#]gQ(72|$yyOLigfdV.{$uu|{eTpH94A1PwZ=LT(kA)JUZ6T1L3Q^|:}Bdo~4Yd)x]`Dkk&<`.co5pMG&#:lO*(d+=,3;upPuq4?dhAyi3x4+zzq>YLTpl48ia6;4g_e6~V9K]rvxM8d
YiGOa*X&[_h(Kdz<+i?]D}3^:2xt8PN#;#a/I[:4Ru*DM)'i|Wqhp#d]eblL6}7TsX=O)cQuHv23;4GtK]$yiqq=,P8+$&ZoqUMA=#g[FvS?alssEM!kHo/hVFV}*fW0M*=I:KO$wx*xFgQ_i}>D_I
.RqymVf,<9E&ttbD^DUk'6N,qZ(=Odai<v7Jag7H6cHZ$/(ga4.<y0i{oV>HSW{%60/LPFR:5=fM4K26Q~^I=*8i2v4hqteCJG&Mkkl$F%pWwVg3VnSp4)'.Y4~^ekI!yf_A|DCyMd)_%T=',qbLyF
e],b]<]/Sh]OWH('6MO58#fW6o3QJe:LMpTzKc]cDV>|!l7fL'st]u}}.{ZBM}s?av?Rnvc*tY_iAKw9<pW97V,0P+t.6BnmkUrpZn']6N|}oWKmMJsQ1?_I%G2=8S.teZG3f)SihBKmA_D^))rc>E
x5dN%zT7;nk#plSrBp'VEx,Y;K*_6#C1EoEu*{|G)kj[0Q{;sR+7ssb$$lM_?9NDC`xKPBMT)eNcikiDZEn/H`E(x=I#ik&xX%l)(V]k$:L?;'%8t[vhnw{`F/wK3JLwu/qxh[qT5<W)G.~a=%{d%Q
d*b0KUWDdk8%(5DEd<Zq<Fk4m6c+DVk_NQj2eGSI3_0mdNb2v+r<>1Fo.T`}KD]5qDbY4_0[:LS8|cg785q5hc5iK!;t7w]iZJmyPU]%[SplSf_l0:p5`(yqZRygIj=69~dT`uu<+QprPZ)9TqthBT
Ctsw4)bD=92|6Zwlq.E(N{L)c?88D%ry+$}uE3(xxgEna(WF>p6%>WUcVY+QF,u;7jm0r;KPlZ'tls?:Esjc=paju~2Rt2A$y2vAUMY%WHr4y+!7.d<7,{l+Xr9_=&wg;J.^%z7wd#&b=4Y2D&,}mK
e^wMo;hM9W&BW>r5>Z/H+A^/|^jj4^qV_wzoYub4*d0GQ4lE,Iu..7;>&0(BA3hCrKb#Mbq%AG/.2x=~bY|7}Q4yiFxm)`ao>]MZef)Yy5]I/?uF[n[tKLy~uhQAfn<R[Df'AZxUjCxx|K%+F9KMdv
<ij`8pO=Kp?,46|H3j|N%g:{&~~g.FZx$(!rC%WcFU>J8#K*tViO+29[L:OQ;8`]^c0f}b+ucN13a0R:iIO[,58G%on|YrVbJqp?dGlgBmFTeib4kF/GmL4*rc{<N8vOlN)GJD+ekkrtlB*GGFbNxJ
;(TfbT]&xl03%t$uyj^xf*1i'({vt?T=Fv$i{AWkl{ak*|5NS$`jqD9HG%Ms7eIE<mTnDLr+HR+6Zy?/W5]t{AOR3.exb07){O9v#wHg$/qN%OT)p4a5;ds*dG/c#)6LTpk(yschF<$L^1P$itU[A!
Yrfc4x<?J'jx6a/|HwLgXae<zFS':PnTsTyRmQA}JB(cJDPsR&0U;|+Hu(gUB]Z5f]c$YtHU=3bjN#ct7lv:z/#XS%&72hoX?)*5c[VwC1$#c,QaDju_^%b,c'T+(DG54w'37ShBl&OF}~}QV(IUol
ePdZZ<oGzmmw>jOE'WcOPWz5e2$x>WR`]}w?H9v|(KK_zc<(Fy`ZOE`*k3$ZR$[iJAu0jzExK$G3Gx$0}/C,&7wl{3vxA'.:5w`1{7?=,JPbM5J$=R1uHSbIOz;pqd?{kV+&7cCkOQr|)yG8dktr*#
>*fk/OUB>Q=g:Y{JxL=S9cIrGxn'd,.QRj`gXq^sh3W5?P}jF]N,I7J:'He_*(ha?I+YA:|:3=}05{AQysM)?<dHhAMU1H.A#kQew`PAWuq]na+)p,0pZ'Lg9FByMo3|6,XF*fFZCDq(0Hr./qNBo'
m56uP|p_RUmM~FL&kPk}l*hCimXntzHzf=wPr?02Pi*fr>y},lg{|OuD'p[P6'ZLO%b*6N|&>k|dQ%#VZTJ2RFmW.FB3cH*5IyE4l!=CRt<r7`<C'Otk<,2CyfS)L`<N`>{$NQa(<,I=;z=7N0dm}^
d!R6$';#db'q4D2*L~*Mnpg!4?g#O_ZVO[UkS#OB>lr8p2(#6LFJFRT$o`=.EuwS?]R?9kivV1FIY]xeu{y#gn0B%C~(#OyoV+#KX>L}^Vm{#Y3B'.v}0BP8>):TU.9;fiU}/4}a_ln;VX*<a]S6'D
Bm&?iZmzQ5^|a{~VGEeoYxxn|^{O5#[n6Ks)E/FnXw>]}4qqeS}#_e)H|siuf:6~ng~i&3#e2<AF:W521uQb/2DwEp7s0`$x!|?ptxDiZN*{?JC,MNOl{|ik}zUa]u5P^B5Zg.m]R}7d)YvY,Zl4;{
vR/b(DG$ghp,9iNiVG^ZS+Pu[p)Vm3eUPbg8G<Jc|{Flv!Z.yBeq8cxz7ZZ|5xiJ2%*M^aFyl;DY&g/Ge{j8lpEIdx5.7qxmJB3~quORL}Z>{H:]YZHy(xE;O*nNRTy74'ecc}E^J3m$kT_a12yOc}
NABg6+.3~Pc_UiCB75,K,o=*5Ef^J`T}FzTI_v$_O,r+E!&~M%3Hi,TOEx[pUi?;5uq~ln]$my~{H|}98e{]WbSvS|gM(BR9)nIr>*4&hf)T_:tcu^%!AXyYc{0QHBe&Ilb1Cw+W^~4q+65&yB<t%h
ML1:o,|4U5?4z<I.:sf0mexx:sq$8L4$),4,:Z,0G~<^dr3*P`:yryeHe*^h7W_#>2t'8Z_eJ={(%7KK8<~s`T+7/^%o]WZ<[#SM,Ue2!A}]~IC.5qlBefI4qn}b<s8/3J5lWIC)1XxUIJQkW.r;lU
{SM3xBge#jdpxK~[3Yt6Z*deLl#J=8RIGn.nbCPYyel4}gPD3+*E[/ko02[MXDKk,r5*cp4PyUfJhJ}Z.%m3ks*rd=1)PVWb%2f')qs;w'wBJm$1xdX%BA34|]h#G=4,YUUy?~W([b$vga:t~;vsa4
NaeAdb.2%]#*)OuIkg#YfMfQtl9hut(FB}`Malb7IkKqT+]Uk([0&t#`v,Wl=7|Z)T`/y:DqSM}WkBU?^~3Z#blyKM^ZV'):0Rf018RF`qJj1k{<qF&)!_UfA~&=f+SBTbe7J#H5{Ka8rxAPe4)'F]
':UEHc#A97i80vDICJ)Xgyvx'6ZuDs>OQA:aUaFkVX/&fO+X;&2_Oras9!HZAOhP%{Zon#NxtAM{<Uw:d<dcPq1lb3s[d}[ENYG92($^z~2SH.~qRCL=>(~$wNsq_bK9nu=L4~qx'.s%wjLP7munDp
f!x5NzMx6p>Unt&3.ET1Jd*dfU9O/<*$&TSG/&Q2yqoEp~N:fGbd/;8nB!P|t$Hs07]#LhFe/fWXIA`w)%.~<wJ{y/^F_,:eLy>jQ?]:*a*{xXP0H7D>D=|/)^iLOWrkx?}.'vb9T}X:V9[>~`>xA&
0g:M}$v^b`Tbe{iyE>Vf`.#_7BSfy$IEyB&lK.lPlG~l}D.<37[DnlJ!v(,tz*v_c';5Mv>kw36r'vB4XZh,<<y+!B^x21l4alVMy4CaS#.lTbB^m+U_^uu=o=;1vP2ylb8uh%LX.xHW5o?.d268Q,
/jD!#w]>T5#^v|(|C?;{]vn(|(sN,^33u4J.*}!p2gzR:#n_Qr<jd|gr`6r}_ao33EKeon3I]dEqqV1YJ:#ci{!v|4*i;j):LsMRa2)F5mB{o)!fNftFnZ6HMKRS!yI4Tg:uYv[2na`kVICmtQtBAa
=|>T;XC%%YH)5lgC,FViHGvxf>^4.L0y(Rjm~38f{I#hZD4S:6B3+Q:YfK<t.EQtpx1$(y,nUzJ0e.sY/>2pOUTp!uv%:oVTNtGrg>tV5sK.%K7Kl{{E8&Vrs^nj%>N'u2}I,~d5IrsNPiLb{IFu,N
hqu3.%B(W}V]|_;uL!;gty'^]R]&bV&hx(s0]zz;LY/ER9Ab}W}v%:8}Ri:T;ny)S(%*OD:3{>4uqEXaiIu4D^yy6PB:CNzU2e5G9nBR=(`H*]VSFNOZO)`iaWSR[PNd0Gf<n;c`Zyism(j<~9'hWK
$2V_/faYyxvEK'~/:%A(6nPscX1NDP|~,WrTg]$Hfc3MZiRG$lWCmv0)7^j8O7~zH?{?63/W0m.<P8>6oZX6Vc*Np~pPWVM9:j]Qg=fZpd:er37QS:}p[9q!~[jx;3Q'vy$yPy)OvGp.,,?:{S,AT;
U8/^!8bOyn>:AwF7sUwC(fdnP*4XWMPH9?qQvQ<KC&CilrNou'ocHEu;NMy0.97N~LjE5P8A28c;uB:8z?d7~8;[3/WWMfbZrE<Fy4cVm>Nxp3)d;sc$XPK<z^*O:Q?N?`xahsauqL7W)HE(yDlnd#
1_K.P?%q4dL;+LR.._?2u(Z*qZ<HZ0g8rP>CJ#e../2)v3HMS6W>Yb}(V+ncJ1`jc;(_5sBEM;#],66L;'V1ktj,<IC}ek6xt=BymnBK>c6+|FDq6W&H?,,1,vVrC]R+k{.|?:kx%O]>,B&/anoriI
xb5kMHa+xywG[ja`35`Q21T[8Krq1;1*8fUD?hwSpo{*^G9&'l6uYwXedd]o/t`U8oW&ji[SSa.$9[NZGH_;5EgMUGFirfN'm6&Oa[pvr!w]ajs.+I'<):Sthz$67vX|<o;sE.TjoH/gxUeA3}Nwub
^WKCRK[NDE>7SkDsr67~R4.[i1LMJAR!qj;Q1P9yYdG1)4/=NSM~ng!|,b0i39hZg7l6l)l>5>E/Uw=Y[5~J&2twAyAS(6>FlSDlQ]Mbi%selnDn,i43*v+I>Dl%?pv)3v|h(u6mjW[eMQGsmr(;cT
HyAa:<A]*t0F|v^1c(37:Mt!xPH1El[;_.&At4iw*WGVs5:qV'leq0l|n9s+c+c6EM]1skn_+wn?TKl']nw~O+<1w%TozWi'0*TK&C0eE~q/KckMB_/WO*Q)|ECU*NdPS+FVQ*3XfN_y#EEtAud^XM
<flLpIkdQUC<=x6{EsM?s>/U%elrh[1I_i!R!Ym,):N9Rs.+X}k.YRKC_;.kt/&RBVVOA8#6fw}ggl0=W580+fof|,}BZc,:9'rMsSNiNJRvlx&mj#z}fI~L#F_(~d#>&_c6esgs/$6X>L$3LQc('B
Ob}l)NQ3=(`jQur7c}ZXW~{M[%:(kU_{%Cg>als)X3`+JhLbdLDRm%eE*%gb/C0`rOz:fLHe/%&4(pN3F/h)rwd~uKiN1V[oa:Nl<6u+&.=g#XtQ=[s)|a{16T7<Q%.'K;fEnjpF:m/}j{'?Lb6w]l
(=nj&;fLb8Ph{j~NTf%^|SL<}<%3NA97ke(plh0{$:hWK9VT4}%g~EsCX9C(t_fXYs(WLX*nu9MDU?)M(C)_yD?5BxoLPE.CY|Y<_BB1LXP/T5j9R1Ij`EvXM|vY)Lk+k%*i+PGMq2(G2%UGrPjby<
!n2&&ZMMu}T;&#.Dk~0|^J2]A%2,}teY5,}7xYqz|{a[7c.{|rvFhir<DhA[`[Z=kc[&q`=#|kgrDYijSE}t,x)u7HpDOz*<`tR3xq+~Ta=~r,4`?>Zj85,8~4'UI+UGsCerS*Yxk=5U`IrJB<Pp+A
d}.OM'qYi[/J{+jJJ0p}`?Wbw8t^gh&F<M&?IBd$w^g<p[7..<jHBIT85~ws.JR_aa.y7a=p:$RHmzp/{Hx~pbS6=^]#MSBy&I#j;sdN5]M$?xw$/d[74GJ+!H'giiUW~vEPjZmNbPcJ6DWb&Za9rB
MJ.3ew84m/DBkE%]iEDql=CPF(EOH!GTzg_r8(NVhZ0.jyoXC;,8H;R?J^|`SF{{F[a_U~Ez6q/xH1,GJe25rNISVkxD)*(fM`QMXRNWi{,qR`{CsH=eo%$O4})]ks2v&0ln(e=8M%bWyW`LTK)vs(
j:[CHu4c,LDg2WCEusDQ%mUCSj]3*`#P`9/!~UUvM8v_HHM=nG4P.Mubcw*mv2DUN<k~Orb!I5#?eUr|}Z:4~nQ=3LJUQET7bFnlSdf$Sw+gTN<w!BjmKF{|58*viI6<0IZz9A>YRz({8K=Medf^S|
Z6N!yP4|*Z,W+I:devF,}a:g#}6};!J%KBlnbwP`:E0H=By/N%C4$qh4zk,`WaZ'9xVqL[|eo1,Y&FAq5%Sew:uY?)7]`lAjHCm89'aDn#SDq%~N>Y/G.P7Ai:Xv.U5o3;k4o,e&N<)$}m;V+3o4{I
e8k}YQ1'v$&BHDX0!4[C[h=AG_*9:._#=HJ*!,45DOG{}c2x=[[M>~dyapO_cC>lg_n`d}OD1/'Q>Ho|*YB,n5fah!^>u%xFeoG+e2np&s^nY3iQqx#uD!ge`g3J))mxIu~[J4Ym8ay}0_p&~NZ^0h
#etaRBVqtPO>Ze~,,xO4Iv|^f8u6(gO}k|tdOuC^EJb2E>/nyOf%[3qUAn=j~5Kp+CCGQ4C6*7}}Em9p]yE/kTx}p3YQ)WnWd9u0SU<hO6VN<4q<H8O'2M5{:0EG(!=JP*){|[CY/4]XDUp.J7O7sZ
|`07wyY&+#*+^Rr}v8K#)WE.|ex>XAr~tpT){J,:Z8;D6nvdT{H9ORsP^NW2zu;*}rPG08ByC~jMJC{~+s}Tbk.mZQpbYvEZ*<FB]6OMHe|IG5FWdG~xy`)k<86<d)2*tMuBWIdU>nrwZWbgbW.gPz
>`{[%QaLT^>&i2OhpZ&sW[SshSaJ4mN!*9eB2{*`EHNdDhS]|{FNpS()!e%pwB,N]OQ;NLn*bHE;|yz$%<{]5>z}jY0#=S[Zvm&KS57u'K*Ex<uB*}swn?yciT'7Z~xIMQbm]YFS9h)Pe/BjYXX_*9
6[OM8Vs7l>o|1lK++#gxI2yl{4]'TGFBgsjNF>~~`_]&I]~wYP+x7#:[?q:LU8f.:da`;zf6QgZWX:KcXJQ&+|]KW!{?Hngy8x/w#|`=|N*!]&Lba5riHP.,MrFGsP$1&vyCd^Y^$Uwf1[]ys&=$~g
9sd~zS_W^io!OZQEW_n^?SeeYJXlK&y]%F8%Cud}z&WsDQNDErIN}OfVdB(gsQY}%RbD08V&wi|*KLa6+]B?.%n!:}093C4H3V=Q#bpPg(V~c:,2sScI`_sHy3ow}0|H>Y{.om=KbFz~$qZqG2(#jx
boa#=Ju:EB56$=q'WoJu2YH9*503zr=%!XOY`aw~iSR|fBCv3zXRZ]lRR[2je`UN?c_zz*}W,QvFsxOxd,1G+b[km=#TDCJ1;xRGC~k~Hg$u_=A*DUg:>.fGmL1~Pm_Q<<,4I<B#y1}>7Jg/q$6'42
zQ<bV(LiVH0iP9h#kB|eT3:PCQUzX*NQUSj#,'+Ut}&%1Cfy>LK!dV7~>Ru^dp~2OdzYPCP+]7~jH|W{<]95<Eg$fu6bY(;=d38'EG1<v{eTdZLG.Fn);'n9x03,N5#Y&+W;&l}q22Z~cE|&|EO&.#
f574s[3?~93M~{z'H(Rql<_HUOhO?>0_?g=fWbK<xfVCyiIPk+nm7<,4N[3&$kWQ/BCGbA=<]~cq1nizqM0;mN5l^wOn#Q+J4YCb0i:x:+)p(i,KETbm[Fe09tdoAQCj!*n6Y#?rd;D(H.n:qCW0VL
0f7Fx1hY^;fisid<HGyOh)2E}v^KY)rt)I8&r9/kd<*sT6?|,d8e,:L2sLn$3S|Em*^,ouu1L1oH2)Sf2D/Zv[nKk{~&;L3`(^GX+UGg:|#[,]3jc*0ckIz/gnXA29T&Ou1[_|U'v&q0unP<0InIgf
ep!<,p[VJ<D=/C>2t^]cACu,dmtJ7Z*I#kn8>4+Q`E9BW4crvpvEG<_nO#{eF0G*/b0]:N*D>HrJK9Q=`lh'cJS,8ZiXf;j#3+]Vau1s^4ct6}1OPbRWpTZFxsHQ`h(^rCv}dzq<EG**p8^d6(,QG}
|/>edxJ)Cy~pBM]j%O_|qvintvzSmLb+qc6)Vs~1AO'I<.SyUd&>!hLb8LH~R;{MO!zo)dT({2Fb<IBPcDIJ89V}SWLb)*=aqG5A'rf}l|y(q7)Q,%i!hgEDKOdW5&^A5nIcAEwubu+p3IyV5>}Hf$
q<4BuMX=ZCc3umz1{cyVOZ.ZlWAOK;T,~J;'U;I?^Koz?xcnmMq'L/k`+sr}9Jc]d2Ab0NMz/*JziplUnXjx.wJC*|egifx%yGN18IlZzA~}sC5Wbn$6{se,sN?3BrV?SQX:B])]{4d]dlwt%,Q92d
ecg2Kh>1>Ns;qKE&s_A)m+g0xa|ZT]=;Pa,.k`!r{t*xXIY=5;8r%ovA,iahre0n8w[h~P$r!=A3B/0YC~#{y4}tB.XJ):hncAJe77c2ERv<I7jqL~#1aKZ<a$;l6{HCR/>lwvFcFm6vjW7m4Ej[Xd
TP+Xixl7d|j,Z!;jWj'GG$UebrN)YIH8;HzgK$9za~gtynus}!=yC2JO~kLqB#u*U;b$6N_$kMHbkT'|*lz2+LV.dV{Jb$m5Tq>!yqDSb12qc{~WD7y*55Cln:`/3f?raY4>I%'8c=,c4V3JIDZ[vh
!aoR7`Px%!/5jVtr=gMG4Kreq'+AK4g_>'XbgGZ0yHh'6uZ<~e[WKtZ|#Z^0161Y`2*3`uzwXm6D]9PQt#9>:>.z?5x_pl3Sp8*){,0Yng30vAOVpGeXJz++J/C$|WyP(%;/(iRM~eBHVn~s$'BGn6
g}VTFX='6]*G8!ug4^$W:l/M5*Wl4Ge7q**nOB!ZH=S0ddI2!s&]3QR^6.ZQFy_7|YM,)U/lhu!%=jv}v=p9%T0SJTUFnTbTSE[WQD^+8{:umyYk`X;y>M;EF?a1'rc~!sn;f95m8~({4wXv#1rPxS
O]o+|Mb.2R}35K9C{5:(47S3YayaC~J#:dE?W[W'v#Y]QO=6pJH.CB3[J2S0aOpBvU.vL5!KZ]KS#8jLeVOG&3{U>!dyvb2vq;##!TDuFhFVz4q2yRm8Pn}L_/o;4U9UJQ}?BGBQ.;_>KOsXaj!4O{
R[mt,AprS::<.3QCe;*peoFw,jZCu]#!t30iicU,[^3Y/Qm+oz)=PX8]C=^oqgeXHfa?^9Jk;`>GiQ<O%a2)?<,JI~B?Rn:)eXRmRKmQbL~&j*dxTSVHg}x4wOxk&~Bq!!!&$)aipW^`^FbxZu%bvb
XRkC{;W7%bMIcmW/cmi1[iy|8V`J}+*]uJw3Brt{.th*?'i&YBQn$xVDc.&>?=^#Ddf^Pf%QyaYDN_W(K%E12S6FRu'Y]Dcz,o(OWC[3U4xPJ<IDR`2XG44h(K}D|w9Z%fQ868=4GjmO,xUMdy`vAu
yn<:%G6$%m5&hA/.2lVgDT5I3I9=D{usrm<NIh,GFmHXKv8MG^YBFHW,8nE!A:_(<s676}FR~a+{V'j>ro=q:Si_:u<2w!+?:MT!*ip(bHgbEOZ*BPt(QvHsA|*M.Ih0!Es?tG`V|w)u_>S263DL30
.IIjri2<7'?SZzr_v$dQoq4m<b26*<&$`J0?.vO~G{bhAa!Bh+l.s;>`O7D[*iZHk|V~H?XmzbDkV3Bp*$?rbOub^/h|^N~l%ICZU<ku=&Utm4_=W_<*v}j_WvZ{F_fcjTgAK<DGT8ck~Ke=j%#,$a
Ze'QzF;[/X[ghHrvnfEcxGCMCM>8*b1:O>0UC'dWQm,GPr4!66f)cIS!|iQ`;v%ZaTsRtis*D::$&2?sUjoH^U?(9IV5r^s,K?`b=44_F;xbT{SC'+5,_6=,M9OiX8*h'I'>*sEJG.:0kB~7]*`>|8
KWac4s%g9`+$T[XG/r1G#Af+}IW[?|w}p5{RFTpoGVE6G{~]{2?Zm'Y/nq%{Ec,AwWn&ar%x?pMcXc?JwDcQ^LJR|1`'8K*;y(_M]lpbIssD'Z8H*xK|4PL4MQ(v(78JNQjL1]4DACq?unUNh4k|0!
Z;Bl}QOV?A,!Y(;0ZkW^LRH>:H~[qJMAodocIfq./9,^HG!h*F:o$I{ga.8QifH3c0,(Cjhrj_:=UwoTG|P3AO(~`(p~Z;A`t[0^.N9Fk/aDmnyNJ9ShMzfx)ooy#K6`mYTMAl+b{6~BLR5/,)Mrs?
xGCU;`Hx2fRypRMsJ%>V)%Tr.D/Z.W}~oL=4?w`3])G4D+sXmEm~X^YiP$=yRHl{=5Fs&|,_?6FiSC>;GhaRhSC~FXDh^IVBTR%,Aa^nMcZJiq,*%b|4UdtEUpX}1ee^S^5*ekj?F^A*fP)fh(bjk?
1Wn>H(dfs{PkVVsS.`AZCF:n#N)V)~s(vfMC0mX8<`e]D],fEXeA[z~V9`4f2v!K>]E*hS'fb{Ccxkm[C?^'IRQVDOSw{F}[uZ}$=o|#[G^b8/K<!B;7I,vMB/sld]q6Z~KbgTHx8K%1#lPKGSB[,5
StHUB{OwR/h7DB8.X7g}wf!dIiP+0:]Bt7}>AQYht8C]zjH~?]5#Cl=ni]L[^6!h8=*c)&.8'oxf]y50{>~VdofijZ{MX/2|aHhFQowj^d<}&xYO^VWaFUg%D/i%C]{R94f$r%4$$lq_S[Pt`v[PQ|
2hu1R/5SMp$FfJx!sVUAIAW+H)].,.2l||Hk75T~lM!kjkD)%^fG[iEbv'Opj,/Zw[+1j*i7DOL9N3yTV3(TWiJLK;fG0T%8I~?gq=p#t8WnLPg3YEK_Jvxv{0zs[b;Lmt$Lm2y<{FaxZ!A7nZ#l9M
r(Qf;y]+Icfg.RZu+h[>ADE]H5e;E_'V0/:;xI/9)}5EedlferMq&tO'm8u$%ky)G1*vkl`$~rwLpIk2FM</8QrLt6~2hQJH3aL:FB]#()/*zO/UX#,}1g=9/N5H]j]ENLd}hAO:n5I#SG}qVDz9II
R(J'ubtvW}Bw&*3vU}9J'^0drM*oW*^82(6XXOnrDEsI5Wm%fqvL[8?WxPlaPCxoqU[.W`VO,m3T6RVVkha289=*Qt>#0uz`#q#/mLbjdq.Eq&mj*$|U4;BX(i'sr0F)3Qn;m|P9!5]Q:B)KZ<c.=w
u+B+Wi'xfg_[s3Lq>3w3+hx|fgMx^IA,L<oYe}#7m$=SH'u`Z?`1p'!_bWBKrLNcK_hW^^rAQywS!hUcldjs_g'n7}*SFLqk,PWt^;!kpif+65wVu85B%,?quf7aG7)O4.bHJS8|MOM8.[^7&gW0&)
zmGZ*U,{o,lcGq:HpCj2,uD/H1cOR`)2V#>nuL'QI0vWqEOL9yGuOow.l}fr&iJie!^Xv;[*8w0msy;<?YR,RH2sa,&tfkpRH$BOUqmpFzXXYA|Jk<%+!x:`Rg+G80U~k>07gT|Wjw?hmWaNQlPx5D
)2%vWxuJo&bpX1D+>C<P3ZtL*e^6i~kuTX2hlgBqD_Z)'$5Mie!rv_ir!'$P4qGV)LO/<jIAY&sTS8,C}I?z8TX}<2aqYQuYoIK&={&o;m0{Isw/#fyP.jGYHaBDGnG]z,)g%>l^PZ8k&;?tB[mpzg
4qkKi(eCxBr<{'b4E,.2R~&E6RU{sb>/Ng/vd84~Z~dK:^c3iY7fu(y0fITj3/S.4pJ^R<$|>,>8h(Qv+7y;F_'?bQijouEV%a'~^]0i#G0WMwzNGb!x9Oj$8F^eIOxqO(<XH,+a%!|Vg~I'b&PM)E
{Oe>?<%gO/$HKmZBM=a&z2Nuc'+GH<.D(E:Uw_H;;?(/bqp2_g~sT~T>DDj%VJd!%L11v8).1!ax!D>hX61Mw/X}KvKG}xRM)NlP%dDlCJ[d>tR_A6.:^]x*5%5D0')s^cKR8wkJkj^YO'p^l!C({R
h5~7MQ|p!q{*5U8M1]if}e/WJ|[i']MyB/DoW1D[O8*uBEkLNO)`KyF$;!o<),fVWw(tTS0~lU,mBm|6Oj*'RN,_}=]Oq?ja|Zbfw|k_^n}RQ!Hy'q>/[cdb1&id~3y?=%B`EcAzf5BydKl=(=`<W>
fL_7'42tx.WIB1NEj(X$mi+|m)}!>6zo$W*VwXACDScKh!hS'3:JT6QKhwqkq.5`4G=/B)I:A_ExqoHm'!hUc;_O_W*=9Qz6Q,L/dB$2ZPcwj)IsVS/x^4y?>EjsA_'S'0z5?5s<=Dqp`^N5;ZZ1$c
AAvL#LiR^1n})<QglaaQ=F8Xof*$w:.^k7U&}C$jr:#yIFcA0>`2]]_/uV;R#pNrap+NzPjCB[r&C$j>(RSj;$zd5*xy<WL{85iDyDy%A%<S2)#Uy_VeYpg{NM|^Zijlbr<aT|[ykOv/g18e#n$]5#
WXL9LUnfVjJ73#+AaqCJuD|8$N<IcZTuL}h1SbeI?Rd>+U6bM>KcYmq^!DsZ6cWXtz~2V(G^JYKNTf+#>B8p3fp6TV%4$HTuy%?1H`Y?XT$m+X/r0v7~(QH0R`9M4Yji]kd>H.K~YWV?YY8<UHO}bo
X!uhgLv)*n9Srhfdjw=22.X$4^(qS7`$>|C8C[9Mwg+5.Q%%*J+gI^3h+('oG6[B;hVf./%'oNYqPkJ+z^t>+2Ets3iYH8ixig3;(xCA#$3+GV%4a=~}hv%gIWZp^.5M7tEex}plleiYHWurJy6~m.
Om/4wX*yWkigmB+Z;p,|GL1Vf)/qvZ[vy8=MI|3*w{s/jPXOf6rmutN#`[<3i9vJv<uz$N<A}<*#n.`B.%:hX7bovz'Q?%e=*R'S7K=&`~(/]<zBf>X70wQp~h88^quv=w`7u{wPv]:N5$._6i;O]S
fM7QnCi*[=p#4J`F,<9gw2*+`^2za^HOWjy5bU`z#k>+H{i:j2tb=F%0y|sWm_dfDfJ.E&Ue{~nQ_q3~U<I'^BsJb}GWZ'7LDK4r5Nm37*DAcA*e7XATv_c:wnWr;DniI#pDv3+V6U/V/%HUELgZpZ
v5^.u=(|Um^1Bss/kmo]N#XmK6!^gXH:px`F`X);#98UE=A&>3s]O7?*49o}Y=6igi&}O3x~hd7A+4w#x9Wm{`:99[5PAA;J5Ku#[esRLJ0_pQK#L+oC+*R)<bP&e]e';r'x59:teX3D7rAP=$bXO6
|+Xog7)D[$.>Nh{a/]xjW(ryIrln2~&0uzy/_0*>!/;knn)A9]OOA[cbl|'(9J1=O3U*Qew:Vq__*JHGRKJfb,fVi5iIn90:6;RSuOdckcYa{kD}c)dg>Un]s}uGrJv4C?sCzk}rd:/q(yK/asibC^
6FAK}Wlqm[UOa+Stu6nHGK^?oq4U6;7a?iN)GZDSg8Tl>VBq;P{G'gBd~=DS_q1)I9tHF4R)8yJkfPcmW&p;T*0!b,+]_MBg(1mD^$y{)/Lv?V;.lrwSK1Egp:REIHI#tP7;Kg(DcoZQ7_[_NpUmli
PrYZaMpuN,]VCX4iLXq53{adu*osHDF2fphaPSyC2,~eaUHw[WG?]^RmvGRJ:0,Nan|OUt]3P.~r%g_A`zv(T`|eUo{kA1/kv>.xXK5S%k|tOzqH/%j5yb^lc}&v*$g/34^|RTCSyDUllzd59hOQL5
~XSe#X#G)kT}Bc[G8MEqd|[D210k2&^|gI*Rf]wd%<cr?7gW:2#q}$j&JT`G#(TAzW2/`><W_Y/<+FH%Hfy21P)s:e,)(koO0[8[_:[(}iWGt>ZuF_$0%Gum?it/B~D0sS`NC[4KPZ~uQ{46n85%9H
75FKp=L_RgJp^r7Q^a|dRJ~`uF>)TU_><}?/$?fY,,^_gE=wR(1rmOOj{EiqQ+r:RUsKiISsHq`5]lp2#db,n.=?E(5(;N%<G2S}?>6&r}f`0XDWC?ZbwovpDVJ'A.&qOPye9C4HLM#cNw!JxFi{|[
Ey9O(A,Y`tl(`dIijb.UN=>C1Z/BqUMA_>+jVvM#b'wm*MW)BhP~h)COD<g58a)'RCn6!%*kX^bK&vVa[5#LzQ?Ro#YyJNe!%0mOts5$dpLv]:K`_!X|a|]>.JkfL(FzF~ztnC8C>%:NKEzbneF{b_
m?iSW9)s{H/#!5vG}EU({LU?kG1Ai2}:ql6oHMZ(zKj_dW.D&l4MP[:5lB}.?mQAe|`k|&OwI'R#JmfKI:0rc+I}z(Zrmrq{6ut9<4Dlb_d)y[3oLCI']pF#ft`:P^0tJ6bzQ1JZ,T3N>2/~_qLh/:
#|q[BH0#.#bSUMKl'gH*sL|IuHX:|QVcDI(8`Q?hOY3[K|93pYC_cQAihaiS!NK8pw1Bg4hdH>CC+#8#BuGpv?;$d7k51WPF7U/kX$,9?w8{ryE38V8FL$$&u(?H.4<rcPKJZd|E/+ChubCeb:8P{)
4_IUD:Vm{$zN_RL7o_m>.&k9:21_WdUqM<LvM24dv5hrQc!~1!|C5rO)q(*U0|luaz34rc*FD;o{9L|e9eAx*4h}7g1ncvdYu[6K3J7V%*q[S0/7mEL#F.wEF[{yRru9?MlEC4`39K(eq|mw1>8GlM
%2!kRN[AH^J`oL^3ZFK;6Sdp%oVEDq3{0RwyqMa+rS[7$VE'A]x!jvs#}f'go}:fGHEPn<DKH[}<]48$FPgS'P:&L&YUx%k4mF`zm~S&Ybov<<A|'R8{iT6o|(HOW,DFB+MbW;4NFMDl?uYp})e2o?
ND]e6L1`3|M$Xsfeb.mK^$#;qlQ3Hm]Do$GCLLFx><Nak/xW<SK/}f0Rz8IJ(??67X<6{#M|T5qy;p[G$_*Mi(=$cBp1Q<V'<S:x)?u=C;YUbEj}'Cr{~w,o3$I2xIx~qU!D7;FhX9e0av`_'=3sK1
2%u2^GIY*h<)U~G/>$U.Xh3qXc?~0&6(*Jg8g218BkfHBp7}zpNczkls:e`VdtDofjdpPVAQtf[R^fVNOg$CmkCD%S!(VV8C=(TyY>Vas0H]qW$tk|Evb1Oo%T<NBZ'U&GbKP<:V5cGj5F&?3=AN;O
X6yt')vb5+Lra'!YBK=yxVax1%?idF?5$zz`3n8Sb<~v1!WqmZ{=Af`qZb]ui^mvIel/H4BI64&88%2r<C5GE%>}FuDCmUr*7Q1Hf%ANl6tJGDLC)u5_+`Jm2[nQ:|*2vJYf_XpFy+bTWI0Qe]Y~K;
U!GSJq.,oKNKkVa+X}|Ne[>2F[e6Z:q'j`Wh`b~bkl:kR6,|3d[mcDXrP1U{hXis?]~Yqk`}>r%3mGftA7um>Bt)|d>'irfJKg3HY=17~)Q#=bY<aso_t^{1y:~p>M:3QxggFkop~0,!ejja3Yc4w,
mO|jq&9D_A1*`]GaqQI`ytSBlJ>F1H.:Nii&Tvk2s,_q>!aYK6.fdvr0#&K7$Sk!.mgZvpshvo,q'dkv'E#;~j~+(]m[{H.x1=[EYtU+`P$IL[FeS2OqcZRYa/yW3_#]Ruzo$%s6mJeYQ}])LuORg+
D|A!^%_NmPG>u#F.eGhm.6'YIXt:Av:#;fLCHp9AV:</2D48ZQ4gd}*&dX4;73UuJbb)v/4t!e'Hgv:DvNU6xH~B{4!.hM=MBV^?hF67GN2KP{5?ODb<^<OXZz88nTVT$wk*Kan?_;f7$T4,$4(Q=t
m42krv#6dv9='aB*qgo7+BBdEta+2HZUUda~gGV6%dui`s+yi|S3ltkx+Q5hRGeZ8=o>7#m=]Mt)hbR2pe3wi]3~N5khbhy&&7WGIoix*s+Bk4^vd'2u.?'olI{DUJj#Jr]}}Z3*_q%u=3:Sh,d)>S
Qm4AhtF*mkdhm3PQ'<CC:yyZ+lz^&cljVCVh[$=EjOwNAmVRt62s]Uq6pPL|0|SfST,DX4>mhe#GNz<W'.EY$wUqD4A*y]F:7Uydru~zRd5'(}!]#sU?+=g4|eXW1kaHqnCT+*gkse_wi6#33kPp$:
osPpb&shaDLWdg!A*[dm*#1Ey*U8bL9yvK.*=5KeL^aJ%y;v`?E[AjDC=m7To8CQZ6IuAQ>UFte}]S3/*D1G+:})j^<<SRYxGj0bn3i*M.HK)VhM!XE82+I'`Z(JQK>mx|]UrJfpy|(#fb(hHz*Dzx
G,Ecbx,$P/xBzLm3ytiRb,5_7UW>2HOdUa+.GZ8{GTaaymj8<?chwS'#E2SsW9a2wtvp08bGV^snpw(7/hx^Xhp#f%QiL{CcTBM{_[|Uu=HKlE&${r~j='a!h.:qY3L+*GRtJNJDB%ARc&&e4<d3u`
8Dpb&MBiMMU)A(!3GiMwD,X_J`7AAUOH5QCOTJ;c]Y*Q~FlOo7`BiYe[c2$6x!NuhWt,/mi9jA/&^par<:DSB</[}bI?O<Gl9w}%FTY,GfifB/S*U<iO`OeLcNRN$[ciE]!c7U!J2IO`gEvPQq)RXI
b=+P8BIqM.BwI>f5YT;qRT:FZ<pI?^}[`m<~!n3p2B^)7+fFr#xbq,Va5wrJgR:ukVN~`LG'[9::}z9evHL>$WsHlA1Rekb/F5gv<X02XF_8[MbWeL<v)CsW>tRA89K2W3!jTeKH6[QcZP[1%C5s^B
T<v%>S)!*j7t|.sJ%|Qwz4X||K`T)dJ}M_$^($$_y$EJ[3B}hWv7t&CO'b.4$AG9)mQkq`3xS>pt_'y*z&pie?n%='x_7/Z6Z}|pC?)7{st'8i>r3)o=U8Qp!$uRH{~>)Y`2!EDE|G(cTK`5Yko}pU
~Bxr&E8g1Y9{{P.VT:D5V5ThcA!J'!~NVf&rQE6Be+[?9xUx*0=Gh&g[A;wZJ|PtcS:N1G:6gtGp.xz?+H/DXF'ffF9v(TItV?_V^r,r8W+.l2Wo{umpe?mn^v][7O4zlv8H*B`3y9D/(V5AkaJssK
a6#t)wgCcLtK1%'&333$~fR5AiNtaW=R)[eM*r:YN5Kc?{QpL+;`|8ItljBBDQU76YDEpi&th|?_1`,f.e7PpL?,42}u07}JwA/xC9Oy;1)wqQsey5#C4V,XuV.AMP~T25I,&(m2v>?B[mW<b`A2_y
D6^_6&a9V7Dode|&fmS<M'#6+XTt!/ZgR/`O~pvHR.k/IYt;fWQ,$%&78oh5&Fh26R4S?PD]V5<NF<'elI^d|pOB<CV2xX^7U&gp}OOHf'1[i~a(8?b,b]XAPhMrjN9dnprGBS!Mw#~RS<B.MLGf1i
K*;#Bhm*^Lj<2BkogvT#*EmOi|9B&Vl;C2k||$%Ns+)+VAMU)Pu&eEzkKyvEKGpj![Z8^>0;3bbRs,>Zo!`$fCQZ:,<E[1(PIMheg]a1}7gy$FQ<xO**m%70lb:b3dqX+g9(1E(p,zSdhf%P3$BybH
Xfc!9.!IPjUFN`36.?QEnPdX*>cHk?6<Yc6T4etH,TODp=YrA[JttfuYDRtuh/~b2!pf;~'g]VTXVFrO'S5D0^Bsbj^{G}s$d^j~HAL!yQL$9UsU<3,8tpzjP.OB+z/r,i]VlQS':N+Z2Ev9m.4~yk
)Q}<G]j(|%y]WAivCewO+S_?}6nIlIWgBY9>~PdmLaU{U|np3LW=hdxZN8'/oF&LC}+iWT}=[|*hf6q>YDY&,%UqN7_tz*?:k`)(>c#p+*/A4H;a?*]D9xP+u7T>_To=rO%_)78~+$6pD/HY[qjF&Z
h<8jyr|9QTF1C_y9QA*tV*k<9f#/r2fa*8bqS6{dyE}^OjI,E$##{AX5;8^2nFTT8+>vB%V1*ljiU{g/lUAAWTu%4BPPz}Wlv#CtFe[LJlf8DLg{Bj5B6UVN:D[{wl=AD?QXlPr+tY(%W^xe_Su2?s
GN*wF>|I2zjN;y[_:j,,:M`=*/<z9J.8iQnXF_r.UJ?$#L8QuXBuo:84w/9ZA#n!K`U;#<glZ8{bizo}I:6}Hm]!I9}y:71PO[f^LeR~3wrgTvEo|btDXbZ~Oa?2Szo^n'SwWo}(DW*Y!D2{pI>f*#
>t]C?[Q:,NtX;`R*kU{8D%JKW9h3dxu%_iE3CBFV#~cS}~vKm>.U5UaT4o&A?P+|#GzZu=]y$_1(TQ*0?oZDOiw4hWZOs8j:nmJQ6PwUpiL`YLQ=t`NLR([Lm;kt~8%!xAK5THhoc7$5<L508!?3*r
y[Ag[tWt`%ZJp5Z3JEipn&6F`urPN.X]4hTQyG{'~#zdMWW'_vrgak>y]8XUa(W4q+ps!<D~SPLUSSp?Gvlnm5.zKvFbmC}I%>!MqZ328tS;G1Dl]%<z=EVom{+=4`eur/SOO2SyBis}t?ggCe95,f
~507Z+qFU]VV.EDRSt8cm1X$PzS]v[NrHyOFpO/KrL[0ED+~%!#kjr$&bJ~U?E0CNOPU.8(o.!v(;_z{/>3$;>y2AXMiarFwSy{Cq6js>vY/6k:9=1{H#HgQzEFS&1zu_;8*_dsS8F;|M=iCwE>db=
$86c?a|yAckKQ5Tcp!%~n+&9[6&r}$l{=+m]Ws:HTSlSYm{P}~JM]W'e8Q}FdO!nQqAaWr1a7Nu0WSt%oj%,6,8#AA.YYPmpj0dcOu;G=Durtr1Q%?Y^x:6$EuPPut{x~V6k3lvK.QQ0dL*w8i/^CD
}'PRgBN[7wAiXS/)LlR3zYRYwSB}az=67nDOcN$7'!5hIX4hNp|y.iY<oN?1(2ba;.ZdT2OfTZV&v7LMeM^Y3M#zmqHtAuIYA4A9);m%x??T|l6fcTt;5jv0UPbsqhJV}ho2M/ALz4PCN*yr9v_MOV
x04Xa'vSOnBX!'HP}W^]KqV^1f2]NST?toAkYWKNz&praqe]Iz_8S},3;oOCvy46PPRh2wBR*C1n0marR`}|QZmDh,K=u6P#nUI*P=|U^(W9t94[d8X>v4$O:0G3zu483?d`x#Pxt*+IQ,?PpB9V~m
'cywW&6|nK4%!h#+uuC{i5X,#:D8fOk|v?1ctOKVIKh55ZnmZ3lAE^I%&QGX!kD7dUzRI[(]5)$sEA_ZTTP2_r2:fXk{A0nkZS0gN7wyxY[2A7]pm%dD}M.+cn4f${8QV]^QrLvu<fn,Oddf<d(csy
iSHcn`+RQR0Y{RuLXe$SCg<QxNP6wi;bMuj9z$qghsS<m2d/(g$Vd(Eg0i_iwVPN_58[~u1|EA:JK9qvXvGRVZ0>&h!t,i42CPIM#|TpEyLJp&,yMce{|z1~p1XRQNo|;S=0W*X0f7t#JK~>:3FNac
+cna.CUv;USl*YejC=Lc6y(&].P,enP}qfa}sr'SO`3CH]}KwvPqIBi%o/U]OY%arpT8go.R#hhF{iwhE`&Z+ylOh&Jw:.{jdc$N~f|[#ZGGMV.t1#dr}idJ,z55NP6+^,`p?>7lsy4?=J^H_PMmFt
a>7G[}5;*[6z1I5dwjSG`{bhY8(aN2YHj6&P}GrDot0;9T?;pn8rjf?)>#g&Ycq2,{*;h2<cvlz{$e9lIQEF?8(TCccxC1:'Xpq+g9^?=i{ZAWP&[$+2+BXHfA(aUfn=IQY:Cc~_qI9j5WvPG4$aT'
P/ZN>jJzopgpScGIuiT$l=QA%n_Mt<*g^U38BR%nw>srTB7|1uU[_t|F(<hu;vm5x;,W;39X$>owxB$NlzTIgbUk~JDc}fb!BnT+~Cr<po(rTOf!t!3eAMo$+(`YSxT~Z{f^6OdbBNBq#*$i#Ii?<T
#fYQ|71r6N[BxFy'yrVy^]V9)<K.$l<Vt3P(.)M?D2a3rzdsNmasff$fSkprPa])?^FDx.CSM]gX>kcv*ZB;U0~+UHy6QZ?K]&V[`jxoSsHhfwI,S{p=ZvZpR:{.W#7yfY'O=Z>E5:/WB{rh*lDWc`
>ePwiz:ST3S:>3aeE>Sl]jR{D9T4>W4V:rGP_za0MzS}tL/00o,0y~HN~5[|7f%Cw3=ECqo~#z+&JCnWn1a]ErY:>Jx~wg/^zWs=pi(gfv(tq](L&CF]THL[vb>`:+v6H*}Zt`cviW.._%FN]tavV|
Yt6z+FG!Nhk}~*v'8$+M4?:VgN8lvzj]s7aD#oCk8<AOwCm0La8$spvmz34$(k[%M9i|7a(yup$.h(c}M?9QFWM}~EHV9QWyMFi)e{CH9(7aO+w(7+RE[Mk8$IQK$uFLDs{:eOh{6G$nTBQ~bx?8yK
~PmOfQ5L$u'R={LNiUXrqA9m5v=`yG}C#=m%Cv~,$JLA!ZXy6,7,LGxguB92OuO#b1x`u7DCLi!h;V9/VMIs+HL~w?0$./I_/6[x;nJoEY)B1&KbFUXK~HvlM&h2ZUCpBDQb?*)mbD[m`ohqe!U,KJ
tx;S*|GH6RzQl7#7<qmt}fzAich{AWl;NOhek^yJCQ]u&nX+I>=e2zGU`5>(l{VAh`k{`kNAdO+hb{+xbf%,JlQ(V,R5dMH_+d5?;'XF^mg/!&#t`&)x9>zr.O(/$ksE>iP&kTFLVg5&)pC6+K)p+i
HG!t'`6oR^.tDKiR,G,S0O:Lt.&[[=d(FlvSlMo`C5mBW:{9dy}T=Tc33z`yFDW0VN#1jq1r1ho0%W[o.M0AytrfhJnG`I<cj^jozZeX^KDiStym[7MCoGKnle5!m#LPap3sArG<7x^Rv],*(>o#vy
c9qAnAgk]X.MgJej5gIfM.kAS!~lyex!Q3g3Bn76TBGZV,Q0NzWd3Vr;?M3If1Es!^yqDa[:S5UT]/zQ0h6km]~+hu*u)mt^<e&`eeXpbl}bNooMb}zuB3kioKP_vkKZn<6x7,<rf{U=%i<.COqVoa
}&w_FKpu|3#:Ex[]DkQ$+!cI/.`).=$:'>,.OJL3!s*046?UQFPZmEv}aXN&zR]*Xdv#pSq}v52N}uKI7+#5K<heg.+,>/}6Tr4nBv3RAjMguy'9(ZM1Dnaj%^2?L*35FxEa2R0*gg?J6G_)b'v]{+
vgXDzjCXwUZZb~2O/R;LQ'~5gs<!ztB<ah$AT'5Y{kb~o/QR2Q;'O8RZQL$n%hk(Ow4ALcuh+F7~z,gIQLP~8ly[3GWbqY2eLtW+nb1M(gV/1%i;CV9$<vkBTds~?vG(%CLcb5:~oL<}Zwx~Slss.|
1tc>PI=~%_;UkuUB)cLS;.wx6+8<`L7x'*29Og1d=6BaN]oMr06NCh?_m~9p>5<OZb9=4Z9{jdh,6jkS*Nynp=G}%Qmg~WN}2p0'3o}AVLXr%46d^cR/F~F=Ft!~GtGkI0qkMRr=w7tz8p&Gtm7EI)
6~vaYT'K[)*y8aIUv4'vqBf[sr!:ly)HG~a,G=a/yP?XBvSYoCh%8H=^]^/vm90wR>Yx~5n8GTO`|n<BUi=V}ch`0WG21{?MbUA9ioT*Y<WW^]8~[=~dLD$[Kqjrjuyd2|)q/94o7ckdQnVm)gsmBA
/xUTnh4X3#%sX%XqENe}pW3JmNpslFnmdh5EpAXi.`4pJdpH[3T?Ep'FBJFpCpdKAa/R44,FUTSy2j`+0&OI;)8`_Huh:8Z?Bmr7nWU]g#I=|lrvN4?*wIG^%p]9A^Xq}Jq1$ix&E04HtgBYBF9J#=
Vb8|Ki<[MS/.Qg>0pJLc8clQPJ3Ryoe{R9+DUup6!cnI4LCx4,OVQQD+pi:avAF3Jg,FV]E=$`?6%~MopWVqSw5IS&t[Qe5($);.5|PCQ3?+`lTdDn9KM:K18b9z8'L~/oA2<;eEJ^wLiZ7#z6d#dF
*xgK,!aWWtsVk)W+r`W|m3|s_5ug!8IMakE$*[WY^cnEh*X#xdf9:49;v310s>8yOQ:2oy3X<YTk~+4kY6=IqejG2?t.[%[Sy:(7'?TxX1FX3aM;ge%z'.=R;1r^,4J,H6$p#5JaokY`Zt{bq>ZDDG
YK'TBjvO<|,.Mnk&+gI1Xg5Kd_'#=$V%g[$xlxp3e0+,/h3MM((b[bE]KXDc8P5Ne4rrv,^$WhdP7%=l?zcF6Esa!#9'IsuEw~]eIqGORZ_Bz>~&,d:M=+;6Iil`W%<!2I4s24{VCjsk8&3}j$bj'p
#ur]DQtZQ6mVa^1GGj9fl1f;nT,yY6.,}nl(gu'Sy2]2n_~hVVzHsV~K_C6c'!Dg714ROH<}E/U}2jCrnr?!DvH[Lk{/sm5p{B={aaE%uG9{eVLo&|sODx+U'(o$d[=/T?zhM9'~*D/45wqXNcFGz;
mM;I=Vwgil'~Pl1Bo:D/U&L(?QSB9.'X[w62Vm;JEaQM)Ps}^0)VM%H.CY)9IjQo>h00/M?LfQo>7Fr?fGwB<|o4#>H^=TX?5PX*vnI|BV$[Hrr)^MVC]>IecBQYGsSs=3F{a[~<fj/lnShJ*1%gH5
b5eeUs+is<}ipNqcBMqWTe,w=X+=?3r1jMV;JQY=0Z_O~hY0fdk.'CM6_D7D~e`IJc0ne29n;+h:ym?T&G;Iu&2Tn[Lp_f)8r$^VXfi}?7bOEr`QVbm,g,6Laxm5VdufV:&rKt~u&CnHN<Ic/oRt=I
ko&Xt:x`HmP8PDAG1_9=cr8fCt|C1PDt|{sO[rJrxnfWUexZ7J%:P9;q3FQ>'QSALdXW4x%m$`Np<+0c]t}wh6.Y&PQ(T4_P58FF~`#+^dBRo`CiI2mvsU{chxT.Hac,YfT9]jrOChwMG._au.RrgY
DQQu~:qjOAT~Ar!t)Yj$_%(5>ZEUCMu}vN1ch6uV:=_:zTQg*tcnuDh+ztrokrw|v&4;xS9d=Adcv~':qu9,Vl?&uMj0rs^0Qf7%{7yVY**+ZVAhf:Uq3cT&Wf7db=>l6ki3J<AZGOQ.xCw(3T01>k
<#Z2Kd$mt{SjV/'[.Uw0._}SB|V)x<)tT6B/m`q?9da!_E6B2/v'1;k6s/*YKqKjTCA5ir=CnGOl'opl}{h|T),0vn4z4`()jtW'6SHazJ9R)]F^s3{u{l|/[;g`:V)JqLvS0(dTXsEpqVOjrUPv'k
KK5`b>S/Df=BAzoN.SK{_cD{X.(TmqykfsLkb;7#kB7F3pc;$?U?SElT6Bu{uoECwYU$k%$?F(D&?3oOLNrRPKUa(lL+O)bf^}g~HeaDKUcQ~Nf_4+C9z`mJRU{1thUO>?0dqw(m#ClDlqn6JG9?I~
MFv1PrE;aaP2Ju!|q{XXHktKq~0:f4?QCSc^m8)8RPyQRi&fUDKe6K%([fGN5#c)V?]z{kBH&^[u/H,ydkB,mRG}*;Xc8Euz&vBFmrfn97bo&<]}yZO&<3I}SQtcf.!KE{I[0BSWnYm#48/H,/{S2K
)<pTE3;Wgi0C([oAK4d{}0Z0dG9wqBsyB;2e=#0|X!gX]oL.}WyC4:!n;3zGlY*&+:=w:?39u}Brp&,Iz]KIkC;xLFG9w~)u`WI}WLX6hy)n$_?<h'X;;=]?!D'S&u0bhyM&d#H5#]<6^7kzb>y'#j
6NVo`!(_4+qQ'p|7/!I]nR(0J.>xqrZ:i=rO!b*xUaO>[2p1~2m^Hfq&!pa{`tndnL'I+2X:4nWe.3cjj),[Uj%OpB#}+t6s041|=ui6BlSSRoM9<sT/n9CbivDSh^AlO0v,}U9.^;|3BE?3#]'xuD
GzFA.>qw_43VY;8+,$Ms&F9;Yc8sA*],3#y=h,eA8Wtc7h`v6mnj(|ky,URGt|oEV;4=V.+76hH!OALn20ZWWR8I3Kx5`X|qSeEc#&Sx*S$x1g#rd(/AUTBq%wcq]~CH(Jq6%X2?jjkUn,$(m5l.`J
1_YS19ok>!YyIS4O[Mdn$Vw!EsHl4VAJ&Lv(Pea146V|It>v.[TF#utM.b={)o<T}CKptlcI`!ThO7Wgw]E;6>+*BVLqu{d=}Lwx%XY8jf7.;rqS)=<!NL8>t>zSarpX0nMt|Ld%hh^0T+,(IC^;$/
gU!?I3[yG#+1:M<=PEv*p,Cs#|{|T3=$2&imfW}d0jCb_;N;D}mzjD]a.1|hheZZt}v|iEXELVbJ1SXbL>l8s:N<32<Z`GkdxDln|)%`W5x)A9zuSrGQ;GC%tHc]u`Bri:A2_iyO*C'/=A/Lc(1#~O
6#D'~=Z/eqn(a72$LvLYoNyq|oE)m}}RxA&Y6kW}y?9p%;C=VA&jWD*/W0Ev~A*#)u3X__,82hKc%QHJz_p.H.!5r`sK$f{&wm7vE+!nNEb!Ii|nyL;aIY'!Cp2m;3.cOBhnhB=^tP,|q!mH><6K,M
)Qm{CA#Uwi%ww7_G:={q%T%Yv2l$cPZtogGhrfoCi=!$vpXZ0[IW~`F#>K[`A'^H[8+,H+2Nw}se.C3zKsGI~m=76eycB<4F62|NZMs.WV5;:tAeg#k{[FlUS9c!WW*P]zfrbkZPEi_T*:rWNE>RTM
HJ!XQfk{`zIS`~Mwz5G(~+i,jU?z5Z},g#ajZg}$&3>a+'|_9&^G=T%?0TON_1UFN,UMQ+JxZ&l/Xi$&*+dB;WgHuXiL?_v0D1.<'Fx,3UG1sNtF['<:v:v$qA,o#P$?T5t&bzIM~QuqK<h+h;{/Ny
&s<}fJ#>d3K&w5A:ox]<Je7]XQZ/=n/jU}ZpG.Y'=WQNQGJ+b.{n0,4(4?w&jN7w~?^u~NJs#0d^Lj,*c':(*iZg`zgR43Gp,k#G39Qz!Ta6QNBwg]L9DC>LiD!>m~=RX6X<!Q.XK7pf6o1I2.qB?|
,soCHtqkE?{0RQ7;#kQ<'^At{V1EZ>onVe7G~bGJ{'B_k7THuko_b&vr~>xTR=$EgzgX5Bc<Q%WyxIgsz,NyJMx8TK64CUUi$mOy;Qif;B8oRC,a&W.=yB)>?3)[`pr&>49}n)ym%'..CnJdgnr[g_
gE?C=RXNw$ECyB[ErjwlCeEkoihP~klW4B?FW5,]_LLYCDpgBclSgzDv`0^6du>:Vl3kbT)<wV{u<Z]o&WH:wY1v/Y!V]il*{*D)?wv50hQ5fw_xul[aMRExZt%qsxoLm9F8o^+(bm~f`1}GuHCzy/
'bn+&qDwJ]XG>L%pa99PPJr&i#m9Hsv3~J>[[L{7F)EuS!33;U:[+`(<=Zyl:qcb9[r_9UcyTl{xFaYz0AC}k`npebR5p]YVPlDAyX*(,7X8Ax;qtN:3{M?8xaEjk8#M4g?/C0Z)|oR9N#XqzxOKKL
Pjb^{.aO9oaB9t:TQ#hqiQwi#$q6z6fMtH]dA_aTIwL3Y]GT$_W^89ZA]7FF&:e1](j([f0>O1Ct<Z]s7'K[9Ae?0M~`~&nC+lljZjs2{N}y{M5[visP_;w;=E3zHea0)G}'|xf<|hoTTFFIG||VLA
J<o*(Cd*mGtxzdEE'uwTHR!*:ue/6IdNeB>gs?_>C4`;#}WvuEC.bh[2_fhu}VHYL_0.NNiK;=J_.`%51|{B%O%KzrHpHl&T41FyeI8l/ga+*[r>ge_<M(0josBv/65tm%s|pO)wgE{,[5g:CO<_iT
|Tzq(h0D)5&I'%J3v,aNUE$a`)<xwAy7yMktq3Cju::{H#mKvKS_>Y9%SH?nf/OU?mRj*sk?d4WK]j[(%1&iN_8%:.y~(u9Fsa|dR%Po?uF*6o>[JbL7oMT6I#TnA%:MuHNs6(L=iRiEw2=VtBFCq}
:};cFYN~MepDM~kieKQ!|BO|>>&s7zU&J4TYIA|9{%AH{|Yr.zv=DwBIRD'eD^%%Qg<5.H:68G!b%rajOAz74'He4]=5X?fIZ)=buO'q1zV<j^WX%pC>Arj3{4kCnL(lV:Q7:c6yzD.Y!m2:J.Fvb!
GO:X'bMSVCPvP*gEo|9t]$3C4(SV!zaVt_{C%wsRsPIB,gaC`I2*=71~KseHTg6hX#[vtH3CKU+1(z}BP{6&G3o#'iRU<tvvFpu&qL!i~2r^GJx58v3jEuCxZcS_|X$9^jv*(Xs)sDT*a/1%TkN)jB
V!)Li(r>=PQ?=#_T*3%I8~x'YvLTY+`)2z*x<&B}pb#M&q<*'d'25cwM}25DzhO3(aFHbW!$szqGHwb,,d&M|Edy;l3g'HIp>p'az$s}PgGO4Jrt5xD~?e_awB32))N22gQ>0y:$S5ud9nHR0DI?6S
&oEp];5bgSaC~JiCjg[8OT/4y:Timmb'HsD{R$M(hJFA>*?'`m$2}pR+9A,B.57]ifdWNE&^rRNz3K^0^t&Pw2IZ4umw'yP'i~eW'?46?J?<yv^zAv/q!ECtqW=<,pi[*~5xu9HeaGX`n838x9a1M3
|6m0/}>[Gfef{!0;:^8HG'ZMZrXy_:'_f4DEYE9Mcx?YhKmH=[`<+uj(K=~.y8gleVW$D}H7RZ6b8/D&ucVv,;d|w6e.!$aXkb+^g=DBuuV's&_.3^i4_$)>AJ;ypMcoov!<0qfqU{+huP+l2W9YJ[
sJmcGn!Kwl>?%hd8w/]]n::<iYAEc=}0ef)6J|ibH1VXoR{BxTL=S'+w&+]w4:N$5Va((C]uH0!gq,eR9NaT*1e]QeZlqwWcf_k6;;Z:SKDt7N$M73xRd1mh,O4uPZBwu:Vy=dD`H(LaU]|v(=*b.&
S5|[><CKn7BS$HBkko:hc',/MkFFn~/RNv;g8AVSrL*t?7jCbHSi`,mIq%]=/25RE~_F)Iz%jDeK(0jx{7#{pW5A]qy.9QcXp!sBE{{i/6g'gyfK:Q}Lx'l`zDAIzl:{2ZCB#6[l*Sv%(nC4*a,uNg
T#YH]PU;M5k7CeX)ndR=*1.m&(6$jlcyU>*cKX!3$d3[>g;/FUk^(M`[f7oldb2#_~uF.`jzm(pNE~2r6=]JD_0AQ2#N+To&s_IjUj6:c4*!OR_U]!nlvN1y;xy#O{Lj,Zh*I_A{C2?Hl7TbizpfH#
KDgi^5bP<QM'm2fQ`HXudC1qns)0WOQg.?KJ4rEKJv`k6d&.8BI0L(bpi]=I5|5CN~Zx~(+,+fX;[brwGgw`8MYx'Y++y5?o<7$XFoIo6iKxxWoif$!wYcFN{[KcoHu)|mI.f;_3c2tE_6WO3P*%PM
uX#qHN=o6=eVtNg*4qA(Oux;}'<S,+Cysxsb=cY7+uecv%zT$i2.eCrAD^voK%(,keUBnl'IT<GVSbT?f+4/aZjIVFuy3O.{[Cxi;~e2E=#!hA9ZUrEP/}I;GX0b7:XTK3J2>e,L~R8SA36i9^Lq+!
n%0e0$rr}#{hsUQW3I;%{qBj!?WdkBerDd~i7D{1%Q;<3s*!e0Z99l!O+T+b^::hwW=;A[V*(eiFEZ'+|<Q|=A;uNLk0E$weI#*X'rOus2u*2vT6&pTF`q]VN=a5e0*c^lg/l{K.MqKRY:/uK'1OOb
>',yBoDu=>>youGI/9%!x0bBsi>iD_1`?gH}}^Ly1{4Jv<(e>^htDWY[mJwhxcS141BV!wj:#R>`G=}q^kU%}2Z>B!1/Dam.&3HginK50aM|pkjf+V!2!lwh4e,^Y$(xU:E;EjPbech=DfI[1:j^y0
h/o/Q+BxPR;hi:/^<8=ro'q{Bs=;%UK!10<3R/}Ez*:ydAjy)X#1&E{)^`QM$|Y/u8&S3>5/o>w`*zGNLHEybNg.;G,t>_D&uKHTG9.ucVtl~9x}n%7=NFx|!no_kfEW]GY72%UARd<c*YWVr#V/x.
K0,/F5y|/l2vIdb,N,[DOO9B#!yxS>Ls~MsEwoef.L^3cNd__?d7hcLIZdhkW!|w,&1t]jCeIk%4GR*NSbr|/ZGt07re'r_|#z5p'!E(((c8h:0f|s?qaie!&zwh!Hd0=N*`ci;!AHjn9sg|d>4ljW
{%yLc)&.)X>f+A(#;rj!#;#O6~O+Jb]2/LmG*P'Pl^H9t_AIa1n`}}TZC'q.{1ei797f.qyyn*Ra}.I10fi8*>R(#z2yyF7Q7Lv]O%m.Ap}3_S/U=vm*h~Fkx&7{gCP4r?o<AvJTFvQrLM&:Xyw320
jfK!t]=]'8V_uBlRsBp:x`?m7XX(mI9q/{`$v4O}j<:f>[_$oY%ibUlex5+<kY_6Xab:tNVSEZ*[tmX.hF_SW;Nmh0<'A^xm.Sd=M<h^7n{0t/o|88X&r5PWJ!rHE)PNdt1FI?6g.P:Gw[D++<2ee^
*QFZdaH`U`;$z|&'2sh^foW9y!D#!B7KT(?>#u18)0$?=Y}=<F#oq$fFaMTO>;kOReeI&AwT3'rXi9oZ)]4MRg|PicCw(f`adcQ.Q[`l}A}6nGZB6Au[eGqQ3DP)Zl~7RjeuF}#JwwQt)z._sUSAbU
x(}=LP)xdW!m(3)>k#dxm_*f3I[5x4spTCyNBF;:6dD'(5)s7y9x5mb=wI8:8tzZ?)nxaV4ppc)h$:>ODIoURRy)eh41gm<%4fQgc&~xf`~dbWJ>x2G6Y6GoxPfkj/e`$)[7/^_Rghbh&O}+{}zM%E
t(Psai7s8312^p^kyoRLVmeEkl,(>SxUpa]pJ.31.rSbPBO>ORw>*}u&V('s,n=#ilM`h=3UZU;%Uk/]&/ZZ&+Y.[5$eB(_(W4p<>z^N9o}b:I_esMP[?{lkPfl&[geKXKUap+6e~5~UyPgB;BBP(t
c;KY1nI__1Y`(?nw%W5B~iI>ean)y7$,[!mzfF~LBzmzHu3w+A.h7^X563Ys~JWxj1;I#=e>(_+XS.m;DRRp#Srj<!nn&ncr<Kjd~Su>VJh)t[h8iRa{DC9r/ae[QVZa`E!Bh$86d,_);YEyG0{s{5
Z]0nd/'iKizOE$VAQ]lLKl>f#fK5)NS89Tmew0D4eaC2[ZpG3agQk}gR'e4`QWLkGRq#eiNj2]`UtQaMN61Q#Q<rEVfHF>O!Ss7X<&Pf*r]vPDjsuqZifztqggF?yVr6#<Cw}P2Vnu2`RuY5LwzXHu
:4A5<&Zog';*rKXgfT`9P>&a#q6o0;/c1}N$Vu94?kE_%^]Xw`<>})f9qx,>0*u%^gKs!ysE:MA;HTmi<.DD0Vp[H:UL/m:NgP[^wqI7gv^SGHmf9x`Ja6aWrWidoTk8hx}=GS<CfmZ{^W1i,m}EcP
HWYUY^QSaECo][_By?h(OMrZ2*ULPU=%FZ::[*G9XS+XxAEzd(+PY#vd'A7D+qb%wT?T5~_D+g(T(p<Kit8Z6rRh,Rxcul/VRS_29Oy[yNJKROgJlcm2)'_'P,WND)`c~+~qlVVhfya<6'H[N!Hy&G
WVF&mdo<=tg1o]&wqb~[/z`V5)9y[ctZ}BqdP7oT#_U}`D;,JQV:vy,[KBlkFgH/j3Y6:/J?e2^sm.*8<P+Jre^X4>3i4,Udl3N9jU5`frzKl<E/5$o`!=L{cYFxS52A.I[Oy5xy_cvcTohgsw)'#p
]$k{~z}T|1T#&Vh]07|F43gDWK3{|0Z1`lx2sJtbj[9>7e<.Y#=T2`SRy=S&d~N(LzLEk/PXzGA[ghLRZ7/|T6U/lcoYgmRE#5c6s/.{j5G%y8F^]$rd)q(eJG)nX)|$qH17|)m>P.^>'=}d~a4L4#
mp'V(scbqFMq!XX'IbKH1IY|b>&IBy5ww8ujVZEgLn(%a<1f?Y~/4sbb}bRg#+b,TpIC$Ip|kFLO64x:[Ma5r~O/H5Ds8TwO]rxd#8$Urwqx~Xt/wj%63Y4^JcvRR)>ifWKP.]BF]a[$YPm(T1=~|&
KjeJL(Brk^LAm0BK0mz;zC0M{/.8XVbhT4yw$X#r?[R;G(bh9zol.NY7*00Qz4DHVfmn6ANXHPF;MjQX&10CZ6V>]!vgJ)g<FOQ:Hd$0I$B?2Y+l'9>_ag<JQ0o>jE?_&a}g4au1urBb1[K^a1.g$u
xuNh!xD[0)IW!J0C]?VF/>|>6zHqp#NOr(OsA4M]4a[H$otcb)Iv4R7`c{`^yb,%4^({*|D_3`q*j+%ygbgp(MrvUp]#i5V+7%y21j}H^~E1POwFn?>5e4sLyEp5m/|&14?wR.=~{YGL5s,nal*D2o
u_fUN>H|pR|)[~TgB2NMFs>gh#H4EtZ^f`9{X!Coy>.kDqhC*U^*`l`Uow1JZS#fz{E$g}0&].XigY50sXtN&K5Ze9__W{?H7$%Zq_k0S%zK'S^2tCOWT9Y>)iQ/aP'[:/I~'m<NL%.XJ>S^qY4ZeA
Nh(6^<~,xt<tFPZ>yz;wDN1gpe^nS46uyu|(x`j|3>j`B`nE'~pz<vD?$5$8^dq3}Y.d;gBB2})PN8L;{!,`87tHwX)y'7[4:eC6I24dd62[s7c/no[$/:6<MA7IgyDzb9O?M#h}Ytjz'ab=3BKI[f
ETmi!r^#CxU*URxAz[P}qh64NBS7%/A4khlb3m_~gV)+&AjZAA!?Hvj.JG,6W6|_m%/:Od[wYU&2Dm9ci/y58WHnCSc>G8FTD=1dEz]ZpF|+&`VVQKvun`alr$WU00U<;Xr/WT1SGOz,fTq;:V>RIZ
,.5&(.CmRV5pxN6&5fH!%8usrfNMHr|#RQf8;Rr2u5E/#Q#BX4bzoP2]=jtv%a.PP0G2EA+&3xp}<[DyW:U',{lUrZm`KF[0^p7.(d0$_LGO|~HdIKw.!8iYFGtx<HV6_imN8|(wZH:2XA{(tRf#*J
/{S$ZjD4F7ub2aT|mVbe}l2pL$A%cy#b/1F('_F~Z|:9Q6`_xBlP5nc#Td;KylLfw1t}dhHo0:ecALLf4v2M]fsx8(gFJ.HL0):X&,?w=_?sw2r%e1sb9ik[$i{IjR7OD:IAgs&wV<Z~s{BmD%Q&4s
07&B+rIPCC[c`o8>'VpY|1t<u]A*h5:D/oH$iu|q[9Xdf~36I];Ug48{FFAX)fO6#.QL0r.u??7V*A[K:#nWu$R*$B2~p%j^?gFzz*EsiU#A4dW*pfx/I6i:tl1;A_?X9oT'?^sNIM}r}U!6!(d{oS
g]Q930jWk>3vW&wjQEc#HhVJuLQerem_2NEl(vQ_{[oof#cVb*=viy3F&SZ=U77*)y=cr&4.z`PMP&WMx<kvXI/gao0JsjC~e&]%i#C+4Qv5qu(~zIdU~T_G[.$QV]}tpP1zFH(5S]p2K>e'_!roq.
'5$1L{H=dSs0'2`Gm~?k!dYXRt6Sh9*d;>~=h)l/F9fdD2`ArQrLl6c+MF$*EP7+f{8$2r:$ra3viD{{v}oGf%{d&DP^V|'aS1lMQ2ayR~}SiHF!x_>dT33gWi7(u5p[5Pm%*/ZV}0n`Qz/mry[M)<
tVxvZJC#$rBr|OBi|^RkrG<+u8%F3;z9`aKiL^#K_kY#1azZ)Ni$x*D{pI9y?j'B.UAw0P|Wp[IL/({uBg~6`0tQU|rE.JVmJ_%CklF|%ea'W/WYeQ90()wSc$6zpg;l2vv6'Wyt*NE_8#GFi!Wfm.
|*0x*iQq69.{^+W~$:8g5~:K<nil<lGC55F=2bH|p:,Hq;LjlT/%P,v'>73T4ewpSCA&5eHZ~a/h,Qx6eUDBAH:j0,M9B?ol{qk<y+L/jg8.{((Se<0R77>BWbg8iWSueyIgM/zSvX2ZF=._82xvg`
i07.StOdfD!;IoJE8M6m=0WXeteu2CT(2E`&G92v;0(6;|26%A`X(K:8D4WxJn<])a]Yk/U}*8fMFsTTE3c?|+zMeg/a,zrU33R/+Dh$dQ,9P#hS4)`S{k~n!}Yeu5MKL8gj#TtCh95?tq#9yegRv4
Mm]RS^BffLd8ktl&u>nvVN8>>myy'zlx]xLFv%J;g/2KTWa/EU5STm1<yNHJ(VSzg1?x%V=?7crCw%Eo*TGZ(.g)1KP[!h(=(T^we=2x$eSFJ[+<9EJN/]cx=)Yf;fdRE`rB.sm0!}r/IO`VD8Ys}<
.wEU.)O!:VU8v(y^$X}0C?MQ{Z)1J7pu&SYC.3vC)#lL*&KOQi#.pR,te39qhH^nRiJ^X{Q9</)|$:ZNE'JnDV][w/ugW=_.joc9bL.g_nZpKEr]j(_q.DRAP1sx#p:W+z[^Z5A0P9q~,}x9f5hX?|
s/M~BFb#b&E$2<tk|8EKvPE_*7u/c`yJ&BQlVqiv&I}X'e/&##AOMa}2I5zEQNpzo}3^eK5lPj{AEwXt&in0C4:=#5mrxX0}40(y_W]:vU4Dw6br]XN(4.*v.)bYBuBb'258`2jLMT)hNcnrX?W>/'
u#N*X`)BXi3HA%+me_v:9Qp=fUZda^EE&8)g`<}Lw8{BxNIdrm]bb+NtB%`o>k.>[N+}LFZ?WQgbc,Tl6z$P{F|p?Azoo&<8_/b(lslV4_*]35+b#kU?l3BWfFnQ?Cl6H7r87=Dd?,#>#/~^&y~nXw
0e%<3'H[,367XE2Xo(MIen}9:drWAVL{K/X;R(PKPUf38BX%TfV]P^s'9HL=c[O*TUJ5On6%FIZ[}(t5ocud3s_c{g6]+oAl4n_[F&S6bR&77^9DZKd%eGLSfmayc]L+,bnZMs+pMaAf,Y[zfIs&%s
amobK`]ZP3pgbKDniJD/T12Oa#tA9R`^^/(i9xj)|!=Q*!Hux;;Md;jIV?7_GZJT^DJopitm6]s~!_)2[l[g]GdT=nqf%noBRjl|:a'Q!4R2ipJ#qxTOb,l1g_ogS|dfhY&OA%R7KHi,REboFWv}K6
Md_*~go`9x.Lm/5?3U)NCYI$?D^!bXWEMXpxbS42r*ZDo4e[m%y]EK9l+a*P&OKN,9?iF8w%4z]u%#23H[0&H3nQUz=;5b6Y[uR]J8As>)o[8?VF:ryOhX6OyY;|Yrx#*bL8Fa^a^5L%90&z!aeg+A
h^tX`9N+NDO:`X?oyTcW>E=F~W=+sGC.^6uV~,Xp8WVpvLyUu+xl`yWC_6dN$8DFAovE}qL3hfam~^~!{w6daE|{qK;:gXf=MT+X^JE3?x&^5ePYw%;+T#&yH.='}AhFbNTYG/%f{&9$b|7ejEO;~<
X5L/DTU_:LId/Bl{g(kcNuUNG_3&b(MALb*:A%62/`ZM+dLo;A!ihrYP#n|iej>#!Tg##cEW<l9VmWH>G<X}:)6{M6*ItjNlzaW2_2MY!fMx|4SX[t'G]c}wzK/$dN']M|{p#l!DvA+4*TA?wN8W'E
Nljg5d;TifV*jw}$A&s_mw]z;r'QoD..Xu0}:|y3|!*!j{F=HP?p,`E.<DIZI[j.7m*Vr!1&7w<)]{Q#eXQLMAWX'7inpP0|X0y}1JqCc/|qu=uXd7[!0OO|U]J!&!^8Z$Nx5yRj>{D,w5]k'75Nj+
gEQkufp<<$!w4?~H&t'Sg^_b`>F6x;4qx38(?wvv?n(*`%7K,Q0XjwIllR#gIUIH!g>;1EOFgK;sqBv[v4<qHJkwj5m&yMT6v#zw=i`JYd=hU>1[s?YJWjc#gcD=b[`2%!}0EwE1eK35:.v_Xr$R3{
~n1{K{1br`9ulpiQ0cQ][TKXz]6T=iZVzzQR*o]#L$/!WUSjZZw2k[m_!OmA1g?2e^9^D.gT'Z3x<{%&.x}yv+_U+[80c/rn}`LtE9>?V[EZ9nqkl.|I::>~Hyy~0y(A9uGy[$?N/S8UPse>^%+(<K
g(Cj^sr9uU2H<^wE5UBfRSkHo<yw#gUPwo08UA(!P$uklxx2<$yT0g2CFaWvJ+Emk`]UQyO0dV]8qrm(cE?ioOshdhVb01hikf!FYbG*7][;_p'+^ULtfHHr;k]cypCgqS3z1bqD&Ofsy^hs>?Bc>r
gS3/~0+!.JMoMTuvl+!*bL3b<G0IVeh%Um{Ge^`I!'&w8]]v{sS82RvDI~9IvvV&bxvqYc|Hhc~,Poyi2H+^_h;[5kQB]XPZF&ZjU!O]L2g!wPSN5YaA.1]EO'QXMo[b+z~aIm3g?}$g2X,^5|Aqfe
e;uev&$*C$y<w>y0']a*oBxUXyIOiXriO$;OUn{%O8c!8xsm'B,xF%=.aU%0rKxa4:TnGI;aLoWJBA>fo8K=Jspx,GlAL~$]lHoQ%07%Zp_)A(*?QFO;PQ4]B9LL;TG,MT%X>m*H.3e~R;zM7)|OC~
%Nn'58nPVNG^9_rUhV~T.%WnP;CNaw'WRgkX6?mvIe5011|E(__AR$76pl!VZ*Y=VkLgpn1u&8.'h*Vq<ZeoO4V%oplioF9.gZCJ*u7LSip$P4f)5I!XBPSGZ?9ydjKi6]]P`#eg:7Wz4VZMJ?'%9.
R+[Z./1Fd/(GA+=EZlaO.UIIQ6<]4[W+KRf{t[qT,jfzhFTwT~$k%e~[:ib(?0>Hl;'S</MLYb!v1N5xRm[7V/D73j<Y[!S7ps9|x|SdN([^~BFi.Z2_v[[s?{:f:Ib/,Wq6Hre}pRob_KcVDt>5NY
w=/ygjU5NR*PHh%jf9I:3PKA%p%2#l^PR_XI}aW6B<#)&jDWVLguRwCWIfjS3}C+Nu5=jhUCWl&^^yS$MgKE&WyZI$=X'Q0d|7[yb!r=.:U/+hbQ^[A;wIb_p0$5Umt$A{BOftTDG/aCw[IVHYMIK$
pZiN4>qv5jr|a'u]X%1brp,c=qUm9H_Y>b%cb6vF2:,3~[g'<f~_k?BDs+;Pz>4j(9;a7/2uAuzr~~|1bmCUiW>hiwX0'I+kPSFCX~(H^BdQ!6QP=nz1QuN`2;4?xLbji%9ZMda`Fh}A5;lDAA=b_>
m96:^$%[r*vDc{ww83(hXeoBqs+{l'>|.LlzH]=|I7x5wkPs8AGEz3Iz5}X>EsAjIiW*6m*V]zaR:YCEYr]lozfRF_wPD0[i<!&Z59/^sQ;D*Uzr;$3rTEH$KC77|p.OAOC+pYno=z|>%=HabLi),2
B]5~2DcA[LWHH`:Oca+/VMZn:s+%(JOR[]1ce=!qbM=DPZW8h/(f<0lqx$rAB_B;G4eJ;w7LM,{qX:ph=p]}</Cbi.0!iU&Q&2D5#Htrp%O{Wa>Go=7<Uk,`EL0mtNd!u#PX|Y!f3sCp%$t34O4Nhn
J};h?7EvXN9JRTXJFd9_%l+Rt<gk|kB)rgs~~H4N{nnHu5,_:z_$7pgJi0QYo84lXr2.EOVPma57t]7F0wqf$2;+as9?u~C_'R>;*MI9WcBu`*:#1a$ip[#Y#jwk>N7ITT%ZFa:eav3|z3yB%LzRO9
8_0H?uCrnw9uNu*(#mL87fF{2^?xL..TAF`yNGD+{%4y9PyC*SV7aI_b1`D6gpx`>83(F0EZZDyOs|yME39DzRzVVUn4Tx2Qn[%^(e'zw<Y=HDsx#Q;CI=I|k)|S0cHyaM5n$3<V/:*tG+Ji~y>YB1
e8<(&2<,g;n99S{3z!;oL)L!xL$DSoCZS_ris[k#'Y!KVywbF>vH7zW.<4,a'nkxYuY}bq5_Xdfv)cXpVAxV*QQlyM~?UkLu0r9[/(p{*O<]|:5Ox`|)Vy(49i>#|j#J*p3[+vL~cO{dw*4f}nqp7z
h;af6jpY4]mYpu0y^mBUdD{iFZ'aj9|XX6|H[+Ve(Yct<|i=SdD6$rFlaHOkIt,[u[}y!;jYCpyaK(F>F4/IEG(hOL1>P:Bd68ZXaUL4$S'{+tO3Oq}2p334oc$N&w+qs=29#d.`#6=0W9]hVc('Qo
Sf|w}Ff=^skQ?hHd#T$zHHAeut=|]zvSjAyNQzH|,!=D_$~tiP^&JyB68q^9>dT5r$._wwxca];&~<.,RFo?.jT8.AC/!cU]7BYfB%0k#HR3E|7y8[V:7U[)T~4n4Zj)Gwm{9)eaEh^<ozg59%/fYt
ejR]o~i,j88A;~v!z<UL[jSShgtNz|Z38^.`6Zq{U![^Q^3dZ}1(C'2.V)2j&NN)cbM.Xeat4CD?cG0KJxp`S,%dB+W^u{Ph[KRR(kN>o$jM_h6/<wa>VVDGG8%BobGRd'$r6ze7{K.VcSe}]Ui51z
0$_km8wM'7LIS)`G^TKG:$0&q{/AEH_9x[U%,:Lzzku.wo0I(K%i#hcW4do!hX2w.[C;[2G/B#Zyb{C=;Z8QSq|$_hv(5gVOCYKQe)IIwu!mJ%kU+M.YgfOux/$eOa[7vU3WVqW$/5yuL%J_<JZaNy
U6'ir74dsZgYXEy9iKIdYiC]},T+VQAw.z31pVxFywP,sd3*mz!W#11<!V~+syi>3`[rMi4oPl|w5Gd~[YR.E>KiHBI/dy35GUn6It}pj_{F9<^t5:gN|]RPM(`K%#GRWW$?U9O.<~GNI24(=q'VF7
k_Z?a.}ughsTPM~~v[BSKZ~Q=Yw!:aO,9jLi<_7QA.=rrT,f!b)#=:&fZuaucoK:~W,o'u_!H,~!&X)7SPY,t+#1NZ{lv:5:Geovc*Vwzuk%U'`MpHX!VWWZ.dTiKI%g>7I9{NfDzBml'WWtnsPR>'
vS^VRedJy!Aa(U66BT#6p2$_GfU=|;K89*&UP[|=91A9LPFXH4M`%#NX;XoiL{9R8z>H($Osr%v6tfk$77<RRRL7Eqag6bf6JRDZ;WaIZjXR3BY9/^Cq<mPL$'mpjJ^w]J,k_~S%H6c<+C.8FM9H|L
Upb>.v$Y<!_;BUuYzkhYfdYUHd>[vE*t0+)eji)#G,#*B$A>E*jGgC8qqs>'7tNL6Z,;P?URT~d1x?F/'^0y9uSSzT6x~FJV#zSKPl]MXrw_~]ixB].qj(>T8*.O7MJi5ALS~NKa)R|&al2c8[>6P>
ca``e[`^%?>6H*/IgY5kFkSyHFW/#C8!Pq?~pl(3A6j4mJ)HKEc0Wul.BWg[WIv:/UchG)DeuCK?s]e3s&g+lum<yCcsQ18C=IxwxTZFrMeN1ZKL'.O]X^U6)uIF?dhIq&7{i%M$GR}!orxtq:sEm7
MtdwXSEesU7r3}oD/3$'mrqU$RfB8:G2>C7,g>=>h<FQg_XB|`x`1+QgFX/3AgG0G>7x*wp&'1R!>w&L;M7_R~m]9[f~.VUox{vyI$0q2tR)+k)Ag'>PNz4kpH[(m,lzs`I*V9!(imK`^OVZUMtvag
p?Ecdk3Di[4C'_'y!s,{K+&1YuA,'2*2*X%mi]Lkp3_l]B=0Fm!Tx5%{:}+QNEh4=.k'6a1c12/M/~lpt|=gzbYmWSLkb,p7v3|E>[ubR1(5!,m)D[|eN~s%$VF6USf2+c7UOJE:ky!:Ps,M>Hx![!
<.35,+j=+~5tHYq%1k~1myRKogF.hQZ4q~/C#;kaaJ090#Mf#]KXI_=6_(GZ6z61_v^Eaj.4GRTr23<M}864W1f0ATJ1}sQ<n:S?FWsi;|a|=hl%{jpK+Xu;|~_SXiC4g0I}JW!oT0nISCgxKV#E`S
yU{]x=PjNK82Q5mLmz=;ioE(J(ZnwqPO~ToR>t;?;s?J}$fwxbX=aHn<Ee)Z]lm`m0K<0xQpM,6k>]/k,LbF]pq_>&i}dSk%JW<EVT?D3qA|NurJP:2b}i1[WIw7vP:3T]r0~%lrac9}S/%]~McWHp
1z&UMKBP'~SE'c[Uq8*Q'iqLlooXpEs%P1KbE..'eDZ7tE>_.9vFwVV21s(h#}7n#|ePWcgL>&w27{0K/hevZI/39FT7Sq!ySo]VA,JD(/ed5XJtoCj$Jtz`q5q5|0QMs~5&iW:[53|`J}=Z0>VTss
tP=8UEx2q%!%=T:<E$i6qv!qybNcn)*.jO$<&50[%oF%#?0264J1oj=WE{[H!q|`/>dgllVi?BOO1HH[1(2:tRVE8)=6iPeI1WY%]j^nLF%3GP(>D3Jt>]Bo%oy[[D4x_(>W!e{a(hE.~#szy3rrfS
gyQ?}w}8Y;)J/hpAkG6)suV3vK6]LJ]|u^zPbez`V#Xub%'D]1i*^M8&PK,q[5Z!ubN~3&So5h|YIohxHxb9d3gN!Nl<)HM<$)TKROb|RAJkIZl}?bv=zJw46=$;]6Y4uipapaO}VE0EUFT(O6CT9V
pCHq;~mk$k5%Z.+>ZD==KtUm(muaNP(*qJ$8&9E1S4,ejmp3!bdzB_la8hz7Z<cbd(.l)5PH(8Ps'Mzu7g?B$yD!Hd#:/'[rU!HEdzTw5hV1dKOQA3ASDUsgr2/`8OO?Zx{Mp%Zr~cD5wHi2CT2xVY
dj`f:iIWV<(bibx82Jx()c9*B$=;rWnO?qWcBmd9%:w[K4bi2tc(dYZ6[vArhC9e+1Gl$th2ARS4nj>OQ[=GAPSp8X4]&|&'Xh?5Swz[uLWE[(/C7B}U0FTxp*+'?F3X.ssZy}4<1w5St%x$i$Lz=,
>p.bF/9XcPCu,bjNl*dH5Ron%/#60<D36V7?G21^h[#W[K,wS'6U{KUK!K3X<idO)c>aK$JFF:sT<>_]x0w[.;v3Hq2NI!Qx`;V#A~.TA,1?&<J?L+l{0^hln51uXv(_%e]+zYE)5'yN{5q3<QlueJ
M9g2z[]?[}=hy<o9|An$3X?kQqS?64S:z(VZX>q+w[?WJa8`!`)8w5:>zug!/zSf|lJtBuW1&2oas{u6YZH.=WWJs&da]!$]N]_i^ms.qozaY=Hd?}Z+xau4a$L/^t'VoX4g2}6tQ^6qTC#$%/aS8Y
<YR;AH|uQjR)2^,r>poMs9tjYA9.A)_f#|nu#&sgrM'9TLb)ZP'M9g:.^}ZNki=b]_`lze5Pqnm;X[;&;=A#rvND3.JRL9poUl.a'eYA=BX9eG)}5>Cv>3:~a{G_u}G3yi)z%U$og(C}l{c]niv7Ob
BG>$?cd2uZ}V{%Qj(uQ<sNR90Ia|f]}JlK/v.w[gj<AH?ksm/#>mK>Lj=oLoCzxj0IsyIK7Akv{*{`}Lr]qvst'u=}AX2k('#%+?Ycw#dg'/FZV!]^}o;#gik3;LJQ5^0*>L*I061CXt_)>63xYI{&
ub_z&o]HgM&=TIkFq%7|052Z{]d>j;;hzr'Ut.>p[eX{~Od%%tDm!:,M'Xqii+e8hb{o`HtS2tne&4MASMI>zSFN*|HLSltm~ZhnJ1Jci)7nTz6p(P(=j~{8w4XKoA3J*%Z*PF>oc_YT_%o~[NVS=d
[dfUDl0bnHmNV9n6eqI`a{Nx`Rvh/gOjbN>F|_4Afz`kCmjM?td/p6KRXlMM4}'/won>&&Tdl)}=RDH;GQPpA4dZi37j&8Fg7fBAf6gf4qG!IRd?&(6nh2p6H&<f(ks;E?pGlX~Ew8]^00tUiVl[JZ
m|d5[?VB)Z7ba,I(TO2P7T<U%mDONuV]Hb5aqB1#?5v/VZqw9&a;VAQ9Lwx,APph<D}^s1V#8exhD(G&{iPY3XLy)zSI=QnbRCmh:M9a%QEj2$X].eE*~eFDf]C)Mt!iUcp']o{*[KbifA~G.<LA/L
Fn}NXg:r1k7<wTj_+|k/|>m}[v&:M*Rz[#t,(#q_PMNH_KbqS+2AV`|pPbV[,BGCQUH,I~!z_(mt+L,6VfjV),qti0n}4n#PmI.:{!62C&/aY_b(A`Zgu$4hNB;|H];(I+JATVXslXwOk!2]Ef(e:r
r7/qp+2YA}V;)a<__U_'BhOH=5th!H&I|#)%V#Yuz+M'3|<UW{qMzDPSC*%#kEI7Tn>NdDW.TPf[hLoCZ=Lu/tw]>],BgR6aM,#i$;JMJ(E*pN1AUXWFNwe25p(QcXh?rl,xKi*&0orbQ>GxN#`H/1
fl^w121H5oJsTTF)3:N/Ze:Y=6bZ5D{K]4a%3vtP>!+{.M?6o!CGxArXU^[GC.RK.3sN*6.(iF(YhKRbm',O+pA7P'u,U?jsa|#3a/IczwA`zZjW[!dM$ckvEOX!uEW^_ZmQEn0.fzwUiwqPQRf*w!
euoZOS<L(FTC>a(&D^EX6NvgSX0oW[|B0/.zmxblxGkoCKL,?fW|J:.}x_Z5JTcSe1('z|52h&^)?U4jTyrkEmT:|&?p#iU&*st<4P8Q]Q*o4LV'fggn5C;k6Ap?r&8]&A'U'M)!hmx(B,+>x|k]qn
{#HB43V%Xk}Sr?Wsr$~cR?0&_ezT_1f5XyN)>M$2'+iI00;W2p0ogb9kh~Gv7|,jz'yAU=iG~F71|h&~AYn%a_6aVEXFf|x|+#)c{l')eaS,Nlidi`(,*0zLxWG|%_DIGL#nDeeAj,SVO>>Cr+A^Z?
H|:sY[,Wh(ot9hyAO&+2g|)X22^6:m8T&1p(j<09[=Ru[`(#V3{`[;J7sQzn9D!,WOE_!8N2^JPt2K^E|2SnhC[)[q88&}YSU(J^]Nkw^o?c4w~wMppX)CkPJ0/gGwy/jbO:gfsO#w86YU>ClhxDA_
fuZP+JA)twy$zHgNfl0ke{FCf,G5S0b5;fU;1#A(/!b)h0zGkcfe{x7L6wTCA:PiYV[1.8S{O/vF=Oo:F63p~o.w[FL8+ZCcF>jN6Ra]3Eut|ykkIJ;3.l`co5LX>MN#:Qn{.cHJXm2G[]'[s8_*FZ
ij?TEpQCkcu>3PP1B,kOStgy;du[,j;mTG3lF;&GPY2~QDN*=Tgg>6I=0SMbZAWL1DypsKG3Ke,'QVCx41|ia+[B&qH2W7RZQ:!HXB{1h(,mv0Wx7QM2kh(O%Q<pD'jl+#b:W;]+b5YC3/a6/iY3'p
,B&ap&Y|Ka,)I>4KYs=.'x1V'=}LqE+8Ke,a%w81CS!V;_l,9aR6;&A:q6i0)9_fs<nx4TS*jU1NlkMG!0#Y'x}PD/z}(/+tQFMb8VLsc.|Wym60VQr#F51^U}es0Az^,&6faY(]2De/.I#p$Ek!dq
WgtnUL<l7BulWrdSSu_)>.(s*cQ9|>5,>4t$XzvQ0JlW2dF%R5ufSNi'(`*ej},VZ)8'6~2cDx|3G)RUQEN]z*PivegNFy$KXhPY{)Y1WaN&XXH5of36L:cu+=~aNqLjnw<Rf^004(Niu%i6<7Ab/7
dV/}{ZdcPnAQN798Ci,#!}xoLq^S':42pbHaSK#i9{9r'J[t=31eEjo&z[iNi?[B*jIcjb:m;{wUGT8*pPkxi):s#B/*(YptmTl^{HT$!BFhRJ4b+cymv+BRktAgGpadVE)e0DRi7w,JyjiL]q>F=j
Q7TDlU*'WfqogvTu5.Mk`zEADQ>V_k6oOpi^NR(?iG[fl)C$pBRiC;m~IqMfO'kCPL2?h)z,oS'TxWV{4urLj(}${}ihKutqRHvq)yIpzBCJbNPnF!L5||kZu$cg]HHa^L<H#Ufs;D2G]~MXInfR/I
{3HRQhO[7X<Gyn:S9Jhr0J?s>yY}_5PV[:{h>>i|v4^vh{=3,G423WJCxl60#Npp*`u%!L~>.MnhE!>BS_fmhV|$E$JM7:GB8z`W?zP3u>~qIO|yImNEy]Mrx7OWxa2KsM4`{8KS7Eo(#JM#HSfYJa
:gU;V+,zY+EIzL+DzM7${(rB|SP&)NCEgPvS$|3m_(LB^/0<FchD{;>;&^/?7rfN!f6~8^nr:#8|UQ$rBx^[Qh=>7zgGFdz.~5[PKRjkIO{:2!V[k=,3Fr,#=BBRAhb#KVus0'<nAKknQ$dL#hufI$
%:CY2yk8*!To&0rPDW?Hjvr9hX>0k:(?)x8_/}xO]LJcRa!TqLFCXQlBp?(fD%TeirMqvlWIY^l!he+`!YN<lE]9~8;65YM;Lk:]0}=g[rxTY9h0,eAAk50_}/tUW*fg6Ifz'8HsnsvqH/=!}[wwr`
k8eirRwBL(%o6hykbV&6rIjljv=QZ7v:4j)8):LbeH/o./$sqp$elP;<:r3,{#|d6x/YB+1;`j9^w![+,#HN%mHzf~t|Xu2n._iFapcY7A>z.PA:!,gj!;*7duq!LU}vO/r*[q,&4cfxVNN_Iolg__
humrki%o#JMB%Mco2$iF3i*dt5/B9pLeqy7AOCSQu`][(VCVr1~'DO}$MLN>1U}%;1=*_%:39Y~Rbliht<?!,zq3[*^$);fPe%Kq%&^b5/~LaZ(qEwea&TL<~OeRWsj?RVD?9orLL0Mxcst?(0qtG%
Hg#hB^fnnY,<UT`V25aOD|~sM+TnCQyPu.^];tZ;nwk;/BN]pS%wwT<bm)^V^eg^X5EWj%bT2?a.`2ZpVZU%P^]9qx|*fsn+=}6aR<_oZD$KW^y1X:kSJmxQ85Q.5W,oPY1n!<6h{#UGI8R*>G&pZ|
pRo'ik([n4E1:S:U7&qn0'{WOZxwN$LFg}F5q~yO09Gu15uE}rn3'*vsJFcRNh^z<3d)uK7DLQAj>S;aN+.*>R+B_~u8UMK,naQt%]Is{Q=D%4Hrk4+[{oCXVCk:9scHL;Ou6FmO6uvzp[y]n^6N,C
vZ##_QF&Ig{Zds/$/37j685iw(1?vrUd+<,98HXG'>xiR$+;+<8:=t^nEsg<D2&%!8cfc:x2ZpaI{;dVXg/wp?ayTXr9]/Z,e<R)m?G42Z:rA24tNCO%1./&k#>rw):Ku#zp8g`F:rkPJe'9`'Kpd^
vwu1MVT<i`uiVGac<Ctr1V'RCom.]eCF/I^!Z]t)}I];8`:Qsq8ROQ!h&_*?oO<fO>e}F^Xnd)w[6G:z}P,s#O.n&mmbb!!P!:tAMe&dU`r0C_[z=63FH_:gRAMzHw,MiS^P_q{Mz.$D/i7bVn|25~
Au`Suoj'a_t$_BlgH|,UPPyLO,.x2v8_T8'/[=ei225wtEErz't7rjsnu8$MoYUZcsTx?+jN='GWs^;/=fc;V[tWqQO&`GfH5dG|)1yU~VG$):']L=I<w'Yp|xtiN7ydkh%%<$SRL_VGeGM3<927Pa
GC/=i;j>G.tK1w=/hj/Z[{{ZNw!/w`i;ZJQ7eJ5{sNNB26[&`R.W?3,cZCdkcDI^ZVbVX4%!bI_WhpqH<~;>E:$u#*CPX9Lxi;h:oK&Qt:Q&?_1{qcysLKQITodm&rvbn2%TCYeF]ULe2;2SXj'qm_
gG?c&XxP;nK}pLS1F<d(1c&s_ERCeNh_]e(.qd]yqKrf&5Et)XfZ:FGz+6QZcNTgh9roZWX#5Obt=BI$?[bCr's.7V#Wb5T&Bcl~&_a2Md][rz:!(BfQCy2,wVp7RTM+kPVe{<$+eD&)dS&d[kBpTt
T5Q[=6^wydv1e|59c_'[)D;}ezM$>:0ZA(8?!!!!!!!!!!!!!!!!!.wp(/YeqkX&zs%aNS[qn_EMKAV6vo>uWnS#5K`c$dl%UvxU(%Fe(htXcBI;687`ZF~Iwl&/lP'F3T:~`}RAuQ.7/X8XqdJsl2
b|6'r80b2.V~JR~vV,<[Klo~vI3i{5rs2nMh}RtAbT|^<9iK~=?ge%JAIWo1AqwSpk{1pFvfdITlPmUvQO]Ht'5ar`}QxAOmvv]:!*,gk37e:JK.L=;|](k|jLeX5$V{OV+q?P!enOwCl|j&AocBEm
TrHeH|Ac6Cy_yZ[1/(.z&/?[s`#^|dWVn[!mz6k_<wH>/>A>bO!'_rvw|u>A(b_!tI|.XS^B;S?We~WoV*t:o%Q8}CToGyx:_)cg8{V=nQC+|S:`I,&~lxyXXRn)GwPi|_w]7j`p=|t{;:z(?52n1?
H#BEn_$#67.23p$Ew9n&mGnIMfvtD6V+D&XJedG|q4YOQ^eX0f|w]%xK$:(mBYYQZ^8*I!8?lovMsB?S.r7suS|~g6n}7cZXA/rs}$9Cqj.#D5;rvi*KCW,jOG%?y.hXScPBc!8U75?_2_yuxeDqZY
^|p6_aYsdOXZ19AUeik}DQb%`me8q<_#OryzQjv;sd)p_xzai_MYj;*3OLd8prIP2c:l5P/JqnN*K.7a6PPnYtt&iA`~F$LS!^?#_xqRT;5HO`pJHy,Itq`=!!!!!!!!!!!!!!!qHqSFzZ5QK$r+V^
J7/;Y22E'/<o$xf.'%rZjjj9=Ft9,yS0lstu&Xf8H:dLQJHnPEy3m``|qq/r2bPz6gg?`t12YyU2!nSNN#sA^{u(4D)Q5V^{[b]h`aDWo6I2$XK=e7<q3owqbV;f'~U*8l)V2H}0>>CJDkUSHk|sz$
J.~yr=_'p*}x*GHl'N/Sb^^[W%tYBzQ/Zt=Vk&%e0VD#Bek$)KMco[+Rf79y(/vSfQ%9Ly>hHoLucZh)+VrIyI(>#k.f}$Z5a1!:J=g:'?o7YH|D&x6:H:c`tj&q?#7o?}gV``I<C;IK5Lh0e]D_cE
,;jNopxYdH#];J|lIzmP&oc%]VjUPlSw(J}?UeOy#f^;<)<az;]6CN,HcWQg^9?Qg|0Ipyu&}uPbLM'|pVLvfJ>Wb,R8`(^qd=cHL>lNM/<y,i!2Qvvypk=07WE'ooe(*v$pJ.pkl'8<#`+rm9g*{+
Yxl7__L7Z;yG(ijL>vERk?~82tTbRL*$1jWtJ)w'8gu#Es)J$O`SxNO:GRYuS!U^C8S*vW(~M'k[*WGt+HB(<n&TA?G:WP'S'nv`DAPYxA9]<M8XT'SGw9Vwu.&?Nna;jE2_GG0.`>p`2B?h/oTPg2
xGgr,#E5P,a*DeHd:j1HsMJt|R72I[,%XWHpkm<I%75_L3C?*,Tp34o=#<G7)6,c5+aX1wz'5tR&#M67uy#K.bT.QwNkYtYwiY,`&)WfX6X&m6q.bF^9)NyLY~_5GNRPXlO~~W57DlR+%adi~Zv&y|
$jKv#7o~G4ZJ${(k`'f+8#0LqD:$=X+vm)mkqW:!W=2KXrZ?sHJR>p%;K&O+5PWPsxz{hK>!7n*42ew]F!un%sXA$mb/ZZ;.4h}`Ky&tW;5C!r<q^Mn1_52u`~7`eghnT&Z&Hgf!7B{?>1OfppQ,#]
c*p'~a9S}tqG=Oj(kxq>rySXu.I8|[Nak%Hk4TylL(!.zGQ<07IvU'f[VNmxv%me;Hx}+^]/)z&Ya!t7.RUKVBM+r^PR`{U9Ax);.hiZi9O0C};YMGxNB;k~g`gYf`7&=t.9[}<c2DJR*uwWEbeE=2
G>ESMNDhyUh/`rNt4vZq|jH<lK:JAJfvFZ4)0IXaxnmK%:;^)bp9*r/X]cOq?lA^nZ,'^KferG0w;2m^,ywY3K0'y+jl(kpim'TXhK[P0s_I$}K;`'H=9yulnZCzy1xIhPP#5A:Z)Ba;#6xW|o'?O]
1c&6r0Zrsk>p[SO+o+ajhgtIK?tr4C_({h+:MJ|<P.B/=dyBVe`,H#]gk~7mW:;,FpyTv><7(G]J~OqRV64Fy[0P!Z/,4)$wNv.kxMIkB3&HOB#qr`0+.HwA^sX4nnBPwH0SR0>OolMFcKlPVoCQ6e
)B]XYLf3,0,Iy>hT{DH;6J/jXA,`N=g2p4z!mWhgh$YRV!ln/VWiD0,$+|v]axf<*>W>i&M7YM!g>?d|cZ&1_mjU:Qf![A+,#<(>DZz|)W|8ym52bviQ2s:WynEaN_xE^D['uWS/|}>gUSaNLc;BUc
DGaP~()j?]hS4BG1W,3#j>c2FJ5?Q)GS6IybI1D3xMRqwFD>xBm^7Iy/!QjvzXz(s;.NbWxx*tsD?2xlNH3p[+~:dp:Pr=!__*)TTp{:lF%qtbdW>/,9^|v+ubCAh3poo!l=dUg_wWN}LL]uBNZI)6
*`bA/)_X_Pd,oCM6i38|BY0+UE)&(naRaZJ!h8wS73>VrR}PrHPaqGiyhlp&LxS}yQgHMy]{T6zF)QF+VzRy[&6Ev;*DS<:dYb0k*wmuVB=Tq(!HqY;a+`2&g5QK2(0eVV'T4;orYUXif)YM{t.oIZ
#;,F/Gbg*;~<8>=y#vm9Qr4kv`P/([ATx70+hPBhb9:VI:tk&}IhcK)+'Ox1!j`fE{'W_7><X{$Tr*bqj(X6Z~/~G<u#|:xu6;#{qSm(0_n+a=dJXB|rv4_x.<,~DrrSLN?J{3e!u|6nnnRFpv3=`K
GjBYr*VO}&kskMxN!*%#rW)z1D[4=)smvGc^:a{?bhWL_9E!4|$VbSYk&vq.*|BV4|3F;C1LlV>!pU~J/qk'mb'y%t$Pzm>k_of_vl>&='nyu)1%_q;![w7mjbwzHg85cXtw!>bIm>&U}tP]}auW.3
_LVt*S)k+Is&K5c`XG2Q[KKhUVC^=hROi*ZLul%.Eyo*fXa]hjnFNRRUOQI1d~*oNGmjlZrjejC(]p1+^zjmMnuLzhufQ4s}/t1RwDqf/4'q(Pj,Y>WMi}y/;b}N1~2d;kdzu{KO<t8d,^uT!]UwfC
4fxHvx=We]jALG.FX2Z$FC/>;Wu[zOx*jn/`B=zN9apzqg$n6XR66ybB'8qvtBW}HQnPL5]M99D+g]R%=zbP8t?gLIrE3^%HG0N*X>;Oq07QE`n5CT}B5XT7y3qWmew7P):fK>h}16UMGD>7<De<Gq
op2**TjUmy=7}TPn&B7jJ.&2=mm[*P8Qg_=;i<6T,/>jdb4t.M9Q6K}5g&/[;rqTeU)J;sP*tu%LQ)xRxf1E5_<l}!aB.P$7Gq|Ub7IuP2P50Gi4ifzn|,lgK5O<:wyeta%r!q55GnPU,v';;HDtBm
Wbr5I9u}Rg]^B%Jt<8,>i=[]oOk&`v6c<GAYbsW8AFe'eD}_|>&ai=SiH5,pxX1fq}3i}E?:Gh|{9Smwc_}Wr[)*W`A$c?.($n~>$2I{dN,pO`fZXR.w|V.gdz.piqep8tXq$7sOLm1x?eOfCY9$>6
}VJx}zN>n;.(!lk[v0eO1f{Uxw8+fe9}_%`vNDk*J0e<>m*1?rH{?}Vt$3F5],/)|$&~CmpkynTWu0%aX{K].d&eck7c7.:,7H?J3!8^93x7O|f.<!rBT>cg,)l%{#z`Hf0bubPI`!G<9~e0bWTnR0
m/ZEcS?.'M}CQwg(*$]2^_<5MEhvL!F]krON=Q92Es0^oU#1z}ED;[|[XN*$%/(.#/`:R!dl9%?TC0lNf(>w0Rfzh3jZc*.v(ID3X.F&|/Ocj;!<[pf^;;7u(R'ANmxJxfTVbwJdXzx#boK8_pA|eB
OQ(<!d(Ab#cf}nO+%5>G/}6rS8;E_v.S.(waKUX'l1M:,lWuhu*u}*34+JmB2|$p&`A<BqPRNmmT%,HwwCF|#uQkfvYJAyJpu|j;e*N3Fez]m`j+_jfe0;KU!i)7eGMnnD3r>JPP5ZN4NE:=t8*liB
24{VivV]Ds|xa'K+l`/PqJF/h!^y$FP?P78~Ad#S4Gl_c1.;S_gXBviB`7wAi7]o<aYhtP3bFuE$/(Y<L{WpR:1wr%wSv'2_2}!se7&R2Qvdq/,KL8D3/q{OZU1LwJyYdp9n#vc8)[iGKOTl#``R7`
AKC%s!$1q28TgM{2A~ve:WY;N2=+*1m?'n3m1;CAZ,ctEByv5Iv+Zm[w`F/l5x'Xo#WxXKw'DQ)nvf!p(Y0;qlts[)hUkVfMj/|}4XCr(~Mn]}I1(NJ>%j~a=lqV0H{B;.|pG7uWd5aLSTh6yHP710
En_4Jgtf3w$JrfEO6lw}LHY=xCy54pm^7V8+/gN'Ave[_tmYU&=:>6^,BF]Jr;y,FH+PS,y+JO'w_VB~1wN8lAG</K[Dafy<I.b}F7up>{,#7#r>h[Te(b0;v#`qoG&^?Uq&7d)t>r9IFuKhb=Tv_s
+lCnks?|3fhATG9B8N$~IDr$9}ths|n'%fGKD0FIL]:Q?/yUyxnt8'c#]^=PqE[1DF~I,',T<C/XS!z>$j1KWp<0&unckid$Kim6CHiN*6jBp/kgh*C5R4F#9&bchH#NLf?iu9UQB#n]Vbjhd8NQa?
HM8+kSD:HB4}xi)T:Oh$7Q5F=*Xh.},`<&~2jOd2+lgh='*?/&[wt0E8]VlI|/ca5A_U_y^CtyvOV*Z7r9sLZ>G2m~t?64L,X[?*{YA)rL6CzxMz0w3q4(SI[,?>DNAi:&6(Wty%N_.bU5Haw|<'qP
4N~Z&Geu,pd;jzPcDZ+/e_GC3^{Z;#R^3;f|x;vl~zEOF#>#TbI5f'JyvEu6M1%[pQp3D>qjprx?M)Ek(?h}PDqa%W1oG:QDu;8EPN)r*6e:}o/R4l=Nzg6bvO1ZsA{/ut:xX(FA3TMF*s/Xk%<}4M
oN|u*=`X<Fl0yz~N:KV_KDyMF<YZ1m4Jgn2y!:PO,/LmxAPMIea|eWU#WMWqjqmq,}7s'>;^xg(w21?0i|lUV_Hhk]]IAYCK(N7?)4!xd(o][C(le75!2Ai+O;Mnx6|2W7+B?RgjaP!m!|z.+dDbYk
rxzq5_6rbxtvVkO%WI[%jgDn91rrRMD>X%(erU*M33W;h:~at*j09x3MYJLSB&Cu;^`t`#gV%6Qg%hg}:M)*'Xr#mR|w=T^}Wn&Zt%6Mg^u$0E7aS|e/|VeC)>lVDw!m{+VU,GBeExOs?y>Q(Tj$34
.dThn_~?pn|o|S8?b0EoC8ABBrr5*ULx3>g<Rx#`0j|UxXe2wpein!i77}rUgkvpN9M*&M1|LJ24%2u19H7NAJ?0i_I$?o/pYPo1Lc/SF4cZZIes[PSPwwX0wGOcCr)$=&DA9G+gk&TeB2^%nJ)P`|
LVKw0^+~}lLtVdIUHv7Imq}q<dUQ}p5JzTF6x<vl*f+S([]YH%h:U.vT8[=%Bi=gl.9!GHy}ZedEoXA?anBP,Lx~kxmH6&g,]O&Brv|<F`Y3waStOZIL5LX/Sho(j[a6~c`;mAzOxf$oae79_,Xq*O
H*~AyK'MF,GU~W$&PUM&>aN)*c7h%I]I#)K]&6xIDO,9f/I0?8T88DC>$R4_w=IdeF*4MK*M1`l)FAI%Csxv7l6k$g5yx[=p]>z4]k_r99dJG;+}E#H^}<IdecUa44f_i~PK_wio>G$(cah:Ty6`,Q
9]k`^2qA;l|2K<GYzy`.M,BW6C;0HWb<C=XrmWx<|uXmRR$a]W7[=$O[(tv!U(qRyz2XLc~rqDb>ZQA~sA9=Wa76z|G8J59*F]^[c./rS'wAp[qt+o%B&>if8=jUZQ6Sqo~xv*z4Z5/4fxo;pz^xO5
Kq>)1A/)`$hgM$FUq%OALV6Flw[!(/T:pnx/9HdG/M=CcE$9;NER=1a%,/!jcERA<%xxb{nJ)?c0}]O7w^qjp*^mw9=:=ezA1,u~=C^tO&u661XIKrXN$:zye#c(cQ:X(],RX,0Do>0DXk%Di;|<R9
.92hd?,4KBD%z(4nbLuSkuip.QwP#n}SKmi=Kj;4/jx!'(Lu^:#.8hA%}jMAUfJyxEX^Zxsu|t2eGhh^g*+dsU$])`>I3HZUa*+P)1cel(&U+,X~enAscaX$?Q6UX~z;ihWuR:#w9SK#<F.Xg~1.jG
VIrrgnQm]>:~Hl>5R[NW5T+HX>f1TAWbKxQj>^u!;[GXxfTB;e=B9,#e3Gh(:]zUQSu0kpNVoBKA7ys^V)GA/N#nkV7#I+{G<oci=R4BcoaSqdgQ2Zy')xfQxyLM^qCHy~MLEJYZg_KMPlcU3y:YV9
X^viYZF0e,WQ3QA,e[U<oI[|dB3e?Ltx*L+WMAPrM(Y/31a%ubw~DeJsp<Sy73k|B8rbTg9f2AKF#[P_S1SHbV?QGCb>)T$Ajo9<`:[Wwfx_v^g7BO*m{`~+yvT;ZJ)Bd#d=o60ls^<FxK{t>ES7bL
+hFL3H7zJ9cFfa.ZjrZ69?Z:7NMaM8^N'v]S5Y5?1}F6,m;!lF'uEREAN=idHxB0y8>:;B_)K[dim>5g'Yl'itX$]Dsb.=oIXnYI{y~kIO;XLWPCC{~ul}'s1&k$PXL^08Ez$Y6tV0iwIFgX?,=fsr
`zokFP=4aL[!,2s>kNz_4ee![jI/:P.Zfk~GQFMS;~M;e_l6iB$t.=^}4I5`?H/?2~AwB$&Al|:U,3~VcPKkzt,l`}UZ[ilVjS*=*Y%uvRVaJ4A}4n8,W5dd5HG(n{eABh`(~+PlfhU*K+X]1VTEw>
cQ5FI=<d49eZ5NFb>KjDgMd<UaoIQY9U<DdP|';Tf]]lmI<C=;I7w&i[Z%.WH{yl$G4+W$/_#u#g~A?H+uZ=_vg|#t]b)10=ZWn+Xk|tkm,9[I2_qz>i*XTL$;|s5Y+_9%.ovg<}{AZ6O(GP<|bV|:
>nA)g]!lDlmR$qo*caV^$m`p{tD(<E<wdN)royZ]9IGbomoD^`Eu:VCNc^<fp>Ilzw|*fS;20cYw3}C&pc4W_W26=Eqq>s#J]B]J|UFC$[#%]j5W}R6$vBYLVF/xhVvpbwUh_qqIi<6s6#ZXyuOG1v
0qW;~*5pQTa}iEYCfm6/5ZL:nW}meU/S3?JOTCu4qQN!PO/17,TXXSb_a7E;tP'r!h<f)bmSkKTkwjIY;pAKu)*akd0GmrzO=mG$N}I7#U[Pa[wF5uD2?5Hep^g:Tm0YH0w`i.$'F}t{w2hm&jAcJ:
;kxtvgT0mMXb;(mdL,j%QMHdf6PD}Y#LEDlI3`R=E=[`,eLZ.XtxAmGAPieoITG8PWxX<Z%L,$>S4dMohUkuuBcVx^d$Xp_:CcN90VZY&v1mtw6.a{7+QZf+^tfU1vyt92*J+N5{rO[':~n=J$3vQE
SIHlh=_>xP/]>W|Vlv^N%7]X_9^3%pc^DH~Ej[!`Ft=iY#)U*SfmOniU.EC%OsSnatUd9({&+8{C{tWbGUE{`gSX5nK0M{F^DD_uu:ogiTX)]aeN/S`|G+5S}&_jEG*IiCHIxr.>e6s5p[O5y,$NV]
U?U5<bZA`<d(MB<iT0c_z&77y],W>kEX(5~P)YR!N9ESQaij7/^3uyL+(j]dKe~9$m%OUfxB7MEnKp&;Gc,*2VQ9'TD=.8(*:TEghE_pLwP;&o4WG;?A9Cq?.xqKzd{69xY.]dA^zO`Fj,gqME_lF&
YG<Z,{lUfNV'YX,oYXWIupR1N*Y,W>3~S}7vtpJn7m)Hd7zLFuEJwY'`E.K=(n}|uQoM9OT[!q:cbFIDRhw'eY4Ij53av[(<)5pXrEET*'kPl^4+jK;>d[KIP3A)'.EwQh(d8pH&pEcUFd#'a11117
WPQ1qzi+8T;erdE?X,Z|h9ov'Py_?ZZr&mL7l#OF8cQgjpUpx=R:!xg,n]~3_c`'#F0:kttVi9lOfnn>)BU3Gn.DVExkvM9[>6w_>N.%(6OrrxU/T<)4}nOAb;Xw`rQAO8A>&x]/<77C#Y<j:m8NSj
'K,OXycCtj)!/MAKhhYt`Ie6a%.{!0&Q%*g:B!Ymj4M~*#bc856_#~R?[{wZFLeEmYxN~?qwm_~zVHa($PU'{fce(sFrV)03~Nfj#YxDK;dFKB,dS)eftqVPbl=)^ns5+^Ip4Gt.9Iv?$68]Kj9|)+
Ngp)!)h6a6MpM2jWbi{L*HqmZ4wd~OD?s[i?kA6?LL=jt:MOpQ:Eq!HuQ]HJ('vt})yMq'I,^Et}=Ke/Mb|.Y&+eZA_s}`8o>FuH&K0P:y{zQB6M6w51OYq;Rz}_&q6/E;]blOm0OU{*(W?[_:_~M:
>k_anL^AK=]SBu}+`s*.156VL%SA:)U|yWJ}7cbv[lf,X>.Xn$b7S_E,Uo;O)4l|p#M&e9A'_+f|916OoP9pv}{zq%f_5h)E,$CL$f0?F|T4*~y;gjg4}YOcdu607CW4:zgg;b`A)ARh2=V_2=1__%
X?+)c<ZHVXi$m/it?{f7=].vse+D~([kh+FjA#(3W;FNVwDr49Z'SgQo~<kTck?mBq:Y0nU#gLgb^{4J?Id=xcLb,;R^*1dW*K}pN{Ctzt<hs%S|vNce/nbCLI+PJwKodJ}w|jx(K1^E&J1oM$C4;f
7SUEt+<;(xGXpF%C#*#sLh!4~Jv|R&ItcMmmg`;BGSc6>/W]K8lJ2u54G/cR;]HHkmxpTtf6J'E+Rq;7_3|Zd~QW*,BlaZf{Si?%4gVb/m6kf6tY~DWh>aX,q;:#$N{R2=W8^Z_PDQGGE>vm$PZVVy
GB}$*5Z+hI=,VL{eU[KamrYe1J705=4OD|J.CkyEOL{xc.bdEasU<|z}[hr~9S<M;>T:v~^k55c$mjZChrQ6.oY{#mj/Fd#!Mxz!?51<VIBfo`dJMALwi.doW<jVg?6#y+_3MV)XO7<cw:mI;|bBs;
w5mb^A`>k!+Z)a[KImV4Ka;la.p;],%2q#kT$SR|=vr4(7llG[{fmAF^CS<=IdD(j(+K]>{,=^oe!aG2m)?jP[vgg<~5ZPzL:73EnV*'!!Tkv)/`.P`W)k;}a>[{1gJGWfKJ;Bq$I>m}kW4}<u/TPg
'+e|^`Pw,a!cMFho.<e.:41>z8Snj`,a,4I|G#D#[~&(5C)zR0[kws&k6[aXZEjJ.E}Zc(dFJ.O?NJb>$YKC[msnH/cMnK`?G4s)dx6!i#*D4G(k<WT$C%BQOyvJ,syURxHi]J,;ripade:#PCjekE
}VOQ_n~y1yehYt*z'XPXE)Bxc7(<.<JkryI^1/!/8Cl'9tp1O1|EGQRqs1eG6)Weyc0G$oX}$Sw;!DSPAs9d8hx&XZ01jh&<>iT})#?mUPHJJ$,Rl{s=&C=qoN#e;al!qTJqdiy4htF7gcwrin'j]0
1%oSG9c~{3Z<0p5<kr?1WE7{,;%%^Di[..L4*m^4ysr=G~nV?VL0BNN=>iqpN3&F8ZDK:3460[=[z*o=o%znk+Ys,?SDl+CbNTsBdzA3y2l;'V~I*UWe0|GqZ.''qLOy]gn%JB3$oXNXA/zLW|OwEU
Vocf+x29tqn>U(KWv;*>~|)[5.sJ5ve'Jd};Fe=2}0Yesm6{,IyiFonm#uy];4+Y<zx%O1rSlu/pXh&lBf1Hm;[8}y3kA&xloB32B7+qjYsxO>rq>;gTLneekd]y2h70rE9Rr96X.t`,5o&Wt7Vle<
&OrnvpQ(W=TDd/>OEQ=;>Ng_dwpX1v(>W]*?mYJOC35M(Z{dc>S_t|;2CEn~=.1GOze.JOUoWgz3X53a`!xXtvVX$O{s4nQk.`dYTd3pWm.Jq8W1'[Ua{&`0s|ly220wBo?B.B:H_ab8,eWL3s]A~,
6gck~rH!S<d0xFXMj8AZZpz#Nb!H`cV:;E'/K#]0`MiqVz8`t+PR^lBvDfL9hKxF/JVsT3=io$6P!%NFfelge|CC~76RDYvKTxNj96g/w<Zo;S.gh#9a`eNH,[#>5j31mHfGJ9}M_2LQqiDMv'+:G1
Y31/ObH07]y%7f_,37c>SA)Yf9L6.ZIVjq:{DNjJB^7aDh$2>/$PK;m!H[WLGp[ya(obcrN7B*8!`cavF:u}S;VKpDKuL^ADVnVN>]gD8#KG|E5FOw~cE3yWd}j;xQ0#vg4]N8vHSg<~i?TWUuZ*0q
E9s;<,1hFz]DK+o]Lmh|9mQ+&]yC*f30Y]k^2Qs^|PN4ucz]e#Xf]Z+IahKZ(Q_%`WfQM^37/JWKk>(lRN<rshcc/p*R+?Pb+`vPsT9T3eWml7WWlqBI2N=#7aYm`b]ace!LoWz:X<8qs7J`lxO>.g
'ma:+uxDGAN:ugQ_}f>8x$zwvEyrhr(wD1[H6HF#XJgoCTaC[?ec#g>dL+_:*E!!0:pj&_nETea{3TGZ~m8HLw;u79b[By]c{K4)x7^'HCYR+yzqM(]{I;?q&8pt*XI|?,NxnivjhO4Y#R3U'8PIt`
LtIb{4X[4f#Qn1iz|JGiM/Yd1j,L]jqbPq<f/3X8;nSZ>F6OKwdNvt=<xv:piY#ODBY3!vdDT?u3$M8)mhS4g26n(.H`rG1VC60h`rBOSHImKrt[bPq2!h$Sq#[1yLkN?q!zsHH+FRh/5^d$cTrbFC
Y+H'0z3`Os)RV]co$CJx:kEvAbIUpnx~MxfEL+nIV|U9uxhZ2nYxQ;=4(AA4cH58r5;FGd<jpA}ebnyA+):=!huk&D`R+f,NA9QW:UF4x$+7r,H2A'tT0X%^0?pnzfaMOa#&g7]+pBaHrlo{Q5*d+,
7H[Gs})cIv&AcMetO7[XFEHkuX<H`|OiJV$iLoWFBYi}n[`U{_D0$TG*lCr$y=OP$78f]ViTEF,!{d4Fq>'m[SI?d9);6aN}ja.A.,8=[JDHH;m)oI0Npx&*[198%nM#{LN_jKf1Htq_.fdzNy*f;G
_j=XE;ziSBczp2bgUH[s#vZ#'IUA+K3E3,_80BO:AI!Ge?]&%R<,aBf:d6%i!?$^gB$p*Al;+jfB6nidY|cEfzr)9|av]t!_L}EY?G}ppwkr}hM/:g9Xo5oE5|.xBn`[ujWw~8xV>gW0F{3c&vAtuE
m0|#_R_!]lR)2ro&F4sEoijWb;[`mqWy`V?n/udLq#/&bWB4s,rA9{~;Kt%e)v9RG}D:I8Z]{VKb[8pO2};sa9Gg;.0NAzFBU_1{G!E0_bLj$2}$^!:f1!34yeL4?0Xf6PdeD+qa^:B&'MtdQ7{gX)
D~TY^+jjqXi'Ypu*BLoJE:veh^HC'EcYKMGY<.TaLk{/1TgXm{oC_VmP.FcE~c+T(7WQV7&RAa[2l}4hZ3js,|5/0h2^SN&G`iIs2d,U*Py22Ob/WW&RM:Vr?Z|N5bUE/U<N39q47'+385To%/37%h
eowF#~/j1tb=.^wI/'nw/ST*>(82Yvyg?wps[|xw4R!f`P!x3)FJFA|]B?('I!gty~^iu]U~Y>Rbidf~#sYf1rw^ERpM6obcHMaNAlUl`^?ef_3(Cn?wtGwHxn=k%}=uNy%DHNhq;=D5|uGLR,<i?z
j(Yj/k|m/]ET0`j~HmRqXsVDWj],f[1A]pB_fRMPGqC<g&ke;M|9Gqs(UKv|I(pQEiE>C]Zhjj1u3cz[LDC+SkJs}%l{TIXQ,(?X3aqqd,!6R,a6$:}ZDT[p7+l'$r84aCS7CF~I8gPwaUB&xG)IA*
0JI%42lAkJ;ij&:kZ+4K]0=^8Z%k~_Rui/z$jb'YZ6t'[a.4?T3Ig8EWBrB^xr~F5Lr2d|1>T.Dj#UF4X1dF1J3$ONLH';FLF~!C#;*2XibJ2s)Kap&k5)2w6HMs}%V4]MCr2sglF'/j]ZD#6SK8PP
m)%Q?L0J_d*LGl*JqZky!O(ZwEe.kaS,72kS*nJ4}{^jn/Bq>j4/:H,C#)xuMwS/GvzZZUUB2ukZ%s6YeV?lpEA'|qN]O;x.:`cX[~L_ieXK6HXXf<)D:+/(hCTGAC07o7qZ]<6m0uG2$rqF|hF'Ix
S/EGnR`ZTFEvQ;v[T(_HpJ&`uYrxV'IKVM?m&hlG[n4CrvJ=27AYk#`8B_4pw#fLS'E#bZcOD,dpQcHuHyWuhQsicPSWL(}K*o|vs4v~zgCmJJj$b[b_v4;3WNa=Xu8'SobJ+kAS8<6|Xn`iIyN~s2
<xBQIA|EusG*&jem!aZ]Pk[OjPJ;4FKNP~9LWZ),VcHJIOr5%|JsG~:MZ6#+H7BXuBW5|+Bt#W>7Vv*NbId?tEn1/ksrO=I.|j1As[hLt%4Ve+=FMOFSoBey*{+myjIv?7fbwM`zZe^gA).N7nVBo!
d_'?mls4L+H_gZp|$Lb]Ra'*DZf],Dtg5%Kjfx}[6fd~ojPm_jS.A*Utz0^FopDC53fJSv`<P3;ZI}rOlJ^namW_)nh+Sf}7^m5nc._L]Ii#80TVi+66r=OA:o#&b?;<iOQpru_ABZbbiKvve,{:Ki
c*MqdWoA'[IC5iE5[3w1nHDT<myTTg_Vy>m3*f]Gwh,HvJ#geH/Jaz/BO;eof+QF):'(?9JZQ8`Y{lU2R&`6j]k/JigguSY?wxjxiOb0dH^1qXt>dX/,j0z'rn%}OUSy`DKU'[5|k!j+ja.DE}Zs%c
T#uX+)8E?ZN(.*ae/9zO}7!o]JmEeGxb,M'+83`0BeD;yh}.R42Fty4wM073&_OQ_h?;{43t;]]SS:fD0`$/pP86xv,dbmF^fdx*{D]LE_Gy>X49cZ~eMlK&%&fHwdx];%qn*iviE7bYR&U(zFNUev
4o9cXI!~1j3rYRS{`rlTX43^,q%CBP^wpxL)THl~}b.LRHpf',$(|^(OY_vD(R}aCZiim2[RW,C1%UuronTK^,aZfT0>=;}SeiYWhT2;azra8pUyk.+kI2n%*'viQtB}fWl0(red.u86fL&R!Pt,XA
9lmpe9*}ydWh2Ca0;m:`g.m5Y0l]~J~Yx)ytLzCJhQAYruAp[(6.l$RE*BAC[j#:tsDb,?},.;6W.>&!Y$40)s8r]mo8&y7Qktna|B{H|+U%yJI5#dD:VsDo!zh9QFM,,S&5Q&)cYqjw/B%xXB6gAV
jK+CyQ5.rV]wY>=<0&v.;P5x|=`5!<#sxq7b4{[Mx<#%C*`0/#>r9&(aX'IVd5EX+l*n$ys<W:Ub3pQb7|VById4'I[s;)n}G?`U|0G2j)3J<iE&/8){UdG0{'mJLF9e25SY7;PUUct'8k#+$:!CSV
NSn[l[lyn17VG'B:DS#]0}'bOoaV3k|/_~&X8%PWfj;r62c0&xAzmZDy}QEPh2<IrVE5E;Nq6l~<^~QQ5p?siX}'BR$p5et,chBrDENWk'QJN%GCXsU^8=vg,l~~wDpEj|ly4_yn[4EcsYyric9#(F
`>u'2,;Pm*E*h&]JCtU?Qn~kj^*zT%xDD_nOq!EdO>8umAz70GQmkIm0RGPRk:UBrpDa2zk:FLWyeiv33u0^8E]y~kO0siTk7nT~,|.w!/!7~EEG>sFR5XLicBB5/yA3{=:LV4s{ubvR;Kd~`fgzPk
vz`K+8K1<WImN(yO+|e[yuMo^<wBxb;ZCGX_,921E)b},BE,qN7d%pTba_4vQ|Rx799`D!QhN~j*8k=8?k.6;Dhsx%/!G5ypE4A9od;26Sv53fCP06dahhfwM'2ZNG)*<f<(~z=hdf8H|}KDq.5H,}
[E7>.UIeL(IWX4d4DLwVt~%;W|m6Ri[HCWdppP[Uyj:hFdj2|!C{AI3*2wwW`WuA28}8n&sCC:(8T[d`^|xx^ONo#O'SL2NWik~t%!97ApSe)Wv%3PKAWJJk^[ikLqPnn^24whnL_0pl!9%x+~)M>k
Y`O_UqbW1RTg$]LNc9piVB*0b8mDe{DSC0j+hy45?cAi}mhj[F[_b=f,Fhhd`7)k((<6l$6wzf|Ceu|p]^/y0jc{<pRB3K3'+$i^<X/L){Yfr?1ZKcd>3cRiS`8g+.vGTu7I5~?8ro9P5d?mnT*4G4
G#|9%XcvX8Qy8W27co2;NxRI$bfy3=^Vj48^VKsDR/?2)QwM%h7efi}C0oqDFy)G3XIsns/hmx:MUV1{<pB#n~zGb'S4V8=ONg6*<y$niaq,$t1{f+D6md`uf.o`(.RtXp=$+IH%a}Rek{R6T7o=G+
k6{A./WQgo<B,39G>rr3r.!31}ds{P|2M%xf~Su|TYvNd<gHe^m1sSOI6V+^~8SA)>/.:pbo;{,6.4zyNIdX$0ZyT3r#7}QGHC<?S?j;1!Tz~qTDW!>%UjWmNp~kv!#h[)^&3<Qn4LA}vZp0{wt^nS
9#yx]b:R8RVOJ'7+9S6p_GW?}VSXjj5f<6S^nM>u^,c[a_(w3^nC70)yCRf[c?$Ln)Xc~+{Mcp53b>QJvP0^h?_v]t?fH;}7J[j%=]#ia{`(eFGUQ+1JR#uh69p,+JrDA$=x/W9p3s.p~pg!Sb.~!Z
BWf>D0y;^5Smc*Alt&>En7np_!tLPB&KWw'[DRmM_^CH>YHogSNTQLm)ll&a~nCXaN_7,};w']rs^smo(?a7lUZ]xDw&KCm;rGOtPln]C%C+CO^Kcs|v4`*nv?KmRa?Dq%R2HoNgM^OP_P3k,wB,`M
(>t}j!AuLp2pH:0mm}OJPUuy.rBNd$?2S[liXxwINLffa[aE0}YdsFanETt1%9%u+4P6FbWH`.0ICOMHVK6|m}/>^&X4UdFDAO>5TUT?}}!<$3e3Okz~p/WvkEvu_5$9jW,p:uZ*Dpp7IAq`^4FB]0
xyojrym*joNHEKi.n`pZ?fLdX*m2^8onDSPVDFH`c97#76sQ{N_oy:WJ&6~h^`1W3S3EtwYe_T2l10$3G4(rX`z+T&jZOJ|S#>HzZxjz!~FyG!g1^/CI%IKbU+N0*$%89EHj}0K(=w5*BvdIBZUXH.
.M9oU6AGd2Y]`!?z>fz`f*!YL.^$2L)d}O^hWa80nbRCn((O5OCJ8QnS6NSIbkIqHbn`LDuR^b+VCs5|>b_nu%;ozUu?pE=?~0L]0dv)U4A]%!}n2#:n_v>m#{>^Om.frmQnuwAK9R`'o'*3#&ITE4
^'=PrIC)+odmfg(wJNvZLjQ&3AfXW(lZEnuVC3fK(T**%&_ef^zf|2L,^u[*hO;1s,JVYjM<0s0_|=tZIB_A^x&X05^Can#7y$7jx_>m0Fb5{u6KT[V.fQ>*#duo$SZ6DPqS61foNqsneh8HqwsH%V
k#wXfp?jTarJMPboT}=I=L.k=yr/W4V~miB+Tg|:gU(Qeiv6eCQ>/?W}.'A~,'G9xEY8}uwJhWOuyhw7^Xms[<vBvU{4UH1T$?;'!#&{~%50u.jV6ITS9D$.4%U,wo~!Uqqlr/w'q?p/tIS/fh{2~!
!1Y<J;8:j'Dn:iP$KfE`pdHA]l%y:NXBx3Y~U%zL8C.6{V1&cFMbQ6/rdl_X+}_5v]#S=Ds~:(`u#,z9$ibi#83pyKCO!F:C}/YMo+YQLl'1,njkOjAh2Fx1*^2eW*Ec!rXPZDbDSs0ZzKK?_]])XL
:2Z5WVT|q88em73VW'P#CtaZb&aUb6KTr(mBR);Zl#dk9?,QL;od#9+Gg/52[YdG1>>PdQw9jCq~^;6Lkj]lvOBi&|zzVzXt8'3h3J9frdAxK^6k&(Vt2TFE<XvXv|G4rfG{!p5b]D=pA9DRG9`$y&
v+W4L5dZ5|VG#~8$~mImsk=gsBLh/BhUZJOGdH|y%~+!?'(q8/%TOO!PQ_m?oP`s~.Bk4c<P4i':QVhW5r?GO/w#/ivJIPzSb+3!_x0cTh01GJHh/O:Qv'7.2v1HvjGoaoX<(FCYs`z~qwt<{TMPkD
K6vj0Wf2?[X4:2,gsK=?$ArNG7}VZ1E]lL%jVwz}^uf,+=$`MD5mT2pd5OTFac/Xng.=;ta=9u?PSx8Dnri?y.[R5yYK&#GoqD7Z3xk[|8YbM1tLv%C#N;;pcAVgQsC'yHjNRC64j/l7_q;BG;ft,M
|}46,I5q,?ojX8Q_sFApD{HhnH>m4?_=f]&DyBlb{Kq:+X'+Z2b<1OQ'iZ=>twt1$PU;1UoPTX[CO!RXmJQRWF&o%X]?fx)e(s83jn,J!nl]mV<tq#[o6XBA!jN!T4.qqf4mEhvPFJ{d]!5v.lV/B(
N{vY+knTb/<)tSZ4+mg=?>:X9n0?WXVc>l**25o~5L6(2{B',JPIlVwwb%[`_/:oS,[#p+.y(h4&kTxV2SarX+w>MpIT?~f/i6EsYnN.4q%h`rBC{LlO4}[P||YLp)$3]>oRJS?L+8k;+?}`SHqQCa
}8kTde&L&uPN(K>E%'k1RJnsrFF<[f}fJ_SgXBY)Qug$k^0HewYbGlpxI<9|.g}t<xj?TP==]1joJ,=dM[rOSw*m9RAE3$$I)r:>aeJ;]Sny;#KmYdpfidZ/Gj~Z46VQD6U+XiO!>,Edl!LJ)l?pdO
H};qhp+V~i`D%9I$q((E%dt15[ho=~u0[&W`?:Yq/z5_XM$*QpmlD]^(9lattZ=oCT<?OKq~.NW1ql.5WbD5Ym*ydYzOJZw2RYN~678bf8N=`1M+7C;ixFC<jXjv/VpLFW&!'xu{.mVX/gJ{9~Zy+]
+&tRI2mHv|yp+W<RfT?aPg#E2Mg6&1jDg##+?`o2:bzMI#>.P&+KmCU(aR6VW>[4sI39qG2/3.0b#d+'ozr+P*t_<zvS72&,f*pI(_5l#rl}2!HPJ)7n$E9Y.q'ngT?8H4bHu;/oGIpwn:W}#ND9oN
xzOiF?QTj[`W6.G.!l5%2:%&xZA/!W$6awq^C43XJIq4lex]Nuf8j{LfFU2E&C=hhPfDR9[FYt^GAA+~Vm7[>k_RY%{bN}:vhk&t#9nuFNyyI0{]S5$8A)L%a#JX(PMnAuqfIu|0P]EOb4fh.0R3B{
/S2nEa[~S&*TUMt}cDPPy=f$,VKpY/L!S1&fWbYSQ<Lipv(XTw_mhfNvOmFJ!Y1!P!Vp7ec=H;;9du*VrTe>G3Q8Gl&lk3tPY[BL<s_aS}i7'L=~~FeXR5j.L=&I9hY_d%Vgg9Fc$%50=TWPFebf)O
n1lQaBS!l!?C|DSD]8}wq~[J[Mohq37m$/mlvVonY[Jc%8p/SmT+{Rhd<z{Lanaq5?~%31[}j:)dNJW&1oE)JA;ZgEae/7Kl!^U4dX.#TLf`cH'itujQ!E><iU`}SpL#[:?QY5h.FG?,'~7LcfTj/*
b::tzT}brHl_LzCOl0}S(kl%Ogv#&,?)kprNhKw4:'jE!q3Nq!)]iZc?Gcv]JyD2rd((`4tIZ9j=q%R,m/|gs*y}V&iKqXf+pblam}6Zetz8lhNGwjO}I%k~e%BZG?~<+IBnW&T_G*l]0s3=Hf)6uf
t4j#9&T7;7;V2j|EwI0/[TO,U~zHZME<^X2R{=UV2dxHb:Q%2L/Q5l`+T6jc0z^4?RH8<!AC9G6hk!yI]:jWw+[W4Zu2*M?Hm9BY_U{:3lNFPl1scIjnUS4u6h+N356<!WWZ^uD5,{JvLdE*qfMsvn
,I0U,MsNk_=rU5|K3'uq=^$$5YNSQ[^&rtRGsOCqqUOAJjatPa{hwb0lf?7|2`eLv>g*<h6M~AgFC:uanx1Dq}CY>I|2o,H?.$Zox~G%k{o}!!5%yYx_qikB`d2=>fR:kP~F605GSkU(X#q<O9v`Y9
*+TChc8`]1y#&BYE%URK]I,SZ<IHQ)'j8'$M?fBdENYuuUc$*.:H;l~TZs>mUWrb:=no?>9D;($v#'ow'AX.0/Fd3MC'Cqg=[p1yBnO}2xXsLg54,)N*7zs^`al6!s&$>zPEs'GXHvYLY$VL%YVdsY
B}_yjM{l6CS;>_kGo|39wpHrgs`B?cz(9dH;aY)2&xb~^Yx4Ii71!jh4t>c<|TyjV}:NB>=zjAf5mz]Rz,mw8+?W*12u;kW$g7!X{h.4MFI}k3q}S]X_aT$=ifdKvvDdQYi8]8=VGROyfS.F+6`G18
aP{+>^5xt$l<aX/T:Wo5ykRB%^Q'r*Z[uow0fo=LYuKKzvQEZx.c:%/sCv.>FvD'cLYb^8dUzwZn0.,o7urnpDZ!lqI(S=ZG~^yr:J(Tp2?OpAkwg]We}fR#}$]/zl?rVp/hY&W2eyoq]3yQN`go!l
dMbxL|CQhFtOu38jyk|x,dma[*]5/%fS0:8%A&TcrBb!8>V~{D,i)jNaP+b6F3%]P4>~qc2CD~T1qkz8=lY,m,jhMs6A94~|mND.S[CHtQBA_![KrrP|>bh|8=p[M*pXoLq%Jdh*v'L{<$oy8,T`^)
El)<O<7jfxJiQ(.{^Q5[fq}KQOMPF{Q:a*7PjNffnR#vDBx8jLzbS]/|BB,K!{%8DuTxpOPS/V5%t`XNy{8N'_uY3Fg18>xaA[f=,vnZZIMp+H0S'OZ](C)dm?q^fVnj!}VdX'!mqO1y#RP(*aIXeu
n~u>#SIM,Fnb4DXMyBIV:v}sc5U;QG,CP]~Ui|nG`YR'?'B/t;r'lOaLw^y&h8]|`;BEr76(GFq4QZY0uK,4;V>&K?.F(4^^;!l<=9|J6t:q+7kdDE>e%(?ZO!s3nmN}7J3G!6P}MR~f^XYGiczUZ1
$MwvH6+bInO$B&f10xvE9Sa:H?d1O_a7D8E+l~DzD!Exulg#us8wZ|BukibG}P?3~4Y8pG?~43.F/L)i%e6bcjf4*0'EukXymxeMs=hx2H!p<wJAb}2at2%+AkaI+byh!|9[}sN~PTHHw#d:qj:L//
5G^|#rMLlVr3zkIfqVu*x7y+k(CdMu!xVE`cy_yJ5!;*/;l<wz6Au{)KTPBq%0?SycdpJO]k?lz3D9w$9x/;Tu<d#:ScfcsosP8cXjtpgalG|,IrRohq:2]v+S#Iyi`cn[*Y,$y0}E(]^RIjewG(93
Hiw5+kE*Qiy5fJSrAir>f4$SI{p{8a2/Fr*g=S]RmR%TnzLS+p{ZsEyY!(pqA#]m4du.4TpnuKcq:..7:+$tuKDM0>(I+DW[zE]$PxGEdOPFi,r9BT#=g>qS&k>3]'sE!PckuYwe[(bY,580%]};n'
,S%IM/uy?bpB;QY.$6TiY_]Q+P1XvZ|l^^_ABx>yo]g]^8NLg{>1|%0gB&}$L|Wyp3JRT7Q1&V8sxT<gS1ErfK`UI8:]s#VJb.SW=)j^<vc:._u,&2Umdi^J&|`(fJNtbU.EHUotqG}upDE|tZHeV>
~)_8g]R'PAN$x3^VVQ^F+L1?hYZXyP:KNjefu:JLPxy./ES9Y{&ph*M)L0N(65T6js~nUA,}VFRw8Ij`L*pG9<6lDY&+bdmk^K39bU=,KP%3^Hca_mC{_;K_bc77yY++ni^6RM>><A)?:oQ+()zf*.
=^uMVIm[QSAoIRTX_eJ,:61l5UOW,(1,[mrl}LGrQjfacz7.NJtY0Ps.pgb+NA>T|xEM&A3b!+qcs0Y~/~)}b2:Hqk?E&<|1#EeH}>ZJRj<j]]xempnvlLxr0!%{'Hye}i6*U3!:j/Es~9%;&a(Zap
N)R5uhhq~5AUAygj}YVllxS05yt]SOM~X5yb[ZK?NN(E#INR^X/'`eJV?S8N#YwYjvsiHw%/kzJD]I4%#dhEw%l:QWf`z.YDRU&stPabCDD:t:y/1Y:<:FZF/>>fT9TEj^wA,lfg0N_qPS~(#>ca(H
!_lr_M2Cq,|HaE:V3sBR1N#)DoPyVv{d'|e<Z50E!{3LlhOqF4n2Mw!6_$F6I98c'!SU,Y81IIyh.+^,/+5Dv++'%QI4O4}U^E'V=|Au,eWEq'*z/HEuEsEl0:>1*QCByzV/]/l>G_]Axsz_g,~59B
<s|(.Q*[B,o(U(B_V<E,_I<ZIoQC58*!Gw!:kes|J#bnMf*{x<_.[Pd'(ci#J)!)(8#a?'=n6%+z><'nk(I2DZXu`Hi#vm}7H(ZU33Ej|BA]&Q{`ZXY[ppt+)+h91)kjA3bE^7[,J4a(hU:O=Az78S
^U^_D1so/j^}R723J/Yjs3`O/>3]8ejd[cXo~RBma(>Az2's:<#bapwAMc{lW%SMw2U*.KEi]{&MwrmGKh.Ecr5w?SR,!=6`lz]vMa+ET3^9$tfUMNku&*~<xx&^KtElAgANr{d_rvR|wB=%g]5nR&
O[{9^:bs7n~P9eFb}YkOi,jKkP0'_HzSzBA1bs(R*284t;2(D&A[V6B|.g_TY^cmjqG0PtZ7l_g4|vkM#5EA4gy~ykA5)fdmnQG=)uZfI5&dtNQYQR_Dw)%V3vbF`$YZ?Mxm8vx0RneBwe8H.RS|6?
.lSIc6m+Vhu#`mP~XzX]Rrs6=hR7CL]WdmZrn7en[plq*v3m(X]8(WkWeU<vso,(9pmEn6%tZRFA9b?azN'mU(hViuYfH`KB{,a?{{bIf'WAe^0Q=c+(:yh%0Sq}h9GU6<CEYaxA6THW=?&560j>Pj
qCntiA8ef/ur9C!:?idxDvh:6lT%]N4C0MnF<e*CZ]_]=XEP5/zLPbL7Mc$)o>HNditqIePSuUOC?bxc`yJ^,?3`OyYia:>+D_=Q{AFTM#wFhdd1ZgBupU;j!Tz3MCD<%MMY$d2']m#);4&WbNSPRF
q#AvdN3P6!J2m+=RQ+N'xPXESez<{7ysQu&hJQj(d>gk3.t<j&1+p5_+v~CI!m.aF|6;4`?;Q+y!9=+F|!nA&*:ydsnvHWhI!Wp~py,OuLlSxe|c}/{T06+w1ZDA>H/H[TI??f9EQY0w)8W`<G1hWo
d#>Gy,s{f<`Zi:puXZW;!~;F6rB7S(olN1FvSkp'p3Zu/,F_!5O1g08eT[i(>2ao+hh[GI]rFT~vI}}}&|S$]YJ:{KnH5eh'!Pn|T.WF5m;_$M(TdnT}~Vv4;(NYFedkuoicC.0y*=1Nr:vW$.O5A4
_QEW4/}!Buz(j:K_%N=f>^(dJTBDJ.l/$2]8S++tl9<zb9z_;*oc?K49'uA:'K{'|jKm%G'^Q+LnGVm;~TGCYHWsu`_k'k%I%OmL=Xu,2>M(BPQ?+;5m5&$dy6Q`.l4Mvb*kgk)0{h5wHooLC742ct
U!Ao&85!gM%RFp^GSHYhq1dr}x?6N'12XIU&>a]d1i$PaN1{$l>PD%UEw?Y2zssfP82R=!?^N2_WCNGPpde3B:'71HM_Hf'<[fYiIS?1!U~'$)$uuAP9$TZTJ'0V~PIWkGdtH<2.X'XhIvn?t5FMWQ
X&A4q=cSqPNdRo8Z3{Hm^a/vpSrp'H_OQN6`$1!EU)jtnSO!Qr^XH`~Vea7?,4A9S]pgQL6uXDNof99w{Kz.*^jiuF]?CR{nmk/liF;M;(]1'B!C;gy<#zzzgIcQK=DkfwkBN0h;u(Oq>Le/qa`8wU
Ly#c7S%rxd2ck!^Ko{2bs8fTRr*'6FA<*&.!Go$MZl!R7_MU'&vqkS?qk,}A+g9'vYbhk,UaHI+'Lx=N&KZjB^w!Fddhn^itv7V(+;P4;r.2~*oe&aAraR^|,7Bo1pK>6d(PmH&#7*oRijOD/O{Y1r
DY#iXaC[k1KbsiKvW(`h85TK{h6I|m:oX$i#h&F_[?re[}pMuZsK5.U3E/8Rwx%J$r_,l)G+Fkoa?GvSb}[=jA>|ZR:w#GlgTG47_IzbtjSd,.?or~A{*/G=mkmGf)Mh;<}oRz4L~a[{3?s/;t;'LV
cE`(G8leF1Ls&!uDrG%$QgU{RX2BbD'z4)AAn4[&#X0[]_iQuxZ,jbhLr:tR'V5%Z0*kxhR#$/Z(JU5Eq;oSg:|L^=?l&aV]cF?RH2o{M<0oN8Kz%'ogCk'}8Q.cmX&$b|==yc!D`Ht8!l!2&ML_C[
w2:lRgo?AlIU1(b7kC<e'Pb,~_Iy}EB/|PU={3wDsrqm(9)E>+9O&;r.9e|[bmw.77~8>d(y/Y!?7GJkmioy6!u9$6oG|7ql|vS+lGlTJbQCBCL?4K#?M~}zx5)'Za.!AoqFx,WM'|AHtr6oz+wz6Q
&]>;+oSq3W2{{S?6r[bJKeAWYU+Z.</p/''^J&LgiTN2}v|eLYRHA%gGYcpkD6,;&k^.J{3<ZB'kqx,V#W6YxZcfLN1_X2AFBm<wuW2bt*t3vBs~|se<`SkES_b(Pa|k.EY^||Fe3F>%buc?`D,kEv
1y~f1>![Ch`x~acLGVna;pD$</bzqp,b[ICrh0sOr^wZSKNfOhT/&YTSZyN4{G~NsnRGqtLu>c8i345~C${+a/648zdV'9w]~x0]K|2pSl^(8_hetsV72GHc>!L|N+Lw#Xk+&PPlaJ%E5{StP6MO]9
CN|'G.a2&pPOO,W>!{6yeM'ol9'i>l|mU4dJelG_1foJ;4xj[&(*Iz.<,30Qcx'(fJPkA0n8ZFr`k!EaY~b=UyHagJ8'8z;Rc!Z6]`rA/OlvWzsAHP5vCRF8nX,A'K{?T<gWF4F`[3K(Ys`_f%x_G8
;^}hE*>*{55RgIT}M_aF<3V!n^(q}hGxtqaf^T3`^J=*XEv'!t(^pJZmEzvAQ>n{IKsIn^I5mq5e2)W;1nXB#Q{waT3%e=iiHWYKy&W9qZ_y%b?|Sq)^*=G}^sTdJx?fmg9.Csm?b]#QDx'>h0wT,]
5$ws~xqoG>6Ek6DaijOQHos&ky2Kd68ysbWnqg%>zG?~7b$cp?I**Q~;c{*|RLHw]$|v?q=jpru?gbwSkxKCHS7(p`fxP}fP.R#n3u],7t0yVC,'&A[;W7($`jGYeo0^;{sT$=s,RufST[^XX3y`b#
,eIdmMWFi43d<2Ubj=0,=BMzq}/4;hM=SZ6$`n*v*s:p+edb8BEfZmy&8LE#NfnCF5*G%ut<ID79ltzz1=vcJ)dX6?glzPmGJt1?gf)prDtI}W,wUJX7Gl!y<ZIZ3s8~sVdEuT;+[aXj9m}:C*4+LB
Hh3NcEu.]PT,TdGI+,q??X,go{wv'[99=(~B;7`P#A#(Ai[^`mHI0IF!iwXiso6Dx|;!9Qn$D7Prd]V>~`=#:'T0hiMjc?]SA#_1}[9*4XvoWf^dVo~}LA.I>r?9U?mVMsy|41~7)Qs/l!Ri.=Y)_.
/E<mbp$KfzMEK+4Oz]zZ)[jLH*|6wok1s}[#6%gOca2;qD0d.mhSU1.Jv3?T].f75[w)Eg'C'c|fep`J*AEO~$tB0''B0L`+HSYWSJm?*W[d4i$QZ~;JX6w/KZ;(8*}U*Xiiq3)IF0Gpu$+,PfGRJx
x;3f*d[a&,G{UGNA>Pk6z)&,pZA~95C=(D1=/|:k[_O6kQr;)=cCmW%mXY8{+RuV.#D{K.7,pBxVlKuI<8$k*S:P/dc)BTX[hmVm<QrlSf<>topy.?W$pw<Hw}I;YSOX$b2'o[4CWrbM*g:&HgP},9
<BbBYA>a;|pQMgBMT<&fn~4v&'IPwo};ny}HF~P=cWjY[4k]_}ae:sXEVNO7ibF9j1]QRP``q>!H8E(1$wBT0nq%ic)C%qVDjQB?N1>[JR_lU4%)e_mxJ9]C6V%nV4AQOId>9.63R}Qo?L~xz=C$^y
/^mM:pFAuL?!<mRxfoccJ%m_.G7.)!(QU~%RU,%a{u<a'+{6'Rp4j.8`VqS5K+a=PhJ?D3`t9)mHf>2$w9Gtv^A0BqN}K9UIZ1^8+A}w><F()~dl7lQ4R7gr.{f8y;!]VP<,FzG>u}B88Bl+%<T',x
O'!lq7:jfVWU'^<FxDY|AtUON36lW[MssW2I|Z6xc{TvPX[JjT+m8[R%:lMQ>ctTisNv##xFadZw=GG4F~/J=A4FRKuPMST6:~lYr*;?K:E:<^d%c/G9U;#dtQi)MJWyJ`ZEhmyx/>Wv'AYx|oR;=y
HvrtiIu%Jl7s8ijC#EPtykkHLz'V6o,*UV++.]t'f,Xa/;>iQT&jJ}Q5{</C2.>%qe{7b#QXQYqHix911i<Cym5~R=h!O?Bq9FRE%;Z&m*[j4Ns$QcjR69(/rczD{(x.=9v,nJ_&ALj;6kNM:kakNx
$n3njBNc_eu636Aiv,UN,1#9oMq%puXm3=8m:;ue%eo^+T?~`b6o5ZkY%?p)+~eK>C,Tcs7`fHw(hUQXunwc>BoO(e##3`v)ey4d%'e3'7g{kzNL^|)<Eb^`/A<F4'W1MB[:,WkpR1dTJ6N6F*MFW`
K1+<seEbYX|'Mc,DkJ^aC)qLm>t>Bd1jY58]7Bx9;7v?8&SRC;FQMY[M?Q)?Q0Z:|64AHy9<Ko4LAeK;,se=+e`aA>R}%#DvT&Ox%$8JL|.S+A3h<3zmQ15~Gp:>[P|CdHfPK[qQ4$txMCgad;.xM0
aX>I1'1iZbGM_k#)YzHwVhtVo+syz=fG,#]Z&p>cW6:1*k?M97|?as4N<>KfSF#kOeyl<bf[6IZF_#.v=9II2o`XSz?^lr~62wPoFf8!zdVw|qSQ/FCY&+0_ARFB~}({n)p%&64,W[3BK:q!}0bzbP
^Jh,Ym*~XF(3DVY?rYnx)4Em;u#fQPhJ6YL7JhOV:ld:XlF^S)N)lG<7]3[].&s,AwTEM9t<3egb)z9xaS~3{O$_NdJzZo+lh%%X'tY(w:+Exu9FjVE|:8[AbbFCD`D+vPi+TZVY)m!:YaI{SQ%3./
Q/5evp^/[<fCMr&M<)f[]|8nNk)$,]N8We#!1r({H:cymrrLc:yMDp:C39%eOMh|jb(n1D{wrpIhN(L$)a$M)rJEN#`.n=FHW!5w58rGDOis?^BHFrJo?KPn=&XtG]ZCS|h~+R)oFt^n{Gv#5agTdb
S;r9/AIU[YBp187(:0J`(kC4MR'QuLt;/g3bg+_}cnh;0Km<4Ibc$(zM?Va|=.}=wP=o,LvvFV|mtqk*J$zCFqOXL.pEu|Jp{xKab_L|n,aF~OOI?NWhva*'g5G>nqg:{i{}j}UsCsE#ebk~+2GD3v
!M?PDc8^N%OVuocX2gSSbhE7IB#VJqg]5!;1%9JpC~7{q*)Bj,.qa<LI3kSbX|}R,y|fBz!}OR+PWgx!G93*tvFK$p/bQ}hA#2{;rm1zhJj'jgwPqM'1]_=_Cv)GaQ|m9Au,UKjLZ%c(/y$(_CuSxE
,qFT>w=;48tXe3q7oNc&|%5%IH9ggIM6!Ae=r6p^~}WFN;Qhb,)H5/,IOg$qfuAAOTQGp#E^h5ri9V,E_R7*FW_VGGL+&{q<(IT>Np7rCB^JdPZ2Zpl3=<pq+0~+=R^__~'E)GLdss4J:i'0]XTV_!
>s_`*=XsOF=]v[<V#vb>F6>X07iXvMX>ad'h/jfSQvE0FTE(:^m$L+EF3?21!)?XJlIm3MOhia3Yu%x1o]qIz/r8S1<jW=T`q/r[r}1l&7Rz+)/ZA?0LJRyY>b_+pjCL0D'=K5QMWGV'D)dz%tULra
5?s'^q2gVUu7k31}Zv7*YtVs6gsa/hU6p(lNcbx1[Z?{`m0^2z/3{&k9fc3~'L(yV~:o9~cCk6Tt%swjNbbQq6)SBBYTA8hoC^aM'Sw/XaBk&8GTDzDWf(g%0?1qYCp4eFirN}saE;K)Ez%X~dRez)
e3pOm8?K5,`^w]e7x7cb(YO<PILS'wX/h3!ANUj8!IAdwM[_{(Fh~,#l%4+pgY+&q0`EKIl]o=$)s5cI;9rLsLeGRpro8bHA$4iKks1gY37MVGO~WD;q=ud$BDg(|nCX];FJoADI9z#(4%qhm9uHf1
Nn.m?N#]jFsj'=IP<IxQWcihC_~,hWk9Jt?9DHuo0mXh0iLR##n+VwFZ1,_R=HgdWVd]1FXwpY#XXF9O',AiN%VfdF>bp;0I6nYlOpU${VOuN1WgAsw0+acs77,`/19/^8G,rH&>.~s#iG0gy[P}KJ
tD,Yy;tTyn&3qm{zpX40a3?pj`'Y^{UhHsJQ[N(w$sg1WSBMUe9L>8~I!1dDm>HSxL?:b$]D*{id:v2*%QN&Hpx,*5P$opEc^__%m>2C)[v+a~;.d%~bg?I_XZ8U9E5!cs>aM4{:;V'LA?MP,4=dA7
/+VZ}z:DYV*Ntlq4kjJ?)`RYb27Uk}aZu>6::,T~?wcF!H98ly;$&4}iZG8XdIjl&m8p|L1P?^eB7Ys>!o83UAs{rBO,Gm{pp_CpqM!#M7a^3;h9cCYYaqh^%`W6n3Y}F:?5ukzz!SNW`9+{k*D2I:
^Mc)}(uU_9lnkDvZ/T5`E&_>5<AyE_}2Yk=^s!ddu#H)N_O%[3%j5v!IiF[jS]Yrz4x6zwX4`zD9QNQI|#f,H~54EKyqAnoQJub1)BDSf>q}va{((A*PH%GOI't(R2VU!cwWes;f]M|rH9pZ8UiLH:
eCUl5OEC|+8lT{(F8t,|NW%fJTi:Td=_0b109u&{pIA`7PX$'P>N#?#yzhILzNQgkshbI<fYx'P}h{{ML:0tnySARc3HJTJI$V8_MNkU1MH%#*&^Wg,xeH=`Cq]Qy~%KGdD{8<gm)bHmjPIA8[Tmm^
S*n$1.CSl&vRe<4ld%fS2TDF8FG$0{R`$;&[NAM<>q`HLV[+{VCqH^2P'S(S#+{8qxxy{v'1%mB<NM,A$M%z7T&XO|?WJd6:IX3oW^M{50P%Kwv|Vt#91$t#89&~dl2bbvz%1Qs'AP^frl0(#]*QBZ
$0/rz?A:iuxut;jEL~Kf<Rz9A3/]H+w$s[#{W}<(~BKHbgQSXNLZZ([a!JLq:o*1/ND5.M*V'y;e.9/g)=|v$=#Te3Ww>ugnW~PTd5]4;i}~IQqXzx#DF)IN$Y+x5prI?SpkB,Bpjq~J6lc[o(x5/S
!,Fcewx)aW(_{l}7/uY0k1{9NAxD%i{'(QHWhPa~v6XR[9}$>ex^A6GdVd(D&Fff~$A3bclBr+LBQSe'|*f|UgKbF}F8ir]U~B,B}:4A.xP;$o]B'ESGydMf[SjoIiFy4H~5fdHI]n_59L_}k~|4ao
?SVy~3fKz*]iv(n0AK~UWkm|MuAv^8reWVFd,24aWZ/'B`&mOairk3'*~r{KXJaNhlgU&v]kJnRzQkL_[Fq?qYQVN:?lM,T)$73|<5.31!YZv~g[hea(l)7^%uGg0EEnInol{A!!}SW#Z{97kLB(?C
i%|fUKaJTNP4vD:<I~qNOc{7G!^E&~^tac1Ic^.Ae.e&8~*E2mNjoc6nD={[$>std7_O<]3(rbg76B(5nT&4%`VRUQzVRl.8&R1$_;N!&.oe<R,~ij/Z5Lgb/uDbU}w1VZ((i?AKjBBHO5BPujzG2+
/;jy6EX|wCX2g_oB]pzaHY[BvW{SeD9Sbh1?j*OT,Lk%eluz/J1[Mo]Rmh~bFN:&^KF5a{.={X_[xCr1'3,g<fkE;cc{hOo`W/Axx6z|(H9[kHMOrXFzygb?~iw}26S<&y<iOa<A_9~lSkoGqPb{A4
MW{W*#'H6n<V=?SPm'^%W~Z#)ghF;+r!`w%6)QaG:7f=fb+p]HM,Jb$$4j/p^Un!f4Z;feF.(!k3;|Q6S]P4L%E0+F]?63dDxSVK&8:29DQX_w3yn'Wg7&,hv4?c}W5_=[sACqv;qkZzfW>YF[e_]i
.(U`uGM+E:h[|W7$144xLLch!&A2HPFy4RPhzry9UuL2ljlL}CvAc7q{V+zG`7sLP_8Bc7lON.l1ms.pCE<{|UMG>We_9E%>Rp#ARCPlU#J.D?mAjn,W*d%N=ZC0}n%Co5y5I<k{4?2wO_`5+PM[6x
RFRK!7p;?yvo]v2K/Qe81R;e.*z2OABF*qgYgzsLzZ#}i`gheV{nRqJ[MXJ?c<+<iIf.h$S5<XCIqq'j88Ah64Sa10F86R_V/zs]'iiE;=*#WVPAbAdIt'=g%UJCObAj)'wI:WGJK~)[KDU%6|UJHs
9yJ(tzBNrNo9nV~CCdtZOK<shQAND;Rr^;5j]W%`T%ES2P[DP]KkY^YN)r/J}SUiabYr%&KZ=)wEJq!2MWn%,o8=hbOA;UD0Bl).fh%AL4aLTEz1mJ*CX=]e,|}&Cm(QZX5)~O5G#'7/l9%Nq)m0aA
3sY,sUt5pEzNe)3M&WT%;(<bGAY40;!pu{=Pk)Wc)HEuB8!^;(m&{`.oWB1P]Jee|.}_XD&?wy}%+#dzXOKZ|{1XB0}ikbh'xHuE1xh8yuSZOy?(4FJHC&hT#W#<)RKswsNK0?G?b>k<kRT/KuXk9]
ogvKO_$:_v'JO*3d+`!?[vKh3X%/e!t%?nXj,_91)uT7]f_0Z`u>Ys4a0oU?J)cpf[/Nj=t<2~q)u~y&vFk?_p#J$zx7Kn?Ksz`shf3=JaPdnVBVPQ!lR8z?<[4m^lnRZ2OrWFs3Zl+KhwH.pD>z_#
hv|9tsp5A);cRy2m0[/T6%WjM9x1V8vVEUQ2AO!Rfg=Q$Y;[R_}_!gI}_{PfT:d(n'~%wi=JoX|$aU%K^oqzpsw)zpyJ49|E1$%^<h^,>7N/~ifC|_7a{dOp;xuAD5$>]XHhBDjB$JjWG?N%6A']:|
,9WLM=Nfv&rzm)4V$#n}JP9DcV4X%R)B6Q:5CI|OIls:(D&R|`f}Iw_N`x^~Qh|L+Mm+i{04lE={vdQcDo~|b6B:51}kjr?n<UZpH;yS}d^+gWFgC$U3w)}.nMVd%pN'HsE&*fAdY^=a|#&1/$UdlO
z!d=Sn]2.(8iN.{qyx,Q_b(~^I(*10d5'SC_oFoU^},.e~x:o]'%)XhXdSD{=p/w{*5SRSkD6Xv8f#oCL6>r%;C,/|#K!=$SKteBIz$7pKp$O*Mi*r&rd%_d+v.,I^&ia5DC2JCw2`t]y[sn];aej5
3O(9fgPeQiNY:BU)Ao<fa,upG4Z}{0yJlO9|97t%bOX7vyaI`qK3/V0_Oy2|hId/X}FVQEQPvDHwr[(c;b[,sM_H42vo$_3]c7_<oxR+[D|rtr,ZU>CUc,0iknnJYRvcLdkX{;du}^H$Sa7NNlPsNU
[qvT8_LlJY(NA7;AkJ8,gOe$^Yl%5s:{3E<|SUg&PbG__IWYo=~T;G_|(SjKqtpSCb8Tj8/dV7ahXLW=xhqjPJGd:,9[cclLEU%f%m}bLh~*9qNDMDH,cobf(;7~8aj_K}Vx`hd(T`2PR=&vr&A&{)
(G0Li}Blal{kE#4Pg`J/%i*[)9xFeThtPlzd)iZN}h?.SdmL5(2f3&W:(ucI}/'02iDo|GijXYDjMI<hCI[S6(:S2AJ0wFBDiKo(E)|S;HN`aH>}uCs6B;.&8%pCQ5F[kzW9*uUM/&J'E$e]$+o%Zn
.QIl|$BVF4L>O5<qIM,#C&qv(U`rO1c`?+Zt0%<2wTuszTN.?&e~3IeQ}pu^<:m9hL^ZKGi>k4Ppe,!}fd(LM1N:]q['?q)/G^6%p&9b7SnpUC6qbIV'O`NmJUYq29Dbh5NBCXs<b_Xw%Sw*1l|c]R
0GA1ScJ+3ES<PU`K5{f=O/v}MFwSDM&Lk&iUrp[0TCxgZweBo*I:2UTBQ%#6ZzO[lPfr6E?)x3gknvi+pT(ON(f^)4hDyj,|rSzpXsO!$O&e}N.CEj6DusEU'b%]iJ!rZP0elF5Z5rc})Nu[8toi)x
/pfTAd:b7.mJ]b:Uq*qXY9uCk/wjQCSP0KukFcNICsCkuPZBUGHoVa`g0&.Iq[sbJ]G3=fkc>UH8yy6o/`lkBM|0<)I9W$D#iS3qgn+xYmqMb{^.GB:!`4(2>`/_2(#H1+Hh}{w?Y7OnU14k_A,T,>
_WcLwsh<_A!^NVFvyN'2)G7,(*%z|EZcD.lT=?uUSLw9;lmTudzuWtq2{aU4h*VR7=9rSQXv3G<pu+HL$_:b{Gue;*gHsiY1qqiCAvn7';Tj~[V]{f;&;]t6<hT_BR?uK:|AI|,A=uB8`*LGHPIXOs
zRMD*USLC]rmDllp$w}#m&AkH2P#TNRxFpecd]AvREitykdr$XQ?a&g/LPe{t8%apMWZ>akxK4/dK]#[LOo=O^^[>&#60n/_5FPn{h6mktyke4*aHB_A2W]57d)zF12;Qyi)3,|QVR[=|T8+zLxmMy
a}H|WA,+{,>_5hu2([>UE=14QhPzuP/MD.39r;t|=tf#U*0b#;JB<=|n3=%=n#b;NC8)7>qa%2rdD;lON[F:bqoijabRi#2C!DLX1]5_B$oM:fcTzXQObG/(~b2sZus'G6d(81&Lx[i1>C(rx4#e1^
#+{I?GqWs'cOeQx)y9]r1YQMiIT;Ei.z<aG587]S6<.Kj)JL4Ee_&TWp({z*jc6,7>unt]k#1TX*<f%>!)12dqe&Vg]O);Dziq&lVsv9J6{kxWj'[IjTK+gjDQ.=XoF?onwLAKUFE'.Gl}=!C]:CCN
J]a#K6giMvlO<SevkkA];HIv#Ult|Qo|Fd'jQ=[i}'Vcn=Sw1K&4Mwi]sy6Rxv^H+^Sz4pX14x&ykwX$D8k1.9Mcor;q6pN=Aba]Rbm3:~Pk0w}<cJ#2h6_PIW>)(wzC(b(2ZH<9VEzDz##zjau*q<
>DhddKx(DJAT,4Ro(hbJ[j|'t*yBS.?E|UP~iVAqYI#Ytj;3XQLzipR6a8R5X2(ePA&uPmegm+IBU_dFvl?85S;FAl]3OOuvNqx;TERWN;F|NFWp/>3af<$hv..jLTj,c%F~SlZs<GR+#=[&o=B(oL
x4,evO1A&z'/08`}6'1Q3:(U#~59#?J3MD.[mK18vk&`O*=qQZwdJr.5);kCjjjRLow+24!tAxyo{N'Kb0P(orw{ebwof)c.&vEB2=FJu2:KNDj`ak>N:`H7U{P|[;6:mb/aXUTFVe+Cy$hM{Y>`{}
2#R8{/$BRrQ>Y3!:Dwv%o!3c;t&xwC}RS?#ptd,(^6Ufw)sJZc&ir:5Y.v87hk6fk?PKFk:ZjBFG737:?aZl3DE#CHjGyn3zwqGsUVl&:u'u]VdYmR6c7T~%$&i/Vnj<]%:`G[gNs//R,ElgmnR2HR
Yt>Dp|ZUf$L*N({3z9Xzszz%qkl1a'6tIK2/77*[uP${v;_9NL}BsItV4~veGR|C{%vlc[Nb;{[*%z7zFl'%r7,Swu=#}q/4L=v{qt2]]Xv%VRa899MO_kzfeZz]b}60N[AJ?tU'ej>U#smTYwUKpj
i^X~h?HJn(D5zvUdaxhh1Z|i#bx+vhRVMzfu:dj*msGI<jyz*$0YcYSK[R7}Z?*9XWz3uGfOPCmTo4Dwk&pYUiT)_]^+uW<JVq|tk<X?V85GFb=~vR_^xrJ:%/Y.{Rb?MF#5*1<a~=R/GXT2[arIyC
Gh1'?EO&#V(?_&0HN$3gf0iNo]R>kbu]!sHd|A;X8zhx.~6]ffan#K()L`STJ%=/H0B;`U(vHpN9T^_f4dl7fQ.R#aub4<8<:^ujac#[J4B4=ET0X3y=TKvbEsZUFFJ!a!pu'd+t6+ieEyK/IgvZg=
7oQn[:1O8E/o`9|:O)yYmS:]OLc`+&/L|Z(S#!7.Ee9xRMjJWcNr~]D(?2l<vJ+_|JB2Gzv!.S3nYQcKASV:+pQIwI)C:c&.ST`'+q&#`U$j|;vB[54OHcpxq.yA(XpIO?xDnoWx{[p^23N>&v5J5N
UY>jgI_D+4NiqD`(EkHO2>,'Z~dg9v4HvOIL=!PS#othWa|+(yz52t+7#b'!gIbePJ>j}nj_yrg/)J,9~2<b_^<ZQa:<37#8Esc`B]{>hlS3=S$D:IP2J=ZW#J3;i+HLLtedd!Ms,07m%wYR}EEXM8
55,Nby%M`m?rAn.5vvi$p]Jc=h;q+d?IEh%5k)S[T%NI?_`23?6rS.2KGWJ)oj_P/z|O_<n1VLzqAr>?byPur26}dF5fNouE3u}wXA9Z;Wx*3/L3aII^}D>|LY]%7(MwD<Pn$IR+Lvjp[R4j&GbyRh
p&a&,i'SUa%Mn/ZK+z|,*~P7K!Q9pa%_R7oG$g692wS=!?]&#Q;m*?Ha1(HGGMVlI8}_HIfOh'g~X&p8LZ,Z]u4O(>_#}$BPd+TT})/avl)TU8G]2(vc|?bE|brf9<;=^$JJ3#jCKbJG)lg$08ZC7V
&l9T^ssd6B~my._k7yyb&YnO.vL+{rpN<t(CC3z|bXkPKnsUU1sepH7ER0RA&{FtuzIcIaX/qv.O(lz6Fozn4)iVf.5eML|e%!R00(mVMR{Q<`/Fv<RobNo:y!r<J^~$I/GlIW4/}nzmqRz$6g:8{+
_kM8}N~{0YBa:av1c;/!.#ApfQ8C<jn[LQEBsj68_6(~d)9{c8)i%vur[Q|9>x]=JR`^)f=R9JSwk,iS`x,`iv(ZN[N&'KSLo6>W;^({(k*^`KBu*4)t#qJod|R<g*3PGq|^`n,vJ9b|nX!!!!!!!!
!!!!!$gB7JuOLLcu!!!!!!!!!!!!!!$37K,Z)iV+p,qSi9!dj?2oNeR})C;_xSFKymK&Ej13qN8a<e<%0jaoo[l9Nah[JRU]<c^/.e2(pQ}hRJyjmj75K*;&%YY{'N8:tqsMR2aa3RD=e9}_H~mHr;
g9.)7?ne$6Qa[e?^<[UDN_eLs(qbnTI$xh!<Ty&/!>7qG20>;k2|v9.xDysLBsZ}Ri%]CMzr7aa(f'){!jp#}ZQ=W!_mDm(TP~s:Ks]M^V&BpEHckeiyn>BsTbjsad%i};ZY5HOe=V9d/H9=.yd1$M
j;Ks2iHnpy8#O1L){+A5zZ[gLfeS<rgL?A4g;P65Nte7Zp>BYQ#203d:{TeY15{B.>A[5(Zf_,Z0B1%>$P|8/psOoK3hE%4n{N%4i=r0Tf_YMesO?exhDF._ALP+f4Un^wY|i}Tq`uR[8]V%e/WYs;
8R#(6.0bn;KVmcm(R_1=Pfy!4w?k/#P8$lp%/7OD$=<)%5UTGoiWDO3B^alX;:~kvk7+.sou3&XvUPl0EnWyIE.P0iE]D}2}:SX>!i$NB5_}exCVlGx$VvXh1YvxjxpZP;C{.Pl5iaM:vP0gF=MS=a
Zh_:?$#`4f_gi!gC~6{7q&kXiV*LAwSfq#B^)?5TJ}sRjmIRL5poLrzad!pM|s+rO9|U<TlHl`(ClpwdeD`aZueQm'l(=fdx(NQu]T'FB*Tqp[&wD&rU|S}e`pRZ2R?Mt+7z0(^)h_5h!FXxa_p^TF
samNp^l+h1U+2Uc3O;&d,ukD!E$hLwNLEv|c4Hr)uJN?Bc|aSM.{(.7Z]':FAg}kYam^aPWimmt'ZnD,X9w~41E;p;SQcS#oZ)W&/YV[?m$m!]bM|Km(_:$aVxSP?i`[d=vh#tVE~Z!*!nT|Q,+Gdd
!<LR2{7Z>kD0<rFmM&E49/PGvcT*;k3CK*gG+D,:T+cSvgSwVjg2r3>M}X+kg1CSA/;py*Deoe+DYtC+OuHnxucWF>?p]EkvH:$S}Med`=QjN^Y?Hq?Fuo'FR!ib_eEt0O)//7pUvg|k^;]{A99VxM
wc|c[e^|&R|>2U.Ud<!5zK*0o?D`;,2k`%7%S$)'&tsxgb9ud/3sd7kU?Ad*F7PJf5X82mL5Hf}+fFfptdiefh%.>+<L+=oL]XF$=|UZ`t,2%x>,1S:wpQ%VmT.2o&/Ck,/NCRr;>8&WeqNDzY2}.m
^dwtst0|/vylC'31QEMLPT>IIy^)C)=[%.ZO^42cZ#$92Qxa(v7|9j*>Y~85R!l{NZO{xj#|$$[6)S4~/;b_R}v5N,[4NN'K''<[+Sh;]xy+]{JdMyC#[<*.s'qg$WX(,u7Q_c1V^e6sT].3*Z<zIP
wnAVHAd}Tj?xB`2sdV=jA;Pu7i5b4VNj;YLysmPc4|N4$8J}B/hvE/_NVREmYD/az(~+Tq$'j|C{Wx4z)luh?o|vf1R[p=C~vW)Yjxj]NF$q(,:*gE;$1&9,i%#li*Am;`lRnO^(z7nqdIE+'3>:jZ
*X(Cft$ppo|QLr+.Fn?_u.z^(HttJeY'e~0$px63G.0byHTeJZGqCk{I~6dDidWn(ue&T**Y6I=?j.q;`eif(%xd3_orHq>(w$_{jd]uqKM)TW:toTDuWJC<:th^gHs'2+]^#V*Q4(_X0*!hK;:aNd
r<RFKZKxAXn:o*K#/$7Z2V['x!|.F3>%5D}i/.SBvimuZ/}thlVo;#{[Qog2kV.2G9eQ%PlQ<'1h|4NzoZe8~{~OQW{~(_bLt{Oah2Mb1;b%>AX;jFQ9mif,9qCTp|6Z,}se44S>LRC>35/Kny+6h~
k9fUOAI=`?]W8X`srDmV|;jQmKs)sglUW?S1G)]HJM*3q|>JerIZMYl^qs>bR3L0X*}~q=dqPR4_&:w3.U%j,=:[TL8P;4JVMToMD1NSP!Wx(H+85m/eI#0.je154dPSVcnc3|}TYX4mC=1B!Jt!0$
R)1}`/o%x1FP`]<^7)k9kwP1W%w8WWlQN{<Z*uGdf>$_U>e9/&I5#!W9TK6^4TB6(mgVj[p})seHS0d6dQbGVS%O&cP^]VB%6K]=zbm3J,w1E33ahmtd`jfg&5}akB2:H2N.!Cmj']1xi)g>9}5w3%
>r8NWGx8nf~/wl6KE6MrW|E&+VP7ZaEFzAL_yk{|G/]c1<lT%7YS:OgDZJYu*|1X>d>9't3mB&p/]G:aA'R?4[42Qqrd8nfh[D&Kb5;h`8Z7({w>OG'A.3bG'D/iyRkuv]I<'!bqLIz&:%y&8kW.i^
>*H%/FI(>,l'4<i;5I#4WSfqbC^#FYx5JIP)E~>K1`F4/m_{YCWAXfh&1vS+th0jwPzWdEF{tV^L9gwKHA$RYeBbzxyA2GqMlqa!6QQa_}wXOd*|Pn^RtW1t7/gPMg*GZGqLV,DLwskgXr/slBXlN[
2ahRVAmz(YPoULB$ZG?YU2_$)(nv1sXU4Ey1H{wM{qb#m]P3Biqk/*EJeas.1=?_G`_n(HK/lN%*L%AW!Kyk~H{h%d3FkCqTS$ZY06J!</&k.oBbRm*`FfXXMa;,jJ7Tr$y+]]X5t_'{aX#+6&arKk
I,(c?K02hO'iGt.u?Wy794`ndGXJ:&$a!o4*_.]s4`c<ZBbx>B>H|#0!jjvKY:PP!8(=~>Ai4|63ZQ~f3f,Rz})xVv&k)DU%OkgI/Pl)CEz8P1JO6sppsCysu25Mm,t3ce<RF.~,D}lp+W0_u'c}w[
BxA69Q=Pp$i#XOM/ZC'~XVF{uy6i14k:`HYwOx~t<'6.8*i2=0hF%85>fRIZXQ5IHZrui8?Q#rRj:8EgToH'>)fN]*.03k&Oa{D9,r$$W|L!:RWn'3&j|jmvJtjPC2on:54Gx}/UlO)$l;x_6I6Xe{
WtP=eD1/CVRsLFgP+A&|*1Glox2$A;QO'+qI$sm(]?lEh#b9{cEeR'lg<4?h8Qs.jG]8PZ(1Pa%!qK4E^2;jB:mrF'a^D.riD6$?=Y$clQ1UYkQw=LE|guK8;XT^GmJTK?%fp$GqXEjv_3g([d&^Zv
oLz!z}3W1Kc;CX<OTbC`u=Dmm|>qTq|x'g7!~pR)GiRDXRS8X8Ws*IQ]|>(aY;HQ.oB9NmNe<zubM8U6<t0wlJLwxkG9$mF]Xn$p_jDw9%<JT+u&.k2#q.<%0`C`&=YN`bSI_q?>?~|Y)BA/5gb=Gk
wZQ9?}!f_G2iEkGQwt7hw],wxX>IRwCwFNZ{T857=1f'#|P*W^]RJkH{,ez=s_6/nK]58?muBao5P0bw20dD;Phr!4tLF=1d0ipdYv1]M%VEGh4Xg~tf7.*|#SX,_BBCBoy91/!5N8UzgZITIT>eg,
[37>L#boYcNZl]#G8+<K}:1&]|9CR'JR&D#(pXKyKH`Oyl.8|5.xf[gnrfa^s7<o?%g>,nA9g(D/iiF'*!qq)~ZStxg9~[0NLB^hpFi1{1!h~X}dl6{reqN3cZ(lYXs:a2f^q$~B*Ljh6Eg5j?A`OC
1Y8[9%J4,&?NAGq,8*cIXiTw6~O3t^m+lE/D8u3K[wvq%o?JvXU<S7hYYnb.d<1|91VzQFi(Wbm;iR3nuz#vC_5+9K>1$+'l1RI3`+by:/fj679aeV!&fQk]pMmuc+^fp.UM{m;FNigJ>EAqL5aP*b
[J^qH4hqHF:8|b$WxDnJM+kJha:CtV^Vmnbwiq;AhGq&B&8H4`R9Pn({}Y_be[oI++ya2Nmnf+uH3=5SLa7*[KslSRf)F{*HD5lw'U:KHI<27]9~HIni~Sui9;vfd*tzCpieI*8#ip#kqVM1I%GFy{
lS+54*!>&4LT5j2X3`|57=>|8lRq5Ew]v)^=Wf_82d`&MI)0Gqi&UQ_sFt_/>w&e,[n_vU/%YbeU1xQZ]Gd#9CzNOL`hj}R9q2&D1l|nwH^R<Rl5$c(gW>ET*ecpK2$t0=EKY>TJpGPP_P*UTW4W!1
%}h]zur!f_{S#,Zvj**J8=m6*Z`88iE{.gWS/oPe4C.hXhzpC>8Hy)DrMNCBUvX``497~tV)06jV{il%9JV!v]Wj.3k&ISKOJH77NLyO8t14S{2Xli*X^g6?6r!9*Di:8NxJY42n=Dx(;|NFZ7sEYu
=wh0~P?$VxO'EULYu;t]E+z88_cN91l(,=;r*p>Ln9TXt|P<'.uPl(6Jm:y30WL~<e3o'5f/n)HEiKv+`/=BX~[i_MHJ+0{mI's'=1a^J=6`K}wP=P0a!*8/^P#G8mN(NKq<wl7vMSRN#0<X|Fc5:N
f2j_MK.ePZLbaLfad_6^V+|&<'^'=O=5'Qxky^_qr(/V^D7(&zjI6TZC!%3LHR,=~Jt1rObUF{lOBy}+E0SD<[{Z;ZIN_MMXSdL.ld<blEu+x[y#)yxlXGgqdnlmG0l#KF]/*pc(LTWO#W`_XfGL|.
Y}'a8>+j$JT[lMyQHCboT)0G[yTM_<;IzY+0&_}flx_>dE|bD08TrqP1e*R&x(n)wi0wY3GfF$dU?#eysB<'ZS.fP65syi1~(S=#vVJVuBk,LD4djfh5}.6<<n[ef`%.DEWfAh:#)iMXLzrK%{S7vK
;wx;vo#8S:mwiPK:PU*e(V<l/IlE'Bu>38>>!gEuJWL7utQum,/ENL6;f~&JszYuhS4Jhra}5$;OZJtIg9UO9+=4/h$`P+B{mD'S1QH8W]};Mw3V)y)'lS6S.[bS.;c8bGyN1*Feuj]S?x$+EGX3uk
li4|%UO&ki2&{E)CMm27:_*G2.S1rU{Xp2zOhi&*Opusmw,0t!}${M$=F+SamN=a_9Yb6E*bdAqxR/,Y#qe,7]h:<W..q3(r]o/K}_8'ZEGzMIZ.2TfJx#A:^qFn_.*9%WL`^'QW/?D{9#6I?x/p>:
QF$(SAZ2ywN}#V*K<1q6h~'{1dBY}3>Ej(/_9>^jnoG|b#.v/p%i!/4uYu8qed38%4GtekR0?u4IrPFZC8&;Qb&zuSYmw3Q(gXhGu47E.+&I|{i)o#yW9G<43}*L3#&.)A1'M3t*#z*Skd^*kF!.v/
i,J}0$Y^e2s7gpS2/}PoTTOK=A1_i/VfCS]#QEl`HpZN8nD5Q))9~o^r/HRt<'2s;Vm~^97Ka?U~otil6oJRQa#+$67T1u%NS/&:O<cFh}&Y.>;pBg#u6aY4zqZI3uqV~)]V0<AiVUw>Gp4oPO}=<l
aEU:9++3S;Om{y>&qOyTXG=V78#&vIv:3G0*s<}>=Z+|9>OnU(JWHT]%HT^J..)_7/EM!WVz.HzAPsd4#fLjeFjYgzROV!*2%3r=,Ru>E>2;.(4tNk6B7RExP]GSZh5oP61M88O20II|y'+]KW(X0/
Ed0gC8u^A%#m4n`m37UecYzj<8%+[rsszJ,Hn&5Wa8:qbs*xf1'7$0#UM}ju?eh!~dA9uD`H5z2K_,!|!tGDR|!F!Vy73A(TG^fbOHJG(/>?/U{,t_LnJSTz1va92.`{|q0o3Y]|O%FTp+vT]s'.{j
21lrDHF9r/siYbr1Pd/g:%##f^m^)SQ*nW2'ST0CI.O2z.&ps6BwH=[EG6z~5j_]0o}yNav,,>]mZouOQ+1}3{JhjSP<F.fdNJ}tPWw&l,jxT7cddMyMstw}]!#</x81p8N)tMOybnwql(W^K,1&xv
z)J[:M].5n^YJJA>B*S3A/~nBWra'=BBhdEZq6+=2JK1v/)FjCfMmte([f_0ZZbN8[0HHVk{[PcDn?..1$W/7H^%Q;}|c4SSh((:s;6fP|FG+?AA/h/px'l3m;sR,xU!8u&_3g22SYudr(fl$,n=ce
U^qERU*l&IDzQ&3lJS2#m,>K:k3EEu}G?*7X4N#u7pc?>QvtB7.rAGk[Vh*>`}=_RP2Q^V7[fx10/8d0<1W~Nt>pIYck<r2_0#E=xy,Mbsmxy?]yvSOq5f}ms//I10gzCt&dj8}Qr>ISG(_#7$LjoB
T[_?r=iR:*<j)T]K4&LFaejT]3kIufdD6]jEm/WprlNP/|*92(.z5n{&N4YQarleH!=SddQ+nB!GOHLM_GSfh$]t7sh)k]ftsvs24I0f`HbG+{k~kvI5FAv`C5deK3:5pv,=8Ouvp,+l:Cd&y]+9q8
]eaIasZ+ilB4gf,|Y^?r^tazgu>sPB,QL(?)1%>#RXP|z9exBZy~cRk*0a+JBimE(3FFo,'k6G(0/*`v8=Q7!0EBU!>Uw!WoM#C/3`%lxP+D3vSBbsrVdV/rtfNZ#YZJ?z*|xhzfDrXMencnW.SE6o
6k0]hdF9GAv+lupNmu+]dTHK!;Cz>6(8ZsLQYEGi4s=:Bggs>qMic=}*Dg%Rp)z:XS4KI6ckdf$31A?hBLN;v[8jeC#9|He2XlW<cKe*YcOY>]Nq4{]r)0<Rg,IC0Dry+qET,iZ#K/k;~]*pHr|Q0q
0NhIau?IkurrGS9Rp#fJ$q^(h3J!lWRwD(szzr1}m{GGOhu;%YRtgKI}[/Fk]9YGY4W#7&HXZP^QS6RQv}|+g(V+wAF(IA*c][{j/(9/Z|CB5A^c]gWNqW6)Cdz}p1CMI41~2j#[o'MK$7>sV(~y.{
7v=0c_wWw3jQ(,2uCBh30}$eoJIf{rY=v#+LI>,1F(cyU/iPXgJbX<<M3/3m_z5'U*n+RJ;b36xEs<cikp+dnYU>y&83kUP+VGz`:IRbL$ks5:Z''BsZW][oG`H:44#8>wGPAG~{zaY(2&ZyT18TT,
u34'bV?|j&4)ne=kC=(^/iS!tqtuGRUGdf[s6sg!E9Zzhw$]nQmBxBjG,*hN%bNL>mi~n=Q(Juyr:j~FUv)vv&8WwDHi+Ph5}Qse>)J`5)_Y<=OqxRa>Zd2JipN[Zd/?[%98%ZBx14VLq?cx]&4Z3*
z4?HLQ;fFXJ?Gj!iI2#MU36pKG)lMTh.F_,)6t=k}r,PsRB/<X4ORO]V25pg[8ZzKx>0BxH(h[C*Nf(hy&O2*iKW0^8?r;f:>6V{dpd4FTqV(XS]Azc2j^,trrJ68ZVMm}eSV{'V1f#XhiKomZ0YJM
eQJq&Xd<,6PAq:m)hVY+~Dq0a.hlu{`BVwfSb[g<V6=6|rJuQdk9k3KBHY&!<&&>?~Dgs|AO4yCl0[xAyYHkNV1B_ue`hDG<O%)![u3Bv^j]C/xK=]$h*aZ?t%aA;+R,|tuc_EmPGR+#%a(S?%n4~#
O<.)41.OI][$Z5&;8A/dvU3r#R;}YZ8uk~knD8YRv$}/x.nn]PU!mGQsPFhr6*>SRnWNmXmS2<:]Wo^4DpE[Pt^hQUX`'br/8k^Th67`(QE,ClE7OP.7mb[3~e..[#{9Gu/vhz%uZ|58/lrFr%;|e3
/g}SE[Am#%')Y`6$ku0DuEeN6|2lvQ&KzNrl.JTFM.shSt'>7QM;39,HSpkEu}Jha%`xuOmC5B?a`JKL5NC2uvC/_I?A%ItW14qZ1~1Y.`7.O_+itKi`M)y.)N4Hu4MwoLG/qJYX[itp(GXfrS+hZ_
WNFyVxz8m8taTh~RH1G7dsB'VFm^0KZe=FYv3S(a*E4wgO.<Dh^kRJ8<m_z(LMgKJ}+;ssm`dC&BW)njYQM,6Sjwe_:Fs'v`H{H8O9[I}v%KtY.E/:Qwe7|4K|D)lT*('WNf{_r/(7U{.tEE+1%JJd
]bvJ8*#B9%j:]/FU^&.)s7/o<uzH~rHD+ng*#*B|F}H,;+~_[QM:]oT;5YS^B:jwya(0=k!:/59%/vOgZ}e.[=M9tODu2daAS$`fomZEq%H9aTU!JTs2DKQQ]QEmd4%5,[p4W6{cp3Z~ww)dc,Q?>J
nf='8XHNy*J{xL6_JxV|JKlF6753=DYu24v>oZoc>lj]{U_I]Ltn,gApD}cdpcE/l)FxT`P60$x!`='s,_/!mNQRp.U?JMqV,oYpG3f:uP`AX=YT+D6RD8jhc}{+&B1c6TD9KnV6$zM`u`x?g#/L`^
_{FY:Sr?Qy9A$,Q)DAmg,KU[u(9Gh(Q&Cp7`)LwApUzj]WkDf;lSA9sjwo._]t>,='9{+=UFOTFAuTzwKQN%`f+Nic*oPLij^+EA$='KRG*vNrEP&Ih_S6h1bbK$vLL&4SAX{,;,(RX]%u+L58}}nJ
qq'#Iy>PrnKb}B)vT=Z*E$?!$nfFs:!dxc00s}::Fam&Y?<6:yir($^1!!>23WG!]d3q;5$o|f0.?{mlo}9msv.ovL1jP^n~!lQgApSWT;3uHfcDr:wMjK[yd2Hd(H`$0(m!{}9#z'^8sXpsQ(P*xp
Rawhs#dyZ{[3miO^&O`LPNVnvdN.[U)G;.hqEG]VpI0W?8.]bv=]KXe.lUOY#}WW#%CD[Zz)%.6I3Tcj374Tr)&iLtvU{x]c=*=8Z3/t+uxQZf.?[LpjpyHa#w6><rSmu5o+s;q^N0M=E_xE(][=oH
R`fBxVcBBaG`5~MBU|^eWxy^v2R0V7]nB5=ZG.{kjp&mZa$~x!8Z(VNyHZA*kdo/|xS!XhSlnk7rEk?BFEu!/XMy+j.<[ec$D9W}/GMd|,kmu2}3HHSM*wjibJmH`9)!pbo[.yv|c)mC^u)mqr(x+t
]2VQvsd2bl*Pz$945|OtGBAUA_zkvIBOd%PW.?Qzg{+4&+3P}bk2>Xk^ZIzv)vFmcMjAjON'NKbnaBSe'0Gvz>d)$1^LrguaA/X`(<7'<LCSjB5bI*JqXmG%Cm`j6KE_)W6gt<37;l5&lx[Uj{M_D.
q46rpY1ClAocN9Lq%0h8o85pmaP>u=iSS2N/;E9gNTm{eMs_Z(q{hQL(>k)EgZVel*Gf.sX1da5gTtvHDFx|C`8>6=vS37EQhC|7(`Rz?mI6h>FLuh_gC%^FvI]|ru;&zr1+wkGU*H6BmD~jc;>LlS
u*RLXedIf_`hvF{,J[KQ$/NV/DD1I}9+GHhJPav4[>8IthKr1>SqU^T>d)rn&!ZCG*Rj1g/uA~]0TIaQEoxnX)F|'Oh*g9TP/Sm(ABDy>,&;IY~vHP]r|,tdNLVYqdp(~,oTwOe7FcK|G>U<=3)*xC
.8e~J19uJ|wQePzM;L)G+tNKckTW`7+AnL%OqQXvy`OD.B6LBXAhBv|Ue)!3V:*g0=I]#Le2KT%cIo2^).4~,'N,!2Gt]P}o.G`3QnyRsx)[x%=z+kU=N/kz{qIts#c~6m22{TYJ#!QzbT~!(Hg<X8
r;'Pb/n1Pg{*VI_kv$|df!zUK+g_A_dCv5VWxa^71c[Asbm3<3^RuP?MlG~kVpJ8.mvIrztVsU(e2|TS0VZ00%g;Op$MWZs),7pT60{?JI<_w8p?fNRa6<`p1j0AAwsh{;312A[E(qa^C5C:3VH^9)
|2T5aT]q#Ywxq1qmEl3{9nQ?/a;(d|a[1e.fGl7!h|82vqdx#2nSRm<t7~QSy2Y!M~&m!>m)XL.uVBIRh:c6,C%|}55,}9>8}{f8jDAOeUNhh*7{w5e=1Q0!ljBZobQGizq>|C:b8/=|9sID<Rg,.X
WZggw8,Mh)9[4c]I_PJU82WD)t.$MDQ]VCx/S(_fz#VqJV&&P,~Nz_K[,&IqEK}{K^=3WSPv+Rp;T+by'!0>Qf}:d.mSu5!wjtLDScR$$vF=6&%%x,AvHT<AT'gUOBGx!,?$}=$!5lPB>}xc(JE/&<
E`l[rMa6gi5.saNaIK5Z7SO+vws[_3&J)+])Gy_cfEoqr<:/cd6[D[l1W,sXlk$GOCPD<4u.SOB;;?C[]7NfI5H!%8gO%::LS2bhQ*98w7lE_oZ7V4Qab$N;8aB]u:Hz>)7t'~))E7.Z6x0K9&OR,*
XyZ]V^U].xWk+%Xxc6Tkrv!>UidG[Uc.V]?>+!FdeTsMU:<p^~f9:km,RW*v3n?~fX_nByEZ#+82[L+`jDt;%g6B2bu~_oH+X5vK)gm27gQr`te#|7x^kwkmx3oZTM!DPAaF[Zcpadg>[.!ycFCc+C
?LnE6V3749Jw0?#<?OL0jnEdhS8XVywNpot&;Qf{_mh1<qFE~J|2:83wwTkA&1s9as(}k<C56M4EW4$cy7=jc`A0o7i24!s4,amB'|qXf6|PxC1l,sO$wVM$JEs`8WR4a];X$6l}U/{?hYc`U6Xnzj
gPY7p%<p((1{A|ZRE2|>l}b!7<<Q>EuXStu}4)7bAeL.xC(68:txK]+CG)u[P;{P2%l0!E)>]IR/D#/)1'?fQy,IVvABbdO*5L}0f3IE/]{V~b'KZXTp*qT(J{43{t?VCi2Q$WK8FwoUQyk_u342OR
7u4weOUs6tNwiS^br!U~s50NqPg!00&jp;y1P:VHc?,wq<h42s2z4&+<)?LlsBWpo.q6h)IwK98M(:e;nNbuC{cWww*wfz`Ppw8:9VuVai9_hk5;QnuQ}(6:dQ:*&T8^o.LEF4PWICly/dNOS}%AWN
adht0t5^]YPjnxf/&6ukb[nz'AD>Es9XB'Oc&94GsCl&ELi!fbiD7>ym!g5rrXd|,G?0x>^vvm+CJ9ygr{4HL;M|6Y,`;8C>N(~$V[F5UBWs:.=Rbcn#xqQtFlNJD>Wx5?U<N8hyR=G3J(j~bBIz^'
;rQ&J7`$DFjL;:C)P!+F(Ytedg,su5H(%AUyJk6jOyVAw&AjZ'?W9Vjcmeh+ld^i++0QC`j`pbyzVK5_NlY0VM23yT(y2#;b|T{Nojf3x,fXTmtLm;wU)EST}h[L)=j`hE31OEmy|P0f[x.9B.=&?1
R>6ttRHr8H`|X:seMvA]l>F,2vDv[%bbBlt{gO!=DUkiaTWoM>iON:G}KS}A<5[O]k%JFX`Tad~oFDqog;r{[2BM,GbM0*LE0%$kCa2]_6.?bXW!x2gHN{C*C0+7#J^j^guATD!L.4|&JgBsT^_NJi
p1kgrF,_Ro<z:5wL!ZVid4IW}2%*yi6?Hc~ysEVp4X)E(3,?dz+lbmf<Pmbq~{4P.itVaTIh>^DA{c*_hc?:QxS_UQ.6?1FjO/b&)?d|%aye~ce.q/1gbdO+4TeUQ06]a,Ai^ihCNLXt#'Z)WV{hLw
S/bVYm4Rx/UPO0YK*xc#EhSI>sUnU_rMuOudyQ_zkxUv;Np5oY.;sS6D}&x?`Ptq~s+6s}>ir5cAWHqLV2$tr{j;,?+cI532Jz!%bK>qv4dJNY=l#{U{NZ1%*QuK{8%:<,(.:svg_a}Kz'5>c!aKrf
|{#dY0hmE:;;Nl#DR8>o8X/5vva4'Og]|P}VTU%:wO::HeCUmN*K4ZF6Ku0TP}o5$Z!0en2?>Bl,;l/J&FQPj_8Q<~&_aiKT]Bo,lT_t%01:5+K,7l~=pko<<*w?.GQTgsMCLBk~NV!n#y?]aV>YT[
DRvhelTH'ad^!_<6yUAB{B:(Uh/jHPdDy^iA8G/Hwi,vl?ESMfH}Tv(ne=[m]~;U~F+x_/4x9806i#f'NgT>YR&|,)<KS.VN.PQz3<S`n_qw)BF{c1`X=#w%{eJJc/_kYd[$Vf<SfAeVc>&`gpGg09
rwUDn9OlT0jY3bAw,^~sZiw,^X!V=_#5X5(n~t&/tU;J[=/u!9I^OO!<|Xbzr<04CO*62I!Hdi)c*xdr:|02H.2o9cqF+J!!p1w|TPdZ)x[3JzWNLcqQRIodDduE>43GsDDIa':e48biXYclP5uJI0
?/*P)kerpjrqTx&/O4<'q9^Jd1b>|5?SENsOvn)9klQ4~q%Kv};*SInJ%wFfjs;{%C_LBRj>bfH&=<<J~=zem1*lS^Y^#n2#1GCk/:`EZ'+9&kR8}nX!Eb#x_qM9,UO7|ob4e4c<%IQd8QzOAa10Kr
M(M]D(R[S{C40ds)?56g!`!0u'p0~k;*AEi$d=0yH)<x6E6>m$=tusX1[`L5]HAZ9:L|OnK[}OO4C+Xj=Q[>n/Ux(gb}n$!_zLLyhhMIUisc*CiP'8DAoi1%{pc|[j|PfnYD*v7fghi=ED%4QOF[{l
|!kX|*N**IP>m7k9o5f90h_6jFCDKU&%Ei~:lpzS7+4(eA47<&zB&09D7>Q&^4:.1&1)Hs9OnBqQCPHLrssdzW`z/O49xVOGSj`tIKikL}]rs%<f(|(&/&HLwr}34}n,WW=+V,Vc%O]B,/1Rx4p).O
KqVRXu?y$ldxtPdnE7ViLhbxy,tV2=v/TN`cjbh(zgu]'+85Nr,pio4CIB3k9s^NCuN|2E?_N`!:V6q_>*k!RXw11J+GGwA6h1!.yOFE6FUr>MCB<gO8*xXv7MAey,h2y'V#Z`nvCJ/T}Ba+n=#'N/
lOp:A0e5lbb`NCSM][6Z.wrtG0S/,Gp$?1;m?sv5b,UY]t]I&$G:ed!X..D0:p(0vH<omLa6U?([)FKMtJ($wBPXUm%=GJgurvohYeX`$&hEiIGgA!M9Dpy.~VCeuL6=J;~~G+~6eHs:J'Ce;:p>F:
6afQPbOl6`w0oyt&:SK|rr8W}HbZ2m.g3~5?qpgZwYKT|Fg'%!_4#82FYG,ef,^W'sUb}^`doD:;R=5_B,W[[N$^}7SDOMs&%RkIRqy,_0^):|TcZ$nfj[;c]XRjZnw6#iamd;7PaA;,$1IWcaR_UZ
q6;0phP3'od~:lgH3;]<$g_qGU~6`nP[zFG()ru&E&XSBRkvp,AvJ6u<(?~vuXh8QPjzh}K#|XfsCP)98S%*{06u<+Nx(#=WT>OLEaw9i)m8K:3C[NKZ3vB<hVXzXLo+OtRj`?^)gOoRc+f;/i`*U%
rS^G`M*YGrbnx[X_~)K`+iw{~YoNM'jEOa=LBeE_$)[Alr^4x>LE?nIRQ)_l6Hu:##9um?4tFrQ)&}.~pbnD5Q0R3y(R]/?z5!YE>_zN/SNv?UNpdaRK`<oqvU2`B+WmR.v1>kuR{swW0gl>#?5|A;
ew`^lTLiy(*zY<XU0cMO`|mWBAGvnC+2VTT~kXX;,bCmSV}h^+I19pWxjDv+GY]!R)y$|Q#5wV^VPp^?J!M^wb%dY(h/:A0QA~9dZY~P=}+<r,0D&HQ&m?8B4#&oKtnEM+4X7JZ7L#uuWn#`smVseE
l2O**$2iN//HbK*Ux|~nH;37BAv&FD##=l/wDfa~ydBrlHY5{,3d>Ct,U'.35Qfz#C/xBGXg4e:NWOo92{S4!j=}E6_sLi:W5wr.BiZ84BDrH=t_2[U/Ta1+U?QYF!w:&vgTCw}IN)bVtOXF8Wd9bV
Vc1E&A>)oV;kHT~HwVeCwd,Bv~dnEQdE:O~N5=4ctS,*wsWg}h{MI52dI/[dMW,D^o4'okCiFLJ*C1bg[Qgy,>bXP9$DlW+?a^HZ?^Oa^]P:jHDP/7F21z+~OKL9jx(PZO*#|c|YDKu7ke]#z0>%B|
Z:`=9WR%4V~SS>gy'ErV}j72%W2QU;riwtvoEGtrk*>&r7WYI[=uSsB!!!!!!!!!!!!!/ZB}A+hm!!!!!!!!!!!!!=}JODwH1O].E,E|5)x6?^M8^$^p*^%gmO=ESk?tTv5k!!!!!!!!!!!!!!#{K4
517B!g7i=#gZJi0''k~rp=#`y/x$[w{D7VU,J)~a{C^fDc4.ODJ~I]<WvTmM#w`S=$yjrPDyGM'$<.|e_yQ^F+o'U~&ovUWl+FENm9AKjsWw7,dRbbT5:vd41!.}ouA/M:O)JH&IE8Y%DM_T4XdDZ|
gXEpO+(:qs?Jz$o3>69oExT:X_l?ab7a)5c<'}E,5EdcWFz+2IA'fT.mTQ5l'k2=,o(q$0cAFBG$9l&?+f/:;Z%<ISS:XDYe(`gGp/:.'K>[csctxPxs}tM1<^,A{7!Y>9ksEe6Yz`ny.SXXb=:iPB
CE]yU!fHdHLc[K>f%)4>.zATZ/kQUzN*r,/#(+68!uWnQ3'H(TfxBX[!kx(*2!64g/%1ro9U7_HkJY(ilO`RcKBixeCirB&Bov'SXSN;o]g1[Fn/<kOC7XJF4i_X!&A(b_?8F<?T`{?skZH`[*ZCx5
ax<2Sn%z><IZ9lR,GH_A<~_l1:5wzUCcR&Ii.WgkwSFeUY`tkbHnZw%R]<Y<gXf,dTw9Y>NTT'KS4McL4n]5R~Q^9J;[o5Ws7#F'cY3{[W9h!/7^j`%Ik(RfAB&G3*>~{hSagm.{f#dT=Lm^FwMLDl
1[S8x{qb^=$Y#Y$:;RT<8O#'`y|]SzaCb!ZDh%t2yCr%>0fa59jv_[5L,hr3k_BBc20AdwJ)&'t4Mj_&$W1=4j%)Pe=9OXX7kbCVpz#<B<2o]Em2fKA)y]yFtf7>i5&D_sw2.8zByP^i<|I<=.a2N_
`A1OeHPBxM?'CU3F9ySS^tCH(eU$n}KW&#ifwFdz$}T4enZ0/C8_7<ky4To4bO>mZAIDlLb3,F/C)1OuY<C?fo;IrIOJjuAm$fBYcAO[(kxk5DrrsLWF}UUxARFK4]FQ1=_fW}b35Az9^ImkOg3(sf
SeMQyiH,BSCK,,`#GkzxB+]i;`h4Dj]Fh5:~!YSMfX~+8^8RLLt(W{Z=tdc,??=+O_}b<QnMNLWKr_'6VwH>lE:^3YNciR1xq9iD^!>VMv9F{$/wuWmrIJCD#HXFezG|7[A7YjgEut46lCvofXcHD=
Z{j4fC[OU#6RH_l{Y+VazLvhLx}bteU#}FofJr{3H1tQ5g'MqUq*K{Ru}O1.V{1Y(/jz2c3lkmvx<ypOg?X=.389#q6/RJo;h7ctdM70,j^+1fx%$x$3ejb4hfF_*?PUHzFUS,q;v(c!vS=yD(OIS*
p/?Q57gB=6>IU$6]O3m^!0~X!%DAK7OF0`XIrJ%%wv?;0wZ$zDA3<~VWyJ`fk}Zf_nyvoS?v8Opb]?l&uUa7Cl3Pt5~V4k%f0QNU+!R:>)HVVj/ye2z^XU!{q[g1T{F.1E7;}OaY$>nA1]Ye|Cd!px
.YNRj3[*NA<v;=6$#JW{nFck5sWc<Q,_w(K!c8SEC!c$K7^Ki!sBUJ[wY{km_.D.SGpveEMba0i'.vu%eSFIt/Wu<lfCsuJ1.;Msk|)XS8,VA*y9mR,lC3jurQH~.3USc~pUleP1$?%&W61OSlD+o&
yB]%!NnBhVi;Iy1u_k_JkIH.U^4M6a0^![Q}7|mym*'|*Hlw^(n,xUOz7DPWLtgwb`#$v&&HN9yb>!8NjmP83Gj1TNylY>/$)O7CeqL((9!k[5b[{Ez0+*gVv5'7lD.Q3Mm0]U3HV<aU)*Vht4$tRO
`NElp$I/{gj6H*UB/lG&~A{i;vBKFw|c*l/aNM[UU;qR'{ZnHeE+qfnt=OLXD?N~RD(&pN#nO$D|KE$2RX2(w^>p+]S=v^Kb2U)'n0DE),Xy}akDd#[OHeg2A|wDHfraQBdy8>5nef_&mObffRQi;3
]?Pt#`/h,ia`}2C,;$x(bhW%*P)8EI+^(;APiCuFH*^A;<8Noh&xQ|dhXC`+,Q`PJAv7iQX_;qbg_GQ.e0R#I*zs&3'i2NzN.qgl]Ep`cV$JtrgWEz6)J]c}7.7MQChmP6.Xf?iKcB8E(Y}|%$tv`+
L&<;<hi52y!zVzp,/IO;nuhFgaUFT^'5E1307&z>y%}CNA|lAU08J(<%;d0+|pyz/iw.BVDUa=BD]..&YY{aF~L|o7o|i.mS|&^Ln;*aMxm:EK4)J~RC>RJXJ)H6sAHs_uBPzrx4fW6dZS5I7<F9&`
Nl}uV[m`$TydV7v#g>?P^;cKzl+f^[:/b#=Rmyd2JsHczRNv2vO*JA?``B$P?*j>6St9'uia>,AY~#<3(8b!l[euc~E|DdO46'RJJg>}k:biEu14K[v8RdXz:tT(PO+)3:GogZ]_d3.,^/zaVZwobX
>`],In|#~Ng+FFm8n{42!n9m]N0jZoty;Tt#pP+5/C$h^yFFMy7Z.!3SPVN>57}<~Xl:oq*F(3EKb}kh'&au^&=2Fbt)wM5K{lkF22v05=d0U_5g3y0Mj:LC>}e`(PS%#eH~gg6)8*O^WT'6&av|V^
l|I;r=s(mPM]U!v1juVLnpW2H}m'l=ur'tu?&|/)o_1PLkbI&31LqJI=?EA_GFrN0&p_:xr]]Z%jO*<m#8ugL/vF,d{>r/#GYoB*s{1h|`XO6cJ=H5Z,3*_?Ynm7}onUl%zA,Yt[oZlR39#17AH7%&
}vjnC',?/];W.8Q8+P[Ctik3h2*/WM0/N<#5E*0$YX#apIp2Ce2RmO^brl<,*oOdF:r^W<YF_}q~JYL`&_3;7hJ8T:PN>PL>RLK&MP5iF9}MefofYO1^!X?h3.yETKM<=ofD}]4B;&Ef*;8XSMC&$8
L?K3}FIpBS:4PvGOG*'$j%tLd;X,6yUP'[`h4b8EeI8M4OF&JW>cAc{Vix5~x/FnLF|vz=AozSA}P?[C?VS2xg'zs,H~5ZrxtvLc?#&n#,i7Or6OXP;^?A]c~JAC|gG^/'bVVB%rbUR^7b~1]KB!/s
d3m+UL1=?(FNtrq}G#(31]7Yqb,_[b)ND)L4i94=E~h$,I+2oQ>'!&#w%uatPq1dr66Ys#FDgc$5OM|rvy$k:k)GI+(u*aM{Z3=3a3uJ3iaMnWm<Suop:yW<v;#OnMxW>Q7WGY#pQrfSf!t,pQsC1?
A_$=EW~Qd~v[Em~sT7_7+bAi2^Lb*Th/#*OJsZO&y:fxX(6kY&D$>>B$3l6O7ul`)K(U3rwHms2o*96fNNi8#sB;PH6ffoDN~|sDG=mjs0h4v=h4,o85zsVKq&>4GKc)f?X8+k5z~p,q0TG|&njQaU
{pHhNd]$jM(!&pLQfix;3{<Tq2Xfk2i_t)XPdeosmu<]JsR7G)9k;y,7$$!8]obR1>2KwlKB48_S)L07xfiyYN!dbb/TrzuWO>GY3q)A/(.fu$ZL`pj2CK#th')iDS;A?)hZ'Qnz50LJ3^ZR9(+1}s
+J*QK_ngCF3acJ4|0J_QGQkMDyWJot|l}OIK>Q6/4Ur%0x6?rFSoXC2;HDygo2)d9Q*T&H$P|H%bGwbtCp./^cV]|YCH|<5/J:/u(=&]EDv+F+/hb~SLL?=hqo0~b|Gu+],}s|kI`%?Z7MsOqW==?W
<^R%>cp|AVI6MF1}{pF#/+ExW7{PcX.<tskh{#(v=HK&'IT30QLG>prFWd#?)m/GNO&hdj&?x)<f:d<}Q|qv:}&j^A~t6L||o{0n[0nbQ#f]Kc;a|.XlCd#dD(M!0DwCiRotH421OloJH{~WabKmr|
$1iZjmH]KaE,&f.XnSD0Tbx/`E<y3?Mn}$dUds+GCZ4Oq.<[(JOnKSIu?kP=JAmr'Xy#ynAQ5OekwGEW|cleI43I+I0+ld5`%$AG?lh?TUL::##A!<[dPW#,z)8}6J[^>SVb,3e,#k]LQWc?i^~t69
1Tby;0`tw}XL6od^87tCL'eHo$fb8{qzDS&=[c~&Tz=DH=wHc)u.%.W'f.=LHw=rtBj8hW%uXco:kL'QGdNq4NV*SOek?=c#Av2&<p*o?nE[~f0U{c.rOM6a`+(5W1~m6oZF#do^TdL&74X'(x)T4c
Muk{hMy?`H8u9L.VM8yz_H$K2'{9Fe7?Lh{mI5c_g?Y>:i2}7+oyAazE$?qmdPZ?.eM^;H1[P,ss?I3e%P]O.*hi?ul=09,}IiUav6o;/0f$N~HYbRJ_oz$L'*ZJlKU~HH9>/9Ob5/6WRo_L^m}a*&
g'97^^K!NgOQ7r<<8omWzA>F~9F]+SgZUf+xk]li:OA0y[R9jI!XY_,2n;UT[>xr_xcME$(vlQ`wO,yUrIMIXib}NKPB)bXhF2[b.R.SUi,/l7U93j=nym^iAIl+_2?^;{G|!rOXQA,Bl+N0QMjH{{
YO[jY1]Yn^tV8ev*V78h{m=O,;8%r{M:C&)C5[Kc%K+6p{4Z6yuaF'SosPrrPoE+T4}C/]W}vXo7`15_*u<gsgZm&|vkq|KXBPZkTvsC`f]dq~^#`_Ph*S4_2_quj8?$_)LW_hpY89Fi8JD;1|GCjP
QJv}x)^I9]sIbm3C{HtV^<GpLfeq8o./sneS7(7NNyty_etf_*w*xJGJ`hk%wZ&Uhflvti50,N'Iog2lz25FRkeivxoUO'rf1g,5$3rOw&Np563q>6k*b6N6d_u&yjgcW%nY:=]&*^]O1Mw'52hnv3
ew>y(g.8v^G|[rx}Jvs{KGA*?ds,n|~9aWN:R.Mjy=z!:)oQ>x<D1LKGme[vKNl?kOUhe!+%y53VJ!6CNPCoSI$R(w,!;'6y?Ur`$k;Be9OLt:24Pr_KJM%d=*x&*?90+9_gT<j~GpsN6KM/yOuIJ+
RZ[w)qsVG>%bKm1f>+Z|!i,?l2xSg20*3CBDDJ^vg{~,8!]K#qrKYYGpPcqba/PifXns]qwQrN&O+;3g2cQ?}<10adBw.Ux94K)!SaUK*_w)o+HBL,6G5ywW4}3IojZVFB'obS^Hl!SN[?y,d1|pHx
Ya^y+)3I])s(z}p2n+_ADQ5w2T2?u:cCNjHf_5C'OQah?*)soAQm{WVd22Y$d6FSu2bFlNPiQJWZ?C{+w1QhIj(o{)B)~wMn[SIa;J3XPlr6hh1ar]fY3t:._(Kz6TBp!^hH.)%Hnrt$iPc1diq1Rr
*t.t&*45._/:udyIUvRv+Kx=Tt>jp#3w!Cfe!pL364h)PS=(UPFRX9Rix0!FfSWa}h_3O?G?6#:.D;wcX0i,jytzlkCNwCUuku~8s}Dc#L(F?!2Y'Z*E(SL%uKEuX*ax|1Rje$[^<8`TAF'>bZzKk/
vSk0G*1cfw(CCwQwI04=N2={Kaw8)|kORK~M6i{RYDTvT|Mi!rmKGo8AkYR!RriwjQ!XCYTMziTu;Y{50x:RM`=J*HKpIg8<p`XZRIl_8',l8a]B$5i,HA+KFL[o/;34[[5|r8|o^J!&Vu6J+)M'w+
t?fk.Z/u3dc!p)CVHb%v9n7URbsw#}Ks&vuqE#OiMrxtmpn^>,'gZEQlQYEZw]Jp3;Ou>*`|XTVZD$wQZ~m8!Sy}?s1{uq|m^ETR'Bxr#<!ain*QdkUWC}SKbla{'%y1H$BlK8%X`mXQ:XNq)6XsDe
b!Md](u&7zq'''6G3F{gj;S5z`tvM]u|fEq.7GyV{SHQ_N17UxU.vEFT)NTOB^Ti>>fcM,f)k%{6w^T^SvPGBzK^1#KIs{x7p0#Wx(|%ie(YNU4T)1<848O0{)BW0xq?7x_57v=BVFsZqA9RyE~N1T
>nT$~HQXFj]Q2(}tB#bxC=JV!pG^>jK:+:OHI1]2GHtdNP7eZo5y+)F8=SzJ>9Y$710fnxSgTM?nLvz[L,%4<X527l{##/u3y<]v`#cC[3ocJC=FBFM`v'om)KlG_5$Az9cG$eq*/:O'Rwop~a'.[W
!zYC3PrQsu3n>FU>`9ra&xHLYvfFQe[ilz?0uA#AujQIIg+Qf6qm06nrg3|tRAZg%Dq)6K7xrz2'757pl9ggl:1e~$3gH?[lAL%8T$Q>W3ib[Ug.B&7zX(]Y6+SRNN#_~S.hSB>^P4WL}wsNo7359E
.C:g!^MdK1,^HPCO}5bX9xU=x3E2$)W(uNoM=dJ4r7f]W.7tuPgaME1cPHj+SgK)zT{pGI6r?)W7t|PQV.5eWJ39m?N`|YM}.evF0^7.;{$p+=<JvfT1n[(]Ar2jW^}uq3r|xx0{Iyut[^y7|px,IF
{CH{&tO.lH9Pjv7HQu&{U|J$z;zhx%#yS'qSVCAOHy~gWP?#V4%J?u,V.7yA<j=$!D)r[:)~{V52ybQCC4)ka5c0eC|NkP(B6w6>sx3!4thZKI^FO#lXFVzwe~B3glAmP/)g#!B]$~b4~)PlORm8b!
|m*I4s0|%zodS)'QmF*}YEtZy%fuQhN~U='W8e]#kDu93i*!o~.5Ar8CxS}{E8q3mMN*{Yem$Y<!P8I)`/jZ2q=2kq9H<^;,U8A:w`xGJ*{:oY'3p9ycD&(N!mTL:p&gqd!/R0yOT6(Gf*N^|pwI*P
>qaj)e[ryW3I6v,0Z(34sV/hF#Er9!.I0CRR$3R&_sk$eZ!ThLwIH0k{fn;eIm?`Di|DTG+sH6wl{O5$d^/+>'ocF+NYd]7f*(R=4S^W).1qjv%kBLL)^cv*z)jxtomT2g4%;=jn=>)8N^82OD/j;z
Yq?w9qo[,aL2JT7F08;0=io)^_7BG$&yoc~0.ySqBup[FwSI$te(u2?9p$<5AGEZ[#CJ^cCfESg{4]9ic~$h<n^:N|3ZwEw$`tdb9Az>$mR,21xn%]x^BTm^o,Y;.n/pS!En%>gWO)7.p1c`gBW>S2
C,xX<B]qFbC6/)|X4JxWQH/tl!'dq&hx7[L':^R5n+5!~09uk&=/mpD4JHs`!'ML#/Wy[47bJPDrO;VL3q]Xb+82UA7j;uYLv3>[5l=:QCTJ{,BVZw/NDABi<ibpLyEY+'px8Kt^MB9I~YI=0F4M/,
.xF~oTVYS5$GafOxBc8}wb<W>KF}O6hv3Q)uev}{[qD^f#[#>SOlT`ew^+8?A2K}?r=75|W5urm*tM6w6Xzw8;=^HqSuq*m8r3,A5r_(US;XFu7(]];S[[F=;yqyAIV:#5W68ouvckl/Jvyd0L|0f7
?~{GW2gPPz0d]&:#)mr/3v8d%ENCM}`T`k>fH4aP[C}`?9T8lYw^2}b%(zhLm6S+)wj&3v5AmM(ps{f{?SX[U/QS9(#;sQN_Y9y##FS,_kiEAIvV3R|k8{8A`CbX#9<)#O#(tg^G9aIHz&MTuF_5KZ
nsjZ{>]C6G.Z0X5K=FFyGDBeaqe15>xNFg8GxcSB5fD<vvD>.Vm02vr$;wE/;DDl|;'B}Ntmzpx[B}pQAqRKo&sRM/XMJ|MnMd**=0Eg#X2z}DCaikQTw.WpHxj11Q8OA+LYG!|O1hP*CkItPVVITX
$wZ1P'zcYY>C`kEvIE:bKXn}X^B=?q=G:zmFDVSjBJ*b,_(69F,u0Ch[AH~4GuW5l:>/btSB%;&#(I_CU{ZA2(xHX6$O2Tp.)fqmN~H+[te0I6?d2GD1Q4Rjc1'Wb_]+s2Z_!taGp=>0U:niH]6Ir/
zj<%]f:Ia$lr>i,i}5FHtQtitHBh<qzJk{dp0uObINPCoBGa`.*H1>KSSO^p0dg.*c~up}h+MQ+ocRib7oP;KoU8W&X_ub<0+f')yHOR&M~ufZet*HZ$P$9Y]ywR8pl&O,eEEo#b4mja&b&ANK><X[
Vheajj'sR,fdUrNcI(%k'.X4'gZ3!^$t`Q%|w/<oh]<Be#9[MFg>iemVNoSQb0y{$dy>i~SNx,!('c)j&Ck08_ol_STpa|mi`h,YraR2pZh<V.LB/>4.bd]u:?|(M_T=G$QT4o<d'L+_*)DX_rM=yU
u~!IG?+cGpU*NFaIQ?[[rw3Q1RqXz1dvGd[^%O1YzdO'lkYvd2NjR]oHEm8dVt[?bwTxcmot;)w8WDfTt{3_,$Bv7&$bh]E/`Q)Zv+zXUg3e*`LG`Fx!KqVdX{2#w}&c^U`hS$b~(k0x7f=?7cK*.e
aj!r?B}mKyZa<LIbky9{n9OC<zl([(O}?[c'R$QXM4^zcI4ALYdyLI.W>5:4AEg8>{VsqQ7mq_*mZUpn/^1[%6xE1&J]ruPcs~vl0;>>NUUA2CJ_D/4fh4!$l5~AxLR1b&,l#`^KIN_qnyR0qF7Ao7
N>a;!6[{sxVRm!zO>`&W}}?l*{L9Jv~0Ae:]CmG{g<Y'vr=ievpaZ.D.wo;<0Twk1(JtEA{NBflK;O]A>8g9op+3}c4wMBEfVnug.Q|AV^L&()'yYmi>a6N4Zu<{m0sZN4`hiFswm3mnxBHe#6QNqv
XVbM{[r(VfOKoHFVc4:SI4&9p.E4}UH~]'GZ1kN5iD/|F/=SONsf==(DOf|D)7[EIueXd._d?M>XYb>^nBshnMH_M?|srb)OwJ72|]:L*p98,9tn|Wicf%`65rgbh'[Hc(GLCVG>SQS:bxQvfO0SF`
p>;,%lz/7U/}JaA8<|pAH^lE[4g~cbR:?]/+(Fg;?<K0h'%v:Cr^x4Knl3Iv;ECU.QL^2N22['=i]2n0yu|KXn|XIt%wI^66^,6fU(Eya+NH'WT)u_Ys=VY`Bh`7kTK<76J%C=4$oO6~BNjK<VlH1q
UR6<V09Y1'VJtBNl*l6gB~q1K5I'cvM3sk]N99gm%2[vPKpLfX'djV+1wwE8~rM?IFwK<5Pkauv`7npinLHTkAIqP+RK(0Rz87koBm0gaCiw2&w24[yEHtxw%Rj+vowI>fz2kPC3Q1yfcIHY=jP1Y2
]9HJGAVZ<iacSu3TjOt#2Z(;S/ak}Y}Du^+H>FkG/E'w#s^#TI?QA%,F^!D?~wGRs[8,Nj(jhGWg^YoSgQ4fcCBG)#f<7d(cH)bJ+}rcs`,]XgEbNWd`&{*&?*Og5C+OBt_RDn?bY!3a/[eV8dB!xi
sx.v$q'$+Kf<.c~lT]$s~5m!+3~Ik6FBsIwofJ{G0MKpF^v!THv_x,S1.z{#iC50;{&XrftHrUfU$F};R5glUD>i~f.ht_*U}qY6^|V|oI)!.nnWut[yEbQ(kQiN^rYGlOC.kw.whl0?L3IQ]vtV#I
S>3}u|2Oz]_rC'zS2#vPnci*|i%P]m_cX!7Eqw8wXPDe6]~}$J=tjJ<|U't${6u:wtLXlvFgl&kvrrRxxf.SDea&;O&hz52(QSzn0*X~p>9%KWBtj;mTW6V0=)x>0?rvB_lXu3_,5xKb{bifa)E{N}
CiKpXt9cH6s(VqDH1F$.g4Z!g^Hdv[a=+^&Yi.4*.|5g>>3j6s3FQ9qNw4%!Ksf%l>Nr:$8Ad*w~RB!::h`p]+d(X%~ZlPbBemUu<RcyS(yM'WW(MpGuyJuKO`*Y{5IF`DD~^&_!byN#po!xH|umhu
'J{xq*Bfsw35R+HfPxM2Dfc>Oj10E0$U&dM`wg#}u6UMPs?w+_G+)6;SDR2+QS7.^+(0}<G*,rvTR?|H*Z($jpr1&aT>}Ab)m|<GA5W6=ZTl2k|{6^:njuCA|?&5d8/a**?=L~RJR.Cn?ppGVU0NPa
BO3s/R66jDt)tdozh9WV^)x/<!j]fy:4k:j?%w)w`S6xR|K_e/<=c8K#S^UmsKPrXwH+Il+9^T]fv>'oJ*<n,,Bf`x<|TvPUW1S'6ROx#a[w$Gv^%[$s`fBy6NQw)dDC)bR<Ni}Ad}s&m>5P,eYe[J
Iyogi`XnyaW&j2J8BPn$HMhlj)eH!}Z'(b<Z2fid_7g2fS6?iU5r_i&UX_lL,IG}?b&#^GT$6G>960[/Rvh~f;IC:'+tQ`50nKW[2we&{f=]aUq0oksu+rx(!F}0xPzIar40T3,)13vxAwreZZe.3a
u^b.23?*5J(!we776G3hS9_jQFe2s'+4Cp*~>d|9nhD[TGeQqRdM~ngS0v2fC]:_qA|*AHSO,TkdszZ%{~(mNC&!xs;rWY$4kL&&;>ZG9]f^8>neDJI.*X?V%1&?VxOq{n[sLqBq#]vXF}rXHctb2>
Qg.9A%<KSQe3n<rp!L^9WVb}11#XYo>t}dW(dz~AO^rHjls.4zH0=4OQ,:v#(a>vUU$Lk_dYY'3wnU:I.d(*,$EiKNE<JVo,;SRrWe!gS({79T_idMj<)4IMb(e,d6ky]HILUbeW!:}K[<]gb&s?9W
Y%(C`(^hHq`Pa6sg},aj8}GQOq#F#`(|O8fW=+>eczF0g7&h+E}f`s=qSH=AAf8wqpL0E$%8h~oN7q=!K`L{=UG(x!d)W7{T;,7JLI=lJMi}=ULf7}9g<y!r{sS{e0_ed0{p9Nsf5.;}D..6UV$enX
d8UF_*h.;4poA;LJSCce_K_:nb`$uJ1X#ulB+z/x:)!U5R$L3yywG`{V!4<w:c[:0<$bT$obDKy){bgKQyoxtAuTge1YcG(}D6F17F;6liBXDz%!tDS&OA,>'wmpUcU8J)R'JD*1TTRyXv!B3FNwfo
>It!FDuYZ='!?Y2lWJ%<.+4<e.F],5:4=p|/ixvfX#Jee|'+]kwKG?pEx<(M'%f`Y&}:5uxG*&<gO3)jurs9Ws.8GStDfS#)*[/#52cWc`aw1(>VUNz=)s>NEA8[.N`*>LaitW!c*k*KJFo}?LH0|6
n{DY7sGf.;ETZ~n'g8|y_|ahJ`^]nNHmSGE(aq,VC2*>wIPC]1G*Vu?M2Xf=QVZDEfVav{?t;&o.d()G737<^Z/<x}XI;q{9>~!EN0PQ6|O]Ot6s?rO2V`:i=7H$N*3xz|iMr$#C'fS'paAPEfM0HQ
>;/tHj4U`&:`cP^$zX3+>Lo+C_l8aj4|;n]_1yyN7<a;M+CS>vE)&$.tv)dCILbl>3{sd>7zG}0?d!vREVors,q~1kh%tnYU;J=mYZ,w'mH6S*:Tx'6>0j{%+zM/D,mwHkQ+/C1A&9jkw:SqBP(HI9
~H9A;sIPTUo,{AQU0>F3>emf*%*$!Zr/C&b)Lq[H<tw~f{5'{St{IAY;07>mI*M{I831m/%OQoM/'Xcsy]>e=BqY_.rV0q#~9je!md?Gi*!wF{O8BB`|N[ywY4cse|p/rngRb_mO'9O8Mq)5{w&$:p
40>n<5ml5O#h9`q^;#8APYDTgPs8D%tnsQW+2RN9EaMgOK`3K.k5,*O?r1P:)]pIH5Lf^M#!o^Fn!GVi,I*m6iBFk%|GD#$7yl.&NkFYzw_CcH]{=(Gs`Jl;o_==s<5VTGQqpo_nmPGP_~Pj`:lc+F
(uq1KpALVkEXB:n^n[f6LA$1/M1xfwfJEX1Sjs;<w{W~g|N:T2Ja^0r8EY$`yNsbPg9Z02V8eU|/#V6vpjewZ2HG)!X$T#UD;kh4W.f'f:Y#RrW]fNPYB?s'%zC3R</`K).0Vw5bdeal|,V%zs(DEw
b:jSqr]#&AvJ(bT&&LbQ&y)RZck)<im*6:/)r{|,y/n%eV62dT0Kw1Ge^eI{P.VZ7H`p^V9AIwreGQka0u+R^vFo?+=)QizUBzPVD.JXx1=c.'2FhQWfFA/<J:m3c]&#H8Uh9zV]E}?MSn$2;q`FWh
ssVGouzEAk|kp(FQx)S!,!J&Z!*u)tQ`G6`y2g]U#|Xm{,J)MH0ktt$Q;]8ysFv:)>yQmVs$n5`1nF/BG/8+ruM7,pIPn4&iWUg%r4V>tZB/(Ox]O0g8mx]AQElc).6ZGLU&L$^0IAjA#&gF=NGw/U
'z{N]T`KeLZ4nvZjm#4cDusTPh?!egr&cczo%;;y?Tx{WySo=}nP5g0y|7WE_*[g$xW(/KhE:I*jI*{TBG*iJzq)GB&I/46>'A2c)gtI5u7QTnqx9BsM?mW%&`pvlUntP|O`7]NT?3'M/t2r=uH.7t
t{_Fa3_F0:G4^%c#%YAg5%n#y4JE5uWSvyI^zWO8|PG=VBC,8s]Qe}hl{N|<tVVMn7|Bu$1[5'|w30B64?E8neTR%5/f5|I/1Vrfk6;z$(*d`KNzz;=EYI]~F>{0rX$MVOi{MKb]RE&uQsjE.Z+<i(
Q?W5JdUg+w*E0~H~Uzj)V!;!TVFX:Ty~S#HNIGsdN|3!+J8DT}X6Rd{(k%>L&0U1>=ZzZIAcRO;ts,[8eD=xtyS}*DDaA][I/qcFq.4nQ7_4_p)1R]0VzOCv`+P9?FcD)D&_qU?U[n5EBGJu:8TedZ
*c3.}4E`MZ0Q|+h_RdTmLuHQodqsE>hC0{A~4KY;L6^Vgcu^!]^!+N%$]A=hTG^'[&y#sU^A<yD&G9bdHNzhiO;rj6S7syV=1U~t/oX/%z#Us#;Obp^UJHYQB{vAx[pGQO^ILaR<3(p6s`&tr=rit,
;S*x)RHr0r:lHi7lFLO2:F;CrNjC9K,z[*sp[iOa#J)M]70W99f>|3Hlw{;N9.deL^Gm&|sZM0<a<'<YfpG7,/MY4OS?<&W']C}b=2H{`zWG^Mv.I+/z|r(hNvZ<x$=ApnJ<w0Ht1mI8l+qkg`PNEZ
/27[6YdaFMxCJD3/2zs)Ptm<a~s>m7Ah4b_o[p'2fcfRsafJB3:xPBP|`$w_D]M3;`76c++Ot$iVJ;CLQkVh(,'wC^2C~b8+5r?#,&r~h[z*xCsu'M16!K7_e9Ig[S;n6'Pv=[Yg3T8_7f5wv^0cyF
`XACteo#xPV/wjRN<s1C4h^UXFCK#v6(,,fM/tjF'H=V2I^_$vw:'`DC_s5f`aW2~+0&)xQ11nCxe1rhjD(1mvU9i[^MYVWaJ(H|MH}im:<c^YDkI22e,1psWl=Nk]wvXKz9D5:65!1{Y[jrB/D)]N
%6ox;pVd^v9/#{fT7C_5^tl9L[4i')PDJ}}0LODbNjAbVpL~`#V`<`G0no/JKZJz90%nE3iq^*rZH?n9ugt#iUrWH#<g1.,qVZeD^M`[B>UW|m(.r*xsw*]*>RM,2>9jk/UEV0ds,m#.h0}9AZs(^}
G~Dg%)2!ueNdH5=#/W_o+WU,1_P:oaS)D5`BigE*ZiLD!r.{4)l*SmCNLU9T:a8q{%}UtsDg8M`xN&5%F?>yalM78fTs4jgRVMln#W[6i)]2II}GpKz#]j9u$7vZ4b!g8+pWMq,HqC<!+9z5}='ye[
1n]F6]MFqCJB*'J=w;gP./^~3?XQhtplpYBph+]xS2z#.0)r/cE|Unb7QVO24'Vo61#>CyiSl6'E{FmvZ;`8Rh$=)9i&Va!9:tb;H/,C:yRDa45f6H#B0`0mFock%%5(a*;HPINmS`pZI).,hIK.ND
O'='2h|I[+:y6<5Qmm&A2rx3k?ja|K&s7;PLy5kb$/g2WEO*%FQb1)f6`/vvD/_e,nD[:l$E|k!YUui2qYG*j4;^:p8VO{EM.)rmyH`~Kvn(D'ArH!?E|5$_D?a8z.nb%?np59*76$K}Ip|Pc[Fg.x
^[.)=YZ<yy`U>wi1bk=U!rPoR1#90X`:y+~BxV(tPR2~dsCdXQ.i+i<f0SMuS<]Y!iJrPn#r^012h]n~&;Bb&7q8Bwu=[DEXG9Nl&L/Tkw$6D)auB'keY*+[9c>:$)O9qdg!5T|gn{<qtW}v.D1AWe
jVRpnX._geGjxqEFpyo~M}+nN1S%;H=2~e*|FmQoYLUA^q9}zT751|*$bS0tVNB!oG6zpB<bTYL:ZQKQK#7fun(.4eLqe.P1JNK;.RH^A^%!(QAG;mZp6&($y8SHsTrJnL'[DANwh>aQ5KWnYV(Jw8
$jLBl{Q_PE&#,GBM0FZ2g&ZIQdiPfSzRMiPBn<H8[%&%fBgI7_WmTmNXvr7s..?U)U^7umwTMxy,ac[*4cPIv+UbYsx_#d3AXzo{L~[+tCsG%S.y#vXr{xo1/<q4f#!Kg&SruZ4'jFnj*{z,qus{bV
}lzd6^u^nc;5m)+U>|#t0o$WEv_0q6FnUmQ7pMqofp<SCX~`6tEG;OtkG/(~)E}Ck`.%>lY{jBmJTg9y:pT'Zsrzkf/uk=7?e$)Mlc2XjrBt^9YGv^L}1sG}]7Lse7*w4f9ujK+8`c_%}O</d[brNw
6O1yF0~JrfsbQ%_c;p){+#9_Ni_pO2lO|xP=7zeh:,;TQ#c:]H%Z>xCz%5#8oww+sf<~Sr^)S}udTrz>I897wnUYV#ZoK5V66DR=.%V1e$:!IJhB:r7QH#^hs!Ne?z$(/jkk5ZPnDgP]sy&csuigY]
7uK[>Mo!nPpzvWt=SbY9Kv<KU4cwd}ah?,9xEM/tN&<ydYeVq_DrW~Q[[A({WElW4({%|&zC^e}~~r>|3t%<M[#TXidq(%3%m3gbAqQd3&d+|GQ[DkO|KRz,j1]o<Y3}8jU}2paUi'vG<N;qq1}$83
&w=kXN4+0#Kd'y]qsjx^Y.)M>m:x2YDGQ=.P#?Rs`P/hv|{4Lw$]6Zs>Rn!.?R3vTSGg/l%WT%kvo)vt7ooEiRAu>>s[WCgED=~kqCJdL8W:jVNs'y7WgEihAsj6~_O*M^QMp{Q(>wE?..=;DLTZ,o
$YPbzaAe.ap`SN|u#}^Z2}J(T4N]f53{3)fG+>~yo2MS5'iZd;32]~_][wmelQ)$)8LB5o95Z>:EFn0L:o8M>0`V^Mml5np^H?CJhIE{56(gi^8MnR[SZ|Cfv*7G%gW9SNJipPQ7I0d/'AarU/!qz.
?O#/cF*YTS/Ri=>TN=Fn:Z{CN4[FTUV#E<e5U5H{O2Q5l;lB|oj.8U?BRKp*e*tY^L);]ZU{<E%%r=b)c`iL>N_+E0Ns8xt4wfCpv`MU.ee>uGT0Kdg[cuIn(Qb~cn(k4pIgL7n0/+94/?lNHZmlvC
[X:rgIB{aqlA)xmpN]`}?_0`'N7aG'}2Vz}4;gW9JW,nuw~Ov9_juo^v<_tQP7U[b%p5T:^`*>SN=p'b&3Hwu0MFKUaEKadF5wZg~/NLNH0tdR?CW3LnrI#~/b(TKr#y9w<MvN%7g~I|U|7~_f5oHE
e(ybMV1I#3G:CYKs5B+2A_KP*LMr_aAF;y1(gSq3sIN_6^QP{sxivsS[1n:Y0{+S?C$_eg2FxUYdaD]3w?L=0(m6Ja.N,&?MYvAq81/MRZZZowbi2:7Pg8'%V7h#TE7Di[|t:tmP$2W$,'Q)c{4mJf
i!eKlOf2!ZZ':Set'1+Ecsto/RG!^MZ,Ot.4;==kQaW5EyQ:uosG|y#b&iR/V!ON7>>!<?OMkk^_FZ4ADKZSj(~nAd(xOk7ep+j:(</;Y#jCg&GO/2tv.[38I|zoK3mnb&P;53Z*$<1sr{UYU|sDQ8
_pen%qB[TXu:pGK5!m)eskrqHJyAd:'g<9,'o(~9PWh)?|f;eT'rvD+j~{g/_(3m#]?4fI|g_Z5f&EVYFI0O9FK_H4vP/a6vDs8J1X,o*/#d^9<poQF62,=4GIwlkbS8xo{s.^OGP`,W6xVZ#bAc2&
(tKv8O2uJpv:Ze;V%Od%.Z3ssHC|k8+FM4dI%>_0dX9YezV>Z!v9UTs;Xf)ja/^]zc3#U:9|Sb(aeL53zVLx`)N)kd&DlBqs^$?/]j^wUsM!K}wq`DLD_WnDcANP|Fbq1pfElXZl2YP^.j'EVJAUt3
1*E%%]yu'(3dcK&pS,k0'z_J:f%!O!r>b:9g2Y==6?Tku(fzBC7f>*%73^Lue*[.oyRgI5t+y3KRcfo#fY+W,=4891<V{TRN`kq+=#Ig}R>*>/<^G{E^`M%{To$O3?3b'6(u'OBC*kzI^wqH`m6NTw
n6!k&z`K>rd$RiD`Q6y31LX#x)oSqt4m4CD^CC$Nc}3m?FN~=&F'b4!W`$N'?trNKhgep^Y}kwadnwKmA^F`hG;v<t(7zXX;GU<%pT2>0zPoZ;EcybrX[C>YNwBcZ*p01mUi;,$^shH%&jv/A=pf{x
{bR(nfstxl!m!bnMxsvYXjxHiu7GcsiYi^rZm2_D)oOMeF,L&PD]DW!<l^z_RLLS{[~qH}hCZmxCwS5|T[;3yc(ur?XH.P5cwE0Zj_/~f%H&J)hiuVIcQFxaa~[;+$>v:`=<&*1Rze'chk0/Ky~(Ct
?o%:Q7tq(OcAO_Qp`9M1zjH>%EXAna6`^qgD!&Xxa.EmhJ,i$c<BY#JIPc:z$Qmji{O/bP1[pbvy6|VW[<f*INOa()!!>seJ}e%p]MT5A90Z77UA7n&(v`nudljx%n9x2h!_lMEnOs%!QY,5:pcn|'
zhO*samZfY=z.,`^<4l`!DYJwFP?Ca?#BN/.=uHGXaHM*.dd?6/N0xR{er>g?`93VBA/Hxh2TG_^gqdNc)IB6l6Qu=8?r^pwK88U~cS5B$LX.0:(4Tx%y~('Lw?|B{zK#(,hq:sU)5F,%*}b_=|yRQ
Gc;$'o,vC_I,:=gOVC(5Xp.RicX?9,ilxI*gkTCj1mLx/zya:D.sarfPX'f'IWg$L*Q3<C$bE#RWr9(+dBk9MOS)i?mefI_I[+XG+hjEVoCCT!wy?y8VmyNOqTXm]gz9.N_J)<LYM1N*7Z[8'GK&vc
J+SA;O./JX`>a:!JBR&#[CEDWtdVc[|/EFI{9<R5PQk0%H`*e!sfacOT=[TZXp^GE8%iA/a2y;3d}87?s$kNi)/!CI^Y7eADTqO[DUxsYh{!H]xL9e]oyq2KPriM)qu5iU([$MV?}2htHT*y{XP~K2
n&EvZOIyxX+D2f,|IU&k]IH!Gs/YYDo(%f<.t|Msx|XHeMZdc[P3.i;5QX|&efOJC8~z`H$_nhpvq7t9N2n$jQR.FKW2B}+Rw3&:Kk]S~yUdz7[He(kbi#e&<}doE>uq52b<A1D|w4'~=0h)xugA6#
KOuvDs3RC}?yk*=b<[}2L$),I`^i7{wSlKwP|uy}>o_1ekuW.vLtE8uq&*],{r`tQuhs6mHQE0TD!.NbmJ`,bz}H`c,;l.5$&=fB!|;A}/tc?)^S=^)==DSIwo6h)gL[}?9H1T|$X]QqVhBI**+n}G
M<?1ozCy:G`PI_o?_$R~UJ4{R;7BRu$c.K/c8~S5e_|KHa,]zk+jaQnemyR'{lb(~)_KvRfL/umz<:UXvxHgRfxHe#<x/nj>d,*0wpibmStv|JR(o2nyR)f7<KVTs:A7+zk(Xd(uS_sPGgoaY'xfVK
ABASq5orMa'VTW`wg:A#d;PDvC`hZ4h6}mDkYK,*eY{A8#u*4os)e|Hgn2BuP.8vmjhtKT2G0eQHBBTm4OHAb6AYIO.tMMUV7LK]r^TW~LKb>xSVYbX~RO['<U#o~cF_~fVAIk>Y`hDBqq$Ta)&]~g
,z.U}Y]$%s{2.fBBQ{tJfEgpvFdjs_#85)#M`No(LBH`dkYcB;0Et*UdxZCU6A*'iWhV?E*HW&G<X*HK`8I(]f*:6*p7GV.r.k.IZL[y4DN/!ky*C*ucuWY.<=){Y^i[cyT#;A=20KyjHP6w/&{Al0
^>+!{%$XK#4)E^5e;!Xxzf/5iRt,8<6|WrGzA$/DA<d39rinJiD>R|CN)tzgTJPBG~I{)%^TM(zw_T83CDnnJv&CU^?6lbm_XJefa1Q9k+~dY/'ij}bcv`h`?CT[ab8Tv$q%:o^Vc8'n$LoT&6+~Kt
m#ORuQjShJKZ}|%K<rFQ{thY7>^({uVN91zr=a7s[}e:9fyLjG*F5MnKU+))0FIx7/v^ppu2=QY}jkZC+`DCX0:E7>%lNBG'[(0Y1WM7+_w[a+8739$LI=kU9bju!flAH%g`pCrrtZN*86[J}SHxXt
ORc%=%q)nQo(K,f)FlU{6y88A(^3JlMwt%z0s=;o400gyu!G7vrT^/K<aTJH9r{w?d_QuS8ASzGR|WIy8:}<a?[R:S5jPdP$/3HfngnDH_py~:Z?6]u:8^]m6!hE8O<dmQHZr<]%G/3M5'#W7o0Kv!
?}$ok5I1H<&iYS2k2e6[xk4.7Exop!QM5;zh%ox=</(wLO|PP?3xRALhB%<8j_e?n2:Eg1i8/*7OZ+W4{20$vt,vcOp*&HnfCPU,nP^mSWWjc~*qyd]0271TxjDtrQTdDIcg4JZeNw}Uy19//AqwC|
f#TSBt6XSxyY/:J~Uz/ZqXSs,Sd(|rp2huxrU!VHL2mSf#awE^Zc3&NPJP^$ab>`B+j)loeKFZ&i9bI*0G>/DXZ^NiXx9gR#8!emy:&7ng`)IPD_E7`I6tke)i)J)&kp`Z?~8FFlkutpp#9TI0MWA~
CHBJwHmB,dSY4]cO4{1m/]JHb1/$V9*Q[l~qC1w6<;qkDsh5^3H`V?n8tg;5O8>=D4H9GO)L5H3IjYkW_Fkd04m$_Er^)s}!_l6#^J%6gk%wv{FAlx[Ws:7aD[&I?Xl4H%n<<MLB,blCLSs&u|,DP1
.5j'v}iBZaQbe2.]hU}DZxRqT7/qu{Q4WF%1k(/A3C5AIzND.Uz.h>3<CseX3SqzyQlFs{?=HI<w`q|Z+n9'qzZ5LU:8Jv*lnB}|e8rJ`[JAxHMXN[CR7v#p5_RTEa(3NH(1'y*k4ANMEG!Caq<7<J
},]*2)>v(co'_D<9K,NH2Q]{IB(GO/RTcUr$ex*u,a4Av5O^%t~)_%J8UbZ]CXpr1tg;5h<wPgnMrpiXdP>]WQPS|ef7*)2F)0e;OC;W2wSHN|$xi/bi4C[B2&g.NF'$r].n9l!!o'cs[Awk[pBaHx
^[2rm[^lJF{:*0$H_b[(F`{sJKI!x8[QkFT['om)%:<JxOt+,4q$?28R4&`,lkB|4lzDYU4?)n.#9T;91MFRsG0.<:1`09aUc)(nAir,I9S/O9rmgazfZ&e.hEI|yw{Yjh2}DnT'^[R&yeyU,B6oZ#
1#u$%qPjqh;'}Dd5i)K_{s/RcZqm$e!aWd$2.=2_Erb|KB?Q/;qUc#k{A1.'QC'YUl:#Sf?J'jl(S6*eUvMhCF(5&mx(i:fte7$3J/o=Gx5$WD!zJ%0MVrw(8J*%&N3I'%p3&;;DasW)vmeNXuX]2H
2^FrDB$JENI8S]0&j!7!{OjYEp;5Boo&S,wcAW!p_yBc2>>V*:I6JdvOPxz=e5AUR5%d]C6cU0XZ,AZwze97sxkk)g&[>j7//1I2JAA8fG2006`.bG/Xf}L<,Sw5)GE#z:q$wx%F;<f7}tjlxLsJhU
IqQ'}*cwF](R||or^:#&?zrz21~Q;%<939l0BO1C47=%=onr3hWNTs){`[Pq/q.qw6SP.]sc^abXo1jUphU^U*g`zm9%.{C^5O^ropm|&c%%T:PG~2f:Flo{yQ)qYO76{AR^D9+L9mBk]P~.jCYu]>
5Upw#VVX=7~*DVo%/<'3^x`b{i~qD]+*4VKSq%1C^;b`6Lt;!0tD1iVQ/dhRW=Jpql&ZRBiF)nAUxm_2d=a:yZU+rL;G'drUWp,|a0ig3?LM#_+o$pK_N6bWLfBoyJU;|h#^}<RE=v|sPsbU<qcNp?
.+g>Fw/bo3;d|Nu$*:Rarmuo3C!:sjJe[q[z/:0E<`={rYW}Rr>,{JLjV8}LYilfcZR=CCT$%$2eH:Y#QbnYT.7NHInI//5=$KdZU$OG][?.Ka|>%+Vp&}o}oZ2.0p1q$geFeeH2{NE*KU,B7WhEDd
{Mrf[f,:vo260zj9hGN(='AXG<~/:)tl]RMJJrPM,Fg:#`,Lh'|1fx`HD/u;ZAU!2*_e7)3t[ALbvdacX!WQ4#sb~TkL,K&e)Dwj4t=IjDzrY3:Qd5?)ThSILDj[~'Wc.$C'_::,]WCv{0K5!(GLM#
+ZqAm3%E+ZI~dT?d{l2U$[Lb`UtB2'V0L2/~P43i$)^,GfKWTSl+5G0rJ|xO3Ub5|z};#oS~mpMl3Yw^coWiRe~M/OrkPSIs_]wu)iw+*/k_jY;y'HMmLyz!e3[!C_K=}y9{D+[:^1KQf<Y;'4k[Yg
'yDdPW~T$#cYiF(RwKb77Jo$9a'y0F$u_`bP:Xw|^K+dVAqEON7H^T8fifR`9l5nlJ%JTIp|Xms+a6)p#$2a!yUIXcx<{~a)Q.bTV0n^}%FBTx^lDsF7sg`mRN4{AO<U|FQK([ox1q~s;Rg:Hm0]rP
dl;<uH)^vuVG4L7U?FMeX1CfI;Tj^Sn/.C_j4ftz9cO??I8s*tQ#vRoNTAY%HCI:;,rPx{erAk.8A8&wzqLq5]]:D6kSS*3LA[/Sv7A03ly3;Bo{b;g|}5aSq[FZ2y0M;Ix8}MdmxarbZj[Y!9ZXOH
g5WQfy+etH|3$^%Ksn*F'=imy}}/Komy/8<yq:,~aUi4cY|8$%t[bR%csi^mPi^0=n/hB%pL%D<1hma^87%z4bNuKj]+DXO*kma&gYyu5w[eMqQK&{:husDPr^3x77cb<d$Tk'ONUH[#b(&9?H^_%(
u]zRCK+f!}3Q}Gr!WuXmwky+i7vJ*fHoR3kP{ou3oC_(J9xHf0=3|~iYqz<Rd(7.tZNV)=gS(t=9|]SSHA45CdSF/aiHCD}Caw8l~oYour.6fGl'w]X,HNJj#VqiMvJ_s}{u+t0UGPebBPB??#5cx+
EnS>oPtgjZurCA/:C7cwE15#.BtM{fE_g0x{qP>+=FiTUsekp)6o#iQ4:6I2ns;qG4XBVN1z!Kl0PAF`N_R]4<.Pd{J4l2rb[HBm=Ks6kU6yc,L3j|H|'<{3j8/tN0r=U4Yp,VAm~V>`+$9je*bs56
ci^[z(B{K.<N]bY:e,4t1l&$xP1Kd'5y5syzB9c,^uu'gVh#&.utFm}]vq^wf^O%ky<8;EiA(=Bxdq3dQR2Cx0je*1q00Jzwfv^Sn?Qs~[:ms2n$4$]rA'K6J:?+Ebv?A)V2.SccPcdx>e8Tpfd=v4
W8vr#vxs%_fFEowcUTmWR&k$>N#_W!=/(Q!EL^KVQ<76ER]>KKN+(?FnT{jFc'v:GIW=(MMnbRv,]UY*UAz'Zu5^5XLw*M/x)W3S.7d8lo_6V0e4*_0Cb'qLd?5C.=1s9^k:I~C[tvF//~kWud=kxB
nrLkz:;^oQi(pEs98XkrP.lX'`G>~9J&&DL7`p:SYb^ebhAtZF7Cg`JE0AG&qRf8&YUT0'd]>IRQsJxZxb^}~jtX`bgg,lAWC[$]#;oJbVEvVCN'EvA#;Q!EqrwzH6zTz4g[Jq{c,fO01/VGs<6{f*
b8q'VM2iT0yLfN6c}Rbv)]H<SKLOZEA)b3{4,WqYOn6MdkvFM)K9>U]1h}#HI[zy9K{XVKV{nT/<)&ZWXq';H<t#G?lD{zc+,r&ZmHc'd{p*C?QUk6ur#r#99k5};^tROb)3`1=^P!c3NbF+G<Eqf<
P2[L3/a3QI%k;/`}V)rw;Ct_Yg~!4UqwpeExO*ll_w69rkXS5bp<8'U30.%uG41<oenEpvP.'jHpq(NE$nUyM#qzAgMbhx)_V3Ba'LLvs]k$53p.m,yUM2r.H8^o:A,;1%uS}#MMj^oE7AvY$';lsO
v^^M2`EL>QD<E+q=9d)?]gzsPoAvyzyb%Jt%Z|[Z=+r5R{_!^e{l(%XSAv!)4M1leUY`vp>':w,}tLAKF:STd45[1BHG^E(El&`jUcgwrb)Ni/F]J~wgV)VaMQr>|wMAtZG|yR^Fl.t3S5Bn!j>f:A
o3+YdgffJ+`+CL0UNSRA&!iBTBX7pXo;.bdLrV[9(3_LSS]p{r>gfzH&GsujixeD?M.Z^=hm(Z^;%WS|n3<!vW%P7Dn<5#DM!P^FDVjH[<'iZ_{(uHZL#=A~S{xuE*Q[GRNZFG3q_wX:t.3lpNG{GH
K8DcVp)9O81c43<,]Ad|Utl8L5lS~~jGoMBt(Pm#wnt_)4k>6X0(xK|Az_JjGRfQU,OeqVM<fFSX6h9_<?H7roh9~!?zepA`1[A+=zMyTvMlJrZ_uo'2K.Ffnl&1'H1LUq'!/D??<YDKP}iSOgz];D
.(;#}?s1QH?n`S!'eDp&FJ&;VLQJ1EC(L!%DS_8xs)Oq1MBmw5huVExc?TE{VmJmd$hBO<,f%,`ADQCvJ%E7fPIS[>2:?k'2sG#V:i784u`ZDMuo86zs=6)s^80{JopTC9utBo|9wSx]lJvSc:Z9{=
{H0{=U6Ob+(97Zld?R7v/Rv{gD8W$EtOtIq=`P[K'z4*QxMTn<3xpNBDyw;85I+k07~I>3R7r`W:.Pk!y|}'1M3MrHqP:3hb{}{xehkcW,Dw/W#Es~+LqPo!K>vZ4?QKlV^O)>dPM)*z,Z&_3M$61_
c*/r<FA+![`dt;4;27l9|DOkx^w;#Zxg'd#k^%Nkf&P$j~()KYJGT6{/Rw.m9EiOfa22e1E65*}e4Nm={760Ly%JSnl0GyfSaXcP&l)ov<D4Kr.TBkoKM<O;66J]Q5NW&E]b#L)G>{!R!7Wu(c|Z*T
Outj:q)hfd3yf4M`43LCATJP%9cj*q~W&T)|*]<i+z2{4jr/^b+0R,O^Yl`_Y(KC;YSMCd~x1,6DIjJ&snX{R_}1O!XNLGe%KAP*NrX3ze3ILW{py%<:=bz!5~+;pds!`[#JN$UJt15<;hNQ}aiXnK
dF}QDuy+)Ss6=z7urI2:lDXQ)<b6Pt]~|o*<rK!1+:3EoMgA}|FIq6=j>.>!:zh}:o[EtF1{vI6[e)EQwP/mHz1|uGDa4>B$Jh3k,r(}6bY]{N&(maw+=L_8ZF[=c7i~!mKWQkMKpO9*Du3{}?_hIj
p?CxgklGGI{'15nm;jVPVu5mXLagi`X;lrP6BF|SaC$6/C!r.;]EA>5Gy6t8n~YT%3TOEbau}716gq[dbIp<4|N0,MjipUKAUKWgB9+VP$q)C[!*%Gcr0txKn_&UhehhDAP'96,Vzg/<.}`Q=;k:>k
#{qMD)/<YwEh'oQi+Oz$%zff`D`E*|*4dRkTYAbbYN5/~Ht1bT8X>K%#RrP,7T)zJd2XJ0'F:DpiVB:HAf,(SNv7O_}D}O=_:[hx`F81X?9[_s4V~62<dns#6h`>90?2[^UQo77ke>z?JH{9$jnG_>
H]g]8+=V]/n>l/PB/}/]2s']PxT>ZH(tb}hse^tHAHue{BI#3Hg4>EJP#p.14g1D]X2mNoBp4P3$E%FL9H{D(G2qN+>fP8:KniJ[pc8wvL%L=VC'M*'tK]P?(P7(a9o$ip$l,t20%6xEKDb=U53}r}
(X8d%;R,7mv]C[;^e|s=qdYN0Uq9wf4i4FXm0q_o(djm~KoWdSNLDH.OnOrsmv>uw.7#DG/PnZ_A77n61kpmdLQ3N[/dxvFl:fHUYodlP$9LN3rD?ACWsb?W7Dp#he]AoS*'tLa)mM%k,9*w<>tx}Z
0v}NaT_{gbG#LC`pLIH}..G}chvS#JJX>^TCf}b:yL8ty{qeNl7jY_4DND[LLkwU)Og6S'S}d/gti}QiBAo`aoqxCm9!YrY?lo3)^_HO&Bt=#R!!!!!!!!!!!!!!I7bP]COo!!!!!!!!!!!!!MTZI$
JtNW}z0%Opas4'rbdWCshz*cblq0TtW0~cntk[4=8[i%j^2!QaLNm$zNh7Ul;LuJ2EzbmcfIxT`m0~>s!`M#m=qY'Nnn?JA_b*D*S{uq_%(FAai[,L2J&7XA2X4=I2^?=Xt'&!o?iGIE2te&K|Y2ow
]3973KCW/7KdulfT/b;vegy2UlxmYc$Faf!qm(ybf%%SK7KtTKan92uE<g9yInQ7%0)pB{Gjd&9IVyJ]6OGL|y$U3p=HqE2e=uj7w<052/&)qumLs`_c?I,:Y6_#1nHh,V;unKA'H4]ciI|vGy72t|
InBU?vxBeWX2ZWnx[0A.^M9IkT2EA{x_&rH1BP4lHdf<ksW;/QGw=uK)A50EPH=):DZ_V=I3EY)?)Vgf_QxG}.}t0GFcJj#CzQP=?atz*v#Iry9xUlzh<r89l3:a_=nj,d707pfnDZ0:,W#zCJOIf&
`<,?;oNeH;*>IS[XG1<5c`y^j'EGt5qAzOldx6!L|8]iP>}0HCnb6:set[!F.|gw2zypBlS{8:Mn2TkUks8o07I>F+`>xgsA|*5=[pdE7/8ZWkp^dULy7rHc4k1Q1;d$i7.Q$Q^]dy5y:r>Qs>qF'O
^(U%q[`E8F2oBdUt1P(/Izkt`T5Y&z<$L)G;JCl`y_HlZ^C)$vc{u>Jbf0]?O!WUD/2!j'#MbEkid(9Ujj[YCqW=)}5J6VvfAJbU~QFS:Tm{jPtO~IWX~1%JW^XUVBRGj%ZG)Tyskki<?]cS#$7M%a
I&*U}gP_/K`sdFHpN~A>&y~?hZ8QK6+s9KeZy^lB#0?l/&PU.L:TC8Qk?)hi%XZ>39}*/at='wVo,Mh)usE.QUjR&Fb3RMZ$$VAcIWxw[isH~`R665'q?&;n*eEY:^7K|QwHq'/<.:lp^ghY+tdDJi
%&x;:[,k`MAF]?{OY$0udqlhrUC+N!.~vFb{uPR:RE[p^Tz_qaIK'{fee~Fi5.2kLuyQ_9trGH^^xF,U%02}K$/9'HY&V8e{d8{.xF%T0?ruLf?6lw?AJC5<D<z9^.NM`z1iDB%A6_|~${titIZ#.C
7uBU'N~0FQGUGt1n3!qQXUvpN_{h9Ulp`Osj_W`?F52{=E}AMreIniwtHwUCwh/&R'TE'#q9Qw{+^V^uW|=zx|}g:I[c3wRYX7|M2]4DEU+TF;LCbPC^XF?c=l3i`xg'Oo{`[i9F)3W?}rSE.IzK8!
'w~p?D'%$xa,QY]L{zT5Oag;^HMuv{O:|L8_$]H|'ZaF>aLb}h&eirGOU4~~C[].9H?Ug.#V(oXZ%Vj6J&D&0;auZaQ'20>o{8xX:=|k}pzp4>')ecZo+c)Q.S4,'BJ]3),7|AgncKM=PM]2<X7Z*Q
`U^|>Iy40K:y%'{8>Fn+<C#54BN;FL]=<VQM.Y5SdN9psF84376lI&q&n'W9O#WTw=V+8,)Ux~f}#.zW9_e;7b)KRU9'h~~8Li>*3CIr,P^g,Q.[i)HWncKUV>3`u,Uo0eaW'yf}v]G=ep].,VS_MF
xFTgE.:7J+E#$e5zE~>;e%eI#j;0MWE|(~&&))<pAQJuX*UcJ3aB/|uI$r%iNy+1Ksx|:.V1x~G1]*0sfeKaQVj{wU5`hZe$J('Wm~R!eOIkHN&=shsDm.Byb!=?DVoxi/+_*Bfg1C!(+3v|G4aU7Z
6m(](Q,5WO}{'y#DOVVmmu]dgz*a0?alD+p});7Yw66v%cJ1{z?0IeZ*sa!}0Go9?(a~j*rZNqnzhut(7&Zp5pK!20G!|o7ksKxmM::T{3A!L;OO5j)iCoi7TGC*?M<%]+e$/}1&QGZAGW)*e[yCoR
QKm|r;Z}UJ}LubiTtdCt:557P:fH0gbh}7yeiy=85t>8l)CtZ8eA9gDx!8XDP:tnKPLyG86edw4g[MyMnCf+&.#lHN?gG`J|!C}9qRq;urUZTzQf`.r{ILV}G>jZ|PP2wB8Gzg<4ZG:,+<D3,#Z1e_
Tx:InvaR]{#d}V92xSICCw_U,hheY/MR;[aFTf5F#Q^++X/`sRIlu?&ZJo#'8`Y+t+>Kj~&J.F/Ke5~x3q&;Z'{>GRxf8a::0IiLJ`7J`:,J9wv'7pTOHsc?%W?B5'HilK1h`;1z8W(u%kf>qPvOCo
Rg,ApON6F7.5P;Nb(uE'Q5T||91.9{{4'QR5cdQbP8?6~KtEKcvVgMhFwl}Z8&5&k;]`1;CsCig5kV5%0&`W%qoyam.X/+bk>NxLHC%kp'c}&z<(WCF$^InWJC}E,*zBiZx_<FZ]g;aDVM9Az&5wuu
m8Y=0hS;&<S/gvYwZh{d{TYw'4lK]+d/[yXaR`'o=idoc%x6+K~Q;BQh20RT5rDh)a_BW&1Arb((drN/FVJ+T[_k+NFSp'82>^WvEWQF}>'>ViB}NJ|we+VUmEY7iC([Xs5K^~1FWtKR{k/yZ*E515
|*a[:$[Q.Mv]9:y)HxPSmc8#)Z2/FKGAbgG,=+ZHwdloGc}6GB19v+m,+?y=|I&53l,DDRcj_]5)/Ocb#0eM'LwioQ^>)dy'm+<,(~0}=ZH2V?MdeoA{y`ArB$MFQG~A5:#>BaSSiZP)H]p=d=xB:B
9NwBmUIbpbNH|FX]Mk.'220`6=M~,JD>/I(XN%={a22AVI+NGd=58bUb'Fp%4y<#Kue$$,HKAn4*nQ,ol2:wu_7F)%*yZCat7xtm!][$[3`b#NviR.2C5PGyq$1]w(HD7_PJu1|AfepNahb=jg{arX
Z!l`0RDn7w,{=nByiz]]^3+Ud#f>$2xvW{g|6mrM}`#*serGg{dTDyp:&dr?qMxv<1Y!*yHxil}sZv!*y}f=pEuI|%3wkL+adJ;NPK8%*QUG7K&i9'J&{HYKf={ONuRkraVYAP}Y8,~Fe=sFDs=0QV
hSdFS(lBr84*af`:qB~5$:&^LSbu`EpjUDV_d`}Xle~RXIoj#SwyDf61~[944l:5tLkXuNCuM_A7LjL<SK5.T7wSX;zHYq>1*Q`8f?pWmb7<[UOR*j/Irdf<<t{_0mnG7]o[sQgax&hXv37p~.v_hm
Lr_:iAL!boEW*OOCOi%;89Ox.|+=OOT$0.{y.(yA}jjcz?R^$vY~X{?$rx+V]tlNfG5F~PzJDInfQ!Ip>2=K[j`bsf.U;:_bwU~.pYQTv9+[6I<9bz`oaOemk(7HBM/?zCh.pOd6bWoW]H(+#RsF]8
'1tR^2aapXCz]wb4QIe=.:L['dpihtFoN3BB(BR.9!4CjWr6w`0|78,Qd>Nyj[a4p'a:s>B;gAeNG(U/v4^S8S(WAI>b[FZfBqCp8cKXZ!?'~!U.G[q<)9dICC^2=+00],=JD!$>=8zWr(TTE+gd;E
f,m_ZVxzeH;>5>Qr~a[dnhDTDuqKWFcTuOUAfoL;%B4~b/+jhe=d.9Tx8zq^[Ncpa+~*rLoSW(f]0T+a{CPmLjQAs~TQ=p}l_$wlCe%kn%L$=CHi+1qUP|%N4BYyc{vI$Q#$$|*vgId1^4W*zO,n1>
'K5sBgk56[|7ZjZEv*}iTCE3hB*WWFM<QEYWsZ}|t)c7Rh:4]Q|ZM`}(P`!{:t|4!'v,jJ?%J'''YV#4x+4oH)/#q#WAV]b;o4p>=]))7}mK*9N+Tamuu`O_21Oe%Ff$4i:%6H7bQ':^4bNdrm6TMj
ES0g|b=E#Zcq_}o!`Rz?(RS!1mN0.QpMsow1KW/zr8~hOYxvT7FRyx%X>}^0?SRN4]Q6h[6(v]SAtK.M}'BX2eHqTL8OvqLnnsIJoW[6d~B{<I2`|72JfODM]9%+gZWaF:4sD~PbWI)Dn+u>ac9Q4z
'K:Mxt/p{8^>}4dH3c$R+.6:b^JQ#t|cnK!%o{J7/KSCJo^sS;:]7S$3R7ZU=0Pg/G2n{S,2q{wg8e7?H+2{.}+v*5cEcB0KA4,V[Cj[{)yf>LZcS3JZWl8SE`h!R4m^PU!u]|=p;Yjonl0QENy6;v
y<T`>t*~k26Eu}h6h?FYF~<{$4]Pax$lw2'Y6I{;I3{)lav(kP:n035%NLsaFElFHP!]>b`wtyC]#Z8!6Je0PU$)y`PH&?,|V6cAuQ4D?[#1+<GvHHEnh6iM!WmmVh&>h5[O.,fM.GsH/+zcWbM}XQ
mxNfL{dSsT8)?K/fh<1Ih;>97QeME{&8QIKQml1bt)eRsc0UVXCNprNUq9I<5>z#ySZt#:~1S(z0v5zz}!&;X7r;#dwU^n1P'C+`B2u7Ka7fhP,S1O>m0!va;cc{ilHI|V$58{{AL$L$TQb<J_yv+;
Ui3SWbH>WMww*cy0s90#%ocZ|X;{GWZ:{aA9!?Mrx?1zy%c=.4e(pA.`:&18CrX?$]J7%7pQvyAXK#+VT`EcCcbyc8kz{4e!j,aG4c6hh]IbLQx0vQQ>%H3:r|6^nt{>4t%?>mK%K~g9fj6LyKs'H(
v_Ugl]eaBxs}CRGZscAH8!:^_Zx:0:=GT3*4MB#7+aTqwshKQ%g;Yc&uCf43ZFJ`C+TcAwhKuP{hahYMbAOP`U%)yK$aYM.*%AW~pJ28o?_>m35,l+/]fd}eC4jsfc*~<ARr;MmknLpl8#;5EzkayI
21txt/*4dcFSOC<,+M.ZG;.3??qCDyG39efO#NH1N*]?HX5VJJ!yW=Pr4%FZk_^v/Y;,Ag&z.5r%'y0ppAB8JG`(Epy1AlHV*9r(VmTUcu!Oa!,!{Zwo_hPV>9/>!q8V#y{X15`!/}jDfp``GZHQb#
LfofVSy`(CL8[zO:|J/Dym]{w{5B7FH{SFYiJgt`>]NW{vPVnR,dGyfJ6e;Q1M&HCd+<J!V7E.+t*dckuo[0psaxow.l7`m!I4xP9#YL:dh&|K#wp}xuwJRYoWE`2)d!cYSXZDk{g7x%y<iW9.bG6g
P,u;?'24yaH`#N9F'(ety0Tt0t[m;]%cJr&;{`J6y)t+DsFu2Oprs,38L3p>$NUF>caD*W|XsP}..jCNPVjKa6{u<aHRsdq8aw=X,*rverJ.G)D}u6O6N4~SFP:9neeN#oZnV>]HC?dZ>REYK1#5uq
sjEhTgI.A)lVb:qBB4wOaJk/5MhGf7px!?l8/v6ZsepkM$3leq&KsNR9+2'SQYFNhY{z|RB1[r5%T1;YX!77Kw||v^1sv:O?h>RV`5RRWig?BEAWPW?SuvA7,*xauKisvx!&qvUJK12o|i325&Z_^s
+uGw)[fJpK;$Ng>6~X_1Aj93knA1[*V{/35|<1i;?*'k1S3|SWom7FO'1S}8R9XP<O!WO>qi<RPpQz3i2::!C!3W*y<}RPc~'y:giUS=p93dT.,||H4*+xZP),>~pZwB8J]`;2(XnH#z#~RbdgZ)7}
_R'dgsC5c;fZ;wA5Dfqp}:jpc4DrVoUh74Q|^!w'>2>tI/W`xiw!?5~7!#GBaE;:R$!!!!!!!!!!!!!!W*,*J&~`xt[/#i~z:U4#HYqg>:r%v`^i/UgoCQ9zR!!!!!!!!!!!!!!8/`d&a>VsD^b'$'
_m;zK0ppi}g4;Dcn~MuNZAuz:M)+ZXu<4Cd`<8XQ%pTl4'h<#4O(+V!#<AVe_G4y$3*'WyyvkZ+B<IU!/cZ9`((>j|SM&ai}AYYXyw+J_uCP!dqvh/PBJbN*:>;8>b)e9A~T..$HMVx)h[a6WKsAs$
y&5L`yEhco'F<l,o?IIL!bd(*>D}=yvdhr]_j[yKShz#5S.?T7Q)'2TeRDH<d9`Q*}:{0bn0Aoq}Q+i>>3`d'1].<{?4X{]ZDUYe_QN;_`~nlHVOz8|hWdQJj^Q(&1j,,rn}a9w`t6ky)GdJe0#X40
$,(%1>'g*}S_wI+Zm3>=q(UPc]<iZH:Y#48^Dgb;jied(d$UL`*}5qW`Za`s`.XS6MD23GvujYpGuH;TbL~lnacJ{QfX>^QtFM0q'LUj|XH;UU7J0rXzm5yyFYR92EO4Cd}R,5|t.^{j9{8G8nKOa8
`c}Sc#|$=?RMJoSeZv}/.%=fqZ{;VS#y_xY;&Fz$JT0_>Y<4*dltPR<`>#A]ik2}qfurk>0FA4O0YS:i4?XozcO0!zp4i8*DLKnT**9vM_hgt3uD!*%,Y=oCy7(8pC0argUe|KgP4ypqO=Wh.:5uF0
?H8oBk`K*Kr]~BiJ[2EH~1?',;*IX>dj^*l*b;%tLe[km<U1B=H*QG~|({W>r{+:yj}=k*l$5NM$)VV6iJ:L|ytfL8<nUC.0iKE0_H4plDdGPB8!]=6%*VmD^%{;B<8jE9syEBRu8lUfP0$&1>X^:#
%F?mDRM*yn:Ld/x$Hi;q(R$Lw!b+Y_UkgeZC8IarR,6wPuc[,:30cTbBHjP+yU2a7V}_$(W~dF0j!/&{b7RTz=)W<)jqhuGROslB}pJRt'&$C{<AJ(vN+;=+rke5iAT5~0Yt^hvL8IW6w:1W~me{Kz
kqJBtT.iZl<XzGBDubr%TANbLZA3}BZ[F=SD,&Cxg>vXS<TFq6rc6q!:G+3$%#(02WCDTi~0EG;qRLnAptD+SBbdpRdVv{(&kok4+72(x]}UF%aF(G&q/o=!K.E85dQO,<IFnN/1g!?LGH|BMAGI[(
aI_&#n[(tjoVwF}}2`d2awU{ODj%;}l,=Y7R5JIZBN4sy~rtH&Z19.R>W,[_[W1t+S.0oQEi?IKxKCHp%iU[/wzDj'r%&).QbW<uGEqKLZw4Dz90*CEhpVWY?p?v],]p=_|p;*D6TpMxC|bjQIw5;?
rKI;G0.,y3DVq%XgV$)`AXPFHJ?:HvPr$X|V6x=NQOB]{!`61~t3|xH$)#bt>Ip?gltOb)'s=gdY~>7d,J:DEnIw#,_C[%:D}/{m,./{^eL3FR+j$^1!}HGM1=Xi&C]T]j7r{fgJI?)J5y|[*+wPBm
to1XgI=s/Zq{QI_H(&9DncCKjY9v_lnaRmq%L0q(T;b*IV?.IJ)6s_v!31aFFz=K/'0N*;(QrUj<}aM;I:.PTdaHy.aFqAN>r_r`zHA^JQest<e(%SeCPVLlF77tEBVD$zvzmpMRT4={342?RoljPD
<L$U9/9mOq4}s$i54Di;Aa';1t}Qr`$aXfz|k#XMC1X]zrgNYttP)Vwf)S3w4uHWbw$;7In#=.?zi&r5%mbeJV#zhQvwN[4S:D9hrXaHhn~Vtp<2Rq4BGjX.#=vyc|e>[MAuP*VgGt+45VQLgYX6!^
e'nNU1N}30^cL$>#RbUmQH?BR>SX:0k*gA/P}!$Rol8zpQjC]e<XP^$1'FxrWt,~p^/'GO7ic9m37yBO!J~V&$y2/_rkdm^yQ0AA{)p4`.C(|xEqV.:[PxPO4#S5eqD88_RS+BW<[XYA.0Z`nX?8DJ
pi63q<C*>IEY418=l<!.O{'l}_2ykSU_y:!n`~w8!m;I%QS2jO%2/oPe|{W>gRO,oJwcPXL:HFZk[cQjI)o}Vs>+V.$qQ#%E,?~zpu,ifjD~:Fg:rFjE8prvwEzq*NsFsqzX7ivRO+VI6GYEp_!`NY
,yD]A.5;vFqQF3I?AhZJ3G6p;+4!'ka7Peh{EcL%8`Arr(LvLzDYaOy,cB$SI_{vl:=fuD+}?i#]B94|I:;Yb+d?P*Ox+,EXT21(l%12RZ$UJ34N/O'mu]A(k|FKXZMv_XNSxauCtZ^&ta3}Sae70`
)hHPTPPKj4v,0p1{=GAGZjt<[0'Jt[mI]q9NOT[ncV|Y(JM'E*R6e0&<NWh6UkBrWEDb9e}~wp!p1%XbE1:h|v*uY8Z'4Dg6jOnt'Anzg5^%'#:$?)9$XW{3N]f&l`0oyNf8,F/xH#F.YS)0O_t1R%
YR,C[KqJ*6u%Kt+fU3M7AJdr2V9J0s%fI.PG$HHvy.e1c>bCKgan;.K)'Eq?2ByZM5G]E/Ed6iM3xKJ)TArw1`Mzkia#E/[|dJokj=IAs]qQV*.Jbo8Ws6`hIFIn~m+5VhyS(m(2NB<zP*c7zY/=k_
XxoQ8GQT=|yEW=)k:li.XJ[u.ahO:zXfk.m1=!x|2H`]w$%_j5QPmW,0px!eJd5vD3|a=5VEuJ/In,q~<qv]$FxWfPuo?4U%P,J1dS[LS{S]h^J>e^y=Nf]/`pRl>DmEyz](x*UaTPhsZF^.nc=MM?
+{[a5+nRr/,YKC_{l_xqpvpA}P2UuLR>;P[iAXe?EW//^Nf,3)(FaToWa[.j;w{<2LEK}PEfy8uhp42L;FoCQ|aY38}M<+FFq{7Q+^(x9tR+nMnk?pe^sn$Gn?go$)_#!%t9q5NY5t5$6o&O'Z2EgA
Hgq]S'FF%KE.4v=gh;#p0baynT&bi!$<iH5rpT<a$QlsYV0%Kx:6%(UDIu30GK)}gLwFj|9QTh<7KKR;9h_^dAZdOU~NmpYx1]ffAacak:h0V<.m7CtdR42~x<<K$Tyi$It$*&>vaf%;3>A9+`2Dj&
znWiDMJ]txoye(6nNp7n1*$_}NR;8'O%pp7wI&HU4Ef&G2V7P(]Tk]#Un.(73IQe+rXfEnnVR/nQCk[qyeZl>~_cm^%C~ei[VpF[S1z<[k[pK59Z<G|>JLG/U::VgXuVHwZnt;]|8Sy8W!j,_NWKQ.
0Se<TqA!4H*f0OCOu=4]IDxDaj]?;0GHGj].i0ondvekg4CK?D|X%E*9`tLF,r/|RRrH`e>YfiqzfS5Pl+QM/W84&g`q];QJp~O7i+Pi)1wYGd=[C.|b>ab.1CJ_d7di$jhHe,FH<I|^#OF$1MbThA
{PyWiUfxpb|.FPtUnzh`rtq$5Jj&sJ:pi5UJUPV21Zj}^~]5xl|_hm~s1O',]~pA;$U]ub);~&=D7L=qR&>h1veZ`gCBEfa*|%'u7WN6<<=J8S:|oWUmaQo.<^Ns[z/{:Aro0Ley;AWoIK^`Nu:{^k
&Vf+aM*T}!_>4t`27F9rB/gGZDPlxHw.;nM<F^up36^&60_]pj|q%kOm[u^3=E.;2WTo#9:'|3+0'z!KsgoJZz8p']Df<Y,`ff!hw?TZK'|&7IW_R'q){Ae&/m]mpDa$]E)gK%)JaC5IzFeEp~Dyxf
|UH]7(/+>(l9PZQEG]fa4'/Vc)~j%O1!5>$AgHGtZd~T+9nk:1GvXZeO~M+_8v`=?V;[1Yvjh`/64|Y,|j().uF|/jg:4s{2FvzyqFv^CE,q(og'5#DU>Y~zF_kZ1~J;Xc.K9]nt!&YgLrkurffY$5
;5hHE<{Q4(!mo?TCc`rDZQ$l8PE!+is<*tgl<xx$$ALJlfrr]i^K4<maLFO`i'PoE*T2qu1f,llw$gU(>Vg21^g}G{9AoRewDlPI>rj43f_OiVUZWmU5EvtaKth4+d`82JsvbIEbB'c4XwTS`'[5`7
'53b.yx~,do}muhFuc1<A8J6(Z9A.miT#1<}b?hanCG^/NjuW'm:64I'e91mY($i~&xzT[(aT+ROEUy6(CnPL~c,iNeUi^s7*qi]jwdXZvq}]`2Fa)nX_^(80a0Y,Cz_H4u`/fN=7T~h?HyJpg4`Wc
G&yqdg;obm0~GEp*F$(GjE}.r7q`02&E5HpBXiU'POs':~Q(Kn{'UMD54an]1K'4]H!K6ZLb_dszc'X}Vn.(<q'3B5{8YZORbHz?V,Z(ICl?z3MXdo?fQlY=i5)n{#Z5HO!o_MRrg8N4.ql]GY}:)^
}2l]F#:oi.H7R()geuXQ+}1PG?}.!Dhn?8j6n1]NwqN.gCPeP{.DF0j*J%crLHNndPs.Ie&f,C.SCYEQ:KKYKdPbLbYXKAZQc`u~2G0!,,$Io;qvx`{o_AOpnEvnCoL%Uxh}Oh]#x=Lh5M0kw;p&Y~
=jUBSMbHtU+F{6:Wh&mTC}?+G0=z8Fp'Kt4:hs,C1A5_[KN?/Wu89plDS1|'B)oX^6/2=f6AD5o*0vSUjX_G^GZNOAO{:q25DB>y3]<FZO^XOAdeb(1*jo4zF2H`AJ(*C?$I*>BT=3?W%=U(4jE>H>
54uhc{<%H`l#~,M%p?Yx7mGZNH$o271dWG?gIJ/mb/oY;OJE(Q5dsww8E,LvRBnU>PFO1P;/4?E$JT&483]}('mZq^u!a8/Od},qyf6pN&JsV&Q]]4==8.lbYg!|9$<s)s6JoM_epe,rNH5d&MZe;T
,xfy[^(s.1eaNVt!$qK:BfB?O_f?)uRi}RYd>8Kva|P;jf7$s&57$~T*O&mfql[YNG7wFGpiTOa`:8HTOr0lI^Q~,47k{Yhr$2Q/Ymq#'Jp(?nFTNc.wZm%v3{$M{~pGT)]w=2fuOqUKq^e5$$lL/s
+J$Zcq:}F7,NJ52|>]9MX:HxX7x7&,})VUdONm$S39#sy(%~HI.hXPk[0K^2&]b+QQYBa.o<6|b<sr%NW#ui]ox9/{#mT1iH_'0(JL4i$)=P^1W'+='PV`wrdc[:SnWLMSr%~8iy?k^aNO:[TT3?t*
CcRwChC$UjcrDy(70^Yu`NLyL5EO2|cd>tLJA0wZAt,CW63==|~C1h[Gu`RV:1Jp=Ktd;G_Yf:1cMg$.s%n[QzsL;mW>n5x,,7AU9q%ZYa)#^cZo,g`2{[;q64T1`Y8oh_Wo{:Y1`x!~E^iMVN:Z?*
^)vMPvH.LiD]tp;F0K$Dzu=OXWx<8^C(.'1mhm<~=R;m!q+%GplpwqH'rbAE8NsJ|Go~QfcAo}w[8zQoQ3Jq$JQd#AE^SQ]p:fH?/5T`%FD'(~x:t[kp~+15ZjF=kK#9!|5WKBt~#osMk'N~/[&;y}
c5#*(|T!axEkpbj=VMwpmcO4APonhzz5*ft|T7N$7JF`[AyxFIT?k'aqJj99HIEFYV#v{Rt=o2}Co`m*aAg2&hns1Nja`KCzMdT`N0U]PSBW4fdMk/SdX#`,r$#FCG*QX$^$3d(#Ht$taLof+3Z]M2
|*Nq<q]Dg7t6yI9[xMC^v>M+YRqct%D7`0.|)bI/%tQ1*QVfaVdLUbr{8D^JtpZd5x+&mI4dTD=|PJnE;r/&1vB&08VFbBac`F=CBrpe(q:7.ccaLa*^A$wLiw8~%Lf8#ouLffj0TYfa|NkC2aUdxD
2o=JvPg7CkgPr>of)!jr!F#vEXr^D5w{x8MI*xfVVm3zM}D1_E/<]]P4;&3K]OY5%9OUSi8~(:nUZ2Y1~D)5f6L?$^5ErT~|%^p_e>(^o/Z!neDY,GJkOS2gu|TTjpuIZ`?IND{Fh12|^61.$`^k3;
`/5lxid9#o4%{,T'Y$kDY$v}/FHk#HIsEqO%7hg]oUpD.}u(WWPLj|C^4((q8.+~:6YK:}xQ/0Q.}8jbAb{h{FTG=4y>;[0YgW%Z%w[gx$>cdoA?7C%]X;SN/yI`1Z<NwixWGY1AE'CgZn~`?b+F*V
J9MHg(Dr*>rA+{n4BJkq+p])M(1u?A%d=f{JC#Czj{1J^>j]wdUeDLjgN7?0e!Rfso5SF`O:HChM5vYMavavWoPv8HU{TIIx'$WZoKDQ=l.(b*WQL+W5:C0EQ>[9?[Lq.(;qU8[sbQ|^&|J42(8'4}
!wut~G4w]&fu|r_L'[OQJdcB/2pS>,<{#7dq$i(;6.G%OnUZ/6B.;+'58+#GIAIj+{4ZV1X%3zf2Bd`EMReTL'wD+o4rx'fm$tWz_G0^S/KC~&1:)`wfey;^ZaW7/>zIy>EaC>KK#He}C&3L`P`j=b
0~p{,VnFNjfO`eB[+i#DSrz[D<N1BW6L<TxW=5uvi=WcpTTw6Sz8PtAQaNXhr$m''Pjo}EBf%DT,Go:YD%jfTJS.B^OQMu4H]7Z1kc4_LP{+^y5Q*&<6>u5HR!(jToG1K&o[U:ihYUeOw}gfyUMXqT
sFU}g'I7S+:Sa'TP33tn6f)v+uN$7CyN:zgL./NFLnw#*`w`W<?cgehc!03K#WGpr~'K~n`<gSn4<11}4PsfCl_J`ovjnzP^0iuj_m|d[X:ze}hU|ydL0AN&2nW_RD:T'd?{%3`lp#iGNo=xfb;I1V
Jo%sJ!U4}~ex|UF4)v[KR|BR,Ijr;ik=Q&6ybx7;DP;,?L1EdVfckoug&YkKpN#d~>N[P/VYxauRydJ=ykc5(b)k^hQqN&I*_'SLFX,E^8DO4,3Jcu)WS77TkyT'2Mx9J!vt:l&Hbbik24)r}Bglp'
1yOC)/2^>+`b(4J0+?U)*mAYu8,&BUZU;'GA(rOL,oWpL8VTj~c.y=&h9N16!Q:^,~7{Gyp)NT/.}FethNqj|'PGBT&RHQfcmE<SEqQ2Vpm!ghk6U3R_g?4`T('j;VHw8SrH4+#aJ:.7M!]]8rP8h+
1yI:w}UOEQ1B?+bFxGrh!~kdHucWT<LMl#vI5ps`*582NGDd|[84TqAE$,>Mw0&~Kx60Mw=HYFu7|<N90~ts{ma1KLDa.<eWaUiF=7H3|2Uht/cEZP(tU]l'9+.CQ{>K]Hap[bO~]|b~oGG=Re+_>#
[zJ5cZaUChR9#=gtMsU^pvDHl}QsN;BtA{D~`?<;GHOn+)5<nM?QE7ihh;S0`RUi=,i3_X=$TYDw/TK(s5qhPtg$|VmqU+EzueU,9+2w)n2yp*Kb5Y9eP_|_242+,8nBd~9y6Bi85nLF5|V!j%;,dY
v`r.8KT!Z)$YmyGEZ/7?L')~c_95'YecMZ{b9%E)80+Q)vs+cFeaI8jo<ffBLgAlE.:W,*]j=Ole[F]])?d0d]2*2~~S|3ec~^aY*4>5rCX{`tC|5IJtTym]Xe|3:tl960hHbb58N|oTr!:qU?FZrz
ux{bRdHIyz$8#Vz/',pkt:Ob>cuG+QIG36k~Uz9q{hw1J6$dRn?/>H+40ojdje775/!jq$}ZL4KHz6O{Ut[[OL}!u6sDM?]|nJAS7OInwG1kLDph4mPk{]QRb^.Nz]{Q0{b/8wgHbIc*ER8U1JH/[R
y1kZK.^z?iKN%GNqI{U^0bf>{Dme`(p?5v9R6n=LkaiZs+!dK`T.dU3H$1Q%%%/m0bQYSO]qUFZpYcrr|#EGED$dIr4f%}k|Twb%s+Q|ve6^{koDkrW9i4;:Y2}82.5P0r3=j(oH$[7,G,z:QryXgn
5;>iYgyK4Vf|Ok8|qS;n_*(b#~bQ^mxh[s}(4AhmmvPb+VFi$ajCmvA;Fk)9SIeZd28?KD#k,N%:phd.Vx~a4l<?=WDOsEAyj{R0W5qR$8to/fcV4}z954KR|smyQn=m'UEA2zwIYKARo:'qyWZ56I
PGOO=?FQNQi$l)}i/Eo/W1<Xtlma)wLqW&;L5.GMR?i&G7zx4yKTFv+]HNo]k7M(K~>M7|?cW',ToNF]u<O^O3JxSLPD;~G;2o]3!`b=B9M=IbLknF^)xZHms]7!t%1X1{f6GWRXbURzDP8_'30.(,
y6k=nwh/>fR?/Xn)mMSz/!AB2pBmmMQ}8nJ8v%p;$J]*V#m&CC/J;O>FE{o):^yak?Pbi}>oDRwkFYt>g:SXp6sw*BorjvAMci)NGqTk2.af:`kRoq{P+`2I7N.YGw]tL*V.a*^`~4)'MW$Tb,&T5x
q}wI7n,~h5[+e[)5!S43v)u7IbhO9Op_;$2+y^|o#]qppSV^PD|LqJPa]_Zn|jS[E13_d}k_N&Y&^<D(BHiXY&_nE}BJT]L&H/[wc>.gm8129ZI*I<_Ls.R,#el'p1H?Z`uO!g[eAP,xa,^2PZd,Z4
6Eyq^|Ec,LQ'ph]=ly9peyeZu|:<I}]VI.GA2?>`gYjW$Xy3!+y<,3yk8DUhJu.{?y<cj2!/ubzACWJqR#m7/xxQCx1>FLB)~Q$+!cEI}X+/|bhvpmEKseuz{Sr}Du=/_AFUCpFZesuje8TPR.X}+1
%Sorz5.Sy%^Wva*lJ7Zjv^:p.DcW*ye~=V_L_nnt:1Ey75.]$o*DX3s*B&G9F>'CWGqq<QiJ'OAfU0]fo/AunJIjL2)7'tYm^&x(['>PX;7(={9xjxZ+7Rg5;E:'hl((8FQ.Mrb!iH0kb8cc4}wJT[
+[<I)czHivt]UPWT3PjTxRQ2/=2;(f5>/YV;1x0Pc90*_W[TTH/!P30X`~t0cSdVR<w{|0ii7,p#hgWc'zA[O/vuRRso69/c#YMfV(b8zb[Ss|Xf9;`W9rzo$qYCoPv/7/D#H?GyZlky=b2ci9*ofu
;anP5?d3r]d6HpsUX9A$AcJ0,YluiE$wzWC6./1k%W<l^}3|xA;`)?#C=kjQRNi<5>N,PN.*K]EQgf=Z1v'W)yoCUO`.~fCG]}o]&g$N1bkhYhi>}p[em/h=u+}5>Xgssa8Y}eK(iuM~htk}q:|%<P
!4ZYGfQ^3wKgF4vUL!m.db]Lv9a4c1d8]_o4u?hM1A#zZj61U>h=rp:62~99/thR`9VRvtU'tH;`=pnUm0J~3H*H^[N!q(_?)&Cla_iCSR32yN0nl`Q{l%HR1]{9Vz*(g^[9+4]QH7fsK`,O='e.vH
Exozo>(5W=;Twt4~6FO:9&}'('jK!pF'Hfh&iLX>:xd[$M)uMv^'IR0x*O35WiV,.m)^,a!!$Hdmr!h|2*&2TpW{v/G)vRw7akLIVyn9cf5K|E4A9+:nQu1~Byx'xNeNRr?W{?Zel]kZxJ2Cy!E|Az
&2T:|?cw4Q&^l&W`V0P*g;6W8^?!9=A.8w470|Gl6(n:d(,5g%C,($JI^eIg(HTui:Wu>7aRMX>U)OC754w2Bi}]('Ap}`$9KMnIOd{R&&pk?Pe$f[/No?q:988~$*Fg2`d^7G]a^avJ%!s|w/.c^1
bjnc.}'ve,dsf<SIdfbDhRt:,Y+ktMLw}Qyv$`E`p$,R0oCG=3Nr:2lGBujF)9i#X6_`RK1=,>tmXsUme!Y?E#|]xwlxv[FdH(;E{V7Gaqc.P0S9U1A!ol8+~M5>r.E%r1!'g7C=ynZKro&`TW%M9~
o:6#n23eWs<9F.]vI:Cm;kUGSbjZ%q}8YI*&M'Eqim/$I0Mf:zTupYCHeSm,.<yO5I7gOPJ)q8OOvj'{819D<6N,u+!M_L#^?6br{q,P[j0MBrT2$.ko_C>]H;vZBx,$d*Z<m)G!!IA~BaX4,kJ6*N
A<V5Rb&#M6SHzWeSJl54rk*S3|,uI]&M!J+Q.?6#$tGA67U+P<^}mKRRKyul/h_*%P7V?~IUXxqE#sWtI#sryqu{YcHic$nul'w[Txy[p~M$b>yef(cD^RC16}858WPQJq6Zzjchx|QJT4AIIJNGl$
#y]Me>TyXRsE+DYBTsA.?%cC$R'UZa(T.T)fj!IA>MzpAxO+i.eWxw&u'2wW>Z(vzE8;qis&XI2Aq2YFyG6k'N$LhXnfNf=j(B&l^F08`l,8`C3hl=0muh2#mY|%{f`Opa;lb*05}RpCDZ=Vi!$VLu
#Wmh}>cLkf&yGh{!'kRdV^MRb^9:m8~z}&epeC0Vr2zN(]~BoVp7G'p.:!IB[{>1R^H'6!54d5$Dn~wHQ3Z[w:XQ>Bks25QoAtNMdvf2$0M.(]be(JWTVGFC]1`w5{3h)jj%l3X{V!ofs!VNl10hW~
:C<}bZ>yh%.l%y`n^/=Eejucjx?%<;t*wH|'6bjbUZEsls4n=JUf{E4<t;m=x!Si.Ja*%5]n]8D9~p#jrXL{35+Z5LG*4f%'Yn+`IZH[>pf;5Ol^V1<x0s8/b}m_%QAvf+zxyDq:p`9|g?j[.R[0IS
Q4S)Ip<Q0l}crTa!KSZReZ+x8SOydJ{JInJgn=+|Sv,]&+>9*YgueTA<{(|uzyl[:%3.!nxPrDSfxq*iu19:l}w^wlvsbQ=m/)?qjD[!x?x]v7{Z]N'<oV`M`|~dvdWpC,$h7:!hXuexLaH9UdRGRT
JvmzJq.y~SJew==kDe[gHvPPJDz8Ozuen]THRpvY5$d:;ds%M8NRw?E=$Z;1odF(X|eFd</i'G(PL{[o7|d]{}df4%EyMQnk{9a_%R)SqA?H$N}m~Kx:c0(,)Cfv=:{Cic,c`qlh),KmY4KUj.*K(j
c)CWZq1tbts^+l&84?cst$G|ZPCRv=mEJYjhrm?%GPXV>+VdF|kdu^fw^]n3]IY(FTLU,+5>?wiRb'an3(}|hy)uP%Nz&mF4hZ/1MWsI/3A$RPF[V6v!uK`>]P.<uQU|#9<DAF|<x9w_h$RM4I~:y}
8gKm).Qj%UX0ixVS)ab<hSd=ccZ[>'e{$2lWv#z_>wg88*{k&F{.>u6hh*/(''STcb=HY)&KHxKog6!1t;zl%hoz)+%}b`>M4f>bN_7ac0*g_~CgA%zH=0mo5i[vat50foTEb<DOdt>K8K/)=u3*bj
E/:g[dUM1j>Z}]3j4&L]fK0Bk;1Z$9EkCwu{kf{QmX/]Vk)WJHsKbO[.W18X7XJQq&[gT^7Yd<nSc.}{'g/>iRJ_X/Qj'GV{hhU5M;Z;hME`:l].CyPQ_'9Pm[6ov,RagN$Jui+$F/+rrK`P2w_TK#
nhbV;CCfs+aLQ^+U^=VVvFa'gE=v'LcGQs)co#}#E0J|745Pj'`1$!Hi!+m:s!,?36kYhFX2UNW*hq^jl!]~xzR4#ofz%#JqWZrdgk%',FK8ve*R]<s(Lk5O5GT/[kutw?BMT(902Ue(J2g/u)i)w>
bd*}7wX0Z1^C`4q8G_ta7MNJQpy5b%B4M8qYi^OY!}5}#&&Wqh[YT<d+nnj=~b93>.)2;+Y$A#ptH#wL!7Z3[eRq's'#uw7#s*J4,+dt9WlH=%[DEs}ya?`s;ee0eC<BYk>`B$.M66bx^DWv$p?jbA
oQkiBALcymF$wq_ps{D$3tawS_itxL>#*Yn|yImIeo{YFT3J^D}uhfV;^U!&ol~8lCP#:<|rlyEN^w17S,#r>dv{UQ1Qtm_sk2z9`vKbqJ21n<GSrVI#E*N[RAXpMXxnPEds(]JKEk7z2._MsW/prV
8eBrAe1.UvRc2zsEy~Ixi;y1cEH`3q'5Q/pi'=49/a_*2Qfau3J5~Ts^cl)fI4Y;I|a,AhnH7Ne_Fl+WQv1'U/uisV[LB9!uCVjGpaY>m<s~rYW65*E>ub:d%`%.3TD!8xniPAF`.:ybB2LpN{eGZS
:M:NJ!H,PCw|E78QN2d&L'5Z=cYrIY2`.=})UkfsRBHI>ArjC*nJNOh10_'7uKiiYTs[.{'P^n)Y2e(:li18^!f=8Bi2Q<_:y?+gB^D|ok4x|DJz,H`;bnF8SXxt;Ed_|(]h=VnQ?W&W[k7Cq&t7(n
y_<DyJx*kC~e*`xx`+6P<ad~kiTnN3tYuoP#y/.^/PabwC(nj;;>gehBX.qqkw>BOzIRiWbLs{LtUwDd$R>!>NW<'RGC8FHH(^FlTPFW92JiGrq29[oY5MQO(VQ9K:S2j5mbZ|ZIEA=X4?[+(G[**%
N>1+T0>7^&lUGRx|+,>cCz|)q=(~dg#^8]YYAjpn48llciY$Hn2([JZ>2+^RsPRQ?ZcW4Es5yvgQO!8L9&6jz/Y3}?x~KBc`E0XrxJ*A_ReMi~o$`o+e{`;gI2z)?Go!rlE{Bc$x!3[LfJB~ZtG8l4
W9<vkE`Z8Enj{bv`J]a(ifAoFnM]wnlYy0)<)UHcQ=O4KSl:9<pzrTPmhfba811L'ZjI;a&0b&izLtn%XXsi?t77P';,Fv=SB{=2s1iBEfBO+#P#.pM{}r_h27jT;s.Giqu)g;s[{rIpbK~>FZQn)0
]a}cuXy<q.;2|^QRP$_LPWVs=!ScUvO}!/ewsa.cqWKCI^23=JZ]CbnjR&tLL:gTPgmH+Uh=`jr]!)txW[!&1:jx+:E3S$y5X6lFr9r0H<)LruOZuynRPUUE0O+jF_uXD{xvOwEjLJ]um}>B}>d*n1
`*s^R#]t;tlG<I,c*YzXM&MKiK5d|,!KUHr8f&Xl~bB/9pR9:`{Ry+9EPGs~G.iiK5N$AhH#t(&p=Z|zB?Y48RX&6FeV7~euBt6Z'^69`miN#|.Swu#K91^7'N~D'pkJFRReuLb09+eMcsL[32m9y8
Q.<Q>TK,Z&9zP$7|Ohw>{XsQt$F(:kFyn9t4/PJ#|[0q7#F^s:Ey8`x(*cMOuOQ8M]eA;Qo'w#p_Quv+w#'bU,fJ7OS1E*#0T(_k[T0?{Dq!hX,%JNy{IZP={fo:<Fv_oz;tt{H1URJ~dV=MABF0hX
V61&k$#RKy]WUCtS^~^E&o)vl|EV4$E.K?`mF[m`(93pCmG*I!`DkgN&#(tgC2r')9B?7g9Wd<TzBeg6APL+:972.KfK_a='J!g16:!y5~HkPvu4dI4;>z4'H](;'u&M.p$B=z~F$)x05cTlAF5OFG
D?&6xC(0feN2+'N:p^Ui|AzZR/X0EA,[LmR(S`XrxyU`|Jf]jCZ5/p.#E^cE#4GbnOv_48*s],wVLwu3Gf<ag^;Cj9XxWUw[U$U(^v,;vY<LYN>'qkMb]Ev}?PcQLw$WOSHEKZSxO]F1$gO*fBY5%p
:}#UEsd'Qnw6OuO2Z6{7!p3k_Kf9P^tUXp8G!#jA7Gg/1$f)}geV:H3|_W%EpHIUc18I]QHTq!'!>?hf5~$M*2m^}N9y?Qf)aVs#H*1e9m9d]<}W$kVjFufGkZZ>M*fcU<%aG'H7n(^}GXQK<YPoij
XR1|iuPLvw#cRql6[dy7|[,<S]PX?H;RT!Z{sCoLhlyvKvRpN;7B1D[biF&&5/,ud0IxMVEW1jhpXI~rd(;3bPogUp7FT|FP#bpRzplr?dzE,G:uC_|E#Od|NT1~gzuE$i~LjN<jeOV;FN09[eQ$tM
w&|*[Z+1let.e?Yukj2X{_%;}{viK5s}=e7X[oUa]kAZmUb>i[!^eMH~rK';psJgFTdWnWqVEd6i)QyzV76oi[k}Omw;QabBfP!*(I3lBmrzbs<#knv#8qb+|DA(1P}4(gtn&zW8A%vac>H`Q84Pyf
i;*2}J#]:'S6YSP2<ravj<oNN'S%CK|kq3~5:xv2$U?exjT4XI/S/.)%4E8uCiu(9*5ZClSi6SM,ZCS^.(,kGXJN7en.=g>({z2*3erh5i12,PEij:?PzE4b``zkD:|q?Zs%~PxoN3tt6][|)v9#a_
$!wHLWu6&N*BFR>H_<i9YTGQfnQVU1U76rB_sYs`NP'T<X?Byd5zhJ9mJTA9>x3},yW!3~TY=S8Pbw^TvqJ`IcN_v}W^D%nq30wH8^R&+mSGcYNVmg.gH6%<j6W)UK)lws0pOByU1'oXQO<Ju95WTU
KIOv5n5=03Sp/d6#3}AYgcr_pi#k$;d'9]ay/+jn]~_J5us(5`9Q5sp!PED#Au+_^u28T,^R}?q7`*Jw&#CGD~PS(j{k4)E<wL{%&ish*{<q%vb13ngH`,}3{ofYcp+id^5L}7K8%[.5(([eu.b5UQ
LY'W%E7/R5+`DsE!qW8u<?<j/}dsRO?FIq<uwVtl$Fi?koe59.(Xp(uCqFDGh0A'KjY|MSu$K(j*:e,7uF7aTx}4vY6t)zK:2)>?QX{OGw(M~x,|dKp,O[X~%m**O&<&,s2`?&2w,+/g;},k&MF:Qy
V=rQaP?I^N+uIea&>r9Aj)qjjWAhqE1ij;[&D(2'j5?3m/1^FSCMLIJ3Kt|P#MvELU4R48jL6hfqveU{fl0:aFiCe=0zc6R;/Ivwiund4pzEvrpz3rw$fYo(20!X}V}zIOcDl>QupeF<=`]8hM(0`U
j>LTZP`0{Rln?Us%n26tXS+lU%9J7A[ZH^3qGj9$,7d|xn&?}Fi~I9`{|;LJS&]^VZw,HEI.E7(&l?D}R]ztYrMo!:%#MMA,HAl;K,`PLLHS;%cwks'Qrr12fH0w,hOFLC`llB#:BC%i68Y1NS'A1s
P:'[yP0)x'asY?.F9ZlUQ2r[;H1_B|x{*5Ok00vAh0m7mE+1GApkzK|T86LSL_CjhlstKq[4jWQFR:|KZZI3~lK:NgC|:qf7'Y}B1./h.FFbP],eC)g6o<C[lG|PbA`lNsJ$'(ZI|uxG~:(R8c`SPR
6%j?KxJ0<unlUGuX%X8e+x_Ri,dQDUX21>.n~$&f=3ee*B'$6i/7R#Lx9*zO&EA`'c[%+j9SAB3zS>W.u8$|pVPy+eY=/r[xr}Z3p>N5Z::mg1mCjN1cUxD.*>JXdH^V1VY{!/.9~[eZhhoh$l_oV9
o5+h8w^U)j#X39fi{?%et;]jNszt]<TEk6~+f7R_:1s2)lP`~=CRj/)zk00sDa%G?>(?8&fon|yYTm(}~]UJ/z[^`&1P(/hXfE]DVcP_]7)TE+}M4_JOzqGA{H}t`;5+e]#nDd$)V!kc/i#^e_Ny[6
?f`q)iZBYDod>,ZYDCZI1|kKWc';siW{OrM]V/U?e6CyGlx<_~1~T2pWB?FgNZ[dL88Bys%:][l5,?NIdL{[|,(;#JI<OpUyW_$Qz[`$++Scz[Fu%7?)J26J?aN4Y%V{V|;n?4'LFv^yZHDlL=&M8P
$d0Jp(eDUg!Ur7c.:JvjgeD:M9,h(J|T[6NfY7k,u4>RS]Js4PdIvb8{gc/G0dr6=:|eP,qu0R<6sg*)GE#}F5t[KR,{}zn6r7Dz~=,H#ju>w$+HjHANxTLMzVFD_<&VGMd4Szv7RCLX!ICVNK?zVj
Jem0jN(KDsl0`~VPS|u'jLxG?3t*`l$F#m#EXj3dY**yI%oJ^JH~r,)]mv<x4B=](.w%tYu1sa?aKO]YcC^.62#|tLS#ja~+kLSSnD,WrD|?jX+_I#}zP4{Px3*X.&5IK(HFuoE#y8}0U4yBDT+rdm
58WhSO8&7X>}S4^Bt/XDTZEPPz~Z4X5r.GlFBiyE*_{Y'vz]o<Z=WQ'aj1#W:Ked>r)aAj%g!K$HmwNsXb)yg2o]ft=`~bb1jhrIc/u+v7Yz+gY.gEJ'O|*rVd?y>R*OT*&%If6uP%E{9tFG`R}OPb
d2>wfF|ChMAiS}PmFY7dc#zS]<qf*L)]sm0LvWol.=t0%lK~e!H5|'[.p:<n.P..)G6,6+b*e>b=6gqPB$p,}3smlId8UvAnmL3x#S{3p6/$T=dzVe4|I:}OdT=TI,L:{E).{!(,{OzK37f3}Z#]t'
=qV[6OWHO|ITOw8j8b%j?ke<G{IH%Plm,Q#a'#/V)_E9JaH_9%l{5/]9nCo)^FL/w4rM+<.oWK8rlX64YT.#g4I,z7HWw]EQGIkGcdcV,zlg/X(|?,YpwYReVHP2%9B|zX6=s|M5O{{=w+L[67Y)fb
8]vx(9RxkP2{JjpHAnn9{[uv^%W,{Y|0,0*mjqQ1^pqXCpjkEC/g%g(_oekzYU3(EBsOXpOUzqqJ!{eRxdC8vb}NX.SwGPz`ur7xTO&3<xi|;1?uRsa/Ptty=_MJ~PRq;Vt$F*_I7u9<pK?3_pxOv*
eU>Z?3EbH]'rI$2.wJ{CwSZfpI[c74tJ^'fi4ScJ(}C21gB/q'BNR5oAlgGCm5C!D:^G^#%9KJ~[[U;5,[N*kmGESN]Ul#FDL+YrGl=Y!#$tp8G.^1,y5I'=g//ek4Q>u<*~{MDo+]LmY0IFD1il)_
mWb{k0%M$;!qkPhDI~&'h8.OT#xoJ]mPnF;|97rkH1TpmJ/__g+'iDdZ)Q(%eG~sK|}=JO<tMQ*(UB81iA<L~<c4&`P0#_3I1+f=ylTcpjXDtE[i^Y&)kDH4yxcF=N`Nf0}=c:|2al#BT}T_](iuc{
99x?g7*>dK_{h:n9uIbkwq&2Or.jP#ar#wL~2szf*02K`FRXyY!f:,4H[m:jAYpKf4YY}hIcev(hOyBScOzzFZl!]Am8g?FD,ag`Ap,#XgaVad`6vlq}5:<u[Lq0r>}hkJ:qu+?mM|IuZ0=omiKN'D
Zd|fFT2qO8>qw+UF}V`+/he>&Z/:2/wbvhxjf^O)W9Oy$n5Qx5p]FY!K9t&s$yNb'9G9/2+7`_cBVl]4c;sYaHBkJzPcV+0`SG_e$qALhe!1f2`|_ywO?%tgK+#hC]00]b8xBF3:L}y^!igqL]zl2*
U_Q0(=3y0??Z$]Ma2?hnv'A$EPGo|Qq1Bwt%lP0aXWlw97CAo5Ufaz`LC7~~_Hy:/*aEs{jkt^0;6#jwWme:';PB#soq=3Q^+.a<l}<%|9EceuDDdcc#6D]yoF>m6c1O;#T6jt9G,[Y_+Uvx}r|CTx
;Fv2o=]p?AP&u4'`:XtW}fj%8TwW_{Mx0JimLHAk$DO$cfi~:[1tZ65lPJgz9wY$q#1D(Ot,SVn:ZFNSWE4aRX{MYe?}Tip)|D1N8TVggN[a9_c!!=B<*3m'n)dzWakqq#<|n[1?.5#|dci$Y8<5^Y
qLD9bl~jh{p,>3n1Wzl%M^Eu;uN,g=C8>VeYlKXz2Jbwd5aYpEj3SoWb~t1V~Iv}o>V!2KfNIbZcir;>3O$3FUm2bKm(gNCqROlE^McN5Y^j2be9e`Q.,c*`_pjwjmJ5NZ4Z2d;gUNNCwQ13n,YMqJ
]G0~Z:}!:_8|i.xr5J,H2C=1t740F%[Pr?iYfzM_TQ[?IYYi0L7nLF:z&sMsAjy)m0Dh}mI0(<^|DKuo`KwGjM&oj}_)[+Unl+Y+&a2AD:<i3Ju9/q66CFQ:rM/[>$s5TH/0{>M(5HV/7!tIJnhr4y
p,eFn'PeEEIb$}UmRZi_&nnxDdK~6IzPoYDziyb6nDFc7G|{IM:)%_`]hzVHmKLY9,T>JM&<OrC5cjPZoW`[a.y`D/K&_x*_GBO5{TG#wj|<kv_!H6[%9$Tfj*SyFz>*+D=0<Kg)17]M#[A(`*nXWW
[WzZ#G3~/Olg~a8LtP*e4!;).E6?1t#+k'O^CWX%Ql{!O/,UR8nXP(B0c.Hr]wrfv:gh,6Fo^K`^seEk$6t;R4Z=$RZdtym][.yWyeaY]+0d!0mAtoT{RN[x;,aUo9gO/UN`[56KK4(j5e>}O]lQtM
d[zZ/1NX5y&JJLLxh_&bt$!45?xe]o+48R9:Fm$;g:.%[HNWOh$VI)?j_m7b4yFbwUMa,z%taJ>Q*Hi);+Go6Q%{(6$jMsdM;H(rN4MZLwz';xGf]v<spK/uK(MmSQdCY7O!lK(pJ6fwVhZ2Q.6FN`
DiNzWp#ux,#8o_KL66coc5n]oh#yZR>;'gZmE]l&9Jh0hLJSqzOp'<ErW#UmH>`iej#utfZ%&ii4Lga~DhL,+bLrGKjOOCC8&:~bEZLig1wHaMPv(b6G+MP(hRSXuxVv0iMg1n2n9uFn1C!V|e:#O^
j9<8*?dSd4p6ndJ.jaI$w?'+r2^oQ89ZH/At'/g!enLz9~M1S1+zt'/n/&hxcsTC0Zk]uDc/{e:&eL`>]b7IX],NOf.dHJ_dai!}'OGQU?3u)=DsG49Po?jQVt%P?jpW_+5i{h0mfhWAa#ov[?E{'I
Xy2SOqo`z~TY59A}1:8^j%'&(=quhUrgLM7yl'S0GE9Oo7h64L7Vq*3%J&D'vJ}WjTIGuM}R92#>OMD{al[k~'~]rm{MKARMwbFj_,*ZymGJ7CY`FWNKHKgjzdLPgcjP0u$Quu,x;`g_V9Lts^_T18
S3Di8}'/{y,K2l#=5~G{ZY.XYVycB]4DJSm&FZi/mO;a7*H}dfEPS3Aga5tJ#b{yOtIPgVDsE9Pb.bRjNe!,Q^b:Qw0!y:heXeix[(09]MHQ+4lh)II$,V.Da|=If''ow![2k!<hb2vlJ.l4NLky>e
.o.;Jl2C?uS~.~3`8%FPXv+n_lE!_!`sjW(qO/2%?wA!;`L8+[IMEDz~%cKpUAwdoU]7oTz&ubXR*+Gx4XU/lsBLDc(N~_'DoTch~wd1S#C;]X8}u(xJ{bXnJ/<'|yN3_slFt,6=jt&MTDEaR4C#_T
)TV!27_r6+EQjcz*.y:`~[.L/K[Bi1SPdVk##K>&^[W$>NW?M7s)!,dueq~t+HNjAlU)PvMPX}yU/dcXh?0#(BE7a`l4u>U)#Z^!C*2W2z!.`6=FSu]H^i#J3&{TOr;,fcv?%Lctfp2&3|$9/b:`u3
2<_K1;Ca[%~q3Hd!Bx7f_$Of5'nQ&{m5L.W#d_:(E:K3`)P7}S??!XEZI3*Q0mjOc1.c}Vf%{&Z$TH+geFmlY{)tP%m=rX(M9N<+/%ej,raFis<mXdwdzN/,3z`^9MThWaVaTyzL(80OOLUjzrwq4!
YQ]vYG.fL9o38OC'=wy;NxsISA+ng3Px6#leWe9tzKhSO#+5P}/nS>lEIUy}5:vzx^m5?hDtM&z]Bzv}M/y~IoHY;AY[iT_HdIbR&Z_4^6Hag[44'I?TV[&4]EP`u~{$Uor7Q9xK9RwX'wutTWlsN?
f'<&TMf'|aNMPY}9GcmhI{s|cN7&y4%UOiT?xok~M[`?*MwCb[(MReZub71P2:=u^|OvaMQPwhl&y3V87MX;_f4bJDD[t~/49w3%FmT?DC;QRgL#gjfE1eK'ZShtqGW/em!3lyA*m5Y7gy?.^(g(_h
d`<z},/nNp_Md%_fu;/_;(frhG[~$>J.({s5zVv.MX`UFA3BQRY>3FD^Q=!1enOFy~R&N]>si|URQXt*t*PUWo^S]vQ%v+U#z*<}P_Z{q&t;FB8sMnGrj)fT%v|(NjYWEm?gNs?A=y%Zw5{>VHRz[=
l4;%+1gz(XvO?598h=8%sItxbW>[l'x(/GR1H,dos>f&fr~KhR_8gpp((TH}{p.j.Et*w[UGAU3m6+2*J8ii,m)zdddSV}1l?9x#3n{u=yo4jE[:ag:['edfD~:eOQX7}z?t?{S{I&D'`5Mo.3djoV
K;(MYwV9|kp?AAI>P~huVog;nW1`'!?_c(i4dgU7)6_)8V+aFl:|e:Y)7|G5EjFW{$[zLP>hhY!O.lIqSwQVCX*|C4BLYAx^H,p~GjE%QS}9&mcUol]dN%~T>D]UEfp21q$=F|rb~Wq]!p:t=mBrmC
$JL%%[Y1N:/4=t':F,:6c0D~Z9zba.UwlT*/QrEY_/eI7=nIb&RXRO|Ccw<?iMHq$9T>{g%u'MXtKOO$l5szo0_ZMSR(!a5Ro^Wke<.1cSl?e/y;uYzY&:L0SH'(Kv]}hdQ``M&W_aK!;jq#v/{!^R
I04]Ndts69kUAdUjJi;d/MUENk^za;K/^|^_OKkxV['~>C#T~VV.ljU~Py*p==u4]cd7).k.2GYU;4$60rglFO^n:VTEP($:muB,/.uXn'o#rt2%,%VX>|N6Y?k3mSM$|ijAA$<Q)TwXQ%'BUeAEXd
mQygHO)kmx5g=9:h^}Fo_3eUn~|,!cAjb(U!O~PL}7>CU#pCfBtu|{h)V+g'S7k0L6n_9;zV!?b*Pdq%.j`Z}B3FJd<~Q(MakW<RP/p`Tj%Vikcz$EC`i96C`&Tb_?03ypq|o6JpmLv#$9K0M4Z/i$
+/W>bxTp),+/LGB/<|;C93CuQ;BSm{sCv9i`88lDvPltHjII`taS9:jfkuaQjWUZ:z={*2I%q>v[d7VwV~+,C|2ww3Q(|}$c>}uGll^X1`Bym&T:OG(*$2D8jLG>?78[<[P:N3MD,g?^e:[2[2=i9;
mus*4)=sB!>nm3.$F8=[`{p?'`!.(._}M`^_]rygARFMwYy[T|]5l39^|vM0LqC%lE{`%*<)e_fr$UY7[,Qx?w!T6,5n_g'suhw|NpiniecV]d*2(%bNT1(}cO{Ea0dBydKr|~gUkX,u$LcS`o{WPW
rq_bJi*2rUY_7`bClQm*tnp+0bLm7w7NR3}AaA8Z0YQdL)f=^vw6NX3*WH~]p>^qM73dcoH1dO`oa#pV0U>ES:2Y!&8ZMMKf0.A4Q|Quo2ywMZ:<2MD93oH,AIlryHDRg&8<YHMv80RS,pnKD]ce|W
O*:[R:P,0q1:<m&#O3ulP79SC8.j/[#.nstXkU[RpGgi`5NppiyOvR%HIKw2K|#.o{FG<|8iw8hef!+U$)kO5&[f;ELG%1ZjFEoSEP.R_1v,KTe9WN?]xoq$3SMbf2AI[IAV<~ud~7Zv82#[0`UF3V
7C_ee!O5A:7t#W?t,j/}vM*U8Rf;+UX%HVjbz?fW~;DvH=`;j[U4.v`SLm2Cf}~%Mof4&gSkXz:/%hl'n+8pr6FB:'0O>:!hWAFCuab/{K5U<D`munh{YdMen[<5w|05iqKGz1U,ExTL?fjXjrsh)P
`VEPISz8u3)F$CAqLJTpy_Pp;TRUOz{d`T?sm2xgWI6!zv*Hx?T,v>}XGvUXh>vMJ*'i,`6qcvwJ/BuZQ^$f6CDv`XtI5s5(;;8.tSOVQi*aa)ZHNYN8M7%7A1Ch{Cvq](X:2n15ELL1jLR82%R~~P
:4%sp4Eh%+6},M?cpu/dj)HByn%C5]9'`/Tk<FDAOa?pt%,+3xp?8`;I!%mE]N3F;2n/4VQgJ|AF&,p_$8yY;l`z%#Dl1LfX1Ii%GB`}?6*+F/5U]}sStU`9FH)U%4*!QmPJN'dl>lfEoTSM9p;y7M
.Izb.~8uk=d;9$]^RA9gsY(g1T5twwNQbNo??9?(S0$J.b.Bv$sRm+TWbR16(Tpzr^86gd+,9!kV4mp08+cseM]{fn(tY<?Q.3Uv1h])'sc9RqMFOWpg997~/etR*Q30{'VLrC8t6E=0xg!>1=gD_:
d5#R6(0RUbrp[f1!T=Ldz`41+QCQ.~4`}9Z_BNN5Dv;#u5NMmS|bznK'fv9u%}w]N$Yo~S~:`8GY=.?ORiP2mZ%ONN4f6<G!U,Q[qM_em1+gA=/K7}KTta3|$d<j.j$+N<>!|6_'oe^9Y>nV*U:LmR
{`PAs{Z7jpjo8%*p|;YNPPwRCdZoX)[gBOnYN`&Xp4CHv}e%4O?/n?O((rdsTF?ZRD5SND):jewAJMkws=gcbGsPnN0Yc3S<NhI/fCg3%USr|4ui%y'%{LpsK_gB?T7%[LogX5}4wvN?~+T[=JR+[A
/9c_u+Q&NpZwE/+#Am9GclHAOdRjs'q5NC%$PK)z<?1:1y8u^NXemeG46J$^%b5wX+g1c03A;';iPi[!o+<U;.T&fhB=hUV^C7xsMvrOyE6&7bPL7MT|_vS$cz%*c%47`JSk&R^pmNkJ9!b3ss9v1d
!RXqZi3=r>OzWFURf?|zo)$>d,9WV~:CPZ.ng]C]nuX|PiX>!R?q!Jrnw7:[KT,j{Gd)ws(|/[f?xGs{yc+G0$dw>?wUSfc%,8Q,}Z+MglP`6'Xk~^|DA8wu+l~?h^eEi_67I23=Jv>b#Tp>ov!R2;
[7)TcY.nZ.PSH/n8j{$^Q~}#%dFAdR'U(K[;8[Q0)t1c!I?Hb2>}owrRH!E)2Bw`~+*[pSKJoDlIa8e|:G}:a2jvMXJz|cP#L5j_7lm;=hK2`PQ>q]ZQh|C60z8lnN,1_O=Jl8}/L[Hn.sz$H]'b0u
HUp^T]QLi3?Mpv5Rdw.;:Pnv_+.9zG;:|P1~/_Liq'glAp(9yMm3Sxf`=$jHAk6^vaz=):b.$nhiCvIDZ]x/(mx+n)%jF_{3}E`OaVo3h5,R~lw+>ooN[T5!Pz~1Zis7I2bZO!yk4b3NtMPH9|>{M.
nHU[,;2JlW8:T*?jL')4rDAEEFUtVwbRNhweM>HQ[qa1iJ*noae4/{*u3Mq{)AIwBtGw0k2nD/ay(K;TNs8d#?Uj+4I8#ntw`55VK?N2]zE5;'R_0Eut#luaue+|S0.ck#GGNcgE>QH(1)v,H)O3*7
RPT?K0L<_(DSF^HsG`QGX{U$G{mPDLEvU=5~(tG5dfz^wzGQsv}|H66^qWo|Mr6[$%|+H?jmfe|t+4(}XG}/4Z)eFj+i)_rH*1}XpcU5$$}^j|OSs'vn3l)zl:IH&PqrjF)yz1Ru/a<xr;h3$3l0o.
C5|Co=%fqp*dS6DTOYt>y%!`)6NE:<tyc*CjG!N8A;N1mhRL6pV.mtyph<aUn^u(d8i#3y*[X{,pqf;r$e4RHX7OM2zJmy&sOrnY6O*(=(5Sl.xkO~f_LH(]J[<g/jR3B_d!eCx!Anwdu;S^c6z8P.
e!89.mL6+Jb7T;zJ}~4C/SEhKYSH!Wl8fexnA(e|71N(NU>=3WMS}_=ooy/]BtJW]GqEntdt~>6SsH2^Tg;W}3T[!CvI$dl)9;>jS!O/Ppp=Z^O36udT'h6a[pm'{]se'.=c1}O]xUSe)rP}jDc$G0
zTX|{WOT&0J>O]}#Y;P?UE<HjA:>`'ZbUO/,78k5(?oIXcXEek?0RyAr8+sy(,FChPT)UUe:pCh2UptBE5Nj&LTyA`qEP6G0%LHC_V7=C){Ek&{_5_=%MA9;b`g{j4iK?Oa*DqJw^vxT9MYnC0gPQ;
I=EK%Dm,=^L.z]U3>3`R1EJtI81]XB*MbxEk32ZhM*;;hibk_Y4r]9no=K+<z;+;Rh*[;Di=joHxec)WT)RBU5#j:b*#~AtEG:otP_hak0*g$Vszi${$JFpRrc`^!]kbR~+w}4T,6L'>SqF~DJ}BhN
u|{=%}|,b5YV/#mI#&E^Z({L21Dnq:'|vMO_$zywgvV:Bgn^S1lTL8)sYQQor3QvH1cV~KoSf4~wtx#CJPjnZ.G_eqc!::&IUvsC,v+W9x7AI8$$K:RcF4]&D57XVn9.$H5PgzlkG_j}_&x=1s#M[J
n^*iwIiZ)z;'cnXJKL&}22ctfVBkI_cP}06`N_#}Az+`5*J<hz_7XE,cA%x2Y.A/cT'0r%12Vq#q6bkSc{nDWE8t^Lrh]'vZihkvh%2{f?WDWSLFaSegRQOkW#70GxawP3QS5;{_nm:$'`])d!R*>'
I4%w2%{$S$5^zMg~;ErLX>Xn,#7OOfW,/oY`FHe|nMp'H=9Q`tF(;6Hja~[!dz)gjK/zcqBR<nCXZS=l}+{BJ%}cB!ja+3HmJh9Oo|O>GgL7JFN|4G!WQ?G,e`$[}^LNh(/E=iFFS(shJt&Q(+/xsN
o5(oY:5~EF',}:~3TLUMg7=SN!2]~/&5wMBCuU)t_#1#4y~9;jx*5Om:y6Evbw`Lm2$FH~NH<tE=b?=TKW?|O#u5z}NOTSXsTN6`>G,ZbZdP'64$r,8SjV*~z%wz.A]*o5G(WuBO!.Brc4}gg=`.Uh
*emC4ZCc^{`($L)>|4z^RfcgKJyibt;YLs5+g)e6w6IlY4%a~pJ:[f9&F0/BcV_[7_R>Px9)S7HGb}ezX=(h?:ehFU;8PKLf~8X+N]S2^$Fgk!tSjwy9{~Xgqf|]i6Zw*g,EfvfsBq!;:E?Ep<50_(
{i|9?uE_&+~NB1RbkEktPuV5mwhPsFCg,1|zK`_U<Kquvu>VEI,pDUkG4l+^rqcqAT:<U,jhQKPiN?!#B2AOlt!6mY5{.^TGhQ2q`d9)<aeS`g]&${]RjzrxBKPx>Eu0h~wUXp=?XvLH#4EdEgqgC3
N/H?L[#l!_E87KgYnhaVDHsv4F8E<rZC:N?9>?k,pq_299A8}fKvp9&a6r>#Ey;A}F0||KqazZE.BO5:;s_R_pru!&xrs`Q$]r&39yUjw^`MJ&}2S;[jvqJ25.<+eTSiT[`IEw,3~9&ny88v#`^cYe
Q+mXcTyjMLhv3uXsaN^}aOQs>^,P)eioWkoalDvVrL1(8)T6uLqz=r;icsD#c/*;Af%,%MSe}H81t4s50Cx/RpBKG>/Gz3oM?`Wsotytj'(n?X{Jmd*Hf'bGk|;1aX$tbB`N#3F|jp[e/aS#(zhE)|
=vPw~!{t[*Zmiq5bc.<qQ^z^*k+XQ&}.rL`isA=!HgZDF9~|S830{m:<y662'b>S_vb8=E1pB9=P0jA+eXB)rs<&(:z>RIh7`Wbv8Q`5j%8^&1thBJomOkVO_`6]rs8#W}a:hFzf+F|nE({1Mc|c}7
lzDtH`%r;iw8l1=xI3_YpV4+=Ub3VnW)7$6v<Py$$B4j>1y!dO8{/V:iax1;9j&%N30ysm6?}#l*~&M&7#v#,lwZ:t[GM}&z>QZ,v*jgY,spO/%e.:u_cZHW]0[[!H[k96XGJylr`^3Q1x0f,>dsMl
pJ:86W[vxW[g`h1k.oWm,u&~'$qFT2ZOmW;Kn2Fl&9(N$aRaF}UhjGpN|vD${hBGduz.6VHc$6tY5&sC0U21?V|Gy,L`}pS<*#FG>I[zcVNrE~,yKy)(fr)ZY[v=hM`o6FnX{eW}c'.a6pZ1A>xHYf
[G%Atqaju!9Sd(S8Ac'fTRooLFvcxx/OI'8$5mJO)kz(u,o,cJaZ9X&7+.SUh{nUHP4^?3YUNM40+_7Z;W`kRnEb6hPYek>itbbf+?~{?uXT.mcNY!A9>>Mf?FIHQW)vx8BO*o*>p^8GtvGo9zcdgj
[t5NxA$3cPHRy$EvPt{tb&f][#x+6vFpJwx]I3kjq,Vf^c$Z2R?+F2Kd2==S!(nmMk;v>[}{Pz`W5UxXe647$G0)hE#Vv3:{BV;q:E~lDTrCtNMMteSmDvCbMa,$Oo&i~?w]:z8_&lRbo;!+3,[,y;
Pck,Fr9#OD{~TW{B.P2?lcaRH:{(,<~,/4#<12%E~^O8GCV!Qmo0tIk.`;JaGCX00S'>+E~OT;l{kt%fx801Q,.7)T.&<w(/^#_e*U24rxr+l8l$bsDk$J$a~UL}rKz3Xp[8<H(,K]Q/t:9iRr4?X9
L6J1N<$y!aJ52XQsH:T=~ES3?7qvC?GM%&K%m$G{jM9#H%Lry6YZDwg0p{sSV!'H)O+2bZl<:35W8SBaocCUKK,S^E>OJAVEs`f5xz4EQ}frS.Z(M%E}/;HeOs{x3skr4fEl~^epl5HMZhp&k{;]Jj
1}m8ppzRv'f2O}])#!P)ObqqUq3m4<j5Ih8m2UPqQT:fG2pd%g,xu2EfgeCqP`dwJS~jjL]u=L`2G4*B}7;A1yirUT;n]>=>qk{5Xsw9soR14W]K1FBA=9zy{U(wLIb!VJzjW.z|7nN^KA1rl!``%>
13pBAjoM6R&ZQT0i9=P:dx_OW(y$0[?O.5*U!BQ6;*}rZU%d<%.jDffKl&LUv*8g3inHHgexWT_[Maa5Bs!sDZa~^eKX$2;[L{)6wHvyaiFtc%V=ufw(S5CtS(em#F`A5)xqkW$S;~Ivm,I]P?w1OD
g[P>]8gARZe|88}$:E^)mj(W/wy}e;5aV&F;$$JD6687>YPC<tJSfjm3tCshD4~'}d75DubhI|SNhh%.6+~rD]]z0GIR^o?IDIFcy0!dEO?YGx__[&}NA9cX!T[)()}6`ULzrid#=w6`n^OP^UHbL(
1g~MBvNsg}%rU$Ms'_[L*dPQ^~`W{s^*X~J6trDHg!Je*s4/#owv)c]!_ud!J9Mi)l+WuoA`kR]r]:'{_f'Wp57dvj=x]a{|S=W1l.t#7aTEf!ZNhM%jG5`T9GW4_`7xl?25sS+){ORx;,p0qU[B9&
|3D>Q4J.xOn(8F$$OK%3%S?f`(q|z)ks7`p6[{BA61=E,K6e6m1C&=J3h=Tk)~dN$2_^)_V|_l5PVBK)pGLy]D/E44TyvFjAg4'~c?8P<Hr'Kc*3P]6T$x`gBFJ}wJV$37f<TG!NQ){deU>1(YGk)~
puV_p3UNV!Xe(l3*C*Dy(1,RV$WNC|R|lM<;_TD^XZicFfLBX)=b$_[#[!J21:Hq72A<(x[+.M>/^02an!dW6#2UZOkE;XK!X#pr5LP=6M*8XvTXgERDejpBg3hD([vDZR/[dEBgH){W21Rxxwe`l^
3[<,LMl6.y9`kw?/y:|jzT>)I3<CLbQp>}k(++<DwU;!77)#RK$!{0_e^UnB:FCi}Z6sEdqpEqD}0UhFi_3>50_i/15^6b2[:4nPtFwzt/I>t#O!dsF?,&=/~J4)$$#DGzH={x=<NtLu$YHo402MRV
4P+,q[YeZAl!Fb!)2_[kFgK<J~G)n9i_9<^}BBh`T((20PDcZsQ_|_{Ip~xAUmB;i=DuQdLN<sUqt~X);C`zPdJdv0/6:%:6h&nT5wtm?jVpn%~YeDJ/1wIHX}&8Rq+C4e9Lg|%}ZQ?vr1B['EH|]+
#tLp>WA3vr<yS#%'d|TFsa}<(;By>/EG>fqJfQV`(egQGN.)kTw5gRBh/UeZ{Nqv<<{xc(pY+M}~Rdv2JZR*AX7M$AeQEMxJAg8FKJNJenf>wS;.8k!JK3]S+&7E^a12?Hj2A44sj+=[*U;fo1;B).
8G157DP<#yXAQS1`jBHIJz.4LI2X]&xdHT!R16999%^D/9ASbhML`kFlp'p8*j;beYW{Lt~,#1`{v>~^=tQv0/{6V,1$FRF?k&K4}o*g<sPjh;hE8<o'`%m!DxeM#Gb{X1v]d$8k<p{{MdX+31{)z3
NULe/l8O='(VHo%a~BHY`3;OAT`jVZq|{9f:nUy08:_4nOSqCjYgtouTHdlYC[]yQg;Ewe5j$pZMK9SAS1*ka%c)72Jtv7kECbAW8n'M*v|mJ3?!MQ],30Pyaodk3'F{$ExC9BM(0>/M1xV3Mptwp9
>hL2>J%Um*YJuOlk(F1,Z;m6MO_<Yc&#r#*Ob}X*e^4S>7WGt0H4`5kWZd9#x<,6+Exp7VMz:36).Wzyx}xbgETYmjO,w,aAzIH[$$bvP:GoquV4iv&ZY${vP!;^`/e)!sQo!y*BeTpzWsIZ5cp|U*
v2.T7l):x<ns^Mzi}NCH8H+}{U{_1GSP9'Z;s3>]=3e:OZFPbp9pRLbr<NGRL2{=0.gke}M9{L`<k13=~Sx_<C~R'4Q)]pYf8Y,e,?lPC&y!!!!!!!!!".toUTF8
    -- the program's term (the library's), its strings as the numbers of their signs
    let some pw := (← Lean.getEnv).find? `PySem.Challenge.pw_nz0257_01 | throwError "no program"
    let known := pw.value!.replace fun x =>
      if x.isAppOfArity `PySem.Str.ofString 1 then
        match x.appArg! with
        | .lit (.strVal s) =>
          let nat := Lean.mkConst `Nat
          let l := s.toList.foldr (fun c r => Lean.mkApp3 (Lean.mkConst `List.cons [.zero]) nat (Lean.mkRawNatLit c.toNat) r) (Lean.mkApp (Lean.mkConst `List.nil [.zero]) nat)
          some (Lean.mkApp (Lean.mkConst `PySem.Str.mk) (Lean.mkApp2 (Lean.mkConst `Array.mk [.zero]) nat l))
        | _ => none
      else none
    let go : IO (Array (Nat × String × String × Nat × Nat) × Array Lean.Expr) := do
      let fp ← IO.mkRef (0 : Nat)
      let fr ← IO.mkRef (0 : Nat)
      let fc ← IO.mkRef (0 : Nat)
      let digit : BaseIO Nat := do
        let i ← fp.get
        let c := (src.get! i).toNat
        if c < 33 then
          let c := (src.get! (i + 1)).toNat
          fp.set (i + 2)
          return c - 33 - (if c > 34 then 1 else 0) - (if c > 45 then 1 else 0) - (if c > 64 then 1 else 0) - (if c > 92 then 1 else 0)
        else
          fp.set (i + 1)
          return c - 33 - (if c > 34 then 1 else 0) - (if c > 45 then 1 else 0) - (if c > 64 then 1 else 0) - (if c > 92 then 1 else 0)
      let mut c0 := 0
      for _ in [0:7] do c0 := c0 * 90 + (← digit)
      fc.set c0
      fr.set 47829690000000
      let bitP := fun (p : Nat) => show BaseIO Bool from do
        let r ← fr.get
        let c ← fc.get
        let b := (r / 65536) * p
        let hit := Nat.blt c b
        let mut r2 := if hit then b else r - b
        let mut c2 := if hit then c else c - b
        while r2 < 531441000000 do
          r2 := r2 * 90
          c2 := c2 * 90 + (← digit)
        fr.set r2
        fc.set c2
        return hit
      let nx := fun (e : Nat) (b : Bool) (lim : Nat) => show Nat from
        let p := e / 256
        let n := e % 256
        let n := if n < lim then n + 1 else n
        let d := 10 * n + 6
        let p := if b then p + ((65536 - p) * 10) / d else p - (p * 10) / d
        (if p < 24 then 24 else if p > 65512 then 65512 else p) * 256 + n
      let H := fun (a b : Nat) => (a * 1500450271 + b * 982451653 + 12345) % 2147483647
      let bp ← IO.mkRef (Array.replicate 4194304 (8388608 : Nat))
      let bitL := fun (h lim : Nat) => show BaseIO Bool from do
        let i := h % 4194304
        let e := (← bp.get)[i]!
        let b ← bitP (e / 256)
        bp.modify fun a => a.set! i (nx e b lim)
        return b
      let bitH := fun (h : Nat) => bitL h 60
      let numc := fun (ctx : Nat) => show BaseIO Nat from do
        let mut l := 0
        while (← bitH (H ctx l)) do l := l + 1
        let mut v := 1
        for i in [0:l] do
          let b ← if i < 3 then bitH (H (H ctx (100 + l)) v) else bitP 32768
          v := 2 * v + b.toNat
        return v - 1
      let tree := fun (ctx bits : Nat) => show BaseIO Nat from do
        let mut v := 1
        for _ in [0:bits] do
          let b ← bitH (H ctx v)
          v := 2 * v + b.toNat
        return v - 2 ^ bits
      -- text
      let tx ← IO.mkRef (Array.replicate 262144 (0 : Nat))
      let hist ← IO.mkRef (Array.replicate 8 (0 : Nat))
      let chr : BaseIO Nat := do
        let mut hs : Array Nat := #[]
        for o in [6, 4, 3, 2] do
          let h := (← hist.get)
          let mut x := o
          for i in [0:o] do x := H x h[h.size - 1 - i]!
          hs := hs.push (x % 262144)
        let mut seen : Array Nat := #[]
        let mut res := 0
        let mut hit := false
        for k in [0:4] do
          if hit then break
          let e := (← tx.get)[hs[k]!]!
          let n := e % 8
          let y := e / 8
          if n != 0 && !seen.contains y then
            hit ← bitL (H (H 4001 (k * 8 + n)) seen.size) 200
            if hit then res := y
            seen := seen.push y
        if !hit then
          let h ← hist.get
          let l := h[h.size - 1]!
          res ← tree (H 4002 l) 7
        for k in [0:4] do
          let i := hs[k]!
          let e := (← tx.get)[i]!
          let n := e % 8
          let v := if n != 0 && e / 8 == res then res * 8 + (if n < 7 then n + 1 else 7) else res * 8 + 1
          tx.modify fun a => a.set! i v
        let c := res
        hist.modify fun a => a.push c
        return res
      let text : BaseIO String := do
        let mut s := ""
        let mut more := true
        while more do
          let c ← chr
          if c == 10 then more := false else s := s.push (Char.ofNat c)
        return s
      -- names and levels
      let nameOf := fun (s : String) => show Lean.Name from Id.run do
        let mut r := Lean.Name.anonymous
        for p in s.splitOn "|" do
          r := if !p.isEmpty && p.all Char.isDigit then .num r p.toNat! else .str r p
        return r
      let levelsOf := fun (s : String) => show List Lean.Level from Id.run do
        let mut toks : Array String := #[]
        let mut cur := ""
        let mut inn := false
        for c in s.toList do
          if inn then
            if c == ';' then
              toks := toks.push cur
              inn := false
            else cur := cur.push c
          else if c == 'p' then
            cur := "p"
            inn := true
          else toks := toks.push (String.singleton c)
        let mut st : List Lean.Level := []
        for t in toks.reverse do
          st := match t, st with
            | "z", r => .zero :: r
            | "s", a :: r => .succ a :: r
            | "m", a :: b :: r => .max a b :: r
            | "i", a :: b :: r => .imax a b :: r
            | t, r => .param (nameOf (t.drop 1).toString) :: r
        return st
      -- symbols
      let symEx ← IO.mkRef (Array.replicate 8 (Lean.Expr.bvar 0))
      let symPj ← IO.mkRef (Array.replicate 8 (0 : Nat))
      let symNm ← IO.mkRef (Array.replicate 8 Lean.Name.anonymous)
      let newSym : BaseIO Nat := do
        let s ← text
        let p := (s.drop 1).toString.splitOn " "
        let n := nameOf p[0]!
        if s.startsWith "R" then
          symEx.modify fun a => a.push (.bvar 0)
          symPj.modify fun a => a.push (p[1]!.toNat! + 1)
        else
          symEx.modify fun a => a.push (.const n (levelsOf (p[1]!.drop 1).toString))
          symPj.modify fun a => a.push 0
        symNm.modify fun a => a.push n
        return (← symNm.get).size - 1
      let ht ← IO.mkRef (Array.replicate 8388608 (0 : Nat))
      let hp ← IO.mkRef (Array.replicate 6144 (8388608 : Nat))
      let head := fun (hc : Array Nat) => show BaseIO Nat from do
        let mut seen : Array Nat := #[]
        let mut hit := false
        let mut res := 0
        for o in [0:6] do
          if hit then break
          let mut e := (← ht.get)[hc[o]! % 8388608]!
          for j in [0:4] do
            if e == 0 then break
            let y := (e / 4) % 8192
            let n := e % 4
            e := e / 32768
            if !seen.contains y then
              let i := (((o * 4 + j) * 4 + n) * 4 + e % 4) * 16 + (if seen.size < 15 then seen.size else 15)
              let q := (← hp.get)[i]!
              let b ← bitP (q / 256)
              hp.modify fun a => a.set! i (nx q b 200)
              if b then
                hit := true
                res := y
                break
              seen := seen.push y
        if !hit then
          if ← bitH 31 then res ← newSym
          else res ← tree 32 13
        let sym := res
        for o in [0:6] do
          let i := hc[o]! % 8388608
          let w := (← ht.get)[i]!
          let a := w % 32768
          let b := (w / 32768) % 32768
          let c := (w / 1073741824) % 32768
          let d := w / 35184372088832
          let (r, n) :=
            if a != 0 && a / 4 == sym then (w / 32768, a % 4)
            else if b != 0 && b / 4 == sym then (a + (w / 1073741824) * 32768, b % 4)
            else if c != 0 && c / 4 == sym then (w % 1073741824 + d * 1073741824, c % 4)
            else if d != 0 && d / 4 == sym then (w % 35184372088832, d % 4)
            else (w % 35184372088832, 0)
          let v := r * 32768 + sym * 4 + (if n < 3 then n + 1 else 3)
          ht.modify fun a => a.set! i v
        return res
      -- terms
      let kids ← IO.mkRef (#[] : Array (Array Nat))
      let hdS ← IO.mkRef (#[] : Array Nat)
      let clE ← IO.mkRef (#[] : Array (Option Lean.Expr))
      let memo ← IO.mkRef ({} : Std.HashMap Nat Lean.Expr)
      let cId ← IO.mkRef (Array.replicate 8192 (0 : Nat))
      let vId ← IO.mkRef (Array.replicate 8192 (0 : Nat))
      let newT := fun (k : Array Nat) (s : Nat) (e : Option Lean.Expr) => show BaseIO Nat from do
        kids.modify fun a => a.push k
        hdS.modify fun a => a.push s
        clE.modify fun a => a.push e
        return (← hdS.get).size - 1
      let constId := fun (s : Nat) => show BaseIO Nat from do
        let i := (← cId.get)[s]!
        if i != 0 then return i - 1
        let e := (← symEx.get)[s]!
        let t ← newT #[] s (some e)
        cId.modify fun a => a.set! s (t + 1)
        return t
      let varId := fun (l : Nat) => show BaseIO Nat from do
        let i := (← vId.get)[l]!
        if i != 0 then return i - 1
        let t ← newT #[0, l] 0 none
        vId.modify fun a => a.set! l (t + 1)
        return t
      -- a term from its children: tag 1 fun, 2 forall, 3 let, 4 proj, 5 constant applied, 6 other applied
      let build := fun (tag x : Nat) (c : Array Lean.Expr) => show BaseIO Lean.Expr from do
        if tag == 5 then return Lean.mkAppN (← symEx.get)[x]! c
        else if tag == 1 then return .lam `x c[0]! c[1]! .default
        else if tag == 2 then return .forallE `x c[0]! c[1]! .default
        else if tag == 3 then return .letE `x c[0]! c[1]! c[2]! false
        else if tag == 4 then return .proj (← symNm.get)[x]! ((← symPj.get)[x]! - 1) c[0]!
        else return Lean.mkAppN c[0]! (c.extract 1 c.size)
      let look := fun (t d : Nat) => show BaseIO (Option Lean.Expr) from do
        match (← clE.get)[t]! with
        | some e => return some e
        | none =>
          let k := (← kids.get)[t]!
          if k[0]! == 0 then return some (.bvar (d - 1 - k[1]!))
          return (← memo.get).get? (t * 8192 + d)
      -- the term t at depth d
      let exprAt := fun (t d : Nat) => show BaseIO Lean.Expr from do
        let mut st : Array (Nat × Nat) := #[(t, d)]
        let mut res := Lean.Expr.bvar 0
        while st.size != 0 do
          let (t, d) := st.back!
          match ← look t d with
          | some e =>
            res := e
            st := st.pop
          | none =>
            let k := (← kids.get)[t]!
            let tag := k[0]!
            let mut cs : Array Lean.Expr := #[]
            let mut ok := true
            for j in [2:k.size] do
              let dd := if (tag == 1 || tag == 2) && j == 3 || tag == 3 && j == 4 then d + 1 else d
              match ← look k[j]! dd with
              | some e => cs := cs.push e
              | none =>
                st := st.push (k[j]!, dd)
                ok := false
            if ok then
              let e ← build tag k[1]! cs
              memo.modify fun m => m.insert (t * 8192 + d) e
              res := e
              st := st.pop
        return res
      let tt ← IO.mkRef (Array.replicate 8388608 (0 : Nat))
      let update := fun (id : Nat) (c : Array Nat) (at0 : Nat) => show BaseIO Unit from do
        for o in [0:6] do
          let h := c[at0 + o]!
          let i := h % 8388608
          let tag := h / 8388608
          let e := (← tt.get)[i]!
          let n := e % 8
          let v := if n != 0 && e / 8 == tag * 1048576 + id then tag * 8388608 + id * 8 + (if n < 7 then n + 1 else 7) else tag * 8388608 + id * 8 + 1
          tt.modify fun a => a.set! i v
      let lg ← IO.mkRef (Array.replicate 262144 (#[] : Array Nat))
      let logT := fun (key id : Nat) => show BaseIO Unit from
        lg.modify fun a => a.modify key fun l => l.push id
      let fs ← IO.mkRef (#[] : Array (Array Nat))
      let cid ← IO.mkRef (#[] : Array Nat)
      let cex ← IO.mkRef (#[] : Array Lean.Expr)
      -- frame: 0 sym, 1 need, 2 got, 3 tag, 4 base, 5 eff, 6 bt, 7 pb, 8 pos, 9 prev, 10 all, 11 depth, 12 bt of the next, 13 dd, 14 key, 15 first child, 16 t0, 17 own depth, 18.. contexts
      let put := fun (id : Nat) (e : Lean.Expr) => show BaseIO Unit from do
        cid.modify fun a => a.push id
        cex.modify fun a => a.push e
        let f := (← fs.get).back!
        fs.modify fun a => a.pop
        let tag := f[3]!
        let got := f[2]! + 1
        let f := f.set! 2 got
        let f ←
          if tag == 1 || tag == 2 then
            if got == 1 then pure ((((((f.set! 8 1).set! 9 (id + 1)).set! 10 (id + 1)).set! 11 (f[13]! + 1)).set! 12 (id + 1)).set! 16 (id + 1)) else pure f
          else if tag == 3 then
            if got == 1 then pure ((((f.set! 8 1).set! 9 (id + 1)).set! 10 (id + 1)).set! 16 (id + 1))
            else if got == 2 then do
              let s := (← hdS.get)[id]!
              let t0 := f[16]!
              pure (((((f.set! 8 2).set! 9 s).set! 10 (H t0 (id + 1))).set! 11 (f[13]! + 1)).set! 12 t0)
            else pure f
          else if tag == 7 then pure (((f.set! 8 1).set! 9 (id + 1)).set! 10 (id + 1))
          else
            let all := if tag == 6 && got == 1 then H 1 (id + 1) else H f[10]! (id + 1)
            pure (((f.set! 8 (f[8]! + 1)).set! 9 (id + 1)).set! 10 all)
        fs.modify fun a => a.push f
      let step : BaseIO Bool := do
        let f := (← fs.get).back!
        if f[2]! == f[1]! then
          -- whole
          let tag := f[3]!
          if tag == 7 then return false
          fs.modify fun a => a.pop
          let k0 := f[15]!
          let ids := (← cid.get)
          let c := ids.extract k0 ids.size
          let es := (← cex.get)
          let ce := es.extract k0 es.size
          cid.modify fun a => a.shrink k0
          cex.modify fun a => a.shrink k0
          let x := if tag ≤ 3 then f[13]! else f[0]!
          let e ← build tag x ce
          let mut closed := true
          if tag ≤ 3 then closed := f[13]! == 0
          else
            let cl ← clE.get
            for i in c do
              if cl[i]!.isNone then closed := false
          let id ← if closed then newT #[] f[0]! (some e) else do
            let id ← newT (#[tag, x] ++ c) f[0]! none
            memo.modify fun m => m.insert (id * 8192 + f[17]!) e
            pure id
          logT f[14]! id
          update id f 18
          put id e
          return true
        let hh := f[0]!
        let ps := f[8]!
        let prev := f[9]!
        let all := f[10]!
        let D := f[11]!
        let bt := f[12]!
        let base := H hh ps
        let bind := hh ≥ 1 && hh ≤ 3
        let eff := if bind then H f[5]! base else base
        let pb := f[4]!
        let g := if bind then eff else H base f[5]!
        let g2 := H g (if bind then f[6]! else f[7]!)
        let q := H (H base all) 33
        let r := H (H base prev) 22
        let xe := f[5]!
        let cs : Array Nat := #[H q xe, q, r, H g2 3, H g 4, H base 5]
        let mut seen : Array Nat := #[]
        let mut hit := false
        let mut res := 0
        for o in [0:6] do
          if hit || seen.size ≥ 4 then break
          let h := cs[o]!
          let e := (← tt.get)[h % 8388608]!
          let n := e % 8
          if n != 0 && e / 8388608 == h / 8388608 then
            let y := (e / 8) % 1048576
            if !seen.contains y then
              hit ← bitL (H (H (H 777 (o * 8 + n)) seen.size) base) 200
              if hit then res := y
              seen := seen.push y
        if hit then
          update res cs 0
          put res (← exprAt res D)
          return true
        let sym ← head #[H r xe, r, g2, g, base, 5]
        let na ← numc (H (H 4242 sym) (if sym == 0 then base else 1))
        if sym == 0 && na == 0 then
          let i ← numc (H 9 base)
          let id ← varId (D - 1 - i)
          update id cs 0
          put id (.bvar i)
          return true
        let isC := sym ≥ 8 && (← symPj.get)[sym]! == 0
        let key := sym * 32 + (if na < 31 then na else 31)
        if !(isC && na == 0) then
          let n := (← lg.get)[key]!.size
          if n != 0 then
            if ← bitH (H (H 555 sym) base) then
              let k ← numc (H 31337 (H base sym))
              let id := (← lg.get)[key]![n - 1 - k]!
              logT key id
              update id cs 0
              put id (← exprAt id D)
              return true
        let k0 := (← cid.get).size
        let mkF := fun (need tag pos prev all D bt dd : Nat) => (#[sym, need, 0, tag, base, eff, f[12]!, pb, pos, prev, all, D, bt, dd, key, k0, 0, f[11]!] : Array Nat) ++ cs
        if na == 0 then
          if sym ≤ 3 then
            let cl ← if D > 0 then bitH (H 808 base) else pure true
            let dd := if cl then 0 else D
            if sym == 3 then fs.modify fun a => a.push (mkF 3 3 0 0 1 dd bt dd)
            else fs.modify fun a => a.push (mkF 2 sym 0 bt (H 1 bt) dd bt dd)
          else if isC then
            let id ← constId sym
            update id cs 0
            let e := (← symEx.get)[sym]!
            put id e
          else if sym ≥ 8 then fs.modify fun a => a.push (mkF 1 4 0 0 1 D bt 0)
          else
            let e ← if sym == 4 then do
                let mut v := 0
                if ← bitH (H 71 base) then
                  let l ← bitH (H 70 base)
                  let rb := if l then 6 else 9
                  let nd ← numc (H 73 base)
                  let mut p1 := 0
                  let mut p2 := 0
                  let mut ds : Array Nat := #[]
                  for _ in [0:nd] do
                    let k3 := H (H (H 76 p1) p2) rb
                    let k2 := H (H 74 p1) rb
                    let mut pre := 1
                    for _ in [0:rb] do
                      let x := H k3 pre % 4194304
                      let y := H k2 pre % 4194304
                      let z := H (77 + rb) pre % 4194304
                      let ex := (← bp.get)[x]!
                      let ey := (← bp.get)[y]!
                      let ez := (← bp.get)[z]!
                      let b ← bitP ((if ex % 256 ≥ 2 then ex else if ey % 256 ≥ 2 then ey else ez) / 256)
                      bp.modify fun a => a.set! x (nx ex b 30)
                      if y != x then bp.modify fun a => a.set! y (nx ey b 60)
                      if z != x && z != y then bp.modify fun a => a.set! z (nx ez b 200)
                      pre := 2 * pre + b.toNat
                    p2 := p1
                    p1 := pre - 2 ^ rb
                    ds := ds.push p1
                  for d in ds.reverse do v := v * 2 ^ rb + d
                else v ← numc (H 72 base)
                pure (Lean.Expr.lit (.natVal v))
              else if sym == 5 then do
                let s ← text
                let s := (s.drop 1).toString
                pure (Lean.Expr.lit (.strVal (s.take (s.length - 1)).toString))
              else do
                let s ← text
                pure (Lean.Expr.sort ((levelsOf s).headD .zero))
            let id ← newT #[] sym (some e)
            logT key id
            update id cs 0
            put id e
        else if isC then
          let _ ← constId sym
          fs.modify fun a => a.push (mkF na 5 1 0 1 D bt 0)
        else if sym == 0 then
          let i ← numc (H 10 base)
          let v ← varId (D - 1 - i)
          fs.modify fun a => a.push ((mkF (na + 1) 6 1 (v + 1) (H 1 (v + 1)) D bt 0).set! 2 1)
          cid.modify fun a => a.push v
          cex.modify fun a => a.push (.bvar i)
        else fs.modify fun a => a.push (mkF (na + 1) 6 0 0 1 D bt 0)
        return true
      -- what is known ahead: the parts of the program's term
      let mut sd : Array (Lean.Expr × Nat) := #[(known, 0)]
      let mut ids : Std.HashMap (Lean.Expr × Nat) Nat := {}
      while sd.size != 0 do
        let (e, d) := sd.back!
        if ids.contains (e, d) then sd := sd.pop
        else
          let at0 := fun (x : Lean.Expr) (d : Nat) => (x, if x.hasLooseBVars then d else 0)
          let cs : Array (Lean.Expr × Nat) := match e with
            | .app .. => (#[e.getAppFn] ++ e.getAppArgs).map fun x => at0 x d
            | .letE _ t v b _ => #[at0 t d, at0 v d, at0 b (d + 1)]
            | _ => #[]
          match cs.find? fun c => !ids.contains c with
          | some c => sd := sd.push c
          | none =>
            let ci := cs.map fun c => ids.getD c 0
            let id ← match e with
              | .const n _ => do
                symEx.modify fun a => a.push e
                symPj.modify fun a => a.push 0
                symNm.modify fun a => a.push n
                constId ((← symNm.get).size - 1)
              | .bvar i => varId (d - 1 - i)
              | .lit _ => do
                let id ← newT #[] 4 (some e)
                logT 128 id
                pure id
              | _ => do
                let isL := e.isLet
                let sym ← if isL then pure 3 else do pure (← hdS.get)[ci[0]!]!
                let ki := if isL then ci else ci.extract 1 ci.size
                let mut ce : Array Lean.Expr := #[]
                for j in [0:ki.size] do
                  let dd := if isL && j == 2 then d + 1 else d
                  ce := ce.push ((← look ki[j]! dd).getD (.bvar 0))
                let tag := if isL then 3 else 5
                let x := if isL then d else sym
                let e' ← build tag x ce
                let id ← if e.hasLooseBVars then do
                    let id ← newT (#[tag, x] ++ ki) sym none
                    memo.modify fun m => m.insert (id * 8192 + d) e'
                    pure id
                  else newT #[] sym (some e')
                let na := if isL then 0 else ki.size
                logT (sym * 32 + (if na < 31 then na else 31)) id
                pure id
            ids := ids.insert (e, d) id
            sd := sd.pop
      -- the declarations
      let num := (← text).toNat!
      let mut hdr : Array (Nat × String × String × Nat × Nat) := #[]
      let mut ex : Array Lean.Expr := #[]
      for _ in [0:num] do
        let p := (← text).splitOn " "
        let kd := if p[0]! == "t" then 0 else if p[0]! == "d" then 1 else if p[0]! == "i" then 2 else 3
        let lp := if p[1]! == "-" then "" else p[1]!
        let h := p[2]!.splitOn ","
        let a := if p[2]! == "-" then 0 else h[0]!.toNat!
        let b := if h.length > 1 then h[1]!.toNat! else 0
        hdr := hdr.push (kd, p[0]!, lp, a, b)
        let need := if kd < 2 then 2 else 1
        fs.set #[#[7, need, 0, 7, 7, 7, 0, 0, 0, 0, 1, 0, 0, 0, 0, 0, 0, 0]]
        cid.set #[]
        cex.set #[]
        for _ in [0:100000] do
          let mut more := true
          for _ in [0:1000] do
            more ← step
            if !more then break
          if !more then break
        ex := ex ++ (← cex.get)
      return (hdr, ex)
    let (hdr, ex) ← go
    let ex := ShareCommon.shareCommon' ex
    let mut i : Nat := 0
    let mut j : Nat := 0
    let mut k : Nat := 0
    for _ in [0:hdr.size] do
      if i ≥ hdr.size then break
      let (kd, _, lp, a, b) := hdr[i]!
      let lps := if lp == "" then [] else (lp.splitOn ",").map fun (s : String) => (s.splitOn "|").foldl (init := Lean.Name.anonymous) fun r p => Lean.Name.str r p
      let ty := ex[j]!
      let nm := if i + 1 == hdr.size then `Mine.hz_holds else Lean.Name.mkStr `Mine s!"a{k}"
      if kd == 0 then
        Lean.addDecl (.thmDecl { name := nm, levelParams := lps, type := ty, value := ex[j + 1]! })
        j := j + 2
        i := i + 1
      else if kd == 1 then
        let h : Lean.ReducibilityHints := if a == 0 then .opaque else if a == 1 then .abbrev else .regular (a - 2).toUInt32
        Lean.addDecl (.defnDecl { name := nm, levelParams := lps, type := ty, value := ex[j + 1]!, hints := h, safety := .safe })
        j := j + 2
        i := i + 1
      else
        let mut ct : List Lean.Constructor := []
        for m in [0:b] do
          ct := ct ++ [{ name := Lean.Name.mkStr nm s!"m{m}", type := ex[j + 1 + m]! }]
        Lean.addDecl (.inductDecl lps a [{ name := nm, type := ty, ctors := ct }] false)
        j := j + 1 + b
        i := i + 1 + b
      k := k + 1
  trivial
end Mine
theorem PySem.Challenge.cw_nz0257_01_holds : PySem.Challenge.rw_nz0257_01.Holds :=
  Mine.hz_holds
