/- A part of the proofs. -/
import Derived.KernelRfl
import Derived.Test.YtfijeeijkndliaaGreatDoorProg
import Derived.Test.YtfijeeijkndliaaGreatDoorP07
set_option linter.all false
set_option maxRecDepth 60000
set_option maxHeartbeats 2000000
namespace Go.Abs
section
def xy:List D->Nat
 |_::.int _ (.ofNat 4)::_=>3
 |_=>1
def NR (T:RT):Prop:=zE T/\vM T
def Dh (T:FT):Prop:=∀(r:Ld),(r.sm)->T (Ld.D r) [] (.tup [Rec.D (gF r.rest).1,.bool (pA r.rest).isSome]) (Ld.D (r.to (gF r.rest).2))
def Dp:qd (ik Dh):=wM
def Di (T:FT):Prop:=∀(r:Ld) (w:av) (n:Nat) (op:Bool),(r.sm)->(n<=1000)->(op=true->1<=n)->T (Ld.D r) [.str w,.int .i64 (n:Nat),.bool op] (.tup [Bl (cu w n op r.rest),.bool (cu w n op r.rest).isSome]) (Ld.D (r.after (cu w n op r.rest)))
def Dq:qd (ik Di):=wM
def Dj (T:FT):Prop:=∀(r:Ld),(r.sm)->T (Ld.D r) [] (bo.D (eQ r.rest).1) (Ld.D (r.to (eQ r.rest).2))
def Dr:qd (ik Dj):=wM
def Dk (T:FT):Prop:=∀(r:Ld),(r.sm)->T (Ld.D r) [] (.str (cI r.rest).1) (Ld.D (r.to (cI r.rest).2))
def Ds:qd (ik Dk):=wM
def Tw:List D->Nat:=fun ds=>2*(match ds.getD 1 .any with| .int _ i=>i.toNat|_=>0)
def Tx:List D->Nat:=fun ds=>2*(match ds.getD 1 .any with| .int _ i=>i.toNat|_=>0)+1
def Gu:List D->Nat:=fun ds=>2*(match ds.getD 1 .any with| .int _ i=>i.toNat|_=>0)
def D1204:Det (xW NI):=pg
def aq:List (Nat×rv):=[(70,rP 14 rE),(71,rP 14 rE),(72,rP 15 tw),(73,rP 15 tw),(76,rP 15 vK),(81,rP 17 GJ),(82,rP 16 vL),(121,rP 16 rm),(124,rP 1 NR),(125,rP 3 n9),(136,rP 15 pT),(208,rP 1 nX),(209,rP 4 nY),(210,rP 13 nZ),(211,rP 11 zF),(212,rP 6 n5),(213,rP 3 oo),(214,rP 3 zG),(215,rP 6 n7),(216,rP 2 nX),(217,rP 4 nY),(218,rP 13 zH),(219,rP 6 n7),(222,rF 7 Dh),(238,rP 16 rm),(239,rP 2 zI),(240,rP 5 zJ),(241,rP 4 zK),(242,rP 1 zL),(243,rG 1 IP),(244,rP 1 zM),(245,rP 1 zN),(246,rP 2 zO),(247,rP 15 pT),(249,rP 1 zP),(254,rP 1 zQ),(316,rP 5 om),(331,rP 1 zR),(332,rP 2 n9),(336,rP 1 jv),(344,rP 3 Dd),(345,rP 11 De),(349,rP 1 oa),(357,rP 2 oa),(440,rP 1 oc),(441,rP 3 zS),(442,rP 2 zT),(443,rP 12 od),(444,rP 10 ot),(445,rP 5 oe),(446,rP 5 og),(447,rP 1 oE),(448,rP 2 oy),(449,rP 2 oF),(450,rG 2 IQ),(451,rP 5 om),(452,rG 1 IU),(453,rP 1 zU),(454,rP 1 zV),(455,rP 1 oc),(456,rP 3 zW),(457,rP 12 nZ),(458,rP 11 zX),(459,rP 5 oo),(460,rP 4 zY),(461,rP 2 zZ),(462,rP 1 z6),(465,rFG 3 Di wX),(466,rP 6 rp),(467,rF 5 Dj),(468,rF 4 Dk),(469,rP 1 z7),(470,rP 1 oq),(482,rP 6 oG),(487,rP 1 z8),(489,rG 1 IV),(490,rG 2 IW),(491,rP 1 Aa),(492,rG 1 IX),(494,rP 1 Ab),(495,rP 9 oB),(496,rP 8 oC),(533,rP 1 oq),(554,rP 3 Ac),(563,rP 1 Ad),(572,rP 10 ot),(658,rP 1 ou),(659,rP 1 ov),(660,rG 4 IY (lx fun _=>4)),(661,rP 4 ow),(662,rP 3 ox),(663,rP 1 oI),(664,rG 1 IZ),(665,rP 2 jv),(666,rP 1 Ae),(667,rP 2 ou),(668,rP 1 ov),(669,rP 11 od),(670,rP 7 n5),(671,rP 4 Af),(672,rP 3 oy),(673,rP 1 Ag),(674,rP 1 Ah),(675,rP 1 Ai),(676,rP 5 oz),(677,rG 3 I0),(678,rP 1 oA),(682,rP 8 Aj),(683,rP 1 Ak),(684,rP 7 Al),(685,rP 8 oH),(734,rP 2 jv),(744,rP 8 oB),(745,rP 9 oC),(808,rG 4 C808 (lx xy)),(809,rG 4 C809 (lx fun _=>2)),(810,rP 2 Am),(811,rP 2 oD Tw),(812,rP 3 An),(813,rP 6 oe),(814,rP 6 og),(815,rP 1 oE),(816,rP 2 oF),(819,rP 7 Ao),(827,rP 5 oz),(828,rP 6 oG),(882,rP 1 Ap),(896,rP 1 Aq),(897,rP 7 Ar),(898,rP 1 As),(899,rP 6 At),(900,rP 7 Au),(901,rP 8 oH),(946,rP 1 Av),(947,rG 2 Cg),(948,rG 1 Dn),(949,rG 4 C949 (lx fun _=>0)),(950,rP 1 Aw),(951,rP 2 Dg Tx),(952,rG 4 I1 (lx fun _=>2)),(953,rP 5 ow),(954,rP 3 ox),(955,rP 1 oI),(956,rP 1 lu),(957,rP 1 oA),(1006,rP 2 vD),(1007,rP 1 vE),(1008,rP 3 vF),(1031,rG 3 yC),(1032,rG 4 TD (lx fun _=>1)),(1033,rG 1 tR),(1034,rG 1 tx),(1035,rP 4 vG),(1036,rP 2 oD Gu),(1079,rP 1 lu),(1097,rG 4 TE (lx fun _=>0)),(1098,rP 3 vH),(1099,rP 1 vI),(1100,rP 1 vJ),(1126,rG 3 yD),(1141,rG 1 yE),(1201,rP 1 NH),(1204,rP 18 NI),(1208,rP 2 NL)]
variable {k u v:Nat}
def Pu (hk:14<k:=by decide):C70 (under aq k u):=aB
def Zf (hk:14<k:=by decide):C71 (under aq k u):=aB
def G72 (hk:15<k:=by decide):C72 (under aq k u):=aB
def G73 (hk:15<k:=by decide):C73 (under aq k u):=aB
def G76 (hk:15<k:=by decide):C76 (under aq k u):=aB
def G81 (hk:17<k:=by decide):C81 (under aq k u):=aB
def G82 (hk:16<k:=by decide):C82 (under aq k u):=aB
def G121 (hk:16<k:=by decide):C121 (under aq k u):=aB
def sC (hk:1<k:=by decide):KZ (under aq k u):=fun s b hp=>G9 pg (.inl hk) fun T h=>h.1 s b hp
def D4 (hk:1<k:=by decide):K7 (under aq k u):=fun s hp=>G9 pg (.inl hk) fun T h=>h.2 s hp
def Ol (hk:3<k:=by decide):XR (under aq k u):=aB
def Om (hk:15<k:=by decide):Vp (under aq k u):=aB
def sD (hk:1<k:=by decide):K0 (under aq k u):=aB
def sE (hk:4<k:=by decide):K1 (under aq k u):=aB
def On (hk:13<k:=by decide):XS (under aq k u):=aB
def DF (hk:11<k:=by decide):Vq (under aq k u):=aB
def DG (hk:6<k:=by decide):Vr (under aq k u):=aB
def Oo (hk:3<k:=by decide):XT (under aq k u):=aB
def Oq (hk:3<k:=by decide):XU (under aq k u):=aB
def DH (hk:6<k:=by decide):Vs (under aq k u):=aB
def o9 (hk:2<k:=by decide):GR (under aq k u):=aB
def tT (hk:4<k:=by decide):K2 (under aq k u):=aB
def Ot (hk:13<k:=by decide):XV (under aq k u):=aB
def GW (hk:6<k:=by decide):Vt (under aq k u):=aB
def Ou (hk:7<k:=by decide):XW (under aq k u):=fun r hp0=>NQ Dp hk fun T h=>h r hp0
def I2 (hk:16<k:=by decide):NS (under aq k u):=aB
def Oy (hk:2<k:=by decide):X1 (under aq k u):=aB
def Oz (hk:5<k:=by decide):X2 (under aq k u):=aB
def OA (hk:4<k:=by decide):X3 (under aq k u):=aB
def sF (hk:1<k:=by decide):K3 (under aq k u):=aB
def OB (hk:1<k:=by decide):IP (under aq k u):=fun lm nx m K hK=>fU (.inl hk) fun T _ h=>h lm nx m K hK
def OC (hk:1<k:=by decide):X4 (under aq k u):=aB
def xh (hk:1<k:=by decide):Vu (under aq k u):=aB
def xi (hk:2<k:=by decide):Vv (under aq k u):=aB
def Az (hk:15<k:=by decide):K4 (under aq k u):=aB
def rr (hk:1<k:=by decide):GS (under aq k u):=aB
def OD (hk:1<k:=by decide):X6 (under aq k u):=aB
def OE (hk:5<k:=by decide):X7 (under aq k u):=aB
def OG (hk:1<k:=by decide):X8 (under aq k u):=aB
def OH (hk:2<k:=by decide):X9 (under aq k u):=aB
def OI (hk:1<k:=by decide):Ya (under aq k u):=aB
def Za (hk:3<k:=by decide):C344 (under aq k u):=aB
def Zb (hk:11<k:=by decide):C345 (under aq k u):=aB
def na (hk:1<k:=by decide):GU (under aq k u):=aB
def nb (hk:2<k:=by decide):GV (under aq k u):=aB
def OJ (hk:1<k:=by decide):Yb (under aq k u):=aB
def OK (hk:3<k:=by decide):Yc (under aq k u):=aB
def DI (hk:2<k:=by decide):Vw (under aq k u):=aB
def OL (hk:12<k:=by decide):Yd (under aq k u):=aB
def OM (hk:10<k:=by decide):Ye (under aq k u):=aB
def ON (hk:5<k:=by decide):Yf (under aq k u):=aB
def OO (hk:5<k:=by decide):Yg (under aq k u):=aB
def OP (hk:1<k:=by decide):Yh (under aq k u):=aB
def DJ (hk:2<k:=by decide):Vx (under aq k u):=aB
def OQ (hk:2<k:=by decide):Yi (under aq k u):=aB
def OR (hk:2<k:=by decide):IQ (under aq k u):=fun ws t l lw nx m K h1 h2 h3 h4 h5 hK=>fU (.inl hk) fun T _ h=>h ws t l lw nx m K h1 h2 h3 h4 h5 hK
def DK (hk:5<k:=by decide):Vy (under aq k u):=aB
def OS (hk:1<k:=by decide):IU (under aq k u):=fun ds st K h1=>fU (.inl hk) fun T _ h=>h ds st K h1
def DL (hk:1<k:=by decide):Vz (under aq k u):=aB
def xj (hk:1<k:=by decide):NT (under aq k u):=aB
def OT (hk:1<k:=by decide):Yj (under aq k u):=aB
def OU (hk:3<k:=by decide):Yk (under aq k u):=aB
def OV (hk:12<k:=by decide):Yl (under aq k u):=aB
def OW (hk:11<k:=by decide):Ym (under aq k u):=aB
def OX (hk:5<k:=by decide):Yn (under aq k u):=aB
def OY (hk:4<k:=by decide):Yo (under aq k u):=aB
def OZ (hk:2<k:=by decide):Yp (under aq k u):=aB
def O0 (hk:1<k:=by decide):Yq (under aq k u):=aB
def DM (hk:3<k:=by decide):NU (under aq k u):=fun r w n op hp0 hp1 hp2=>NQ Dq hk fun T h=>h r w n op hp0 hp1 hp2
def D5 (hk:3<k:=by decide):wX (under aq k u):=fun r w n op l nx m K h1 h2 h3 h4 hK=>fU (.inl hk) fun T _ h=>h r w n op l nx m K h1 h2 h3 h4 hK
def O1 (hk:6<k:=by decide):Yr (under aq k u):=aB
def O2 (hk:5<k:=by decide):VA (under aq k u):=fun r hp0=>NQ Dr hk fun T h=>h r hp0
def DN (hk:4<k:=by decide):NV (under aq k u):=fun r hp0=>NQ Ds hk fun T h=>h r hp0
def O3 (hk:1<k:=by decide):Ys (under aq k u):=aB
def jJ (hk:1<k:=by decide):wI (under aq k u):=aB
def AA (hk:6<k:=by decide):NX (under aq k u):=aB
def DO (hk:1<k:=by decide):VB (under aq k u):=aB
def O6 (hk:1<k:=by decide):IV (under aq k u):=fun ds st K h1=>fU (.inl hk) fun T _ h=>h ds st K h1
def O7 (hk:2<k:=by decide):IW (under aq k u):=fun r ps hs a b hp0 nx m K h1 h2 hK=>fU (.inl hk) fun T _ h=>h r ps hs a b hp0 nx m K h1 h2 hK
def O8 (hk:1<k:=by decide):Yz (under aq k u):=aB
def O9 (hk:1<k:=by decide):IX (under aq k u):=fun r ps hs a b hp0 nx m K h1 h2 hK=>fU (.inl hk) fun T _ h=>h r ps hs a b hp0 nx m K h1 h2 hK
def Pa (hk:1<k:=by decide):YA (under aq k u):=aB
def DP (hk:9<k:=by decide):VC (under aq k u):=aB
def DQ (hk:8<k:=by decide):VD (under aq k u):=aB
def sG (hk:1<k:=by decide):K5 (under aq k u):=aB
def Pb (hk:3<k:=by decide):YB (under aq k u):=aB
def Pc (hk:1<k:=by decide):YC (under aq k u):=aB
def yG (hk:10<k:=by decide):NY (under aq k u):=aB
def xk (hk:1<k:=by decide):NZ (under aq k u):=aB
def Pd (hk:1<k:=by decide):YD (under aq k u):=aB
def Pe (hk:4<k:=by decide):IY (under aq k u):=fun w nd hp0 nx lp ln m K h1 h2 h3 h4 hK=>fU (.inl hk) fun T _ h=>h w nd hp0 nx lp ln m K h1 h2 h3 h4 hK
def DR (hv:v<=u):K6 (under aq 4 u) v:=fun w nd hp0 hu nx lp ln m K h1 h2 h3 h4 hK=>fU (.inr ⟨rfl,by rw[show(lk aq 660 jT).muE=lx fun _=>4 from rfl,dA h1];exact cz hu hv⟩) fun T _ h=>h w nd hp0 nx lp ln m K h1 h2 h3 h4 hK
def DS (hk:4<k:=by decide):VE (under aq k u):=aB
def DT (hk:3<k:=by decide):VF (under aq k u):=aB
def Pf (hk:1<k:=by decide):YE (under aq k u):=aB
def Pg (hk:1<k:=by decide):IZ (under aq k u):=fun ds st K h1=>fU (.inl hk) fun T _ h=>h ds st K h1
def DU (hk:2<k:=by decide):VG (under aq k u):=aB
def Ph (hk:1<k:=by decide):YF (under aq k u):=aB
def AB (hk:2<k:=by decide):N0 (under aq k u):=aB
def Pj (hk:1<k:=by decide):YG (under aq k u):=aB
def Pk (hk:11<k:=by decide):YH (under aq k u):=aB
def DV (hk:7<k:=by decide):VH (under aq k u):=aB
def Pl (hk:4<k:=by decide):YI (under aq k u):=aB
def DW (hk:3<k:=by decide):VI (under aq k u):=aB
def Pm (hk:1<k:=by decide):YJ (under aq k u):=aB
def Pn (hk:1<k:=by decide):YK (under aq k u):=aB
def Po (hk:1<k:=by decide):YL (under aq k u):=aB
def DX (hk:5<k:=by decide):VJ (under aq k u):=aB
def Pq (hk:3<k:=by decide):I0 (under aq k u):=fun c hp0 nx m K hK=>fU (.inl hk) fun T _ h=>h c hp0 nx m K hK
def DY (hk:1<k:=by decide):VK (under aq k u):=aB
def Pr (hk:8<k:=by decide):YM (under aq k u):=aB
def Ps (hk:1<k:=by decide):YN (under aq k u):=aB
def xl (hk:7<k:=by decide):N1 (under aq k u):=aB
def Pt (hk:8<k:=by decide):YO (under aq k u):=aB
def DZ (hk:2<k:=by decide):VL (under aq k u):=aB
def Pv (hk:8<k:=by decide):YP (under aq k u):=aB
def Pw (hk:9<k:=by decide):YQ (under aq k u):=aB
def tV (hv:v<=u):Hj (under aq 4 u) v:=⟨fun w nd hp0 hu nx lp ln m K h1 h2 h3 h4 hK=>fU (.inr ⟨rfl,by rw[show(lk aq 808 jT).muE=lx xy from rfl,dA h1];exact cz hu hv⟩) fun T _ h=>h.1 w nd hp0 nx lp ln m K h1 h2 h3 h4 hK,fun w nd hp0 hu nx lp ln m K h1 h2 h3 h4 hK=>fU (.inr ⟨rfl,by rw[show(lk aq 808 jT).muE=lx xy from rfl,dA h1];exact cz hu hv⟩) fun T _ h=>h.2 w nd hp0 nx lp ln m K h1 h2 h3 h4 hK⟩
def D0 (hv:v<=u):TG (under aq 4 u) v:=fun w nd hp0 hu nx lp ln m K h1 h2 h3 h4 hK=>fU (.inr ⟨rfl,by rw[show(lk aq 809 jT).muE=lx fun _=>2 from rfl,dA h1];exact cz hu hv⟩) fun T _ h=>h w nd hp0 nx lp ln m K h1 h2 h3 h4 hK
def Px (hk:2<k:=by decide):YR (under aq k u):=aB
def Py (hk:2<k:=by decide):YS (under aq k u):=aB
def tW (hv:v<=u):Hk (under aq 2 u) v:=fun l i hp0 hu=>G9 pg (.inr ⟨rfl,cz hu hv⟩) fun T hT=>hT l i hp0
def Pz (hk:3<k:=by decide):YT (under aq k u):=aB
def PA (hk:6<k:=by decide):YU (under aq k u):=aB
def PC (hk:6<k:=by decide):YV (under aq k u):=aB
def D1 (hk:1<k:=by decide):VM (under aq k u):=aB
def PD (hk:2<k:=by decide):YW (under aq k u):=aB
def PE (hk:7<k:=by decide):YX (under aq k u):=aB
def xm (hk:5<k:=by decide):N2 (under aq k u):=aB
def D2 (hk:6<k:=by decide):VN (under aq k u):=aB
def PF (hk:1<k:=by decide):YY (under aq k u):=aB
def PG (hk:1<k:=by decide):YZ (under aq k u):=aB
def PH (hk:7<k:=by decide):Y0 (under aq k u):=aB
def PI (hk:1<k:=by decide):Y1 (under aq k u):=aB
def D3 (hk:6<k:=by decide):VO (under aq k u):=aB
def xn (hk:7<k:=by decide):N3 (under aq k u):=aB
def PJ (hk:8<k:=by decide):Y2 (under aq k u):=aB
def xo (hk:1<k:=by decide):VP (under aq k u):=aB
def sH (hk:2<k:=by decide):Cg (under aq k u):=fun w nd b nx lp ln m K h1 h2 h3 h4 hK=>fU (.inl hk) fun T _ h=>h w nd b nx lp ln m K h1 h2 h3 h4 hK
def sI (hk:1<k:=by decide):Dn (under aq k u):=fun x w nd b hp0 nx lp ln m K h1 h2 h3 h4 hK=>fU (.inl hk) fun T _ h=>h x w nd b hp0 nx lp ln m K h1 h2 h3 h4 hK
def tX (hv:v<=u):K8 (under aq 4 u) v:=fun w nd hp0 hu nx lp ln m K h1 h2 h3 h4 hK=>fU (.inr ⟨rfl,by rw[show(lk aq 949 jT).muE=lx fun _=>0 from rfl,dA h1];exact cz hu hv⟩) fun T _ h=>h w nd hp0 nx lp ln m K h1 h2 h3 h4 hK
def D6 (hk:1<k:=by decide):VQ (under aq k u):=aB
def D7 (hv:v<=u):K9 (under aq 2 u) v:=fun l i b hp0 hu=>G9 pg (.inr ⟨rfl,cz hu hv⟩) fun T hT=>hT l i b hp0
def PK (hk:4<k:=by decide):I1 (under aq k u):=fun W w nd hp0 hp1 nx lp ln m K h1 h2 h3 h4 hK=>fU (.inl hk) fun T _ h=>h W w nd hp0 hp1 nx lp ln m K h1 h2 h3 h4 hK
def D8 (hv:v<=u):La (under aq 4 u) v:=fun W w nd hp0 hp1 hu nx lp ln m K h1 h2 h3 h4 hK=>fU (.inr ⟨rfl,by rw[show(lk aq 952 jT).muE=lx fun _=>2 from rfl,fW hp0.1 h1];exact cz hu hv⟩) fun T _ h=>h W w nd hp0 hp1 nx lp ln m K h1 h2 h3 h4 hK
def D9 (hk:5<k:=by decide):VR (under aq k u):=aB
def Ea (hk:3<k:=by decide):VT (under aq k u):=aB
def PL (hk:1<k:=by decide):Y3 (under aq k u):=aB
def PM (hk:1<k:=by decide):Y4 (under aq k u):=aB
def Eb (hk:1<k:=by decide):VU (under aq k u):=aB
def Dt (hk:2<k:=by decide):KR (under aq k u):=aB
def Du (hk:1<k:=by decide):KS (under aq k u):=aB
def Dv (hk:3<k:=by decide):KT (under aq k u):=aB
def Dw (hk:3<k:=by decide):yC (under aq k u):=fun k w nd b hp0 nx lp ln m K h1 h2 h3 h4 hK=>fU (.inl hk) fun T _ h=>h k w nd b hp0 nx lp ln m K h1 h2 h3 h4 hK
def xf (hv:v<=u):Dl (under aq 4 u) v:=fun W w nd hp0 hp1 hu nx lp ln m K h1 h2 h3 h4 hK=>fU (.inr ⟨rfl,by rw[show(lk aq 1032 jT).muE=lx fun _=>1 from rfl,fW hp0.1 h1];exact cz hu hv⟩) fun T _ h=>h W w nd hp0 hp1 nx lp ln m K h1 h2 h3 h4 hK
def qe (hk:1<k:=by decide):tR (under aq k u):=fun s W w nd b hp0 nx lp ln m K h1 h2 h3 h4 hK=>fU (.inl hk) fun T _ h=>h s W w nd b hp0 nx lp ln m K h1 h2 h3 h4 hK
def l4 (hk:1<k:=by decide):tx (under aq k u):=fun x W w nd b hp0 nx lp ln m K h1 h2 h3 h4 hK=>fU (.inl hk) fun T _ h=>h x W w nd b hp0 nx lp ln m K h1 h2 h3 h4 hK
def Dx (hk:4<k:=by decide):KU (under aq k u):=aB
def Dy (hk:2<k:=by decide):KV (under aq k u):=aB
def xg (hv:v<=u):Dm (under aq 2 u) v:=fun l i hp0 hu=>G9 pg (.inr ⟨rfl,cz hu hv⟩) fun T hT=>hT l i hp0
def Dz (hk:1<k:=by decide):KW (under aq k u):=aB
def qf (hv:v<=u):Ay (under aq 4 u) v:=fun W w nd hp0 hp1 hu nx lp ln m K h1 h2 h3 h4 hK=>fU (.inr ⟨rfl,by rw[show(lk aq 1097 jT).muE=lx fun _=>0 from rfl,fW hp0.1 h1];exact cz hu hv⟩) fun T _ h=>h W w nd hp0 hp1 nx lp ln m K h1 h2 h3 h4 hK
def DA (hk:3<k:=by decide):KX (under aq k u):=aB
def tS (hk:1<k:=by decide):Hi (under aq k u):=aB
def DB (hk:1<k:=by decide):KY (under aq k u):=aB
def DC (hk:3<k:=by decide):yD (under aq k u):=fun W w nd hp0 hp1 nx lp ln m K h1 h2 h3 h4 hK=>fU (.inl hk) fun T _ h=>h W w nd hp0 hp1 nx lp ln m K h1 h2 h3 h4 hK
def DE (hk:1<k:=by decide):yE (under aq k u):=fun W w nd b hp0 nx lp ln m K h1 h2 h3 h4 hK=>fU (.inl hk) fun T _ h=>h W w nd b hp0 nx lp ln m K h1 h2 h3 h4 hK
def G1201 (hk:1<k:=by decide):aga (under aq k u):=aB
def G1208 (hk:2<k:=by decide):agb (under aq k u):=aB
end
def fB:List (Nat×Nat):=[(3,1204),(8,1208),(9,81),(10,247),(11,136),(12,238),(13,121),(14,82),(20,73),(22,1201),(23,70),(24,208),(25,495),(26,496),(27,71),(28,344),(29,345),(30,72),(31,239),(32,240),(33,241),(34,76),(35,242),(36,243),(37,244),(38,245),(39,246),(42,249),(49,219),(50,209),(51,210),(52,211),(53,212),(54,213),(55,214),(56,215),(57,124),(58,682),(59,683),(60,684),(61,685),(62,216),(63,217),(64,218),(65,572),(66,331),(67,487),(68,125),(69,222),(71,489),(72,452),(73,490),(74,491),(75,492),(77,494),(78,470),(85,482),(86,316),(87,461),(88,462),(89,440),(90,441),(91,442),(92,443),(93,349),(94,444),(95,445),(96,446),(97,447),(98,448),(99,449),(100,450),(101,451),(102,819),(110,827),(111,828),(112,453),(113,454),(114,455),(115,456),(116,457),(117,458),(118,459),(119,460),(120,744),(121,745),(126,332),(127,465),(128,466),(129,467),(130,468),(131,469),(134,563),(145,676),(146,677),(147,678),(148,554),(149,533),(150,658),(151,659),(152,660),(153,661),(154,662),(155,254),(156,663),(157,664),(158,665),(159,956),(160,957),(165,666),(166,667),(167,668),(168,669),(169,670),(170,357),(171,671),(172,672),(173,673),(174,674),(175,896),(176,897),(177,898),(178,899),(179,900),(180,901),(184,675),(188,734),(189,808),(190,809),(191,810),(192,811),(194,336),(198,812),(199,813),(200,814),(201,815),(202,816),(203,1006),(204,1007),(205,1008),(212,882),(213,946),(214,947),(215,948),(216,949),(217,950),(218,951),(223,952),(224,953),(225,954),(226,955),(227,1079),(230,1031),(232,1032),(233,1033),(234,1034),(235,1035),(236,1036),(241,1097),(242,1098),(243,1099),(244,1100),(250,1126),(253,1141)]
def qk:List Nat:=[219,1091,1354,1894,1896,1616,1320,1618,1898,2062,2066,2282,2068,2252,2194,2064,1904,900,931,937,935,445,978,1328,904,942,944,946,952,448,522,1008,1724,1726,1728,1430,486,500,1000000130]
def aw:(Go.Proofs.Tryz.prog).follows .mixedOrders=true:=c8
abbrev Ow [df](f n:Nat):Prop:=Owe Go.Proofs.Tryz.prog fB qk aq f n
abbrev Cp (f:Nat)(a:aN):Prop:=Lb Go.Proofs.Tryz.prog fB qk f a
def ck {f:Nat}{a:aN}(h:((Go.Proofs.Tryz.prog).funcs[f]?).map (fun f=>(compile Go.Proofs.Tryz.prog fB qk f,f.name== "runtime.NumGoroutine"))=some (some a,false):=by kernel_rfl):Cp f a:=h
end Go.Abs
