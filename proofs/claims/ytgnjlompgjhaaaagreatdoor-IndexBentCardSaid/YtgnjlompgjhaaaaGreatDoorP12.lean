/- A part of the proofs. -/
import Derived.Carry
import Derived.ChangeSame
import Derived.Ground.Names2Prog
import Derived.Ground.SlgnProg
import Derived.KernelRfl
import Derived.Shelf.LaysM
import Derived.Shelf.Slices.Clone
import Derived.Shelf.Slices.SearchI
import Derived.Shelf.Slices.Turned
import Derived.Shelf.SlicesE.Clone
import Derived.Shelf.Small.Strs
import Derived.Shelf.Small.Utf8
import Derived.Shelf.Small.Wraps
import Derived.Shelf.Strconv.Itoa0
import Derived.Shelf.Strconv.Itoa1
import Derived.Shelf.Strconv.Itoa2
import Derived.Shelf.Strconv.Itoa3
import Derived.Shelf.Strings.AsciiSet
import Derived.Shelf.Strings.Builder1
import Derived.Shelf.Strings.Builder2
import Derived.Shelf.Strings.Builder2Cap
import Derived.Shelf.Strings.BuilderF
import Derived.Shelf.Strings.BuilderK
import Derived.Shelf.Strings.Count
import Derived.Shelf.Strings.Cut
import Derived.Shelf.Strings.Explode
import Derived.Shelf.Strings.OnBuilder
import Derived.Shelf.Strings.Prefix
import Derived.Shelf.Strings.RuneCount
import Derived.Shelf.Strings.Runes
import Derived.Shelf.Strings.Search1
import Derived.Shelf.Strings.Search2
import Derived.Shelf.Strings.Search3
import Derived.Shelf.Strings.Shaped
import Derived.Shelf.Strings.Split
import Derived.Shelf.Strings.SplitShaped
import Derived.Shelf.Strings.Trim
import Derived.Shelf.Unicode.Decode
import Derived.Shelf.Unicode.DecodeAny
import Derived.Shelf.Unicode.DecodeLast
import Derived.Shelf.Unicode.DecodeSlow
import Derived.Shelf.Utf8.RuneCount
import Derived.Test.YtgnjlompgjhaaaaGreatDoorProg
import Derived.Test.YtgnjlompgjhaaaaGreatDoorP11
set_option linter.all false
set_option maxRecDepth 60000
namespace Go.Abs
section
def Yi:List D->Nat
 |_::.int _ (.ofNat 4)::_=>3
 |_=>1
def A124 (T:RT):Prop:=Ma T/\Iw T
def ZF (T:FT):Prop:=∀(r:Ld),(r.sm)->T (Ld.D r) [] (.tup [Rec.D (gk r.rest).1,.bool (oH r.rest).isSome]) (Ld.D (r.to (gk r.rest).2))
def D222:zR (po ZF):=Uy
def ZG (T:FT):Prop:=∀(r:Ld) (w:au) (n:Nat) (op:Bool),(r.sm)->(n<=1000)->(op=true->1<=n)->T (Ld.D r) [.str w,.int .i64 (n:Nat),.bool op] (.tup [Cj (ch w n op r.rest),.bool (ch w n op r.rest).isSome]) (Ld.D (r.after (ch w n op r.rest)))
def D465:zR (po ZG):=Uy
def ZH (T:FT):Prop:=∀(r:Ld),(r.sm)->T (Ld.D r) [] (bp.D (eQ r.rest).1) (Ld.D (r.to (eQ r.rest).2))
def D467:zR (po ZH):=Uy
def ZI (T:FT):Prop:=∀(r:Ld),(r.sm)->T (Ld.D r) [] (.str (cy r.rest).1) (Ld.D (r.to (cy r.rest).2))
def D468:zR (po ZI):=Uy
def u811:List D->Nat:=fun ds=>2*(match ds.getD 1 .any with| .int _ i=>i.toNat|_=>0)
def u951:List D->Nat:=fun ds=>2*(match ds.getD 1 .any with| .int _ i=>i.toNat|_=>0)+1
def u1036:List D->Nat:=fun ds=>2*(match ds.getD 1 .any with| .int _ i=>i.toNat|_=>0)
def D1197:Det (EJ Iu):=I2
def aY:List (Nat×qO):=[(70,rP 14 FB),(71,rP 14 FB),(72,rP 15 FC),(73,rP 15 FC),(74,rP 16 FD),(75,rP 16 FD),(76,rP 15 FE),(77,rP 15 FE),(78,rP 4 TU),(79,rP 10 TV),(85,rP 19 TW),(86,rP 18 FF),(87,rP 18 FF),(88,rP 6 TX),(124,rP 1 A124),(208,rP 1 za),(209,rP 4 zb),(210,rP 13 zc),(211,rP 11 Mb),(212,rP 6 zd),(213,rP 3 zp),(214,rP 3 Mc),(215,rP 6 ze),(216,rP 2 za),(217,rP 4 zb),(218,rP 13 Md),(219,rP 6 ze),(220,rP 2 zf),(221,rP 2 zf),(222,rF 7 ZF),(223,rP 2 Me),(224,rG 7 W4),(225,rP 3 Mf),(226,rP 1 Mg),(227,rP 2 Mh),(228,rP 2 Mi),(229,rP 9 Mj),(230,rP 7 Mk),(231,rP 3 Ml),(232,rP 2 Mm),(239,rP 2 Mn),(242,rP 1 Mo),(244,rP 1 Mp),(245,rP 1 Mq),(246,rP 2 Mr),(249,rP 1 Ms),(251,rP 18 zg),(252,rP 3 Mt),(253,rP 2 Mu),(254,rP 1 Mv),(255,rP 3 Mw),(256,rP 3 Mx),(257,rP 17 My),(258,rP 3 Mz),(259,rP 3 MA),(260,rP 2 MB),(261,rG 17 Xa),(262,rP 2 MC),(263,rP 5 MD),(295,rP 5 zh),(313,rP 1 zr),(316,rP 5 zo),(331,rP 1 ME),(336,rP 1 ta),(349,rP 1 zi),(353,rP 17 zj),(357,rP 2 zi),(358,rP 17 zj),(424,rP 5 zh),(440,rP 1 zk),(441,rP 3 MF),(442,rP 2 MG),(443,rP 12 zl),(444,rP 10 zA),(445,rP 5 zm),(446,rP 5 zn),(447,rP 1 zM),(448,rP 2 zF),(449,rP 2 zN),(450,rG 2 Xf),(451,rP 5 zo),(452,rG 1 T5),(453,rP 1 MH),(454,rP 1 MI),(455,rP 1 zk),(456,rP 3 MJ),(457,rP 12 zc),(458,rP 11 MK),(459,rP 5 zp),(460,rP 4 ML),(461,rP 2 MM),(462,rP 1 MN),(463,rP 1 MO),(464,rP 1 MP),(465,rFG 3 ZG KA),(466,rP 6 zq),(467,rF 5 ZH),(468,rF 4 ZI),(469,rP 1 MQ),(470,rP 1 zy),(471,rG 6 Xj),(472,rG 3 Xk),(473,rG 3 Xl),(474,rP 1 MR),(475,rP 2 MS),(476,rG 2 Xn),(477,rP 2 MT),(478,rP 1 MU),(479,rP 1 MV),(480,rP 8 MW),(481,rP 2 MX),(482,rP 6 zO),(483,rP 1 MY),(487,rP 1 MZ),(489,rG 1 Uc),(494,rP 1 M0),(495,rP 9 zJ),(496,rP 8 zK),(497,rP 2 zr),(499,rP 1 zt),(500,rP 2 zt),(501,rP 6 zI),(504,rG 18 Xr),(511,rP 9 zu),(516,rP 2 zw),(530,rP 1 M1),(531,rP 1 M3),(532,rP 2 zx),(533,rP 1 zy),(534,rP 3 zz),(554,rP 3 M4),(568,rP 5 zq),(572,rP 10 zA),(580,rP 7 zu),(630,rP 1 zx),(631,rP 4 M5),(658,rP 1 zB),(659,rP 1 zC),(660,rG 4 Xw (EM fun _=>4)),(661,rP 4 zD),(662,rP 3 zE),(663,rP 1 zQ),(664,rG 1 Xz),(665,rP 2 ta),(666,rP 1 M6),(667,rP 2 zB),(668,rP 1 zC),(669,rP 11 zl),(670,rP 7 zd),(671,rP 4 M7),(672,rP 3 zF),(673,rP 1 M8),(674,rP 1 M9),(675,rP 1 Na),(676,rP 5 zG),(677,rG 3 XF),(678,rP 1 zH),(682,rP 8 Nb),(683,rP 1 Nc),(684,rP 7 Nf),(685,rP 8 zP),(686,rP 1 Ng),(688,rP 1 Nh),(699,rP 8 Ni),(700,rP 7 Nj),(701,rP 6 zI),(704,rP 1 Nk),(714,rP 1 Nl),(734,rP 2 ta),(741,rP 1 Nn),(742,rP 3 Np),(744,rP 8 zJ),(745,rP 9 zK),(783,rP 3 zz),(808,rG 4 C808 (EM Yi)),(809,rG 4 C809 (EM fun _=>2)),(810,rP 2 Nq),(811,rP 2 zL u811),(812,rP 3 Nr),(813,rP 6 zm),(814,rP 6 zn),(815,rP 1 zM),(816,rP 2 zN),(819,rP 7 Ns),(827,rP 5 zG),(828,rP 6 zO),(882,rP 1 Nt),(896,rP 1 Nu),(897,rP 7 Nv),(898,rP 1 Nw),(899,rP 6 Nx),(900,rP 7 Ny),(901,rP 8 zP),(927,rP 1 zw),(946,rP 1 Nz),(947,rG 2 NI),(948,rG 1 Qq),(949,rG 4 C949 (EM fun _=>0)),(950,rP 1 NA),(951,rP 2 V5 u951),(952,rG 4 XN (EM fun _=>2)),(953,rP 5 zD),(954,rP 3 zE),(955,rP 1 zQ),(956,rP 1 vK),(957,rP 1 zH),(1006,rP 2 Im),(1007,rP 1 Io),(1008,rP 3 Ip),(1031,rG 3 Qf),(1032,rG 4 ZK (EM fun _=>1)),(1033,rG 1 FM),(1034,rG 1 Cu),(1035,rP 4 Iq),(1036,rP 2 zL u1036),(1079,rP 1 vK),(1097,rG 4 ZL (EM fun _=>0)),(1098,rP 3 Ir),(1099,rP 1 Is),(1100,rP 1 It),(1126,rG 3 Qj),(1141,rG 1 Qk),(1197,rP 20 Iu),(1202,rP 18 zg),(1203,rP 19 Iv)]
variable {k u v:Nat}
def G70 (hk:14<k:=by decide):C70 (under aY k u):=bA
def G71 (hk:14<k:=by decide):C71 (under aY k u):=bA
def G72 (hk:15<k:=by decide):C72 (under aY k u):=bA
def G73 (hk:15<k:=by decide):C73 (under aY k u):=bA
def G74 (hk:16<k:=by decide):C74 (under aY k u):=bA
def G75 (hk:16<k:=by decide):C75 (under aY k u):=bA
def G76 (hk:15<k:=by decide):C76 (under aY k u):=bA
def G77 (hk:15<k:=by decide):C77 (under aY k u):=bA
def G78 (hk:4<k:=by decide):C78 (under aY k u):=bA
def G79 (hk:10<k:=by decide):C79 (under aY k u):=bA
def G85 (hk:19<k:=by decide):C85 (under aY k u):=bA
def G86 (hk:18<k:=by decide):C86 (under aY k u):=bA
def G9086 (hk:18<k:=by decide):Wh (under aY k u):=fun s h1 _=>G86 hk s h1
def G87 (hk:18<k:=by decide):C87 (under aY k u):=bA
def G88 (hk:6<k:=by decide):C88 (under aY k u):=bA
def Qu (hk:1<k:=by decide):NC (under aY k u):=fun s b hp=>ZE I2 (.inl hk) fun T h=>h.1 s b hp
def G9124 (hk:1<k:=by decide):Wi (under aY k u):=fun s hp=>ZE I2 (.inl hk) fun T h=>h.2 s hp
def Qv (hk:1<k:=by decide):ND (under aY k u):=bA
def NK (hk:4<k:=by decide):IE (under aY k u):=bA
def G210 (hk:13<k:=by decide):ZM (under aY k u):=bA
def G211 (hk:11<k:=by decide):WZ (under aY k u):=bA
def G212 (hk:6<k:=by decide):W0 (under aY k u):=bA
def G213 (hk:3<k:=by decide):ZN (under aY k u):=bA
def G214 (hk:3<k:=by decide):ZO (under aY k u):=bA
def G215 (hk:6<k:=by decide):W1 (under aY k u):=bA
def NL (hk:2<k:=by decide):IF (under aY k u):=bA
def NM (hk:4<k:=by decide):IG (under aY k u):=bA
def G218 (hk:13<k:=by decide):ZP (under aY k u):=bA
def G219 (hk:6<k:=by decide):W2 (under aY k u):=bA
def G220 (hk:2<k:=by decide):ZQ (under aY k u):=bA
def G221 (hk:2<k:=by decide):ZR (under aY k u):=bA
def G222 (hk:7<k:=by decide):ZS (under aY k u):=fun r hp0=>okf D222 hk fun T h=>h r hp0
def G223 (hk:2<k:=by decide):W3 (under aY k u):=bA
def G224 (hk:7<k:=by decide):W4 (under aY k u):=fun x t hp0 hp1 hp2 nx j0 j1 j2 j3 j4 m K h1 h2 h3 hK=>uH (.inl hk) fun T _ h=>h x t hp0 hp1 hp2 nx j0 j1 j2 j3 j4 m K h1 h2 h3 hK
def G225 (hk:3<k:=by decide):ZT (under aY k u):=bA
def G226 (hk:1<k:=by decide):W5 (under aY k u):=bA
def G227 (hk:2<k:=by decide):W6 (under aY k u):=bA
def NN (hk:2<k:=by decide):IH (under aY k u):=bA
def G229 (hk:9<k:=by decide):ZU (under aY k u):=bA
def G230 (hk:7<k:=by decide):W7 (under aY k u):=bA
def G231 (hk:3<k:=by decide):W8 (under aY k u):=bA
def G232 (hk:2<k:=by decide):ZV (under aY k u):=bA
def G239 (hk:2<k:=by decide):ZW (under aY k u):=bA
def Uh (hk:1<k:=by decide):Ql (under aY k u):=bA
def G244 (hk:1<k:=by decide):ZX (under aY k u):=bA
def G245 (hk:1<k:=by decide):ZY (under aY k u):=bA
def G246 (hk:2<k:=by decide):ZZ (under aY k u):=bA
def Qw (hk:1<k:=by decide):NF (under aY k u):=bA
def G251 (hk:18<k:=by decide):Z0 (under aY k u):=bA
def G252 (hk:3<k:=by decide):Z1 (under aY k u):=bA
def XT (hk:2<k:=by decide):T4 (under aY k u):=bA
def G254 (hk:1<k:=by decide):W9 (under aY k u):=bA
def G255 (hk:3<k:=by decide):Z2 (under aY k u):=bA
def G256 (hk:3<k:=by decide):Z3 (under aY k u):=bA
def G257 (hk:17<k:=by decide):Z4 (under aY k u):=bA
def G258 (hk:3<k:=by decide):Z5 (under aY k u):=bA
def G259 (hk:3<k:=by decide):Z6 (under aY k u):=bA
def G260 (hk:2<k:=by decide):Z7 (under aY k u):=bA
def G261 (hk:17<k:=by decide):Xa (under aY k u):=fun nm es y t hp0 nx lp ln m K h1 h2 h3 h4 hK1 hK2=>uH (.inl hk) fun T _ h=>h nm es y t hp0 nx lp ln m K h1 h2 h3 h4 hK1 hK2
def G262 (hk:2<k:=by decide):Z8 (under aY k u):=bA
def G263 (hk:5<k:=by decide):Z9 (under aY k u):=bA
def G295 (hk:5<k:=by decide):Xb (under aY k u):=bA
def G313 (hk:1<k:=by decide):C313 (under aY k u):=bA
def G316 (hk:5<k:=by decide):C316 (under aY k u):=bA
def G331 (hk:1<k:=by decide):C331 (under aY k u):=bA
def G336 (hk:1<k:=by decide):C336 (under aY k u):=bA
def NO (hk:1<k:=by decide):II (under aY k u):=bA
def G353 (hk:17<k:=by decide):C353 (under aY k u):=bA
def NP (hk:2<k:=by decide):IJ (under aY k u):=bA
def G358 (hk:17<k:=by decide):Xc (under aY k u):=bA
def G424 (hk:5<k:=by decide):C424 (under aY k u):=bA
def G440 (hk:1<k:=by decide):C440 (under aY k u):=bA
def G441 (hk:3<k:=by decide):C441 (under aY k u):=bA
def G442 (hk:2<k:=by decide):Xd (under aY k u):=bA
def G443 (hk:12<k:=by decide):C443 (under aY k u):=bA
def G444 (hk:10<k:=by decide):C444 (under aY k u):=bA
def G445 (hk:5<k:=by decide):C445 (under aY k u):=bA
def G446 (hk:5<k:=by decide):C446 (under aY k u):=bA
def G447 (hk:1<k:=by decide):C447 (under aY k u):=bA
def G448 (hk:2<k:=by decide):Xe (under aY k u):=bA
def G449 (hk:2<k:=by decide):C449 (under aY k u):=bA
def G450 (hk:2<k:=by decide):Xf (under aY k u):=fun ws t l lw nx m K h1 h2 h3 h4 h5 hK=>uH (.inl hk) fun T _ h=>h ws t l lw nx m K h1 h2 h3 h4 h5 hK
def G451 (hk:5<k:=by decide):Xg (under aY k u):=bA
def G452 (hk:1<k:=by decide):T5 (under aY k u):=fun ds st K h1=>uH (.inl hk) fun T _ h=>h ds st K h1
def G453 (hk:1<k:=by decide):Xh (under aY k u):=bA
def XU (hk:1<k:=by decide):T6 (under aY k u):=bA
def G455 (hk:1<k:=by decide):C455 (under aY k u):=bA
def G456 (hk:3<k:=by decide):C456 (under aY k u):=bA
def G457 (hk:12<k:=by decide):C457 (under aY k u):=bA
def G458 (hk:11<k:=by decide):C458 (under aY k u):=bA
def G459 (hk:5<k:=by decide):C459 (under aY k u):=bA
def G460 (hk:4<k:=by decide):C460 (under aY k u):=bA
def G461 (hk:2<k:=by decide):C461 (under aY k u):=bA
def G462 (hk:1<k:=by decide):C462 (under aY k u):=bA
def G463 (hk:1<k:=by decide):C463 (under aY k u):=bA
def G464 (hk:1<k:=by decide):C464 (under aY k u):=bA
def G465 (hk:3<k:=by decide):T7 (under aY k u):=fun r w n op hp0 hp1 hp2=>okf D465 hk fun T h=>h r w n op hp0 hp1 hp2
def G9465 (hk:3<k:=by decide):KA (under aY k u):=fun r w n op l nx m K h1 h2 h3 h4 hK=>uH (.inl hk) fun T _ h=>h r w n op l nx m K h1 h2 h3 h4 hK
def G466 (hk:6<k:=by decide):C466 (under aY k u):=bA
def G467 (hk:5<k:=by decide):Xi (under aY k u):=fun r hp0=>okf D467 hk fun T h=>h r hp0
def G468 (hk:4<k:=by decide):T8 (under aY k u):=fun r hp0=>okf D468 hk fun T h=>h r hp0
def G469 (hk:1<k:=by decide):C469 (under aY k u):=bA
def uJ (hk:1<k:=by decide):tz (under aY k u):=bA
def G471 (hk:6<k:=by decide):Xj (under aY k u):=fun x l hp0 nx j0 j1 j2 j3 j4 m K h1 h2 h3 hK=>uH (.inl hk) fun T _ h=>h x l hp0 nx j0 j1 j2 j3 j4 m K h1 h2 h3 hK
def G472 (hk:3<k:=by decide):Xk (under aY k u):=fun x t hp0 hp1 hp2 hp3 nx j0 j1 j2 j3 j4 m K h1 h2 h3 hK=>uH (.inl hk) fun T _ h=>h x t hp0 hp1 hp2 hp3 nx j0 j1 j2 j3 j4 m K h1 h2 h3 hK
def G473 (hk:3<k:=by decide):Xl (under aY k u):=fun x t hp0 hp1 hp2 hp3 hp4 nx j0 j1 j2 j3 j4 m K h1 h2 h3 hK=>uH (.inl hk) fun T _ h=>h x t hp0 hp1 hp2 hp3 hp4 nx j0 j1 j2 j3 j4 m K h1 h2 h3 hK
def G474 (hk:1<k:=by decide):Xm (under aY k u):=bA
def XV (hk:2<k:=by decide):T9 (under aY k u):=bA
def G476 (hk:2<k:=by decide):Xn (under aY k u):=fun x l hp0 hp1 nx j0 j1 j2 j3 j4 m K h1 h2 h3 hK=>uH (.inl hk) fun T _ h=>h x l hp0 hp1 nx j0 j1 j2 j3 j4 m K h1 h2 h3 hK
def G477 (hk:2<k:=by decide):C477 (under aY k u):=bA
def Qx (hk:1<k:=by decide):NG (under aY k u):=bA
def XW (hk:1<k:=by decide):Ua (under aY k u):=bA
def G480 (hk:8<k:=by decide):C480 (under aY k u):=bA
def G481 (hk:2<k:=by decide):Xo (under aY k u):=bA
def XX (hk:6<k:=by decide):Ub (under aY k u):=bA
def G483 (hk:1<k:=by decide):C483 (under aY k u):=bA
def G487 (hk:1<k:=by decide):Xp (under aY k u):=bA
def G489 (hk:1<k:=by decide):Uc (under aY k u):=fun ds st K h1=>uH (.inl hk) fun T _ h=>h ds st K h1
def G494 (hk:1<k:=by decide):C494 (under aY k u):=bA
def G495 (hk:9<k:=by decide):C495 (under aY k u):=bA
def G496 (hk:8<k:=by decide):C496 (under aY k u):=bA
def G497 (hk:2<k:=by decide):C497 (under aY k u):=bA
def G499 (hk:1<k:=by decide):C499 (under aY k u):=bA
def G500 (hk:2<k:=by decide):C500 (under aY k u):=bA
def G501 (hk:6<k:=by decide):Xq (under aY k u):=bA
def G504 (hk:18<k:=by decide):Xr (under aY k u):=fun s r hp0 nx m K hK1 hK2=>uH (.inl hk) fun T _ h=>h s r hp0 nx m K hK1 hK2
def G511 (hk:9<k:=by decide):C511 (under aY k u):=bA
def G516 (hk:2<k:=by decide):C516 (under aY k u):=bA
def G530 (hk:1<k:=by decide):C530 (under aY k u):=bA
def G531 (hk:1<k:=by decide):C531 (under aY k u):=bA
def G532 (hk:2<k:=by decide):Xs (under aY k u):=bA
def Qy (hk:1<k:=by decide):NH (under aY k u):=bA
def G534 (hk:3<k:=by decide):C534 (under aY k u):=bA
def G554 (hk:3<k:=by decide):C554 (under aY k u):=bA
def G568 (hk:5<k:=by decide):C568 (under aY k u):=bA
def G572 (hk:10<k:=by decide):Xt (under aY k u):=bA
def G580 (hk:7<k:=by decide):Xu (under aY k u):=bA
def XY (hk:1<k:=by decide):Ud (under aY k u):=bA
def G631 (hk:4<k:=by decide):C631 (under aY k u):=bA
def Ui (hk:1<k:=by decide):Qm (under aY k u):=bA
def G659 (hk:1<k:=by decide):Xv (under aY k u):=bA
def G660 (hk:4<k:=by decide):Xw (under aY k u):=fun w nd hp0 nx lp ln m K h1 h2 h3 h4 hK=>uH (.inl hk) fun T _ h=>h w nd hp0 nx lp ln m K h1 h2 h3 h4 hK
def G660u (hv:v<=u):Wg (under aY 4 u) v:=fun w nd hp0 hu nx lp ln m K h1 h2 h3 h4 hK=>uH (.inr ⟨rfl,by rw[show(lk aY 660 nv).muE=EM fun _=>4 from rfl,oe h1];exact fm hu hv⟩) fun T _ h=>h w nd hp0 nx lp ln m K h1 h2 h3 h4 hK
def G661 (hk:4<k:=by decide):Xx (under aY k u):=bA
def G662 (hk:3<k:=by decide):Xy (under aY k u):=bA
def G663 (hk:1<k:=by decide):C663 (under aY k u):=bA
def G664 (hk:1<k:=by decide):Xz (under aY k u):=fun ds st K h1=>uH (.inl hk) fun T _ h=>h ds st K h1
def G665 (hk:2<k:=by decide):XA (under aY k u):=bA
def G666 (hk:1<k:=by decide):C666 (under aY k u):=bA
def Uj (hk:2<k:=by decide):Qn (under aY k u):=bA
def G668 (hk:1<k:=by decide):XB (under aY k u):=bA
def G669 (hk:11<k:=by decide):C669 (under aY k u):=bA
def G670 (hk:7<k:=by decide):XC (under aY k u):=bA
def G671 (hk:4<k:=by decide):C671 (under aY k u):=bA
def G672 (hk:3<k:=by decide):XD (under aY k u):=bA
def G673 (hk:1<k:=by decide):C673 (under aY k u):=bA
def G674 (hk:1<k:=by decide):C674 (under aY k u):=bA
def G675 (hk:1<k:=by decide):C675 (under aY k u):=bA
def G676 (hk:5<k:=by decide):XE (under aY k u):=bA
def G677 (hk:3<k:=by decide):XF (under aY k u):=fun c hp0 nx m K hK=>uH (.inl hk) fun T _ h=>h c hp0 nx m K hK
def G678 (hk:1<k:=by decide):XG (under aY k u):=bA
def G682 (hk:8<k:=by decide):C682 (under aY k u):=bA
def G683 (hk:1<k:=by decide):C683 (under aY k u):=bA
def XZ (hk:7<k:=by decide):Ue (under aY k u):=bA
def G685 (hk:8<k:=by decide):C685 (under aY k u):=bA
def G686 (hk:1<k:=by decide):C686 (under aY k u):=bA
def G688 (hk:1<k:=by decide):C688 (under aY k u):=bA
def G699 (hk:8<k:=by decide):C699 (under aY k u):=bA
def G700 (hk:7<k:=by decide):C700 (under aY k u):=bA
def G701 (hk:6<k:=by decide):C701 (under aY k u):=bA
def G704 (hk:1<k:=by decide):C704 (under aY k u):=bA
def G714 (hk:1<k:=by decide):C714 (under aY k u):=bA
def G734 (hk:2<k:=by decide):XH (under aY k u):=bA
def G741 (hk:1<k:=by decide):C741 (under aY k u):=bA
def G742 (hk:3<k:=by decide):C742 (under aY k u):=bA
def G744 (hk:8<k:=by decide):C744 (under aY k u):=bA
def G745 (hk:9<k:=by decide):C745 (under aY k u):=bA
def G783 (hk:3<k:=by decide):C783 (under aY k u):=bA
def Wn (hv:v<=u):Qo (under aY 4 u) v:=⟨fun w nd hp0 hu nx lp ln m K h1 h2 h3 h4 hK=>uH (.inr ⟨rfl,by rw[show(lk aY 808 nv).muE=EM Yi from rfl,oe h1];exact fm hu hv⟩) fun T _ h=>h.1 w nd hp0 nx lp ln m K h1 h2 h3 h4 hK,fun w nd hp0 hu nx lp ln m K h1 h2 h3 h4 hK=>uH (.inr ⟨rfl,by rw[show(lk aY 808 nv).muE=EM Yi from rfl,oe h1];exact fm hu hv⟩) fun T _ h=>h.2 w nd hp0 nx lp ln m K h1 h2 h3 h4 hK⟩
def G809u (hv:v<=u):C809u (under aY 4 u) v:=fun w nd hp0 hu nx lp ln m K h1 h2 h3 h4 hK=>uH (.inr ⟨rfl,by rw[show(lk aY 809 nv).muE=EM fun _=>2 from rfl,oe h1];exact fm hu hv⟩) fun T _ h=>h w nd hp0 nx lp ln m K h1 h2 h3 h4 hK
def G810 (hk:2<k:=by decide):C810 (under aY k u):=bA
def G811 (hk:2<k:=by decide):C811 (under aY k u):=bA
def Wo (hv:v<=u):Qp (under aY 2 u) v:=fun l i hp0 hu=>ZE I2 (.inr ⟨rfl,fm hu hv⟩) fun T hT=>hT l i hp0
def G812 (hk:3<k:=by decide):C812 (under aY k u):=bA
def G813 (hk:6<k:=by decide):C813 (under aY k u):=bA
def G814 (hk:6<k:=by decide):C814 (under aY k u):=bA
def G815 (hk:1<k:=by decide):XI (under aY k u):=bA
def G816 (hk:2<k:=by decide):C816 (under aY k u):=bA
def G819 (hk:7<k:=by decide):C819 (under aY k u):=bA
def X0 (hk:5<k:=by decide):Uf (under aY k u):=bA
def G828 (hk:6<k:=by decide):XJ (under aY k u):=bA
def G882 (hk:1<k:=by decide):C882 (under aY k u):=bA
def G896 (hk:1<k:=by decide):C896 (under aY k u):=bA
def G897 (hk:7<k:=by decide):C897 (under aY k u):=bA
def G898 (hk:1<k:=by decide):C898 (under aY k u):=bA
def G899 (hk:6<k:=by decide):XK (under aY k u):=bA
def X1 (hk:7<k:=by decide):Ug (under aY k u):=bA
def G901 (hk:8<k:=by decide):C901 (under aY k u):=bA
def G927 (hk:1<k:=by decide):C927 (under aY k u):=bA
def X2 (hk:1<k:=by decide):XL (under aY k u):=bA
def Uk (hk:2<k:=by decide):NI (under aY k u):=fun w nd b nx lp ln m K h1 h2 h3 h4 hK=>uH (.inl hk) fun T _ h=>h w nd b nx lp ln m K h1 h2 h3 h4 hK
def Ul (hk:1<k:=by decide):Qq (under aY k u):=fun x w nd b hp0 nx lp ln m K h1 h2 h3 h4 hK=>uH (.inl hk) fun T _ h=>h x w nd b hp0 nx lp ln m K h1 h2 h3 h4 hK
def Wp (hv:v<=u):Wj (under aY 4 u) v:=fun w nd hp0 hu nx lp ln m K h1 h2 h3 h4 hK=>uH (.inr ⟨rfl,by rw[show(lk aY 949 nv).muE=EM fun _=>0 from rfl,oe h1];exact fm hu hv⟩) fun T _ h=>h w nd hp0 nx lp ln m K h1 h2 h3 h4 hK
def G950 (hk:1<k:=by decide):XM (under aY k u):=bA
def G951u (hv:v<=u):Wk (under aY 2 u) v:=fun l i b hp0 hu=>ZE I2 (.inr ⟨rfl,fm hu hv⟩) fun T hT=>hT l i b hp0
def G952 (hk:4<k:=by decide):XN (under aY k u):=fun W w nd hp0 hp1 nx lp ln m K h1 h2 h3 h4 hK=>uH (.inl hk) fun T _ h=>h W w nd hp0 hp1 nx lp ln m K h1 h2 h3 h4 hK
def G952u (hv:v<=u):Wl (under aY 4 u) v:=fun W w nd hp0 hp1 hu nx lp ln m K h1 h2 h3 h4 hK=>uH (.inr ⟨rfl,by rw[show(lk aY 952 nv).muE=EM fun _=>2 from rfl,uf hp0.1 h1];exact fm hu hv⟩) fun T _ h=>h W w nd hp0 hp1 nx lp ln m K h1 h2 h3 h4 hK
def G953 (hk:5<k:=by decide):XO (under aY k u):=bA
def G954 (hk:3<k:=by decide):XP (under aY k u):=bA
def G955 (hk:1<k:=by decide):C955 (under aY k u):=bA
def G956 (hk:1<k:=by decide):C956 (under aY k u):=bA
def G957 (hk:1<k:=by decide):XQ (under aY k u):=bA
def G1006 (hk:2<k:=by decide):V6 (under aY k u):=bA
def G1007 (hk:1<k:=by decide):V7 (under aY k u):=bA
def G1008 (hk:3<k:=by decide):V8 (under aY k u):=bA
def G1031 (hk:3<k:=by decide):Qf (under aY k u):=fun k w nd b hp0 nx lp ln m K h1 h2 h3 h4 hK=>uH (.inl hk) fun T _ h=>h k w nd b hp0 nx lp ln m K h1 h2 h3 h4 hK
def XR (hv:v<=u):Qg (under aY 4 u) v:=fun W w nd hp0 hp1 hu nx lp ln m K h1 h2 h3 h4 hK=>uH (.inr ⟨rfl,by rw[show(lk aY 1032 nv).muE=EM fun _=>1 from rfl,uf hp0.1 h1];exact fm hu hv⟩) fun T _ h=>h W w nd hp0 hp1 nx lp ln m K h1 h2 h3 h4 hK
def Qs (hk:1<k:=by decide):FM (under aY k u):=fun s W w nd b hp0 nx lp ln m K h1 h2 h3 h4 hK=>uH (.inl hk) fun T _ h=>h s W w nd b hp0 nx lp ln m K h1 h2 h3 h4 hK
def KC (hk:1<k:=by decide):Cu (under aY k u):=fun x W w nd b hp0 nx lp ln m K h1 h2 h3 h4 hK=>uH (.inl hk) fun T _ h=>h x W w nd b hp0 nx lp ln m K h1 h2 h3 h4 hK
def G1035 (hk:4<k:=by decide):V9 (under aY k u):=bA
def G1036 (hk:2<k:=by decide):Wa (under aY k u):=bA
def XS (hv:v<=u):Qh (under aY 2 u) v:=fun l i hp0 hu=>ZE I2 (.inr ⟨rfl,fm hu hv⟩) fun T hT=>hT l i hp0
def G1079 (hk:1<k:=by decide):Wb (under aY k u):=bA
def Qt (hv:v<=u):ID (under aY 4 u) v:=fun W w nd hp0 hp1 hu nx lp ln m K h1 h2 h3 h4 hK=>uH (.inr ⟨rfl,by rw[show(lk aY 1097 nv).muE=EM fun _=>0 from rfl,uf hp0.1 h1];exact fm hu hv⟩) fun T _ h=>h W w nd hp0 hp1 nx lp ln m K h1 h2 h3 h4 hK
def G1098 (hk:3<k:=by decide):Wc (under aY k u):=bA
def Wm (hk:1<k:=by decide):Qi (under aY k u):=bA
def G1100 (hk:1<k:=by decide):Wd (under aY k u):=bA
def G1126 (hk:3<k:=by decide):Qj (under aY k u):=fun W w nd hp0 hp1 nx lp ln m K h1 h2 h3 h4 hK=>uH (.inl hk) fun T _ h=>h W w nd hp0 hp1 nx lp ln m K h1 h2 h3 h4 hK
def G1141 (hk:1<k:=by decide):Qk (under aY k u):=fun W w nd b hp0 nx lp ln m K h1 h2 h3 h4 hK=>uH (.inl hk) fun T _ h=>h W w nd b hp0 nx lp ln m K h1 h2 h3 h4 hK
def G1202 (hk:18<k:=by decide):We (under aY k u):=bA
def G1203 (hk:19<k:=by decide):Wf (under aY k u):=bA
end
def bj:(Go.Proofs.Tryz.prog).follows .mixedOrders=true:=oE
abbrev Ow [dR](f n:Nat):Prop:=Zx Go.Proofs.Tryz.prog xK N9 aY f n
abbrev Cp (f:Nat)(a:aC):Prop:=KB Go.Proofs.Tryz.prog xK N9 f a
def ck {f:Nat}{a:aC}(h:((Go.Proofs.Tryz.prog).funcs[f]?).map (fun f=>(compile Go.Proofs.Tryz.prog xK N9 f,f.name== "runtime.NumGoroutine"))=some (some a,false):=by kernel_rfl):Cp f a:=h
end Go.Abs
section
namespace Go.Proofs
open Go.Shelf
def Tryz.Ut:Go.Shelf.Ren:=⟨fun|166=>21|167=>144|169=>24|240=>55|276=>93|n=>n,fun|70=>58|9=>9|0=>0|72=>60|37=>39|3=>3|5=>5|4=>4|20=>20|75=>62|80=>67|164=>146|127=>104|n=>n,fun|n=>n⟩
def Tryz.KK:Go.Proofs.Lays.n166 Tryz.prog Tryz.Ut:={
 mixed:=by kernel_rfl
 f166:=Tryz.func21.trans (congrArg some (by kernel_rfl))
 f240:=Tryz.func55.trans (congrArg some (by kernel_rfl))
 f276:=Tryz.func93.trans (congrArg some (by kernel_rfl))
 t0:=Tryz.underlying0
 a0:=Tryz.isAgg0
 z0:=Tryz.sizeOf0
 v0:=Tryz.zeroValue0
 t3:=Tryz.underlying3
 a3:=Tryz.isAgg3
 z3:=Tryz.sizeOf3
 v3:=Tryz.zeroValue3
 t4:=Tryz.underlying4
 a4:=Tryz.isAgg4
 z4:=Tryz.sizeOf4
 v4:=Tryz.zeroValue4
 t9:=Tryz.underlying9
 a9:=Tryz.isAgg9
 z9:=Tryz.sizeOf9
 v9:=Tryz.zeroValue9
 t20:=Tryz.underlying20
 a20:=Tryz.isAgg20
 z20:=Tryz.sizeOf20
 v20:=Tryz.zeroValue20
 t37:=Tryz.underlying39
 a37:=Tryz.isAgg39
 z37:=Tryz.sizeOf39
 v37:=Tryz.zeroValue39
 t70:=Tryz.underlying58
 a70:=Tryz.isAgg58
 z70:=Tryz.sizeOf58
 v70:=Tryz.zeroValue58
 t72:=Tryz.underlying60
 a72:=Tryz.isAgg60
 z72:=Tryz.sizeOf60
 v72:=Tryz.zeroValue60
 t75:=Tryz.underlying62
 a75:=Tryz.isAgg62
 z75:=Tryz.sizeOf62
 v75:=Tryz.zeroValue62
 t164:=Tryz.underlying146
 a164:=Tryz.isAgg146
 z164:=Tryz.sizeOf146
 v164:=Tryz.zeroValue146}
def Tryz.KL:Go.Proofs.Lays.n167 Tryz.prog Tryz.Ut:={
 mixed:=by kernel_rfl
 f167:=Tryz.func144.trans (congrArg some (by kernel_rfl))
 f240:=Tryz.func55.trans (congrArg some (by kernel_rfl))
 f276:=Tryz.func93.trans (congrArg some (by kernel_rfl))
 t0:=Tryz.underlying0
 a0:=Tryz.isAgg0
 z0:=Tryz.sizeOf0
 v0:=Tryz.zeroValue0
 t4:=Tryz.underlying4
 a4:=Tryz.isAgg4
 z4:=Tryz.sizeOf4
 v4:=Tryz.zeroValue4
 t5:=Tryz.underlying5
 a5:=Tryz.isAgg5
 z5:=Tryz.sizeOf5
 v5:=Tryz.zeroValue5
 t9:=Tryz.underlying9
 a9:=Tryz.isAgg9
 z9:=Tryz.sizeOf9
 v9:=Tryz.zeroValue9
 t20:=Tryz.underlying20
 a20:=Tryz.isAgg20
 z20:=Tryz.sizeOf20
 v20:=Tryz.zeroValue20
 t37:=Tryz.underlying39
 a37:=Tryz.isAgg39
 z37:=Tryz.sizeOf39
 v37:=Tryz.zeroValue39
 t70:=Tryz.underlying58
 a70:=Tryz.isAgg58
 z70:=Tryz.sizeOf58
 v70:=Tryz.zeroValue58
 t72:=Tryz.underlying60
 a72:=Tryz.isAgg60
 z72:=Tryz.sizeOf60
 v72:=Tryz.zeroValue60
 t75:=Tryz.underlying62
 a75:=Tryz.isAgg62
 z75:=Tryz.sizeOf62
 v75:=Tryz.zeroValue62
 t164:=Tryz.underlying146
 a164:=Tryz.isAgg146
 z164:=Tryz.sizeOf146
 v164:=Tryz.zeroValue146}
def Tryz.KM:Go.Proofs.Lays.n169 Tryz.prog Tryz.Ut:={
 mixed:=by kernel_rfl
 f169:=Tryz.func24.trans (congrArg some (by kernel_rfl))
 t0:=Tryz.underlying0
 a0:=Tryz.isAgg0
 z0:=Tryz.sizeOf0
 v0:=Tryz.zeroValue0
 t3:=Tryz.underlying3
 a3:=Tryz.isAgg3
 z3:=Tryz.sizeOf3
 v3:=Tryz.zeroValue3
 t9:=Tryz.underlying9
 a9:=Tryz.isAgg9
 z9:=Tryz.sizeOf9
 v9:=Tryz.zeroValue9
 t37:=Tryz.underlying39
 a37:=Tryz.isAgg39
 z37:=Tryz.sizeOf39
 v37:=Tryz.zeroValue39
 t70:=Tryz.underlying58
 a70:=Tryz.isAgg58
 z70:=Tryz.sizeOf58
 v70:=Tryz.zeroValue58
 t72:=Tryz.underlying60
 a72:=Tryz.isAgg60
 z72:=Tryz.sizeOf60
 v72:=Tryz.zeroValue60
 t127:=Tryz.underlying104
 a127:=Tryz.isAgg104
 z127:=Tryz.sizeOf104
 v127:=Tryz.zeroValue104}
def Tryz.Yh:Builder.Extra Tryz.prog Tryz.Ut:={
 sizeBuilder:=by kernel_rfl
 liesBuilder:=by kernel_rfl
 t5:=Tryz.underlying5
 a5:=Tryz.isAgg5
 z5:=Tryz.sizeOf5
 v5:=Tryz.zeroValue5
 infoByte:=by kernel_rfl
 cellsByte:=by kernel_rfl
 sizeByte:=by kernel_rfl
 neB5:=by decide}
end Go.Proofs
end
section
namespace Go.Proofs
open Go.Shelf
def Tryz.lays156_ren:Go.Shelf.Ren:=⟨fun|156=>35|165=>71|166=>21|169=>24|240=>55|241=>118|276=>93|277=>163|n=>n,fun|31=>68|9=>9|3=>3|4=>4|0=>0|20=>20|72=>60|76=>63|70=>58|37=>39|75=>62|127=>104|164=>146|5=>5|80=>67|n=>n,fun|n=>n⟩
def Tryz.lays156:Go.Proofs.Lays.n156 Tryz.prog Tryz.lays156_ren:={
 mixed:=by kernel_rfl
 f156:=cO Tryz.func35
 f165:=cO Tryz.func71
 f166:=cO Tryz.func21
 f169:=cO Tryz.func24
 f240:=cO Tryz.func55
 f241:=cO Tryz.func118
 f276:=cO Tryz.func93
 f277:=cO Tryz.func163
 t0:=Tryz.underlying0
 a0:=Tryz.isAgg0
 z0:=Tryz.sizeOf0
 v0:=Tryz.zeroValue0
 t3:=Tryz.underlying3
 a3:=Tryz.isAgg3
 z3:=Tryz.sizeOf3
 v3:=Tryz.zeroValue3
 t4:=Tryz.underlying4
 a4:=Tryz.isAgg4
 z4:=Tryz.sizeOf4
 v4:=Tryz.zeroValue4
 t9:=Tryz.underlying9
 a9:=Tryz.isAgg9
 z9:=Tryz.sizeOf9
 v9:=Tryz.zeroValue9
 t20:=Tryz.underlying20
 a20:=Tryz.isAgg20
 z20:=Tryz.sizeOf20
 v20:=Tryz.zeroValue20
 t31:=Tryz.underlying68
 a31:=Tryz.isAgg68
 z31:=Tryz.sizeOf68
 v31:=Tryz.zeroValue68
 t37:=Tryz.underlying39
 a37:=Tryz.isAgg39
 z37:=Tryz.sizeOf39
 v37:=Tryz.zeroValue39
 t70:=Tryz.underlying58
 a70:=Tryz.isAgg58
 z70:=Tryz.sizeOf58
 v70:=Tryz.zeroValue58
 t72:=Tryz.underlying60
 a72:=Tryz.isAgg60
 z72:=Tryz.sizeOf60
 v72:=Tryz.zeroValue60
 t75:=Tryz.underlying62
 a75:=Tryz.isAgg62
 z75:=Tryz.sizeOf62
 v75:=Tryz.zeroValue62
 t76:=Tryz.underlying63
 a76:=Tryz.isAgg63
 z76:=Tryz.sizeOf63
 v76:=Tryz.zeroValue63
 t127:=Tryz.underlying104
 a127:=Tryz.isAgg104
 z127:=Tryz.sizeOf104
 v127:=Tryz.zeroValue104
 t164:=Tryz.underlying146
 a164:=Tryz.isAgg146
 z164:=Tryz.sizeOf146
 v164:=Tryz.zeroValue146}
def Tryz.Builder_Extra_156:Builder.Extra Tryz.prog Tryz.lays156_ren:={
 sizeBuilder:=by kernel_rfl
 liesBuilder:=by kernel_rfl
 t5:=Tryz.underlying5
 a5:=Tryz.isAgg5
 z5:=Tryz.sizeOf5
 v5:=Tryz.zeroValue5
 infoByte:=by kernel_rfl
 cellsByte:=by kernel_rfl
 sizeByte:=by kernel_rfl
 neB5:=by decide}
open Go.RowKit in
theorem Tryz.strings_Join_none (a:Option Addr)(c:Nat)(sep:ByteArray)(w:World):
  Calls Tryz.prog 35 #[.slice a 0 c,.string sep] w fun e w'=>e=.returned (.string ⟨#[]⟩)∧w'=w:=Any.strings_Join_none Tryz.lays156 Tryz.Builder_Extra_156 a c sep w
open Go.RowKit in
theorem Tryz.strings_Join (bk o c:Nat)(xs:List ByteArray)(sep:ByteArray)(w:World)(hcells:∀(j:Nat) x,xs[j]? =some x→w.cell? ⟨bk,o+j,none⟩=some (.string x))(hbk:bk<w.heap.size)(hN:xs.length≤140737488355328)(hcap:xs.length≤c)(hlen:(Lib.join (xs.map (·.data.toList)) sep.data.toList).length≤140737488355328):
  Calls Tryz.prog 35 #[.slice (some ⟨bk,o,none⟩) xs.length c,.string sep] w fun e w'=>e=.returned (.string ⟨(Lib.join (xs.map (·.data.toList)) sep.data.toList).toArray⟩)∧Below w.heap.size w w':=Any.strings_Join Tryz.lays156 Tryz.Builder_Extra_156 bk o c xs sep w hcells hbk hN hcap hlen
def Tryz.lays160_ren:Go.Shelf.Ren:=⟨fun|160=>208|232=>231|231=>230|227=>232|234=>234|233=>233|236=>236|235=>235|228=>258|271=>260|151=>259|197=>196|120=>275|152=>274|260=>223|137=>286|119=>287|224=>200|225=>199|217=>198|266=>224|n=>n,fun|9=>9|4=>4|3=>3|5=>5|117=>247|116=>246|0=>0|124=>250|21=>21|105=>221|46=>105|119=>260|139=>263|138=>262|n=>n,fun|3=>1|4=>2|n=>n⟩
def Tryz.lays160:Go.Proofs.Lays.n160 Tryz.prog Tryz.lays160_ren:={
 mixed:=by kernel_rfl
 f119:=cO Tryz.func287
 f120:=cO Tryz.func275
 f137:=cO Tryz.func286
 f151:=cO Tryz.func259
 f152:=cO Tryz.func274
 f160:=cO Tryz.func208
 f197:=cO Tryz.func196
 f217:=cO Tryz.func198
 f224:=cO Tryz.func200
 f225:=cO Tryz.func199
 f227:=cO Tryz.func232
 f228:=cO Tryz.func258
 f231:=cO Tryz.func230
 f232:=cO Tryz.func231
 f233:=cO Tryz.func233
 f234:=cO Tryz.func234
 f235:=cO Tryz.func235
 f236:=cO Tryz.func236
 f260:=cO Tryz.func223
 f266:=cO Tryz.func224
 f271:=cO Tryz.func260
 t0:=Tryz.underlying0
 a0:=Tryz.isAgg0
 z0:=Tryz.sizeOf0
 v0:=Tryz.zeroValue0
 t3:=Tryz.underlying3
 a3:=Tryz.isAgg3
 z3:=Tryz.sizeOf3
 v3:=Tryz.zeroValue3
 t4:=Tryz.underlying4
 a4:=Tryz.isAgg4
 z4:=Tryz.sizeOf4
 v4:=Tryz.zeroValue4
 t5:=Tryz.underlying5
 a5:=Tryz.isAgg5
 z5:=Tryz.sizeOf5
 v5:=Tryz.zeroValue5
 t9:=Tryz.underlying9
 a9:=Tryz.isAgg9
 z9:=Tryz.sizeOf9
 v9:=Tryz.zeroValue9
 t21:=Tryz.underlying21
 a21:=Tryz.isAgg21
 z21:=Tryz.sizeOf21
 v21:=Tryz.zeroValue21
 t46:=Tryz.underlying105
 a46:=Tryz.isAgg105
 z46:=Tryz.sizeOf105
 v46:=Tryz.zeroValue105
 t105:=Tryz.underlying221
 a105:=Tryz.isAgg221
 z105:=Tryz.sizeOf221
 v105:=Tryz.zeroValue221
 t116:=Tryz.underlying246
 a116:=Tryz.isAgg246
 z116:=Tryz.sizeOf246
 t117:=Tryz.underlying247
 a117:=Tryz.isAgg247
 z117:=Tryz.sizeOf247
 v117:=Tryz.zeroValue247
 t119:=Tryz.underlying260
 a119:=Tryz.isAgg260
 z119:=Tryz.sizeOf260
 t124:=Tryz.underlying250
 a124:=Tryz.isAgg250
 z124:=Tryz.sizeOf250
 v124:=Tryz.zeroValue250
 t138:=Tryz.underlying262
 a138:=Tryz.isAgg262
 z138:=Tryz.sizeOf262
 v138:=Tryz.zeroValue262
 t139:=Tryz.underlying263
 a139:=Tryz.isAgg263
 z139:=Tryz.sizeOf263
 v139:=Tryz.zeroValue263
 g3:=by kernel_rfl
 g4:=by kernel_rfl}
open Go.RowKit in
theorem Tryz.strings_Trim_one (s:ByteArray)(c:UInt8)(hc:c.toNat<128)(w:World)(hs:s.size≤9223372036854775807):
  Calls Tryz.prog 208 #[.string s,.string ⟨#[c]⟩] w fun e w'=>e=.returned (.string ⟨(Lib.trimB s.data.toList c).toArray⟩)∧(w'=w∨w'=w.drew):=Any.strings_Trim_one Tryz.lays160 s c hc w hs
def Tryz.lays103_ren:Go.Shelf.Ren:=⟨fun|103=>30|210=>66|206=>112|n=>n,fun|9=>9|4=>4|24=>70|3=>3|n=>n,fun|n=>n⟩
def Tryz.lays103:Go.Proofs.Lays.n103 Tryz.prog Tryz.lays103_ren:={
 mixed:=by kernel_rfl
 f103:=cO Tryz.func30
 f206:=cO Tryz.func112
 f210:=cO Tryz.func66
 t3:=Tryz.underlying3
 a3:=Tryz.isAgg3
 z3:=Tryz.sizeOf3
 v3:=Tryz.zeroValue3
 t4:=Tryz.underlying4
 a4:=Tryz.isAgg4
 z4:=Tryz.sizeOf4
 v4:=Tryz.zeroValue4
 t9:=Tryz.underlying9
 a9:=Tryz.isAgg9
 z9:=Tryz.sizeOf9
 v9:=Tryz.zeroValue9
 t24:=Tryz.underlying70
 a24:=Tryz.isAgg70
 z24:=Tryz.sizeOf70
 v24:=Tryz.zeroValue70}
open Go.RowKit in
theorem Tryz.strings_CutPrefix (s p:ByteArray)(w:World):
  Calls Tryz.prog 30 #[.string s,.string p] w fun e w'=>e=.returned (.tuple #[.string ⟨(Lib.trimPrefix s.data.toList p.data.toList).toArray⟩,.bool (Lib.hasPrefix s.data.toList p.data.toList)])∧w'=w:=Any.strings_CutPrefix Tryz.lays103 s p w
def Tryz.lays104_ren:Go.Shelf.Ren:=⟨fun|104=>65|211=>111|207=>157|n=>n,fun|9=>9|4=>4|24=>70|3=>3|n=>n,fun|n=>n⟩
def Tryz.lays104:Go.Proofs.Lays.n104 Tryz.prog Tryz.lays104_ren:={
 mixed:=by kernel_rfl
 f104:=cO Tryz.func65
 f207:=cO Tryz.func157
 f211:=cO Tryz.func111
 t3:=Tryz.underlying3
 a3:=Tryz.isAgg3
 z3:=Tryz.sizeOf3
 v3:=Tryz.zeroValue3
 t4:=Tryz.underlying4
 a4:=Tryz.isAgg4
 z4:=Tryz.sizeOf4
 v4:=Tryz.zeroValue4
 t9:=Tryz.underlying9
 a9:=Tryz.isAgg9
 z9:=Tryz.sizeOf9
 v9:=Tryz.zeroValue9
 t24:=Tryz.underlying70
 a24:=Tryz.isAgg70
 z24:=Tryz.sizeOf70
 v24:=Tryz.zeroValue70}
open Go.RowKit in
theorem Tryz.strings_CutSuffix (s p:ByteArray)(w:World)(hs:s.size≤9223372036854775807):
  Calls Tryz.prog 65 #[.string s,.string p] w fun e w'=>e=.returned (.tuple #[.string ⟨(Lib.trimSuffix s.data.toList p.data.toList).toArray⟩,.bool (Lib.hasSuffix s.data.toList p.data.toList)])∧w'=w:=Any.strings_CutSuffix Tryz.lays104 s p w hs
def Tryz.laysM171_ren:Go.Shelf.Ren:=⟨fun|171=>183|243=>215|246=>245|283=>262|284=>263|285=>264|286=>265|129=>277|317=>276|318=>278|319=>279|320=>280|337=>288|338=>289|n=>n,fun|3=>3|9=>9|2=>2|4=>4|171=>265|0=>0|53=>52|37=>39|5=>5|173=>268|212=>275|51=>237|20=>20|213=>276|46=>105|232=>282|233=>283|n=>n,fun|17=>3|18=>4|19=>5|n=>n⟩
def Tryz.laysM171:Go.Proofs.LaysM.n171 Tryz.prog Tryz.laysM171_ren:={
 mixed:=by kernel_rfl
 f129:=cO Tryz.func277
 f171:=cO Tryz.func183
 f243:=cO Tryz.func215
 f246:=cO Tryz.func245
 f283:=cO Tryz.func262
 f284:=cO Tryz.func263
 f285:=cO Tryz.func264
 f286:=cO Tryz.func265
 f317:=cO Tryz.func276
 f318:=cO Tryz.func278
 f319:=cO Tryz.func279
 f320:=cO Tryz.func280
 f337:=cO Tryz.func288
 f338:=cO Tryz.func289
 t0:=Tryz.underlying0
 a0:=Tryz.isAgg0
 z0:=Tryz.sizeOf0
 v0:=Tryz.zeroValue0
 t2:=Tryz.underlying2
 a2:=Tryz.isAgg2
 z2:=Tryz.sizeOf2
 v2:=Tryz.zeroValue2
 t3:=Tryz.underlying3
 a3:=Tryz.isAgg3
 z3:=Tryz.sizeOf3
 v3:=Tryz.zeroValue3
 t4:=Tryz.underlying4
 a4:=Tryz.isAgg4
 z4:=Tryz.sizeOf4
 v4:=Tryz.zeroValue4
 t5:=Tryz.underlying5
 a5:=Tryz.isAgg5
 z5:=Tryz.sizeOf5
 v5:=Tryz.zeroValue5
 t9:=Tryz.underlying9
 a9:=Tryz.isAgg9
 z9:=Tryz.sizeOf9
 v9:=Tryz.zeroValue9
 t20:=Tryz.underlying20
 a20:=Tryz.isAgg20
 z20:=Tryz.sizeOf20
 v20:=Tryz.zeroValue20
 t37:=Tryz.underlying39
 a37:=Tryz.isAgg39
 z37:=Tryz.sizeOf39
 v37:=Tryz.zeroValue39
 t46:=Tryz.underlying105
 a46:=Tryz.isAgg105
 z46:=Tryz.sizeOf105
 v46:=Tryz.zeroValue105
 t51:=Tryz.underlying237
 a51:=Tryz.isAgg237
 z51:=Tryz.sizeOf237
 v51:=Tryz.zeroValue237
 t53:=Tryz.underlying52
 a53:=Tryz.isAgg52
 z53:=Tryz.sizeOf52
 v53:=Tryz.zeroValue52
 t171:=Tryz.underlying265
 a171:=Tryz.isAgg265
 z171:=Tryz.sizeOf265
 v171:=Tryz.zeroValue265
 t173:=Tryz.underlying268
 a173:=Tryz.isAgg268
 z173:=Tryz.sizeOf268
 v173:=Tryz.zeroValue268
 t212:=Tryz.underlying275
 a212:=Tryz.isAgg275
 z212:=Tryz.sizeOf275
 v212:=Tryz.zeroValue275
 t213:=Tryz.underlying276
 a213:=Tryz.isAgg276
 z213:=Tryz.sizeOf276
 t232:=Tryz.underlying282
 a232:=Tryz.isAgg282
 z232:=Tryz.sizeOf282
 v232:=Tryz.zeroValue282
 t233:=Tryz.underlying283
 a233:=Tryz.isAgg283
 z233:=Tryz.sizeOf283
 v233:=Tryz.zeroValue283
 g17:=by kernel_rfl
 g18:=by kernel_rfl
 g19:=by kernel_rfl
 i0:=by kernel_rfl
 i2:=by kernel_rfl
 i3:=by kernel_rfl
 i4:=by kernel_rfl
 i5:=by kernel_rfl
 i9:=by kernel_rfl
 i20:=by kernel_rfl
 i37:=by kernel_rfl
 i46:=by kernel_rfl
 i51:=by kernel_rfl
 i53:=by kernel_rfl
 i171:=by kernel_rfl
 i173:=by kernel_rfl
 i212:=by kernel_rfl
 i232:=by kernel_rfl
 i233:=by kernel_rfl
 m17:=by kernel_rfl
 m18:=by kernel_rfl
 m19:=by kernel_rfl}
open Go.RowKit Go.Sort Go.Lib in
theorem Tryz.strconv_Itoa (n:Int)(h0:-9223372036854775808≤n)(h1:n≤9223372036854775807)(w:World)(htab:Lib.TabIs Tryz.prog w "internal/strconv.uint64pow10" .u64 Lib.pow10Tab):
  Calls Tryz.prog 183 #[.int .i64 n] w fun e w'=>e=.returned (.string ⟨(Lib.itoa n).toArray⟩)∧∃k os,w'=grow (w.drewN k) os:=Any.strconv_Itoa Tryz.laysM171 n h0 h1 w htab
def Tryz.lays145_ren:Go.Shelf.Ren:=⟨fun|145=>69|220=>113|219=>158|217=>198|225=>199|224=>200|267=>201|266=>224|314=>225|n=>n,fun|9=>9|4=>4|59=>109|3=>3|5=>5|46=>105|146=>238|51=>237|n=>n,fun|1=>0|n=>n⟩
def Tryz.lays145:Go.Proofs.Lays.n145 Tryz.prog Tryz.lays145_ren:={
 mixed:=by kernel_rfl
 f145:=cO Tryz.func69
 f217:=cO Tryz.func198
 f219:=cO Tryz.func158
 f220:=cO Tryz.func113
 f224:=cO Tryz.func200
 f225:=cO Tryz.func199
 f266:=cO Tryz.func224
 f267:=cO Tryz.func201
 f314:=cO Tryz.func225
 t3:=Tryz.underlying3
 a3:=Tryz.isAgg3
 z3:=Tryz.sizeOf3
 v3:=Tryz.zeroValue3
 t4:=Tryz.underlying4
 a4:=Tryz.isAgg4
 z4:=Tryz.sizeOf4
 v4:=Tryz.zeroValue4
 t5:=Tryz.underlying5
 a5:=Tryz.isAgg5
 z5:=Tryz.sizeOf5
 v5:=Tryz.zeroValue5
 t9:=Tryz.underlying9
 a9:=Tryz.isAgg9
 z9:=Tryz.sizeOf9
 v9:=Tryz.zeroValue9
 t46:=Tryz.underlying105
 a46:=Tryz.isAgg105
 z46:=Tryz.sizeOf105
 v46:=Tryz.zeroValue105
 t51:=Tryz.underlying237
 a51:=Tryz.isAgg237
 z51:=Tryz.sizeOf237
 v51:=Tryz.zeroValue237
 t59:=Tryz.underlying109
 a59:=Tryz.isAgg109
 z59:=Tryz.sizeOf109
 v59:=Tryz.zeroValue109
 t146:=Tryz.underlying238
 a146:=Tryz.isAgg238
 z146:=Tryz.sizeOf238
 v146:=Tryz.zeroValue238
 g1:=by kernel_rfl}
open Go.RowKit Go.Lib in
theorem Tryz.strings_Cut (s sep:ByteArray)(m:Int)(w:World)(hs:s.size<4294967281)(hm:w.cell? ⟨0,0,none⟩=some (.int .i64 m)):
  Calls Tryz.prog 69 #[.string s,.string sep] w fun e w'=>e=.returned (.tuple #[.string ⟨(Lib.cut s.data.toList sep.data.toList).1.toArray⟩,.string ⟨(Lib.cut s.data.toList sep.data.toList).2.1.toArray⟩,.bool (Lib.cut s.data.toList sep.data.toList).2.2])∧∃n,w'=w.drewN n:=Any.strings_Cut Tryz.lays145 s sep m w hs hm
def Tryz.lays221_ren:Go.Shelf.Ren:=⟨fun|221=>110|268=>154|138=>155|143=>156|195=>195|197=>196|218=>197|219=>158|260=>223|217=>198|225=>199|224=>200|267=>201|266=>224|314=>225|n=>n,fun|9=>9|3=>3|31=>68|4=>4|0=>0|105=>221|21=>21|5=>5|46=>105|119=>260|139=>263|138=>262|146=>238|51=>237|n=>n,fun|1=>0|3=>1|4=>2|n=>n⟩
def Tryz.lays221:Go.Proofs.Lays.n221 Tryz.prog Tryz.lays221_ren:={
 mixed:=by kernel_rfl
 f138:=cO Tryz.func155
 f143:=cO Tryz.func156
 f195:=cO Tryz.func195
 f197:=cO Tryz.func196
 f217:=cO Tryz.func198
 f218:=cO Tryz.func197
 f219:=cO Tryz.func158
 f221:=cO Tryz.func110
 f224:=cO Tryz.func200
 f225:=cO Tryz.func199
 f260:=cO Tryz.func223
 f266:=cO Tryz.func224
 f267:=cO Tryz.func201
 f268:=cO Tryz.func154
 f314:=cO Tryz.func225
 t0:=Tryz.underlying0
 a0:=Tryz.isAgg0
 z0:=Tryz.sizeOf0
 v0:=Tryz.zeroValue0
 t3:=Tryz.underlying3
 a3:=Tryz.isAgg3
 z3:=Tryz.sizeOf3
 v3:=Tryz.zeroValue3
 t4:=Tryz.underlying4
 a4:=Tryz.isAgg4
 z4:=Tryz.sizeOf4
 v4:=Tryz.zeroValue4
 t5:=Tryz.underlying5
 a5:=Tryz.isAgg5
 z5:=Tryz.sizeOf5
 v5:=Tryz.zeroValue5
 t9:=Tryz.underlying9
 a9:=Tryz.isAgg9
 z9:=Tryz.sizeOf9
 v9:=Tryz.zeroValue9
 t21:=Tryz.underlying21
 a21:=Tryz.isAgg21
 z21:=Tryz.sizeOf21
 v21:=Tryz.zeroValue21
 t31:=Tryz.underlying68
 a31:=Tryz.isAgg68
 z31:=Tryz.sizeOf68
 v31:=Tryz.zeroValue68
 t46:=Tryz.underlying105
 a46:=Tryz.isAgg105
 z46:=Tryz.sizeOf105
 v46:=Tryz.zeroValue105
 t51:=Tryz.underlying237
 a51:=Tryz.isAgg237
 z51:=Tryz.sizeOf237
 v51:=Tryz.zeroValue237
 t105:=Tryz.underlying221
 a105:=Tryz.isAgg221
 z105:=Tryz.sizeOf221
 v105:=Tryz.zeroValue221
 t119:=Tryz.underlying260
 a119:=Tryz.isAgg260
 z119:=Tryz.sizeOf260
 t138:=Tryz.underlying262
 a138:=Tryz.isAgg262
 z138:=Tryz.sizeOf262
 v138:=Tryz.zeroValue262
 t139:=Tryz.underlying263
 a139:=Tryz.isAgg263
 z139:=Tryz.sizeOf263
 v139:=Tryz.zeroValue263
 t146:=Tryz.underlying238
 a146:=Tryz.isAgg238
 z146:=Tryz.sizeOf238
 v146:=Tryz.zeroValue238
 g1:=by kernel_rfl
 g3:=by kernel_rfl
 g4:=by kernel_rfl}
def Tryz.lays146_ren:Go.Shelf.Ren:=⟨fun|146=>67|221=>110|268=>154|138=>155|143=>156|195=>195|197=>196|218=>197|219=>158|260=>223|217=>198|225=>199|224=>200|267=>201|266=>224|314=>225|n=>n,fun|9=>9|31=>68|3=>3|4=>4|0=>0|105=>221|21=>21|5=>5|46=>105|119=>260|139=>263|138=>262|146=>238|51=>237|n=>n,fun|1=>0|3=>1|4=>2|n=>n⟩
def Tryz.lays146:Go.Proofs.Lays.n146 Tryz.prog Tryz.lays146_ren:={
 mixed:=by kernel_rfl
 f138:=cO Tryz.func155
 f143:=cO Tryz.func156
 f146:=cO Tryz.func67
 f195:=cO Tryz.func195
 f197:=cO Tryz.func196
 f217:=cO Tryz.func198
 f218:=cO Tryz.func197
 f219:=cO Tryz.func158
 f221:=cO Tryz.func110
 f224:=cO Tryz.func200
 f225:=cO Tryz.func199
 f260:=cO Tryz.func223
 f266:=cO Tryz.func224
 f267:=cO Tryz.func201
 f268:=cO Tryz.func154
 f314:=cO Tryz.func225
 t0:=Tryz.underlying0
 a0:=Tryz.isAgg0
 z0:=Tryz.sizeOf0
 v0:=Tryz.zeroValue0
 t3:=Tryz.underlying3
 a3:=Tryz.isAgg3
 z3:=Tryz.sizeOf3
 v3:=Tryz.zeroValue3
 t4:=Tryz.underlying4
 a4:=Tryz.isAgg4
 z4:=Tryz.sizeOf4
 v4:=Tryz.zeroValue4
 t5:=Tryz.underlying5
 a5:=Tryz.isAgg5
 z5:=Tryz.sizeOf5
 v5:=Tryz.zeroValue5
 t9:=Tryz.underlying9
 a9:=Tryz.isAgg9
 z9:=Tryz.sizeOf9
 v9:=Tryz.zeroValue9
 t21:=Tryz.underlying21
 a21:=Tryz.isAgg21
 z21:=Tryz.sizeOf21
 v21:=Tryz.zeroValue21
 t31:=Tryz.underlying68
 a31:=Tryz.isAgg68
 z31:=Tryz.sizeOf68
 v31:=Tryz.zeroValue68
 t46:=Tryz.underlying105
 a46:=Tryz.isAgg105
 z46:=Tryz.sizeOf105
 v46:=Tryz.zeroValue105
 t51:=Tryz.underlying237
 a51:=Tryz.isAgg237
 z51:=Tryz.sizeOf237
 v51:=Tryz.zeroValue237
 t105:=Tryz.underlying221
 a105:=Tryz.isAgg221
 z105:=Tryz.sizeOf221
 v105:=Tryz.zeroValue221
 t119:=Tryz.underlying260
 a119:=Tryz.isAgg260
 z119:=Tryz.sizeOf260
 t138:=Tryz.underlying262
 a138:=Tryz.isAgg262
 z138:=Tryz.sizeOf262
 v138:=Tryz.zeroValue262
 t139:=Tryz.underlying263
 a139:=Tryz.isAgg263
 z139:=Tryz.sizeOf263
 v139:=Tryz.zeroValue263
 t146:=Tryz.underlying238
 a146:=Tryz.isAgg238
 z146:=Tryz.sizeOf238
 v146:=Tryz.zeroValue238
 g1:=by kernel_rfl
 g3:=by kernel_rfl
 g4:=by kernel_rfl}
open Go.RowKit Go.Lib in
theorem Tryz.strings_Split (s sep:ByteArray)(m:Int)(w:World)(hs:s.size<4294967281)(hm:w.cell? ⟨0,0,none⟩=some (.int .i64 m))(h1:1≤sep.size):
  Calls Tryz.prog 67 #[.string s,.string sep] w fun e w'=>
   e=.returned (.slice (some ⟨w.heap.size,0,none⟩) (Lib.countB s sep+1) (Lib.countB s sep+1))∧w'=w.alloc (.cells ((Lib.splitB sep 0 (Lib.countB s sep) s).map Value.string).toArray 9):=Any.strings_Split Tryz.lays146 (by kernel_rfl) s sep m w hs hm h1
def Tryz.lays147_ren:Go.Shelf.Ren:=⟨fun|147=>159|221=>110|268=>154|138=>155|143=>156|195=>195|197=>196|218=>197|219=>158|260=>223|217=>198|225=>199|224=>200|267=>201|266=>224|314=>225|n=>n,fun|9=>9|3=>3|31=>68|4=>4|0=>0|105=>221|21=>21|5=>5|46=>105|119=>260|139=>263|138=>262|146=>238|51=>237|n=>n,fun|1=>0|3=>1|4=>2|n=>n⟩
def Tryz.lays147:Go.Proofs.Lays.n147 Tryz.prog Tryz.lays147_ren:={
 mixed:=by kernel_rfl
 f138:=cO Tryz.func155
 f143:=cO Tryz.func156
 f147:=cO Tryz.func159
 f195:=cO Tryz.func195
 f197:=cO Tryz.func196
 f217:=cO Tryz.func198
 f218:=cO Tryz.func197
 f219:=cO Tryz.func158
 f221:=cO Tryz.func110
 f224:=cO Tryz.func200
 f225:=cO Tryz.func199
 f260:=cO Tryz.func223
 f266:=cO Tryz.func224
 f267:=cO Tryz.func201
 f268:=cO Tryz.func154
 f314:=cO Tryz.func225
 t0:=Tryz.underlying0
 a0:=Tryz.isAgg0
 z0:=Tryz.sizeOf0
 v0:=Tryz.zeroValue0
 t3:=Tryz.underlying3
 a3:=Tryz.isAgg3
 z3:=Tryz.sizeOf3
 v3:=Tryz.zeroValue3
 t4:=Tryz.underlying4
 a4:=Tryz.isAgg4
 z4:=Tryz.sizeOf4
 v4:=Tryz.zeroValue4
 t5:=Tryz.underlying5
 a5:=Tryz.isAgg5
 z5:=Tryz.sizeOf5
 v5:=Tryz.zeroValue5
 t9:=Tryz.underlying9
 a9:=Tryz.isAgg9
 z9:=Tryz.sizeOf9
 v9:=Tryz.zeroValue9
 t21:=Tryz.underlying21
 a21:=Tryz.isAgg21
 z21:=Tryz.sizeOf21
 v21:=Tryz.zeroValue21
 t31:=Tryz.underlying68
 a31:=Tryz.isAgg68
 z31:=Tryz.sizeOf68
 v31:=Tryz.zeroValue68
 t46:=Tryz.underlying105
 a46:=Tryz.isAgg105
 z46:=Tryz.sizeOf105
 v46:=Tryz.zeroValue105
 t51:=Tryz.underlying237
 a51:=Tryz.isAgg237
 z51:=Tryz.sizeOf237
 v51:=Tryz.zeroValue237
 t105:=Tryz.underlying221
 a105:=Tryz.isAgg221
 z105:=Tryz.sizeOf221
 v105:=Tryz.zeroValue221
 t119:=Tryz.underlying260
 a119:=Tryz.isAgg260
 z119:=Tryz.sizeOf260
 t138:=Tryz.underlying262
 a138:=Tryz.isAgg262
 z138:=Tryz.sizeOf262
 v138:=Tryz.zeroValue262
 t139:=Tryz.underlying263
 a139:=Tryz.isAgg263
 z139:=Tryz.sizeOf263
 v139:=Tryz.zeroValue263
 t146:=Tryz.underlying238
 a146:=Tryz.isAgg238
 z146:=Tryz.sizeOf238
 v146:=Tryz.zeroValue238
 g1:=by kernel_rfl
 g3:=by kernel_rfl
 g4:=by kernel_rfl}
open Go.RowKit Go.Lib in
theorem Tryz.strings_SplitN (s sep:ByteArray)(n:Nat)(m:Int)(w:World)(hs:s.size<4294967281)(hm:w.cell? ⟨0,0,none⟩=some (.int .i64 m))(h1:1≤sep.size)(hn:1≤n)(hn63:n≤9223372036854775807):
  Calls Tryz.prog 159 #[.string s,.string sep,.int .i64 n] w fun e w'=>
   e=.returned (.slice (some ⟨w.heap.size,0,none⟩) (Lib.splitB sep 0 (min n (s.size+1) -1) s).length (min n (s.size+1)))∧w'=w.alloc (.cells (Lib.cellsOf (Lib.splitB sep 0 (min n (s.size+1) -1) s) (min n (s.size+1))) 9):=Any.strings_SplitN Tryz.lays147 (by kernel_rfl) s sep n m w hs hm h1 hn hn63
def Tryz.laysNm216_ren:Go.Shelf.Ren:=⟨fun|16=>86|n=>n,fun|24=>68|9=>9|4=>4|n=>n,fun|n=>n⟩
def Tryz.laysNm216:Go.Proofs.Lays2.n16 Tryz.prog Tryz.laysNm216_ren:={
 mixed:=by kernel_rfl
 f16:=cO Tryz.func86
 t4:=Tryz.underlying4
 a4:=Tryz.isAgg4
 z4:=Tryz.sizeOf4
 v4:=Tryz.zeroValue4
 t9:=Tryz.underlying9
 a9:=Tryz.isAgg9
 z9:=Tryz.sizeOf9
 v9:=Tryz.zeroValue9
 t24:=Tryz.underlying68
 a24:=Tryz.isAgg68
 z24:=Tryz.sizeOf68
 v24:=Tryz.zeroValue68
 i9:=by kernel_rfl}
open Go.RowKit Go.Lib in
theorem Tryz.slices_Clone_string (b off n c:Nat)(zs:List ByteArray)(w:World)(hz:n≤zs.length)(hbig:n*16≤140737488355328)(hc:∀j,j<zs.length→w.cell? ⟨b,off+j,none⟩=some (.string (zs.getD j ByteArray.empty))):
  Calls Tryz.prog 86 #[.slice (some ⟨b,off,none⟩) n c] w fun e w'=>∃v',e=.returned v'∧w'.ownsRow w.heap.size 9 1 v' n ((zs.take n).map (Value.string))∧v'≠.slice none 0 0∧Below w.heap.size w w':=Any.slices_Clone_string Tryz.laysNm216 b off n c zs w hz hbig hc
open Go.RowKit Go.Lib in
theorem Tryz.slices_Clone_string_nil (n c:Nat)(w:World):
  Calls Tryz.prog 86 #[.slice none n c] w fun e w'=>e=.returned (.slice none 0 0)∧w'=w:=Any.slices_Clone_string_nil Tryz.laysNm216 n c w
open Go.RowKit Go.Lib in
theorem Tryz.slices_Clone_string_zero (a:Addr)(c:Nat)(w:World):
  Calls Tryz.prog 86 #[.slice (some a) 0 c] w fun e w'=>∃v',e=.returned v'∧w'.ownsRow w.heap.size 9 1 v' 0 []∧v'≠.slice none 0 0∧Below w.heap.size w w':=Any.slices_Clone_string_zero Tryz.laysNm216 a c w
end Go.Proofs
end
namespace Go.Abs
def O8 {s:au}(h:s.findIdx? (fun c=>c==10)=none):jC s=[s]:=by
 have hs:ai s 10=[s]:=by have:=p0 10 s [] h;simpa[ai]using this
 unfold jC oa ud;rw[hs];rfl
def Sw {s:au}{j:Nat}(h:s.findIdx? (fun c=>c==10)=some j):jC s=s.take (j+1)::jC (s.drop (j+1)):=by
 have hs:ai s 10=s.take j::ai (s.drop (j+1)) 10:=by have:=oB 10 s [] j h;simpa[ai]using this
 obtain⟨h1,h2,_⟩:=List.findIdx?_eq_some_iff_getElem.1 h;have ht:s.take (j+1)=s.take j++[10]:=by
  rw[List.take_add_one,List.getElem?_eq_getElem h1]
  grind
 obtain⟨A,b,hb⟩:∃A b,ai (s.drop (j+1)) 10=A++[b]:=⟨_,_,(List.dropLast_concat_getLast (nS _ _)).symm⟩
 grind [jC]
def QD:∀(k:Nat) (s:ByteArray),Lib.countB s ⟨⟨[10]⟩⟩=k->(Lib.splitB ⟨⟨[10]⟩⟩ 1 k s).map (fun t=>t.data.toList)=jC s.data.toList:=by
 intro k;induction k with
 |zero=>
  intro s h;rw[Lib.splitB_zero];have hi:Lib.indexB s ⟨⟨[10]⟩⟩=WH (s.data.toList.findIdx? (fun c=>c==10)):=tY _ 10;cases hq:s.data.toList.findIdx? (fun c=>c==10)with
  |none=>rw[O8 hq];rfl
  |some j=>
   rw[hq]at hi;have:=Lib.countB_hit s ⟨⟨[10]⟩⟩ j (aL 1) hi;omega
 |succ k ih=>
  intro s h;have hi:Lib.indexB s ⟨⟨[10]⟩⟩=WH (s.data.toList.findIdx? (fun c=>c==10)):=tY _ 10;cases hq:s.data.toList.findIdx? (fun c=>c==10)with
  |none=>
   rw[hq]at hi;have:=Lib.countB_miss s ⟨⟨[10]⟩⟩ hi;omega
  |some j=>
   rw[hq]at hi;have hc:=Lib.countB_hit s ⟨⟨[10]⟩⟩ j (aL 1) hi;have hl:(⟨⟨[10]⟩⟩:ByteArray).size=1:=rfl;rw[Lib.splitB_hit _ _ _ _ j hi,List.map_cons,ih _ ae,Sw hq,Lib.extract_from_zero,Lib.extract_to_end];rfl
def VA (s:au):(jC s).length<=s.length+1/\∀t∈jC s,t.length<=s.length+1:=by
 have hl:=dk s 10;have hp:=ep 10 s [];refine⟨?_,fun t h1=>?_⟩
 .unfold jC
  grind
 .unfold jC at h1;rcases List.mem_append.1 h1 with h2|h2
  .obtain⟨u,hu,rfl⟩:=ey.1 h2;have:=dS s 10 (kl hu);simp;omega
  grind [qA,ai]
def PY (s:au):(Lib.trimSuffix s [10],Lib.hasSuffix s [10])=bV s:=by
 unfold Lib.trimSuffix Lib.hasSuffix bV;cases hq:s.getLast? with
 |none=>
  grind
 |some c=>
  obtain⟨r,rfl⟩:∃r,s=r++[c]:=by
   have hne:s≠[]:=by rintro rfl;cases hq
   refine⟨s.dropLast, ?_⟩;have:=List.dropLast_concat_getLast hne
   grind
  have e:([10]:au).isSuffixOf (r++[c])=decide (c=10):=by
   rw[Bool.eq_iff_iff,List.isSuffixOf_iff_suffix,aK];constructor
   .rintro⟨q,hq⟩
    grind
   .rintro rfl;exact⟨r,rfl⟩
  rw[e];by_cases h:c=10
  .subst h;simp
  .simp[h]
section
open Go.Proofs Go.Shelf Go.RowKit
section
variable [dR] {P:Program}
def ng (U:TypeId)(w:World)(v:Value)(s:List UInt8):Prop:=
 (v=.slice none 0 0/\s=[])\/∃g t c,v=.slice (some ⟨g,0,none⟩) s.length t/\w.heap[g]? =some (.cells c U (0,0))/\c.size=t/\t<=maxLen/\s.length<=t/\∀i,i<s.length->c.getD i undef=.int .u8 (s.getD i 0).toNat
def iq (s:List UInt8):List Value:=s.map fun b=>Value.int .u8 b.toNat
def jh (s:List UInt8):(iq s).length=s.length:=by simp[iq]
theorem tF (s:List UInt8)(i:Nat)(h:i<s.length):(iq s).getD i undef=.int .u8 (s.getD i 0).toNat:=by simp[iq,List.getD,h]
def Ad (s:List UInt8):∀u∈iq s,u.oneCell'=true:=by
 intro u hu;obtain⟨b,_,rfl⟩:=ey.1 hu;rfl
def Lr {x y:List UInt8}{zs:Array Value}(i:Nat)(hi:i<(x++y).length):(((iq x++iq y).toArray++zs).getD i undef)=.int .u8 ((x++y).getD i 0).toNat:=by
 rw[<-cB]
 grind [dz,iq,tF]
def Uo {U t u ty:TypeId}{i:TypeInfo}{w:World}(ht:P.underlying t=some (.slice U))(hi:P.info? U=some i)(hz:i.zero=some (.int .u8 0))(hs:i.size=1)(hby:i.bytes=1){v xv:Value}{s s2:List UInt8}
  (hv:ng U w v s) (h0:s2≠[]) (hsrc:Go.Src P 1 u xv s2.length (iq s2) w) (hle:s.length+s2.length<=1099511627776):
  ∃g' t' w',(Builtin.append_ #[t,u] ty #[v,xv]).run P w=.ok (.slice (some ⟨g',0,none⟩) (s++s2).length t') w'/\ng U w' (.slice (some ⟨g',0,none⟩) (s++s2).length t') (s++s2)/\w.grownBy w' v.ownBlock/\(v.ownBlock=some g'\/w.heap.size<=g')/\g'<w'.heap.size:=by
 have hp:0<s2.length:=List.length_pos_iff.2 h0;have hm:maxLen=9223372036854775807:=rfl;rw[<-hs]at hsrc;rcases hv with⟨rfl,rfl⟩|⟨g,cap,c,rfl,hg,hcs,hcm,hle2,hc⟩
 .have hr:=run_append_grow_src (P:=P) w t u ty U i _ ht hi hz none 0 0 [] (by simp[Builtin.firstCells,loadCells,loadCellsFrom]) xv s2.length (iq s2) hsrc ae (by simp only[a8]at hle;omega) (by rw[hby];exact growslice_fits ae (by simp only[a8]at hle;omega));have hge:=grownCap_ge w (0+s2.length) 0 U;have hcm2:grownCap w (0+s2.length) 0 U<=maxLen:=grownCap_le_maxLen w (0+s2.length) 0 U (by simp only[a8]at hle;omega);simp only[bQ,fe]at hr hge hcm2;refine⟨w.heap.size,_,_,hr,.inr ⟨w.heap.size,_,_,rfl,eV w.drew _, ?_,hcm2,hge,fun j hj=>?_⟩,⟨rfl,rfl,rfl, ?_,fun k hk _=>mr w.drew _ k hk⟩,.inr (aL _), ?_⟩
  .have hz1:(Value.int IntKind.u8 0).cells.size=1:=rfl;simp only[fe,Array.size_append,List.size_toArray,jh,size_zeroCells,hz1];omega
  .exact Lr (x:=[]) j hj
  .show w.heap.size<=(w.drew.heap.push _).size;rw[Array.size_push];exact Nat.le_succ _
  .show w.heap.size<(w.drew.heap.push _).size;rw[Array.size_push];exact Nat.lt_succ_self _
 .by_cases hroom:s.length+s2.length<=cap
  .have hr:=run_append_room_src (P:=P) w t u ty U i ht hi g 0 s.length cap xv s2.length (iq s2) hsrc hroom (fun j hj=>by
    rw[hs,cell_of_heap hg (by rw[jh]at hj;omega)];rfl) (fun j hj=>by simp[World.frozen?,hg])
   obtain⟨c',s1,s3,s4⟩:=my g (iq s2) (0+s.length*i.size) w c U (0,0) hg (by rw[jh,hs];omega);obtain⟨f1,f2,f3,f4⟩:=lu g (iq s2) (0+s.length*i.size) w;have hlt:g<w.heap.size:=by
    rcases hY g w.heap.size with h|h
    .exact h
    .simp[Array.getElem?_eq_none h]at hg
   refine⟨g,cap,_,by simpa using hr,.inr ⟨g,cap,c',aJ,s1,ae,hcm,by rw[bP];exact hroom,fun j hj=>?_⟩,⟨f1,f2,f3,ae,fun k _ hk=>lv g _ _ _ k (fun e=>hk (by simp[Value.ownBlock,e]))⟩,.inl rfl,ae⟩;rw[s4,jh,hs];rw[bP]at hj;by_cases hj2:j<s.length
   .rw[ak ae,hc j hj2,dz,aw hj2]
   .rw[aw ae,tF _ _ ae,dz,ak hj2];congr 4;omega
  .have hold:(Builtin.firstCells i.size s.length (.slice (some ⟨g,0,none⟩) s.length cap)).run P w.drew=.ok (iq s).toArray w.drew:=by
    refine run_firstCells_some w.drew i.size s.length _ s.length cap _ (by simp[jh,hs]) (fun j u' hj=>?_);have hj2:j<s.length:=by
     have:=(List.getElem?_eq_some_iff.1 hj).1;rwa [jh]at this
    have hg':w.drew.heap[g]? =some (.cells c U (0,0)):=hg;rw[Addr.yg,cell_of_heap hg' ae,bQ,hc j hj2,<-tF s j hj2];simp[List.getD,hj]
   have hr:=run_append_grow_src (P:=P) w t u ty U i _ ht hi hz (some ⟨g,0,none⟩) s.length cap (iq s) hold xv s2.length (iq s2) hsrc ae ae (by rw[hby];exact growslice_fits ae ae);have hge:=grownCap_ge w (s.length+s2.length) cap U;have hcm2:grownCap w (s.length+s2.length) cap U<=maxLen:=grownCap_le_maxLen w (s.length+s2.length) cap U ae;refine⟨w.heap.size,_,_,by simpa using hr,.inr ⟨w.heap.size,_,_,aJ,eV w.drew _, ?_,hcm2,by simpa using hge,fun j hj=>?_⟩,⟨rfl,rfl,rfl, ?_,fun k hk _=>mr w.drew _ k hk⟩,.inr (aL _), ?_⟩
   .have hz1:(Value.int IntKind.u8 0).cells.size=1:=rfl;simp only[Array.size_append,List.size_toArray,bP,jh,size_zeroCells,hz1];omega
   .exact Lr j hj
   .show w.heap.size<=(w.drew.heap.push _).size;rw[Array.size_push];exact Nat.le_succ _
   .show w.heap.size<(w.drew.heap.push _).size;rw[Array.size_push];exact Nat.lt_succ_self _
def BT {ops:Array Oper}{rest:List Oper}{o:Oper}{a:Act}{Q:Exit->Act->World->Prop}(hgd:o.guard=none)(sl x:Operand)(t u:TypeId)
  (ho:o.op=.call {callee:=.builtin .append,args:=#[sl,x],argTypes:=#[t,u]}) {U:TypeId} {i:TypeInfo} {w:World}
  (ht:P.underlying t=some (.slice U)) (hi:P.info? U=some i) (hz:i.zero=some (.int .u8 0)) (hsz:i.size=1) (hby:i.bytes=1) {v xv:Value} {s s2:List UInt8} (hs:a.eval sl=v) (hx:a.eval x=xv)
  (hv:ng U w v s) (h0:s2≠[]) (hsrc:Go.Src P 1 u xv s2.length (iq s2) w) (hle:s.length+s2.length<=1099511627776)
  (h:∀g' t' w',ng U w' (.slice (some ⟨g',0,none⟩) (s++s2).length t') (s++s2)->w.grownBy w' v.ownBlock->(v.ownBlock=some g'\/w.heap.size<=g')->g'<w'.heap.size->wpList P ops Q rest (a.put o.dst (.slice (some ⟨g',0,none⟩) (s++s2).length t')) w'):wpList P ops Q (o::rest) a w:=by
 refine wpList_plain hgd fun K hK=>?_
 obtain⟨g',t',w',hr,h2,h3,h4,h5⟩:=Uo (P:=P) (ty:=o.type) ht hi hz hsz hby hv h0 hsrc hle;unfold Oper.wp execOp;simp only[ho,resolve,invoke,builtin,Sem.run_bind,Sem.run_pure,Result.andThen_ok,List.map_toArray,List.map_cons,List.map_nil,hs,hx,hr];exact hK _ _ (h g' t' w' h2 h3 h4 h5)
def I9 (w:World)(g n:Nat):(w.drew.freeze ⟨g,0,none⟩ n).os=w.os/\(w.drew.freeze ⟨g,0,none⟩ n).tape=w.tape/\(w.drew.freeze ⟨g,0,none⟩ n).output=w.output/\(w.drew.freeze ⟨g,0,none⟩ n).heap.size=w.heap.size/\∀k,k≠g->(w.drew.freeze ⟨g,0,none⟩ n).heap[k]? =w.heap[k]? :=by
 unfold World.freeze;split
 .exact⟨rfl,rfl,rfl,rfl,fun _ _=>rfl⟩
 .refine⟨rfl,rfl,rfl,aJ,fun k hk=>?_⟩;simp only[Array.getElem?_modify];rw[ak (fun e=>hk e.symm)];rfl
def tc (b:Nat)(u:Bool)(v:Value)(T:TypeId):Obj:=.cells #[.pointer (if u=true then some ⟨b,0,none⟩else none),v] T (0,0)
variable {J:Ren}
def CG (L:Lays.n240 P J)(X:Builder.X72 P J){b:Nat}{u:Bool}{v:Value}{w:World}(h:w.heap[b]? =some (tc b u v (J.t 72))):
  Calls P (J.f 240) #[.pointer (some ⟨b,0,none⟩)] w fun e w'=>e=.returned (.tuple #[])/\w'.heap[b]? =some (tc b true v (J.t 72))/\w.grownBy w' (some b):=by
 unfold tc at h;cases u with
 |true=>
  refine(Any.Builder_copyCheck_used L X b w (by rw[Lib.cell_of_heap h];rfl)).mono ?_;rintro e w' ⟨rfl,rfl⟩;exact⟨rfl,h,⟨rfl,rfl,rfl,aL _,fun _ _ _=>rfl⟩⟩
 |false=>
  refine(Any.Builder_copyCheck_fresh L X b w (by rw[Lib.cell_of_heap h];rfl) (by simp[World.shape?,h]) (Lib.frozen_of_heap h 0)).mono ?_;rintro e w' ⟨rfl,rfl⟩;exact⟨rfl,by simp[World.setCell,Array.getElem?_modify,h,tc],⟨rfl,rfl,rfl,by simp[World.setCell],fun k _ hk=>Below.heap_setCell _ _ _ _ (fun e=>hk (by simp[e]))⟩⟩
def FY (T U:TypeId)(b:Nat)(g:Option Nat)(s:List UInt8)(w w':World):Prop:=
 ∃g' t',w'.heap[b]? =some (tc b true (.slice (some ⟨g',0,none⟩) s.length t') T)/\ng U w' (.slice (some ⟨g',0,none⟩) s.length t') s/\(g=some g'\/w.heap.size<=g')/\g'<w'.heap.size/\g'≠b/\
  w'.os=w.os/\w'.tape=w.tape/\w'.output=w.output/\w.heap.size<=w'.heap.size/\∀k,k<w.heap.size->k≠b->some k≠g->w'.heap[k]? =w.heap[k]?
def ng.pk {U:TypeId}{w w':World}{v:Value}{s:List UInt8}(h:ng U w v s)(hk:∀g,v.ownBlock=some g->w'.heap[g]? =w.heap[g]?):ng U w' v s:=by
 rcases h with h|⟨g,t,c,rfl,hg,r⟩
 .exact .inl h
 .exact .inr ⟨g,t,c,rfl,(hk g rfl).trans hg,r⟩
def ng.lt {U:TypeId}{w:World}{v:Value}{s:List UInt8}(h:ng U w v s){g:Nat}(hg:v.ownBlock=some g):g<w.heap.size/\∃c,w.heap[g]? =some (.cells c U (0,0)):=by
 rcases h with⟨rfl,_⟩|⟨g',t,c,rfl,hg',r⟩
 .cases hg
 .simp only[Value.ownBlock,bh]at hg
  grind
set_option maxHeartbeats 2000000 in
set_option maxRecDepth 100000 in
theorem yh (L:Lays.n166 P J)(X:Builder.Extra P J){b:Nat}{u:Bool}{v:Value}{s s2:List UInt8}{w:World}(h:w.heap[b]? =some (tc b u v (J.t 72)))(hv:ng (J.t 5) w v s)(h0:s2≠[])(hm2:s2.length<=maxLen)(hle:s.length+s2.length<=1099511627776):
  Calls P (J.f 166) #[.pointer (some ⟨b,0,none⟩),.string ⟨⟨s2⟩⟩] w fun e w'=>(∃r,e=.returned r)/\FY (J.t 72) (J.t 5) b v.ownBlock (s++s2) w w':=by
 obtain⟨i0,hi,hz0,hz1,hz2⟩:=info_parts X.infoByte;have mixed:=L.mixed;have t72:=L.t72;have a72:=L.a72;have z72:=L.z72;have v72:=L.v72;have u72:=run_underlying L.t72;have t70:=L.t70;have a70:=L.a70;have z70:=L.z70;have v70:=L.v70;have u70:=run_underlying L.t70;have t37:=L.t37;have a37:=L.a37;have z37:=L.z37;have v37:=L.v37;have u37:=run_underlying L.t37;have t3:=L.t3;have a3:=L.a3;have z3:=L.z3;have v3:=L.v3;have u3:=run_underlying L.t3;have t9:=L.t9;have a9:=L.a9;have z9:=L.z9;have v9:=L.v9;have u9:=run_underlying L.t9;have t4:=L.t4;have a4:=L.a4;have z4:=L.z4;have v4:=L.v4;have u4:=run_underlying L.t4;have t164:=L.t164;have a164:=L.a164;have z164:=L.z164;have v164:=L.v164;have u164:=run_underlying L.t164;have t5:=X.t5;have a5:=X.a5;have z5:=X.z5;have v5:=X.v5;have u5:=run_underlying X.t5;have e240:∀args w,(callFunc (J.f 240) args).run P w=.ok (.enter (J.f 240) args) w:=enters_of L.f240 oE rfl
 have hne:∀g,v.ownBlock=some g->g≠b:=by
  rintro g hg rfl;obtain⟨_,c,hc⟩:=hv.lt hg;rw[h]at hc;simp only[tc,bh,Obj.cells.injEq]at hc;exact X.neB5 hc.2.1
 go_enter L.f166,Body.n166_ntmps J
 go_wp2_with (go_at_fn (J.f 240);refine(CG {L with} X.toX72 h).mono ?_)
 rintro e w1 ⟨rfl,h1,hb1⟩;have hv1:ng (J.t 5) w1 v s:=hv.pk fun g hg=>hb1.block g (hv.lt hg).1 (fun e=>hne g hg (bM e))
 have c0:w1.cell? ⟨b,0,none⟩=some (.pointer (some ⟨b,0,none⟩)):=by rw[Lib.cell_of_heap h1];rfl
 have c1:w1.cell? ⟨b,1,none⟩=some v:=by rw[Lib.cell_of_heap h1];rfl
 have hsrc:Go.Src P 1 (J.t 9) (.string ⟨⟨s2⟩⟩) s2.length (iq s2) w1:=⟨.inr L.t9,fun _=>rfl,firstCells_string _ _,firstCells_string _ _,by rw[jh,Nat.mul_one],Ad s2⟩;have key:=fun ops rest o a Q hgd ho hs hx h=>BT (P:=P) (ops:=ops) (rest:=rest) (o:=o) (a:=a) (Q:=Q) hgd (.tmp 12) (.tmp 13) (J.t 37) (J.t 9) ho L.t37 hi hz0 hz1 hz2 (v:=v) (xv:=.string ⟨⟨s2⟩⟩) hs hx hv1 h0 hsrc hle h
 go_wp2_with (at_builtin;refine key _ _ _ _ _ rfl rfl rfl rfl ?_)
 clear key;intro g' t' w2 hown' hgrow hg' hlt';have hlt:b<w1.heap.size:=by
  rcases hY b w1.heap.size with h'|h'
  .exact h'
  .simp[Array.getElem?_eq_none h']at h1
 have B3:w2.heap[b]? =some (tc b true v (J.t 72)):=by
  rw[hgrow.block b hlt (fun e=>hne b e.symm rfl)];exact h1
 have hgb:g'≠b:=by
  rcases hg' with h'|h'
  .exact hne g' h'
  .omega
 have d0:w2.cell? ⟨b,0,none⟩=some (.pointer (some ⟨b,0,none⟩)):=by rw[Lib.cell_of_heap B3];rfl
 have d1:w2.cell? ⟨b,1,none⟩=some v:=by rw[Lib.cell_of_heap B3];rfl
 have f1:w2.frozen? ⟨b,1,none⟩=false:=Lib.frozen_of_heap B3 1
 go_wp2
 go_ret2
 have hsz:=hb1.size;refine⟨⟨_,rfl⟩, ?_⟩;unfold FY;simp only[bP]at hown'⊢;refine⟨g',t',by simp[World.setCell,Array.getElem?_modify,B3,tc],hown'.pk fun g hg=>Below.heap_setCell w2 ⟨b,1,none⟩ _ g (fun e=>hgb ((bM hg).trans e)),hg'.imp id (fun h=>ae),by simpa[World.setCell]using hlt',hgb,hgrow.os.trans hb1.os,hgrow.tape.trans hb1.tape,hgrow.output.trans hb1.output,by have:=hgrow.size;simp[World.setCell];omega,fun k hk h1' h2'=>?_⟩;rw[Below.heap_setCell w2 ⟨b,1,none⟩ _ k h1',hgrow.block k ae h2',hb1.block k hk (fun e=>h1' (bM e))]
set_option maxHeartbeats 2000000 in
set_option maxRecDepth 100000 in
theorem B6 (L:Lays.n167 P J)(X:Builder.Extra P J){b:Nat}{u:Bool}{v:Value}{s:List UInt8}{c:UInt8}{w:World}(h:w.heap[b]? =some (tc b u v (J.t 72)))(hv:ng (J.t 5) w v s)(hle:s.length+1<=1099511627776):
  Calls P (J.f 167) #[.pointer (some ⟨b,0,none⟩),.int .u8 c.toNat] w fun e w'=>(∃r,e=.returned r)/\FY (J.t 72) (J.t 5) b v.ownBlock (s++[c]) w w':=by
 obtain⟨i0,hi,hz0,hz1,hz2⟩:=info_parts X.infoByte;have mixed:=L.mixed;have t72:=L.t72;have a72:=L.a72;have z72:=L.z72;have v72:=L.v72;have u72:=run_underlying L.t72;have t70:=L.t70;have a70:=L.a70;have z70:=L.z70;have v70:=L.v70;have u70:=run_underlying L.t70;have t37:=L.t37;have a37:=L.a37;have z37:=L.z37;have v37:=L.v37;have u37:=run_underlying L.t37;have t9:=L.t9;have a9:=L.a9;have z9:=L.z9;have v9:=L.v9;have u9:=run_underlying L.t9;have t4:=L.t4;have a4:=L.a4;have z4:=L.z4;have v4:=L.v4;have u4:=run_underlying L.t4;have t164:=L.t164;have a164:=L.a164;have z164:=L.z164;have v164:=L.v164;have u164:=run_underlying L.t164;have t5:=L.t5;have a5:=L.a5;have z5:=L.z5;have v5:=L.v5;have u5:=run_underlying L.t5;have e240:∀args w,(callFunc (J.f 240) args).run P w=.ok (.enter (J.f 240) args) w:=enters_of L.f240 oE rfl
 have hne:∀g,v.ownBlock=some g->g≠b:=by
  rintro g hg rfl;obtain⟨_,c,hc⟩:=hv.lt hg;rw[h]at hc;simp only[tc,bh,Obj.cells.injEq]at hc;exact X.neB5 hc.2.1
 go_enter L.f167,Body.n167_ntmps J
 go_wp2_with (go_at_fn (J.f 240);refine(CG {L with} X.toX72 h).mono ?_)
 rintro e w1 ⟨rfl,h1,hb1⟩;have hv1:ng (J.t 5) w1 v s:=hv.pk fun g hg=>hb1.block g (hv.lt hg).1 (fun e=>hne g hg (bM e))
 have c0:w1.cell? ⟨b,0,none⟩=some (.pointer (some ⟨b,0,none⟩)):=by rw[Lib.cell_of_heap h1];rfl
 have c1:w1.cell? ⟨b,1,none⟩=some v:=by rw[Lib.cell_of_heap h1];rfl
 have key:=fun ob ops rest o a Q sl x hgd ho hs hx hv2 hsrc h=>BT (P:=P) (w:=w1.alloc ob) (ops:=ops) (rest:=rest) (o:=o) (a:=a) (Q:=Q) hgd sl x (J.t 37) (J.t 37) ho L.t37 hi hz0 hz1 hz2 (v:=v) (xv:=.slice (some ⟨w1.heap.size,0,none⟩) 1 1) (s:=s) (s2:=[c]) hs hx hv2 (List.cons_ne_nil _ _) hsrc hle h
 go_wp2_with (at_builtin;refine key _ _ _ _ _ _ _ _ rfl rfl rfl rfl (hv1.pk fun g hg=>Lib.alloc_old w1 _ g (hv1.lt hg).1) ?hs ?_)
 case hs=>
  refine Go.Src.ofSlice _ L.t37 ⟨w1.heap.size,0,none⟩ 1 1 _ rfl (fun j u hj=>?_) (Ad [c])
  match j,hj with
  |0,hj=>simp[iq]at hj;subst hj;simp[Addr.add]
 clear key;intro g' t' w2 hown' hgrow hg' hlt';have hlt:b<w1.heap.size:=by
  rcases hY b w1.heap.size with h'|h'
  .exact h'
  .simp[Array.getElem?_eq_none h']at h1
 have B3:w2.heap[b]? =some (tc b true v (J.t 72)):=by
  rw[hgrow.block b cY (fun e=>hne b e.symm rfl),Lib.alloc_old w1 _ b hlt];exact h1
 have hgb:g'≠b:=by
  rcases hg' with h'|h'
  .exact hne g' h'
  .omega
 have d0:w2.cell? ⟨b,0,none⟩=some (.pointer (some ⟨b,0,none⟩)):=by rw[Lib.cell_of_heap B3];rfl
 have d1:w2.cell? ⟨b,1,none⟩=some v:=by rw[Lib.cell_of_heap B3];rfl
 have f1:w2.frozen? ⟨b,1,none⟩=false:=Lib.frozen_of_heap B3 1
 go_wp2
 go_ret
 have hsz:=hb1.size;refine⟨⟨_,rfl⟩, ?_⟩;unfold FY;simp only[bP]at hown'⊢;refine⟨g',t',by simp[World.setCell,Array.getElem?_modify,B3,tc],hown'.pk fun g hg=>Below.heap_setCell w2 ⟨b,1,none⟩ _ g (fun e=>hgb ((bM hg).trans e)),hg'.imp id (fun h=>ae),by simpa[World.setCell]using hlt',hgb,hgrow.os.trans hb1.os,hgrow.tape.trans hb1.tape,hgrow.output.trans hb1.output,by have:=hgrow.size;simp at this;simp[World.setCell];omega,fun k hk h1' h2'=>?_⟩;rw[Below.heap_setCell w2 ⟨b,1,none⟩ _ k h1',hgrow.block k cY h2',Lib.alloc_old w1 _ k ae,hb1.block k hk (fun e=>h1' (bM e))]
set_option maxHeartbeats 1000000 in
set_option maxRecDepth 100000 in
theorem IX (L:Lays.n169 P J)(X:Builder.Extra P J){b g t:Nat}{u:Bool}{s:List UInt8}{w:World}(h:w.heap[b]? =some (tc b u (.slice (some ⟨g,0,none⟩) s.length t) (J.t 72)))(hv:ng (J.t 5) w (.slice (some ⟨g,0,none⟩) s.length t) s)(h0:s≠[]):
  Calls P (J.f 169) #[.pointer (some ⟨b,0,none⟩)] w fun e w'=>e=.returned (.string ⟨⟨s⟩⟩)/\w'.os=w.os/\w'.tape=w.tape/\w'.output=w.output/\w'.heap.size=w.heap.size/\∀k,k≠g->w'.heap[k]? =w.heap[k]? :=by
 have hl0:s.length≠0:=by simpa using h0
 obtain⟨c,hg,hcs,hcm,hle,hc⟩:∃c,w.heap[g]? =some (.cells c (J.t 5) (0,0))/\c.size=t/\t<=maxLen/\s.length<=t/\∀i,i<s.length->c.getD i undef=.int .u8 (s.getD i 0).toNat:=by
  rcases hv with⟨h1,_⟩|⟨g',t',c,h1,r⟩
  .cases h1
  .simp only[Value.slice.injEq,bh,Addr.mk.injEq]at h1;obtain⟨⟨rfl,_⟩,_,rfl⟩:=h1;exact⟨c,r⟩
 have c1:w.drew.cell? ⟨b,1,none⟩=some (.slice (some ⟨g,0,none⟩) s.length t):=by
  have:w.drew.heap[b]? =some (tc b u (.slice (some ⟨g,0,none⟩) s.length t) (J.t 72)):=h;rw[Lib.cell_of_heap this];rfl
 have hSD:(Builtin.unsafeSliceData_ #[(J.t 37)] (J.t 127) #[.slice (some ⟨g,0,none⟩) s.length t]).run P w.drew=.ok (.pointer (some ⟨g,0,none⟩)) w.drew:=
  Lib.run_unsafeSliceData_row _ _ _ _ _ _ ae
 have hUS:(Builtin.unsafeString_ #[(J.t 127),(J.t 3)] (J.t 9) #[.pointer (some ⟨g,0,none⟩),.int .i64 s.length]).run P w.drew=.ok (.string ⟨s.toArray⟩) (w.drew.freeze ⟨g,0,none⟩ s.length):=by
  refine Lib.run_unsafeString_row w.drew (J.t 127) (J.t 3) (J.t 9) (J.t 5) L.t127 X.cellsByte g c.size (by have hg':w.drew.heap[g]? =some (.cells c (J.t 5) (0,0)):=hg;simp[World.shape?,hg']) s h0 ae (by unfold maxLen at hcm;omega) ?_;intro j x hx;have hj:=(List.getElem?_eq_some_iff.1 hx).1;have hg':w.drew.heap[g]? =some (.cells c (J.t 5) (0,0)):=hg;rw[Addr.yg,cell_of_heap hg' ae,bQ,hc j hj];simp[List.getD,hx]
 have mixed:=L.mixed;have t72:=L.t72;have a72:=L.a72;have z72:=L.z72;have v72:=L.v72;have u72:=run_underlying L.t72;have t70:=L.t70;have a70:=L.a70;have z70:=L.z70;have v70:=L.v70;have u70:=run_underlying L.t70;have t37:=L.t37;have a37:=L.a37;have z37:=L.z37;have v37:=L.v37;have u37:=run_underlying L.t37;have t127:=L.t127;have a127:=L.a127;have z127:=L.z127;have v127:=L.v127;have u127:=run_underlying L.t127;have t3:=L.t3;have a3:=L.a3;have z3:=L.z3;have v3:=L.v3;have u3:=run_underlying L.t3;have t9:=L.t9;have a9:=L.a9;have z9:=L.z9;have v9:=L.v9;have u9:=run_underlying L.t9;have t5:=X.t5;have a5:=X.a5;have z5:=X.z5;have v5:=X.v5;have u5:=run_underlying X.t5
 go_enter L.f169,Body.n169_ntmps J
 go_wp2
 go_region_o
 all_goals (go_wp2;go_ret;exact⟨rfl,I9 _ _ _⟩)
end
end
section
open Go.Proofs Go.Shelf Go.RowKit
section
variable [dR] {P:Program} {ν:List (Nat×Nat)} {c7:List Nat} {Y:Ctx} {x:X}
def IW {m:List (Nat×bW)}{l:Nat}{t:List UInt8}{v:Value}(hs:gv ν x (look m))(hb:tl m l t)(hv:RD ν x v (.ptr l 2 0 0)):
  ∃b tot u w,v=.pointer (some ⟨b,0,none⟩)/\x.β l=some (b,0,tot)/\¬x.I b/\x.w.heap[b]? =some (tc b u w dR.tB)/\ng dR.tU x.w w t/\
   (w.ownBlock=none/\gw m l=m\/∃l2 g t2,w=.slice (some ⟨g,0,none⟩) t.length t2/\x.β l2=some (g,0,t2)/\¬x.I g/\look m l2=some (.row t)/\l2≠l/\gw m l=cH m l2):=by
 cases hv with
 |ptr _ _ _ _ b base tot at_ hβ hat=>
  rcases hb with⟨u,h1,rfl⟩|⟨l2,u,h1,h2⟩
  .obtain⟨o1,rfl,w,o2,_,rfl⟩:=hs.own l _ b base tot h1 hβ;simp only[Nat.zero_mul,Nat.add_zero]at hat;subst hat;exact⟨b,tot,u,_,rfl,hβ,o1,o2,.inl ⟨rfl,rfl⟩,.inl ⟨rfl,by simp only[gw,h1]⟩⟩
  .obtain⟨o1,rfl,w,o2,g,t2,rfl,o3,o4⟩:=hs.own l _ b base tot h1 hβ;simp only[Nat.zero_mul,Nat.add_zero]at hat;subst hat;obtain⟨p1,_,c,p2,p3,p4,p5,p6⟩:=hs.own l2 _ g 0 t2 h2 o4;have hne:l2≠l:=by rintro rfl;rw[h1]at h2;cases h2
   exact⟨b,tot,u,_,rfl,hβ,o1,o2,.inr ⟨g,t2,c,rfl,p2,p3,p4,p5,p6⟩,.inr ⟨l2,g,t2,rfl,o4,p1,h2,hne,by simp only[gw,h1]⟩⟩
def D3 {st:St}{l:Nat}{t s:List UInt8}{b tot:Nat}{w:Value}{w':World}(hs:gv ν x (look st.m))(hf:gp st x)(hlive:look st.m l≠none)(hl:l<st.nx)
  (hβ:x.β l=some (b,0,tot)) (hI:¬x.I b)
  (hrow:w.ownBlock=none/\gw st.m l=st.m\/∃l2 g t2,w=.slice (some ⟨g,0,none⟩) t.length t2/\x.β l2=some (g,0,t2)/\¬x.I g/\look st.m l2=some (.row t)/\l2≠l/\gw st.m l=cH st.m l2)
  (hw:FY dR.tB dR.tU b w.ownBlock s x.w w'):
  ∃x':X,x'.w=w'/\Step x x'/\gv ν x' (look (ri st.m l st.nx s))/\gp ⟨st.nx+1,ri st.m l st.nx s⟩ x':=by
 obtain⟨g',t',h1,h2,h3,h4,h5,k1,k2,k3,k4,k5⟩:=hw;have hn:=hf.β st.nx (aL _)

 have hg:∀g,w.ownBlock=some g->∃l2 t2,x.β l2=some (g,0,t2)/\¬x.I g/\look st.m l2=some (.row t)/\l2≠l/\gw st.m l=cH st.m l2:=by
  intro g hg;rcases hrow with⟨h,_⟩|⟨l2,g0,t2,rfl,q⟩
  .rw[h]at hg;cases hg
  .obtain rfl:=bM hg;exact⟨l2,t2,q⟩
 have hlook:∀l' blk,l'≠l->look (gw st.m l) l'=some blk->look st.m l'=some blk/\∀g,w.ownBlock=some g->∀p,x.β l'=some p->p.1≠g:=by
  intro l' blk hl' hk;rcases hrow with⟨h,e⟩|⟨l2,g0,t2,rfl,q1,q2,q3,q4,e⟩
  .rw[e]at hk;exact⟨hk,fun g hg=>by rw[h]at hg;cases hg⟩
  .rw[e,fT]at hk;split at hk
   .cases hk
   .rename_i hne;refine⟨hk,fun g hg p hp e=>?_⟩;obtain rfl:=bM hg;obtain⟨b',base',tot'⟩:=p;simp only at e;subst e;exact hne (hs.inj l' l2 _ _ _ _ _ (by rw[hk];simp) (by rw[q3];simp) hp q1)
 have hbg:∀l' p,x.β l'=some p->p.1<x.w.heap.size:=fun l' ⟨b',base',tot'⟩ hp=>hs.e8 l' b' base' tot' hp
 have hkeep:∀k,k<x.w.heap.size->k≠b->some k≠w.ownBlock->w'.heap[k]? =x.w.heap[k]? :=k5
 let x':X:=⟨w',x.I,eU x.β st.nx (g',0,t')⟩
 have hst:Step x x':=by
  refine⟨k1,k2,k3,k4,fun _ h=>h,fun k hk=>hkeep k (hs.imm k hk) (fun e=>hI (e▸hk)) (fun e=>?_),fun l' p hp=>?_,fun k hk hn'=>hkeep k hk (fun e=>hn' l _ hβ e.symm) (fun e=>?_),fun _ h=>.inl h,fun l' p hp=>?_⟩
  .obtain⟨l2,t2,q1,q2,_⟩:=hg k e.symm;exact q2 hk
  .have:l'≠st.nx:=fun e=>by rw[e,hn]at hp;cases hp
   simp[x',eU,this,hp]
  .obtain⟨l2,t2,q1,_⟩:=hg k e.symm;exact hn' l2 _ q1 rfl
  .by_cases e1:l'=st.nx
   .simp only[x',eU,e1,aW,bh]at hp;subst hp;rcases h3 with h3|h3
    .obtain⟨l2,t2,q1,_⟩:=hg g' h3;exact .inr (.inr ⟨l2,_,q1,rfl⟩)
    .exact .inr (.inl h3)
   .simp only[x',eU,e1,aX]at hp;exact .inl hp
 have hle:=hst.le;have hlm:∀l',look (ri st.m l st.nx s) l'=if l'=st.nx then some (.row s)else if l'=l then some (.bld (some st.nx) s.length true)else look (gw st.m l) l':=by
  intro l';simp only[ri,look];by_cases e:l'=st.nx
  .rw[aw e.symm,aw e]
  .rw[ak (fun h=>e h.symm),ak e,cJ]
 have hfr:∀l' p,l'≠st.nx->x.β l'=some p->l'≠l->look (gw st.m l) l'≠none->p.1≠g':=by
  intro l' p hl' hp hne hk e;cases hq:look (gw st.m l) l' with
  |none=>exact hk hq
  |some blk=>
   rcases h3 with h3|h3
   .exact(hlook l' blk hne hq).2 g' h3 p hp e
   .have:=hbg l' p hp;omega
 refine⟨x',rfl,hst,⟨fun l' blk b' base' tot' e1 e2=>?_,fun l1 l2 b' base1 tot1 base2 tot2 e1 e2 e3 e4=>?_,fun k hk=>fm (hs.imm k hk) k4,fun l' b' base' tot' e=>?_,rE hle hs.gd⟩,⟨fun l' hl'=>?_,fun l' hl'=>?_⟩⟩
 .rw[hlm]at e1;by_cases c1:l'=st.nx
  .rw[aw c1]at e1;simp only[x',eU,aw c1,bh,eG]at e2;obtain⟨rfl,rfl,rfl⟩:=e2;obtain rfl:=bM e1;refine⟨fun h=>?_,rfl, ?_⟩
   .rcases h3 with h3|h3
    .obtain⟨l2,t2,_,q2,_⟩:=hg g' h3;exact q2 h
    .have:=hs.imm g' h;omega
   .rcases h2 with⟨h2,_⟩|⟨g2,t2,c,h2,r⟩
    .cases h2
    .simp only[Value.slice.injEq,bh,Addr.mk.injEq]at h2;obtain⟨⟨rfl,_⟩,_,rfl⟩:=h2;exact⟨c,r⟩
  .rw[ak c1]at e1;simp only[x',eU,ak c1]at e2;by_cases c2:l'=l
   .subst c2;rw[aw rfl]at e1;rw[hβ]at e2;simp only[bh,eG]at e2;obtain⟨rfl,rfl,rfl⟩:=e2;obtain rfl:=bM e1;refine⟨hI,rfl,_,h1,g',t',rfl, ?_,by simp[x',eU]⟩;rcases h2 with⟨h2,_⟩|⟨g2,t2,c,h2,_,_,_,r,_⟩
    .cases h2
    .simp only[Value.slice.injEq]at h2;obtain⟨_,_,rfl⟩:=h2;exact r
   .rw[ak c2]at e1;obtain⟨q1,q2⟩:=hlook l' blk c2 e1;obtain⟨o1,o2⟩:=hs.own l' blk b' base' tot' q1 e2;refine⟨o1,o2.mono hle (hkeep b' (hs.e8 _ _ _ _ e2) (fun e=>?_) (fun e=>q2 b' e.symm _ e2 rfl))⟩;subst e;exact c2 (hs.inj l' l _ _ _ _ _ (by rw[q1];simp) hlive e2 hβ)
 .rw[hlm]at e1 e2;by_cases c1:l1=st.nx
  .by_cases c2:l2=st.nx
   .rw[c1,c2]
   .exfalso;rw[ak c2]at e2;simp only[x',eU,aw c1,bh,eG]at e3;simp only[x',eU,ak c2]at e4;obtain⟨rfl,_⟩:=e3;by_cases c3:l2=l
    .subst c3;rw[hβ]at e4;simp only[bh,eG]at e4;exact h5 e4.1.symm
    .rw[ak c3]at e2;exact hfr l2 _ c2 e4 c3 e2 rfl
  .rw[ak c1]at e1;simp only[x',eU,ak c1]at e3;by_cases c2:l2=st.nx
   .exfalso;simp only[x',eU,aw c2,bh,eG]at e4;obtain⟨rfl,_⟩:=e4;by_cases c3:l1=l
    .subst c3;rw[hβ]at e3;simp only[bh,eG]at e3;exact h5 e3.1.symm
    .rw[ak c3]at e1;exact hfr l1 _ c1 e3 c3 e1 rfl
   .rw[ak c2]at e2;simp only[x',eU,ak c2]at e4;have live:∀l',(if l'=l then some (bW.bld (some st.nx) s.length true)else look (gw st.m l) l')≠none->look st.m l'≠none:=by
     intro l' h;by_cases c:l'=l
     .rw[c];exact hlive
     .rw[ak c]at h;cases hq:look (gw st.m l) l' with
      |none=>exact absurd hq h
      |some blk=>rw[(hlook l' blk c hq).1];simp
    exact hs.inj l1 l2 b' base1 tot1 base2 tot2 (live l1 e1) (live l2 e2) e3 e4
 .by_cases c1:l'=st.nx
  .simp only[x',eU,aw c1,bh,eG]at e;obtain⟨rfl,_⟩:=e;exact h4
  .simp only[x',eU,ak c1]at e;exact fm (hs.e8 _ _ _ _ e) k4
 .have hl':st.nx+1<=l':=hl';simp only[x',eU,ak (show ¬l'=st.nx by omega)];exact hf.β l' ae
 .show l'<st.nx+1;simp only[hlm]at hl';by_cases c1:l'=st.nx
  .omega
  .rw[ak c1]at hl';by_cases c2:l'=l
   .omega
   .rw[ak c2]at hl';cases hq:look (gw st.m l) l' with
    |none=>exact absurd hq hl'
    |some blk=>have:=hf.m l' (by rw[(hlook l' blk c2 hq).1];simp);omega
def tl.live {m:List (Nat×bW)}{l:Nat}{t:List UInt8}(h:tl m l t):look m l≠none:=by
 rcases h with⟨u,h,_⟩|⟨l2,u,h,_⟩<;>rw[h]<;>simp
variable {J:Ren}
def QG {args:Array Value}(h:args.size=2):args=#[args.getD 0 undef,args.getD 1 undef]:=by
 apply Array.ext
 .simpa using h
 .intro i h1 h2
  match i,h1 with
  |0,h1=>simp[Array.getD,h1]
  |1,h1=>simp[Array.getD,h1]
  |i+2,h1=>omega
def Yc {args:Array Value}(h:args.size=1):args=#[args.getD 0 undef]:=by
 apply Array.ext
 .simpa using h
 .intro i h1 h2
  match i,h1 with
  |0,h1=>simp[Array.getD,h1]
  |i+1,h1=>omega
def UX (hB:dR.tB=J.t 72)(hU:dR.tU=J.t 5)(L:Lays.n166 P J)(X':Builder.Extra P J)(hen:∀args w,(callFunc (J.f 166) args).run P w=.ok (.enter (J.f 166) args) w):Qz P ν Y c7 trWS (J.f 166):=by
 rintro ds st K ⟨s,l,t,rfl,hb,hl,h0,hle,hK⟩ hok x args hl2 hargs hs hf;obtain⟨b,tot,u,w,e0,hβ,hI,hh,hv,hrow⟩:=IW hs hb (hargs 0 aJ);have h1:=hargs 1 aJ;simp only[List.getD_cons_succ,jt]at h1;obtain⟨e1,hm⟩:=h1.ja;rw[hB]at hh;rw[hU]at hv;refine .inr ⟨J.f 166,args,hen args x.w, ?_⟩;rw[QG (args:=args) (by simpa using hl2),e0,e1];refine(yh L X' hh hv h0 hm hle).mono ?_;rintro e w' ⟨⟨r,rfl⟩,hw⟩;rw[<-hB,<-hU]at hw;obtain⟨x',q1,q2,q3,q4⟩:=D3 hs hf hb.live hl hβ hI hrow hw;exact⟨x',q1,.any,_,hK,q2,.any _,q3,q4⟩
def UW (hB:dR.tB=J.t 72)(hU:dR.tU=J.t 5)(L:Lays.n167 P J)(X':Builder.Extra P J)(hen:∀args w,(callFunc (J.f 167) args).run P w=.ok (.enter (J.f 167) args) w):Qz P ν Y c7 trWB (J.f 167):=by
 rintro ds st K ⟨c,l,t,rfl,hb,hl,h0,hle,hK⟩ hok x args hl2 hargs hs hf;obtain⟨b,tot,u,w,e0,hβ,hI,hh,hv,hrow⟩:=IW hs hb (hargs 0 aJ);have h1:=hargs 1 aJ;simp only[List.getD_cons_succ,jt]at h1;have e1:=h1.dW;rw[hB]at hh;rw[hU]at hv;refine .inr ⟨J.f 167,args,hen args x.w, ?_⟩;rw[QG (args:=args) (by simpa using hl2),e0,e1];refine(B6 L X' hh hv hle).mono ?_;rintro e w' ⟨⟨r,rfl⟩,hw⟩;rw[<-hB,<-hU]at hw;obtain⟨x',q1,q2,q3,q4⟩:=D3 hs hf hb.live hl hβ hI hrow hw;exact⟨x',q1,.any,_,hK,q2,.any _,q3,q4⟩
def UU (hB:dR.tB=J.t 72)(hU:dR.tU=J.t 5)(L:Lays.n169 P J)(X':Builder.Extra P J)(hen:∀args w,(callFunc (J.f 169) args).run P w=.ok (.enter (J.f 169) args) w):Qz P ν Y c7 trBS (J.f 169):=by
 rintro ds st K ⟨l,t,rfl,hb,h0,hK⟩ hok x args hl2 hargs hs hf;obtain⟨b,tot,u,w,e0,hβ,hI,hh,hv,hrow⟩:=IW hs hb (hargs 0 aJ);rcases hrow with⟨hn,_⟩|⟨l2,g,t2,rfl,q1,q2,q3,q4,q5⟩
 .exfalso;rcases hv with⟨_,h⟩|⟨g,t',c,rfl,_⟩
  .exact h0 h
  .cases hn
 rw[hB]at hh;rw[hU]at hv;have htm:t.length<=maxLen:=by
  rcases hv with⟨_,rfl⟩|⟨g',t',c,h1,_,_,h4,h5,_⟩
  .exact absurd rfl h0
  .omega
 refine .inr ⟨J.f 169,args,hen args x.w, ?_⟩;rw[Yc (args:=args) (by simpa using hl2),e0];refine(IX L X' hh hv h0).mono ?_;rintro e w' ⟨rfl,k1,k2,k3,k4,k5⟩;have hkeep:∀k,(∀l' p,look (cH (gw st.m l) l) l'≠none->x.β l'=some p->p.1=k->False)->True:=fun _ _=>trivial
 have hst:Step x ⟨w',x.I,x.β⟩:=⟨k1,k2,k3,Nat.le_of_eq k4.symm,fun _ h=>h,fun k hk=>k5 k (fun e=>q2 (e▸hk)),fun _ _ h=>h,fun k hk hn=>k5 k (fun e=>hn l2 _ q1 e.symm),fun _ h=>.inl h,fun _ _ h=>.inl h⟩;have hlm:∀l',look (cH (gw st.m l) l) l'=if l'=l then none else if l'=l2 then none else look st.m l':=fun l'=>by rw[fT,q5,fT]
 refine⟨⟨w',x.I,x.β⟩,rfl,.str t,_,hK,hst,.str t htm,⟨fun l' blk b' base' tot' e1 e2=>?_,fun l1 l3 b' base1 tot1 base2 tot2 e1 e2 e3 e4=>?_,fun k hk=>by show k<w'.heap.size;rw[k4];exact hs.imm k hk,fun l' b' base' tot' e=>by show b'<w'.heap.size;rw[k4];exact hs.e8 _ _ _ _ e,rE hst.le hs.gd⟩,⟨hf.β,fun l' hl'=>?_⟩⟩
 .rw[hlm]at e1;split at e1
  .cases e1
  split at e1
  .cases e1
  rename_i c1 c2;obtain⟨o1,o2⟩:=hs.own l' blk b' base' tot' e1 e2;refine⟨o1,o2.mono hst.le (k5 b' (fun e=>c2 ?_))⟩;subst e;exact hs.inj l' l2 _ _ _ _ _ (by rw[e1];simp) (by rw[q3];simp) e2 q1
 .have live:∀l',look (cH (gw st.m l) l) l'≠none->look st.m l'≠none:=by
   intro l' h;rw[hlm]at h;split at h
   .exact absurd rfl h
   split at h
   .exact absurd rfl h
   .exact h
  exact hs.inj l1 l3 b' base1 tot1 base2 tot2 (live l1 e1) (live l3 e2) e3 e4
 .simp only[hlm]at hl';split at hl'
  .exact absurd rfl hl'
  split at hl'
  .exact absurd rfl hl'
  .exact hf.m l' hl'
end
end
section
open Go.Proofs
def SD:Nat:=3
def xQ:Tryz.prog.globalNamed "internal/strconv.uint64pow10" =some SD:=oE
instance seatGlob:dR where
 tB:=60
 tU:=5
 gd x:=(x.I 0/\∃m,x.w.cell? ⟨0,0,none⟩=some (.int .i64 m))/\x.I SD/\Lib.TabIs Tryz.prog x.w "internal/strconv.uint64pow10" .u64 Lib.pow10Tab
 le x x' hI hk h:=by
  obtain⟨⟨h1,m,h2⟩,h3,h4⟩:=h;refine⟨⟨hI _ h1,m,pA (hk _ h1) h2⟩,hI _ h3, ?_⟩;unfold Lib.TabIs World.var? at h4⊢;rw[xQ]at h4⊢;simp only[Option.bind_some]at h4⊢;rw[hk _ h3];exact h4
def sL {fid:Nat}{x:X}{args:Array Value}{d:D}(hn:(Tryz.prog.funcs[fid]?).map (fun f=>f.name== "runtime.NumGoroutine" ||!f.body.isSome)=some false)
  (himm:∀b,x.I b->b<x.w.heap.size)
  (hc:Calls Tryz.prog fid args x.w fun e w'=>∃v,e=.returned v/\gU x.w w'/\∃I:Nat->Prop,(∀b,x.I b->I b)/\(∀b,I b->x.I b\/x.w.heap.size<=b/\b<w'.heap.size)/\RD xK ⟨w',I,x.β⟩ v d):
  jP Tryz.prog x (fun v x'=>nW x x'/\RD xK x' v d) ((callFunc fid args).run Tryz.prog x.w):=by
 cases h:Tryz.prog.funcs[fid]? with
 |none=>rw[h]at hn;cases hn
 |some fn=>
  rw[h]at hn;have h2:(fn.name== "runtime.NumGoroutine" ||!fn.body.isSome)=false:=bM hn;rw[dd,bK]at h2;refine .inr ⟨fid,args,ji h h2.1 h2.2 args x.w,Calls.mono hc fun e w' he=>?_⟩;obtain⟨v,rfl,hg,I,h3,h4,hr⟩:=he;refine⟨⟨w',I,x.β⟩,rfl,⟨hg,h3,fun b hb=>(h4 b hb).imp id And.left,fun b hb=>?_,rfl⟩,hr⟩;rcases h4 b hb with h5|h5
  .exact fm (himm b h5) hg.size
  .exact h5.2
def Jb (w:World):∀n,gU w (w.drewN n)
 |n=>⟨rfl,rfl,rfl,aL _,fun _ _=>rfl⟩
def ko {fid:Nat}{x:X}{args:Array Value}{d:D}{v:Value}(hn:(Tryz.prog.funcs[fid]?).map (fun f=>f.name== "runtime.NumGoroutine" ||!f.body.isSome)=some false)
  (himm:∀b,x.I b->b<x.w.heap.size) (hc:Calls Tryz.prog fid args x.w fun e w'=>e=.returned v/\gU x.w w') (hr:∀x',RD xK x' v d):
  jP Tryz.prog x (fun v x'=>nW x x'/\RD xK x' v d) ((callFunc fid args).run Tryz.prog x.w):=
 sL hn himm (Calls.mono hc fun e w' ⟨h1,h2⟩=>⟨v,h1,h2,x.I,fun _ h=>h,fun _ h=>.inl h,hr _⟩)
def fG {x:X}{v:Value}{s:au}(h:RD xK x v (.str s)):v=.string ⟨⟨s⟩⟩/\s.length<=maxLen:=by
 cases h with
 |str s h=>exact⟨rfl,h⟩
def yK {x:X}{v:Value}{k:IntKind}{n:Int}(h:RD xK x v (.int k n)):v=.int k n:=by
 cases h with
 |int k n=>rfl
def zW {args:Array Value}(h:args.size=2):args=#[args.getD 0 undef,args.getD 1 undef]:=by
 obtain⟨l⟩:=args
 match l,h with
 |[a,b],_=>rfl
def args3 {args:Array Value}(h:args.size=3):args=#[args.getD 0 undef,args.getD 1 undef,args.getD 2 undef]:=by
 obtain⟨l⟩:=args
 match l,h with
 |[a,b,c],_=>rfl
def Wu {args:Array Value}(h:args.size=1):args=#[args.getD 0 undef]:=by
 obtain⟨l⟩:=args
 match l,h with
 |[a],_=>rfl
def LL {x:X}{a b:Value}{d e:D}(h1:RD xK x a d)(h2:RD xK x b e):RD xK x (.tuple #[a,b]) (.tup [d,e]):=by
 refine .tup _ _ rfl fun i hi=>?_
 match i,hi with
 |0,_=>exact h1
 |1,_=>exact h2
def VG {x:X}{a b c:Value}{d e f:D}(h1:RD xK x a d)(h2:RD xK x b e)(h3:RD xK x c f):RD xK x (.tuple #[a,b,c]) (.tup [d,e,f]):=by
 refine .tup _ _ rfl fun i hi=>?_
 match i,hi with
 |0,_=>exact h1
 |1,_=>exact h2
 |2,_=>exact h3
def uq {x:X}(s:au)(h:s.length<=4294967296):RD xK x (.string ⟨s.toArray⟩) (.str s):=.str s (by simp only[maxLen];omega)
def N5 (s:au)(b:UInt8):(iu s b).2.1.length<=s.length:=by
 unfold iu;split<;>simp
def E487:Ow 69 487:=by
 refine bw rfl ?_;rintro s b hp hok x args hl hargs hnl himm ⟨⟨_,m,hm⟩,_⟩;obtain⟨h0,hs⟩:=fG (hargs 0 aJ);obtain⟨h1,_⟩:=fG (hargs 1 aJ);rw[zW hl,h0,h1];refine ko oE himm (Calls.mono (Tryz.strings_Cut ⟨⟨s⟩⟩ ⟨⟨[b]⟩⟩ m x.w (by show s.length<_;omega) hm) fun e w' ⟨h1,n,h2⟩=>⟨h1,h2▸Jb _ n⟩) (fun x'=>?_);have hc:Lib.cut (⟨⟨s⟩⟩:ByteArray).data.toList (⟨⟨[b]⟩⟩:ByteArray).data.toList=iu s b:=Yk s b;rw[hc];have:=(QX s b).1;have:=N5 s b;exact VG (uq _ ae) (uq _ ae) (.bool _)
def E254:Ow 30 254:=by
 refine bw rfl ?_;rintro s p hp hp2 hok x args hl hargs hnl himm _;obtain⟨h0,hs⟩:=fG (hargs 0 aJ);obtain⟨h1,_⟩:=fG (hargs 1 aJ);rw[zW hl,h0,h1];refine ko oE himm (Calls.mono (Tryz.strings_CutPrefix ⟨⟨s⟩⟩ ⟨⟨p⟩⟩ x.w) fun e w' ⟨h1,h2⟩=>⟨h1,h2▸gU.refl _⟩) (fun x'=>?_);have hc:(Lib.trimPrefix s p,Lib.hasPrefix s p)=cU s p:=N7 s p;have:=I1 s p;rw[<-hc]at this⊢;have h9:(Lib.trimPrefix s p).length<=s.length:=this;exact LL (uq (Lib.trimPrefix s p) ae) (.bool _)
def E336:Ow 183 336:=by
 refine bw rfl ?_;rintro n hp hok x args hl hargs hnl himm ⟨_,_,ht⟩;have h0:=yK (hargs 0 aJ);rw[Wu hl,h0];refine ko oE himm (Calls.mono (Tryz.strconv_Itoa n ae ae x.w ht) fun e w' ⟨h1,k,os,h2⟩=>⟨h1, ?_⟩) (fun x'=>?_)
 .subst h2;refine⟨rfl,rfl,rfl,by simp[Sort.grow],fun b hb=>?_⟩;show(x.w.heap++os)[b]? =x.w.heap[b]?;rw[Array.getElem?_append,aw hb]
 .rw[Vd hp.1];have:=eJ 4 n.toNat ae ae;exact uq _ ae
def qB {fid:Nat}{x:X}{args:Array Value}{ts:List ByteArray}{cap:Nat}{ty:TypeId}{L:List au}(hn:(Tryz.prog.funcs[fid]?).map (fun f=>f.name== "runtime.NumGoroutine" ||!f.body.isSome)=some false)(himm:∀b,x.I b->b<x.w.heap.size)
  (hL:ts.map (fun t=>t.data.toList)=L) (hcap:ts.length<=cap) (hm:cap<=maxLen) (hs:∀t∈L,t.length<=maxLen)
  (hc:Calls Tryz.prog fid args x.w fun e w'=>e=.returned (.slice (some ⟨x.w.heap.size,0,none⟩) ts.length cap)/\w'=x.w.alloc (.cells (Lib.cellsOf ts cap) ty)):
  jP Tryz.prog x (fun v x'=>nW x x'/\RD xK x' v (.sl 1 (L.map D.str))) ((callFunc fid args).run Tryz.prog x.w):=by
 refine sL hn himm (Calls.mono hc fun e w' ⟨h1,h2⟩=>?_);subst h2;refine⟨_,h1,gU.alloc _ _,fun q=>x.I q\/q=x.w.heap.size,fun _ h=>.inl h,fun q hq=>hq.imp id fun h=>⟨ae,by rw[h];show _<(x.w.heap.push _).size;simp⟩, ?_⟩;have hsl:L.length=ts.length:=by rw[<-hL];simp
 have hget:∀i,i<ts.length->(L.map D.str).getD i .any=.str (ts.getD i default).data.toList:=fun i hi=>by
  rw[<-hL];simp[hi]
 refine .sl _ x.w.heap.size 0 ts.length cap 1 _ (fun i _=>.string (ts.getD i default)) (by simp[hsl]) (.inr ⟨rfl,.inr rfl⟩) hcap hm (fun i hi=>by rw[hget i hi];rfl) (fun i hi=>by rw[hget i hi];rfl) (fun i j hi hj=>?_) (fun i j hi hj=>rfl) (fun i j hi hj=>?_)
 .obtain rfl:j=0:=ae;have:=eV x.w (.cells (Lib.cellsOf ts cap) ty);refine(cell_of_heap (c:=Lib.cellsOf ts cap) (T:=ty) (fr:=(0,0)) this (by rw[Lib.cellsOf_size hcap];omega)).trans ?_;have hi2:i<(ts.map Value.string).length:=by simpa using hi
  simp only[Lib.cellsOf];simp[hi,List.getElem?_append_left hi2]
 .obtain rfl:j=0:=ae;rw[hget i hi];show RD xK _ (.string (ts.getD i default)) (.str (ts.getD i default).data.toList);generalize hq:ts.getD i default=q;have hmem:q.data.toList∈L:=by
   rw[<-hL];refine ey.2 ⟨q, ?_,rfl⟩;rw[<-hq];simp[hi]
  have:=hs _ hmem;obtain⟨⟨ql⟩⟩:=q;exact .str ql this
def DI {x:X}{s p:au}{m:Int}{L:List au}(hL:∀ts,ts=Lib.splitB ⟨⟨p⟩⟩ 0 (Lib.countB ⟨⟨s⟩⟩ ⟨⟨p⟩⟩) ⟨⟨s⟩⟩->ts.map (fun t=>t.data.toList)=L)(himm:∀b,x.I b->b<x.w.heap.size)(h1:1<=p.length)(hs:s.length<=1048576)(hl:L.length<=1048577)(hb:∀t∈L,t.length<=1048576)
  (hm:x.w.cell? ⟨0,0,none⟩=some (.int .i64 m)):jP Tryz.prog x (fun v x'=>nW x x'/\RD xK x' v (.sl 1 (L.map D.str))) ((callFunc 67 #[.string ⟨⟨s⟩⟩,.string ⟨⟨p⟩⟩]).run Tryz.prog x.w):=by
 have h2:1<=(⟨⟨p⟩⟩:ByteArray).size:=h1;have hlen:=Lib.splitB_all ⟨⟨p⟩⟩ h2 0 _ (⟨⟨s⟩⟩:ByteArray) rfl;have hc:=Tryz.strings_Split ⟨⟨s⟩⟩ ⟨⟨p⟩⟩ m x.w (by show s.length<_;omega) hm h2;rw[<-hlen,<-Lib.cellsOf_full]at hc;have hL2:=hL _ rfl;have hle:(Lib.splitB ⟨⟨p⟩⟩ 0 (Lib.countB ⟨⟨s⟩⟩ ⟨⟨p⟩⟩) ⟨⟨s⟩⟩).length<=maxLen:=by
  have:L.length=(Lib.splitB ⟨⟨p⟩⟩ 0 (Lib.countB ⟨⟨s⟩⟩ ⟨⟨p⟩⟩) ⟨⟨s⟩⟩).length:=by rw[<-hL2];simp
  simp only[maxLen];omega
 exact qB oE himm hL2 (aL _) hle (fun t ht=>by have:=hb t ht;simp only[maxLen];omega) hc
def xf:∀(s cur:au),(aR s cur).length<=s.length+1/\∀t∈aR s cur,t.length<=cur.length+s.length
 |[],cur=>by simp[aR]
 |[c],cur=>by simp[aR]
 |c::d::r,cur=>by
  unfold aR;split
  .obtain⟨h1,h2⟩:=xf r [];refine⟨by simp only[aP];omega,fun t ht=>?_⟩;rcases ca.1 ht with rfl|ht
   .omega
   .have:=h2 t ht;simp only[aP,a8]at this⊢;omega
  .obtain⟨h1,h2⟩:=xf (d::r) (cur++[c]);refine⟨by simp only[aP]at h1⊢;omega,fun t ht=>?_⟩;have:=h2 t ht;simp only[bP,aP,a8]at this⊢;omega
def E124:Ow 67 124:=by
 refine bw rfl ⟨?_, ?_⟩
 .rintro s b hp hok x args hl hargs hnl himm ⟨⟨_,m,hm⟩,_⟩;obtain⟨h0,hs⟩:=fG (hargs 0 aJ);obtain⟨h1,_⟩:=fG (hargs 1 aJ);rw[zW hl,h0,h1];have:=dk s b.toNat;exact DI (fun ts e=>by rw[e];exact DC b _ (⟨⟨s⟩⟩:ByteArray) rfl) himm (aL 1) hp ae (fun t ht=>dm (dS s b.toNat ht) hp) hm
 .rintro s hp hok x args hl hargs hnl himm ⟨⟨_,m,hm⟩,_⟩;obtain⟨h0,hs⟩:=fG (hargs 0 aJ);obtain⟨h1,_⟩:=fG (hargs 1 aJ);rw[zW hl,h0,h1];obtain⟨q1,q2⟩:=xf s [];exact DI (fun ts e=>by rw[e];exact PU _ (⟨⟨s⟩⟩:ByteArray) rfl) himm aF hp ae (fun t ht=>by have:=q2 t ht;simp only[a8]at this;omega) hm
def Uw (n:Nat)(h:1<=n)(s:au):(qQ n (ai s 32)).length<=s.length+1/\∀t∈qQ n (ai s 32),t.length<=s.length:=by
 have hl:=dk s 32;have hj:aS [32] (ai s 32)=s:=by
  have:=kV 32 s [];simpa[ai]using this
 unfold qQ;split
 .exact⟨hl,fun t ht=>dS s 32 ht⟩
 .rename_i hn;refine⟨by simp only[bP,er,aP,a8];omega,fun t ht=>?_⟩;rcases List.mem_append.1 ht with ht|ht
  .exact dS s 32 (kl ht)
  .rw[cI.1 ht];have h2:(aS [32] (ai s 32)).length=s.length:=by rw[hj]
   have h3:∀(l:List au) (k:Nat),(aS [32] (l.drop k)).length<=(aS [32] l).length:=by
    intro l;induction l with
    |nil=>simp
    |cons a l ih=>
     intro k;cases k with
     |zero=>simp
     |succ k=>
      refine dm (ih k) ?_;cases l with
      |nil=>simp[aS]
      |cons b l=>rw[ga [32] a (b::l) aJ];simp only[bP];omega
   have:=h3 (ai s 32) (n-1);omega
def E245:Ow 159 245:=by
 refine bw rfl ?_;rintro s n hp hn hok x args hl hargs hnl himm ⟨⟨_,m,hm⟩,_⟩;obtain⟨h0,hs⟩:=fG (hargs 0 aJ);obtain⟨h1,_⟩:=fG (hargs 1 aJ);have h2:=yK (hargs 2 aJ);rw[args3 hl,h0,h1,h2];rcases hn with rfl|⟨hn1,hn2⟩
 .have hc:=Kk Tryz.lays147 oE ⟨⟨s⟩⟩ ⟨⟨[32]⟩⟩ m x.w (by show s.length<_;omega) hm (aL 1);have hlen:=Lib.splitB_all ⟨⟨[32]⟩⟩ (aL 1) 0 _ (⟨⟨s⟩⟩:ByteArray) rfl;have hL:(Lib.splitB ⟨⟨[32]⟩⟩ 0 (Lib.countB ⟨⟨s⟩⟩ ⟨⟨[32]⟩⟩) ⟨⟨s⟩⟩).map (fun t=>t.data.toList)=mg (-1) s:=DC 32 _ (⟨⟨s⟩⟩:ByteArray) rfl;have hsl:=dk s 32;have hll:(mg (-1) s).length=(Lib.splitB ⟨⟨[32]⟩⟩ 0 (Lib.countB ⟨⟨s⟩⟩ ⟨⟨[32]⟩⟩) ⟨⟨s⟩⟩).length:=by rw[<-hL];simp
  have hw:mg (-1) s=ai s 32:=rfl;rw[hw]at hll;exact qB oE himm hL ae (by simp only[maxLen];omega) (fun t ht=>by have:=dS s 32 ht;simp only[maxLen];omega) hc
 .obtain⟨k,rfl⟩:∃k:Nat,n=k:=⟨n.toNat,ae⟩
  have hc:=Tryz.strings_SplitN ⟨⟨s⟩⟩ ⟨⟨[32]⟩⟩ k m x.w (by show s.length<_;omega) hm (aL 1) ae ae;have hle:=Lib.splitB_length_le ⟨⟨[32]⟩⟩ 0 (min k ((⟨⟨s⟩⟩:ByteArray).size+1) -1) ⟨⟨s⟩⟩;have hsz:(⟨⟨s⟩⟩:ByteArray).size=s.length:=rfl;obtain⟨q1,q2⟩:=Uw k ae s;refine qB oE himm (L:=mg (k:Int) s) ?_ ae (by simp only[maxLen];omega) (fun t ht=>?_) hc
  .rw[Lib.splitB_data];exact Kx k ae s
  .have:mg (k:Int) s=qQ k (ai s 32):=by unfold mg;rw[ak ae,Int.toNat_natCast]
   rw[this]at ht;have:=q2 t ht;simp only[maxLen];omega
def args4 {args:Array Value}(h:args.size=4):args=#[args.getD 0 undef,args.getD 1 undef,args.getD 2 undef,args.getD 3 undef]:=by
 obtain⟨l⟩:=args
 match l,h with
 |[a,b,c,d],_=>rfl
def E331:Ow 110 331:=by
 refine bw rfl ?_;rintro s hp hok x args hl hargs hnl himm ⟨⟨_,m,hm⟩,_⟩;obtain⟨h0,hs⟩:=fG (hargs 0 aJ);obtain⟨h1,_⟩:=fG (hargs 1 aJ);have h2:=yK (hargs 2 aJ);have h3:=yK (hargs 3 aJ);rw[args4 hl,h0,h1,h2,h3];have hle:=Lib.countB_le ⟨⟨[10]⟩⟩ (aL 1) (⟨⟨s⟩⟩:ByteArray).size ⟨⟨s⟩⟩ (aL _);have hlen:=Lib.splitB_all ⟨⟨[10]⟩⟩ (aL 1) 1 _ (⟨⟨s⟩⟩:ByteArray) rfl;have hc:=Any.strings_genSplit Tryz.lays221 oE ⟨⟨s⟩⟩ ⟨⟨[10]⟩⟩ 1 (-1) (Lib.countB ⟨⟨s⟩⟩ ⟨⟨[10]⟩⟩+1) m x.w (by show s.length<_;omega) hm (aL 1) (aL 1) aF aF (by rw[aw aF];omega);rw[Nat.add_sub_cancel]at hc;obtain⟨q1,q2⟩:=VA s;have hL:=QD _ (⟨⟨s⟩⟩:ByteArray) rfl;have hsz:(⟨⟨s⟩⟩:ByteArray).size=s.length:=rfl;exact qB oE himm hL ae (by simp only[maxLen];omega) (fun t ht=>by have:=q2 t ht;simp only[maxLen];omega) hc
def E244:Ow 65 244:=by
 refine bw rfl ?_;rintro s hp hok x args hl hargs hnl himm _;obtain⟨h0,hs⟩:=fG (hargs 0 aJ);obtain⟨h1,_⟩:=fG (hargs 1 aJ);rw[zW hl,h0,h1];refine ko oE himm (Calls.mono (Tryz.strings_CutSuffix ⟨⟨s⟩⟩ ⟨⟨[10]⟩⟩ x.w (by show s.length<=_;omega)) fun e w' ⟨h1,h2⟩=>⟨h1,h2▸gU.refl _⟩) (fun x'=>?_);have hc:(Lib.trimSuffix s [10],Lib.hasSuffix s [10])=bV s:=PY s;have:=qF s;rw[<-hc]at this⊢;have h9:(Lib.trimSuffix s [10]).length<=s.length:=this;exact LL (uq (Lib.trimSuffix s [10]) ae) (.bool _)
def E683:Ow 208 683:=by
 refine bw rfl ?_;rintro s b rfl hp hok x args hl hargs hnl himm _;obtain⟨h0,hs⟩:=fG (hargs 0 aJ);obtain⟨h1,_⟩:=fG (hargs 1 aJ);rw[zW hl,h0,h1];refine ko oE himm (Calls.mono (Tryz.strings_Trim_one ⟨⟨s⟩⟩ 32 aF x.w (by show s.length<=_;omega)) fun e w' ⟨h1,h2⟩=>⟨h1, ?_⟩) (fun x'=>?_)
 .rcases h2 with rfl|rfl
  .exact gU.refl _
  .exact⟨rfl,rfl,rfl,aL _,fun _ _=>rfl⟩
 .have:Lib.trimB (⟨⟨s⟩⟩:ByteArray).data.toList 32=eN s:=QO s;rw[this];have hb:(eN s).length<=s.length:=by
   unfold eN;have h1:=sD s;have h2:=sD (kM s).reverse;simp only[List.length_reverse]at h2⊢;omega
  exact uq _ ae
def E469:Ow 86 469:=by
 refine bw rfl ?_;rintro l hp hok x args hl hargs hnl himm _;have h0:=hargs 0 aJ;rw[Wu hl];simp only[jt]at h0;generalize args.getD 0 undef=v0 at h0⊢;cases h0 with
 |sl a b off len cap k es c hlen ha hcap hm hk hn hc h1 h=>
  simp only[bN]at hlen;subst hlen;have fin:∀(e:Ending) (w':World) v' ty,e=.returned v'->w'.ownsRow x.w.heap.size ty 1 v' l.length (l.map fun t=>Value.string ⟨⟨t⟩⟩)->Go.RowKit.Below x.w.heap.size x.w w'->
    ∃v,e=.returned v/\gU x.w w'/\∃I:Nat->Prop,(∀b,x.I b->I b)/\(∀b,I b->x.I b\/x.w.heap.size<=b/\b<w'.heap.size)/\RD xK ⟨w',I,x.β⟩ v (.sl 1 (l.map D.str)):=by
   rintro e w' v' ty rfl ⟨hxl,ho⟩ hB;refine⟨v',rfl,⟨hB.os,hB.tape,hB.output,hB.size,hB.block⟩, ?_⟩;rcases ho with⟨rfl,hl0⟩|⟨g,cap',cur,rfl,hg,hh,hle,hml,hcs,htk⟩
   .have:l=[]:=qH.1 hl0;subst this;exact⟨x.I,fun _ h=>h,fun _ h=>.inl h,.sl none 0 0 0 0 1 [] (fun _ _=>.nilIface) rfl (.inl rfl) (aL _) (by simp[maxLen]) (fun i hi=>ae) (fun i hi=>ae) (fun i j hi=>ae) (fun i j hi=>ae) (fun i j hi=>ae)⟩
   .have hgl:g<w'.heap.size:=(Array.getElem?_eq_some_iff.1 hh).1;have hgt:∀i (hi:i<l.length),((l.map D.str).getD i .any)=.str l[i]:=fun i hi=>by simp[hi]
    refine⟨fun q=>x.I q\/q=g,fun _ h=>.inl h,fun q hq=>hq.imp id fun h=>by subst h;exact⟨hg,hgl⟩, ?_⟩;refine .sl _ g 0 l.length cap' 1 _ (fun i _=>.string ⟨⟨l.getD i []⟩⟩) aJ (.inr ⟨rfl,.inr rfl⟩) hle hml (fun i hi=>by rw[hgt i hi];rfl) (fun i hi=>by rw[hgt i hi];rfl) (fun i j hi hj=>?_) (fun _ _ _ _=>rfl) (fun i j hi hj=>?_)
    .obtain rfl:j=0:=ae;refine(cell_of_heap (c:=cur) (T:=ty) (fr:=(0,0)) hh ae).trans ?_;have e1:cur.toList[i]? =some (.string ⟨⟨l.getD i []⟩⟩):=by
      have e2:(cur.toList.take (l.length*1))[i]? =(l.map fun t=>Value.string ⟨⟨t⟩⟩)[i]? :=by rw[htk]
      rw[List.getElem?_take,aw ae]at e2;rw[e2];simp[hi]
     have e3:cur[i]? =some (.string ⟨⟨l.getD i []⟩⟩):=by rw[<-e1];simp
     rw[show(0+i*1+0:Nat)=i by omega,Array.getD_eq_getD_getElem?,e3];rfl
    .obtain rfl:j=0:=ae;rw[hgt i hi];have q2:=h i 0 hi ae;rw[hgt i hi]at q2;obtain⟨_,q3⟩:=fG q2;have:l.getD i []=l[i]:=by simp[hi]
     rw[this];exact .str _ q3
  rcases ha with he|⟨rfl,hI⟩
  .have hnil:l=[]:=by simpa using he
   subst hnil;cases a with
   |none=>exact ko oE himm (Calls.mono (Tryz.slices_Clone_string_nil 0 cap x.w) fun e w' ⟨h1,h2⟩=>⟨h1,h2▸gU.refl _⟩) (fun x'=>.sl none 0 0 0 0 1 [] (fun _ _=>.nilIface) rfl (.inl rfl) (aL _) (by simp[maxLen]) (fun i hi=>ae) (fun i hi=>ae) (fun i j hi=>ae) (fun i j hi=>ae) (fun i j hi=>ae))
   |some a=>exact sL oE himm (Calls.mono (Tryz.slices_Clone_string_zero a cap x.w) fun e w' ⟨v',h1,h2,_,h3⟩=>fin e w' v' _ h1 h2 h3)
  .have hcell:∀i,(hi:i<l.length)->x.w.cell? ⟨b,off+i,none⟩=some (.string ⟨⟨l[i]⟩⟩):=fun i hi=>by
    have q1:=hc i 0 hi ae;have q2:=h i 0 hi ae;have e:((l.map D.str).getD i .any).cells.getD 0 .any=.str l[i]:=by simp[hi,D.cells]
    rw[e]at q2;rw[(fG q2).1]at q1;simpa using q1
   refine sL oE himm (Calls.mono (Tryz.slices_Clone_string b off l.length cap (l.map fun t=>⟨⟨t⟩⟩) x.w aJ ae (fun j hj=>?_)) fun e w' ⟨v',h1,h2,_,h3⟩=>?_)
   .rw[bN]at hj;rw[hcell j hj];simp[hj]
   .have:((l.map fun t=>(⟨⟨t⟩⟩:ByteArray)).take l.length).map Value.string=l.map fun t=>Value.string ⟨⟨t⟩⟩:=by
     rw[ed aJ,List.map_map];rfl
    rw[this]at h2;exact fin e w' v' _ h1 h2 h3
def E489:Ow 21 489:=mM rfl fun ds st K h hok=>UX rfl rfl Tryz.KK Tryz.Yh (Go.Proofs.enters_of Tryz.KK.f166 oE rfl) ds st K h hok
def E664:Ow 144 664:=mM rfl fun ds st K h hok=>UW rfl rfl Tryz.KL Tryz.Yh (Go.Proofs.enters_of Tryz.KL.f167 oE rfl) ds st K h hok
def E452:Ow 24 452:=mM rfl fun ds st K h hok=>UU rfl rfl Tryz.KM Tryz.Yh (Go.Proofs.enters_of Tryz.KM.f169 oE rfl) ds st K h hok
def AA (sep:au)(B:Nat):∀l:List au,(∀t∈l,t.length<=B)->(aS sep l).length<=l.length*(B+sep.length)
 |[],_=>by simp[aS]
 |[t],h=>by have:=h t (.head _);simp only[aS,aP,a8];omega
 |t::u::r,h=>by
  have h1:=h t (.head _);have h2:=AA sep B (u::r) fun x hx=>h x (.tail _ hx)
  rw[ga _ _ _ aJ];rw[aP,Nat.succ_mul];simp only[bP];omega
def E242:Ow 35 242:=by
 refine bw rfl ?_;rintro l sep hp1 hp2 hp3 hok x args hl hargs hnl himm _;have h0:=hargs 0 aJ;obtain⟨h1,_⟩:=fG (hargs 1 aJ);rw[zW hl,h1];have hj:=AA sep 2097200 l hp3;have hj2:=fk (2097200+sep.length) hp1;have hj3:1048600*(2097200+sep.length)<=140737488355328:=by
  have:=Nat.mul_le_mul_left 1048600 (show 2097200+sep.length<=2097204 by omega);omega
 have hjm:(aS sep l).length<=140737488355328:=ae;simp only[jt]at h0;generalize args.getD 0 undef=v0 at h0⊢;cases h0 with
 |sl a b off len cap k es c hlen ha hcap hm hk hn hc h1 h=>
  simp only[bN]at hlen;subst hlen;rcases ha with he|⟨rfl,hI⟩
  .have hnil:l=[]:=by simpa using he
   subst hnil;refine ko oE himm (Calls.mono (Tryz.strings_Join_none a cap ⟨⟨sep⟩⟩ x.w) fun e w' ⟨h1,h2⟩=>⟨h1,h2▸gU.refl _⟩) (fun x'=>?_);exact uq [] aJ
  .have hcell:∀i,(hi:i<l.length)->x.w.cell? ⟨b,off+i,none⟩=some (.string ⟨⟨l[i]⟩⟩):=fun i hi=>by
    have q1:=hc i 0 hi ae;have q2:=h i 0 hi ae;have e:((l.map D.str).getD i .any).cells.getD 0 .any=.str l[i]:=by simp[hi,D.cells]
    rw[e]at q2;rw[(fG q2).1]at q1;simpa using q1
   have e2:(l.map fun t=>(⟨⟨t⟩⟩:ByteArray)).map (fun t=>t.data.toList)=l:=by rw[List.map_map];exact List.map_id l
   have hjl:Lib.join ((l.map fun t=>(⟨⟨t⟩⟩:ByteArray)).map (fun t=>t.data.toList)) (⟨⟨sep⟩⟩:ByteArray).data.toList=aS sep l:=by rw[e2];exact(GM sep l).symm
   have key:=Tryz.strings_Join b off cap (l.map fun t=>⟨⟨t⟩⟩) ⟨⟨sep⟩⟩ x.w (fun j y hy=>by
    rw[List.getElem?_map,dZ]at hy;obtain⟨t,ht,rfl⟩:=hy;obtain⟨hlt,rfl⟩:=List.getElem?_eq_some_iff.1 ht;exact hcell j hlt) (himm b hI) cY (by simpa using hcap) (by rw[hjl];exact hjm)
   rw[hjl,bN]at key;refine ko oE himm (Calls.mono key fun e w' ⟨h1,h2⟩=>⟨h1,h2.os,h2.tape,h2.output,h2.size,h2.block⟩) (fun x'=>?_);exact .str _ (by simp only[maxLen];omega)
end
section
section
variable [dR]
def H70:Ow 56 70:=bw rfl fun r hp0=>aO bj ck rfl (w70 bm Qv NK G210 G211 G212 G213 G214 G215 r hp0)
def H76:Ow 34 76:=bw rfl fun s=>aO bj ck rfl (w76 bm G70 Qu G222 s)
def H87:Ow 14 87:=bw rfl fun s hp0=>aO bj ck rfl (w87 bm G223 G258 G259 G260 G261 G262 s hp0)
def H212:Ow 97 212:=bw rfl fun s=>aO bj ck rfl (w212 bm G445 G446 s)
def H218:Ow 106 218:=bw rfl fun r hp0=>aO bj ck rfl (w218 bm G457 G458 G459 G460 r hp0)
def H224:Ow 125 224:=mM rfl fun x t hp0 hp1 hp2 nx j0 j1 j2 j3 j4 m K h1 h2 h3 hK=>r6 rfl bj ck rfl h1 h2 h3 hK (w224 bm t x.r.name x.r.v x.r.needs x.r.bars x.r.feats x.st uJ G471 G472 G473 G474 XV G476 hp2 hp0.1 hp0.2.1 hp0.2.2 (by unfold jg.sz at hp1;omega))
def H230:Ow 52 230:=bw rfl fun l i hp0=>aO bj ck rfl (w230 bm NN XX l i hp0)
def H251:Ow 11 251:=bw rfl fun s hp0=>aO bj ck rfl (w251 bm G72 G353 G452 G489 G497 s hp0)
def H258:Ow 38 258:=bw rfl fun t hp0=>aO bj ck rfl (w258 bm NL uJ t hp0)
def H295:Ow 72 295:=bw rfl fun a b hp0=>aO bj ck rfl (w295 bm NK G530 G531 G532 Qy G534 a b hp0)
def H358:Ow 25 358:=bw rfl fun s hp0=>aO bj ck rfl (w358 bm G75 NL G580 s hp0)
def H444:Ow 138 444:=bw rfl fun s hp0=>aO bj ck rfl (w444 bm G495 G496 s hp0)
def H450:Ow 100 450:=mM rfl fun ws t l lw nx m K h1 h2 h3 h4 hp2 hK=>OM bj ck rfl h1 h2 h3 h4 hK fun m0 hp0 hp1=>w450 bm ws t m0 Uh G489 G664 hp0 hp1 hp2
def H457:Ow 149 457:=bw rfl fun r n hp0=>aO bj ck rfl (w457 bm NP G669 G670 r n hp0)
def H463:Ow 129 463:=bw rfl fun h k hp0=>aO bj ck rfl (w463 bm h k hp0)
def H470:Ow 73 470:=bw rfl fun s b hp0=>aO bj ck rfl (w470 bm s b hp0)
def H476:Ow 172 476:=mM rfl fun x l hp0 hp1 nx j0 j1 j2 j3 j4 m K h1 h2 h3 hK=>r6 (by simp only[bG,D.bI,nb]) bj ck rfl h1 h2 h3 hK (w476 bm l x.r.name x.r.v x.r.needs x.r.bars x.r.feats x.st G474 hp0 hp1)
def H482:Ow 91 482:=bw rfl fun c hp0=>aO bj ck rfl (w482 bm Qw G676 G677 G678 c hp0)
def H499:Ow 68 499:=bw rfl fun s=>aO bj ck rfl (w499 bm s)
def H530:Ow 119 530:=bw rfl fun v=>aO bj ck rfl (w530 bm v)
def H568:Ow 204 568:=bw rfl fun s hp0=>aO bj ck rfl (w568 bm NM uJ G741 G742 s hp0)
def H659:Ow 165 659:=bw rfl fun t=>aO bj ck rfl (w659 bm t)
def H666:Ow 184 666:=bw rfl fun t=>aO bj ck rfl (w666 bm t)
def H672:Ow 192 672:=bw rfl fun s hp0=>aO bj ck rfl (w672 bm NL NP uJ s hp0)
def H678:Ow 132 678:=bw rfl fun op=>aO bj ck rfl (w678 bm op)
def H699:Ow 81 699:=bw rfl fun l nm v hp0=>aO bj ck rfl (w699 bm G700 l nm v hp0)
def H741:Ow 226 741:=bw rfl fun s b=>aO bj ck rfl (w741 bm s b)
def H809:Ow 212 809:=mM rfl fun w nd hp0 nx lp ln m K h1 h2 h3 h4 hK=>gA rT aF rfl (fun _=>rfl) bj ck rfl h1 h2 h3 h4 hK (w809 bm w nd (Wn (Nat.le_of_eq (oe (c:=fun _=>2) h1).symm)) hp0)
def H815:Ow 221 815:=bw rfl fun l=>aO bj ck rfl (w815 bm l)
def H896:Ow 249 896:=bw rfl fun s hp0=>aO bj ck rfl (w896 bm s hp0)
def H927:Ow 228 927:=bw rfl fun a b=>aO bj ck rfl (w927 bm a b)
def H951:Ow 244 951:=bw rfl fun l i b hp0=>aO bj ck rfl (w951 bm l i b (Wo (aL _)) hp0)
def H957:Ow 257 957:=bw rfl fun op=>aO bj ck rfl (w957 bm op)
def H1033:Ow 267 1033:=mM rfl fun s W w nd b hp0 nx lp ln m K h1 h2 h3 h4 hK=>wV (uo _) aF rfl (fun _=>rfl) bj ck rfl h1 h2 h3 h4 hK (w1033 bm s W w nd b hp0)
def H1098:Ow 282 1098:=bw rfl fun n=>aO bj ck rfl (w1098 bm NP n)
def H1202:Ow 12 1202:=bw rfl fun s hp0=>aO bj ck rfl (w1202 bm G73 G313 G358 s hp0)
end
end
section
section
variable [dR]
def H71:Ow 62 71:=bw rfl fun r hp0=>aO bj ck rfl (w71 bm NL NM G218 G219 r hp0)
def H77:Ow 75 77:=bw rfl fun s=>aO bj ck rfl (w77 bm G71 G223 G224 s)
def H88:Ow 15 88:=bw rfl fun a b=>aO bj ck rfl (w88 bm G263 a b)
def H213:Ow 98 213:=bw rfl fun l hp0=>aO bj ck rfl (w213 bm NO G447 G448 G449 l hp0)
def H219:Ow 63 219:=bw rfl fun r hp0=>aO bj ck rfl (w219 bm Qw G316 G461 G462 r hp0)
def H225:Ow 127 225:=bw rfl fun a b=>aO bj ck rfl (w225 bm G477 a b)
def H231:Ow 53 231:=bw rfl fun l i hp0=>aO bj ck rfl (w231 bm NN G481 l i hp0)
def H252:Ow 28 252:=bw rfl fun s hp0=>aO bj ck rfl (w252 bm G239 s hp0)
def H259:Ow 39 259:=bw rfl fun t hp0=>aO bj ck rfl (w259 bm uJ G500 t hp0)
def H313:Ow 27 313:=bw rfl fun n=>aO bj ck rfl (w313 bm n)
def H424:Ow 126 424:=bw rfl fun a b hp0=>aO bj ck rfl (w424 bm NM XY G631 a b hp0)
def H445:Ow 139 445:=bw rfl fun s=>aO bj ck rfl (w445 bm Qu G660 G661 s)
def H451:Ow 101 451:=bw rfl fun v hp0=>aO bj ck rfl (w451 bm NK G665 v hp0)
def H458:Ow 150 458:=bw rfl fun r b hp0=>aO bj ck rfl (w458 bm NL G572 G670 r b hp0)
def H464:Ow 146 464:=bw rfl fun h n hp0=>aO bj ck rfl (w464 bm h n hp0)
def H471:Ow 167 471:=mM rfl fun x l hp0 nx j0 j1 j2 j3 j4 m K h1 h2 h3 hK=>r6 (by simp only[bG,D.bI,nb]) bj ck rfl h1 h2 h3 hK (w471 bm l x.r.name x.r.v x.r.needs x.r.bars x.r.feats x.st G568 hp0)
def H477:Ow 175 477:=bw rfl fun a b=>aO bj ck rfl (w477 bm G226 a b)
def H483:Ow 92 483:=bw rfl fun l s hp0=>aO bj ck rfl (w483 bm l s hp0)
def H500:Ow 74 500:=bw rfl fun s=>aO bj ck rfl (w500 bm G688 s)
def H531:Ow 120 531:=bw rfl fun l=>aO bj ck rfl (w531 bm l)
def H572:Ow 190 572:=bw rfl fun s hp0=>aO bj ck rfl (w572 bm G744 G745 s hp0)
def H660:Ow 179 660:=mM rfl fun w nd hp0 nx lp ln m K h1 h2 h3 h4 hK=>gA rT aF rfl (fun _=>rfl) bj ck rfl h1 h2 h3 h4 hK (w660 bm w nd (Wn (Nat.le_of_eq (oe (c:=fun _=>4) h1).symm)) hp0)
def H667:Ow 185 667:=bw rfl fun s=>aO bj ck rfl (w667 bm XU s)
def H673:Ow 193 673:=bw rfl fun r x=>aO bj ck rfl (w673 bm r x)
def H682:Ow 207 682:=bw rfl fun s hp0=>aO bj ck rfl (w682 bm G819 s hp0)
def H700:Ow 82 700:=bw rfl fun x nm v hp0=>aO bj ck rfl (w700 bm G701 x nm v hp0)
def H742:Ow 227 742:=bw rfl fun l=>aO bj ck rfl (w742 bm Uj l)
def H810:Ow 213 810:=bw rfl fun l=>aO bj ck rfl (w810 bm NO l)
def H816:Ow 222 816:=bw rfl fun l nm=>aO bj ck rfl (w816 bm G955 l nm)
def H897:Ow 250 897:=bw rfl fun s hp0=>aO bj ck rfl (w897 bm uJ XX G1006 G1007 G1008 s hp0)
def H946:Ow 239 946:=bw rfl fun w es b=>aO bj ck rfl (w946 bm w es b)
def H952:Ow 246 952:=mM rfl fun W w nd hp0 hp1 nx lp ln m K h1 h2 h3 h4 hK=>gA (uo _) aF rfl (fun _=>rfl) bj ck rfl h1 h2 h3 h4 hK (w952 bm W w nd (XR (Nat.le_of_eq (uf (c:=fun _=>2) hp0.1 h1).symm)) Qs KC hp0 hp1)
def H1006:Ow 271 1006:=bw rfl fun s=>aO bj ck rfl (w1006 bm G678 G1079 s)
def H1034:Ow 268 1034:=mM rfl fun x W w nd b hp0 nx lp ln m K h1 h2 h3 h4 hK=>gA (uo _) aF rfl (fun _=>rfl) bj ck rfl h1 h2 h3 h4 hK (w1034 bm x W w nd b hp0)
def H1099:Ow 283 1099:=bw rfl fun k hp0=>aO bj ck rfl (w1099 bm k hp0)
def H1203:Ow 16 1203:=bw rfl fun l i nm most hp0=>aO bj ck rfl (w1203 bm G79 NN G504 l i nm most hp0)
end
end
section
section
variable [dR]
def H72:Ow 22 72:=bw rfl fun r hp0=>aO bj ck rfl (w72 bm G70 G215 r hp0)
def H78:Ow 78 78:=bw rfl fun a b=>aO bj ck rfl (w78 bm G225 G226 a b)
def H208:Ow 31 208:=bw rfl fun s=>aO bj ck rfl (w208 bm s)
def H214:Ow 99 214:=bw rfl fun r s hp0=>aO bj ck rfl (w214 bm G448 r s hp0)
def H220:Ow 80 220:=bw rfl fun s=>aO bj ck rfl (w220 bm G463 s)
def H226:Ow 128 226:=bw rfl fun a b=>aO bj ck rfl (w226 bm a b)
def H232:Ow 54 232:=bw rfl fun l i r hp0 hp1=>aO bj ck rfl (w232 bm Qx XW G483 l i r hp0 hp1)
def H253:Ow 29 253:=bw rfl fun s hp0=>aO bj ck rfl (w253 bm G244 s hp0)
def H260:Ow 40 260:=bw rfl fun t hp0=>aO bj ck rfl (w260 bm uJ t hp0)
def H316:Ow 107 316:=bw rfl fun v hp0=>aO bj ck rfl (w316 bm NM G554 v hp0)
def H440:Ow 133 440:=bw rfl fun n=>aO bj ck rfl (w440 bm n)
def H446:Ow 140 446:=bw rfl fun m=>aO bj ck rfl (w446 bm G661 G662 m)
def H453:Ow 102 453:=bw rfl fun c=>aO bj ck rfl (w453 bm c)
def H459:Ow 151 459:=bw rfl fun l hp0=>aO bj ck rfl (w459 bm NP G671 l hp0)
def H465:Ow 114 465:=oweFG rfl D465 (fun r w n op hp0 hp1 hp2=>Gv 2 bj ck rfl rfl (w465 bm G245 G246 r w n op hp0 hp1 hp2)) fun r w n op l nx m K hp0 hp1 hp2 hl hK=>UT (Gv 2 bj ck rfl rfl (w465 bm G245 G246 r w n op hp0 hp1 hp2)) hl rfl rfl hK
def H472:Ow 168 472:=mM rfl fun x t hp0 hp1 hp2 hp3 nx j0 j1 j2 j3 j4 m K h1 h2 h3 hK=>r6 rfl bj ck rfl h1 h2 h3 hK (w472 bm t x.r.name x.r.v x.r.needs x.r.bars x.r.feats x.st uJ XV hp0 hp1 hp2 hp3)
def H478:Ow 17 478:=bw rfl fun v n hp0=>aO bj ck rfl (w478 bm v n hp0)
def H494:Ow 202 494:=bw rfl fun l x=>aO bj ck rfl (w494 bm l x)
def H501:Ow 76 501:=bw rfl fun a b hp0=>aO bj ck rfl (w501 bm NM G424 a b hp0)
def H532:Ow 121 532:=bw rfl fun a b=>aO bj ck rfl (w532 bm G714 a b)
def H580:Ow 61 580:=bw rfl fun l nm v hp0=>aO bj ck rfl (w580 bm G501 l nm v hp0)
def H661:Ow 180 661:=bw rfl fun m=>aO bj ck rfl (w661 bm G662 G810 m)
def H668:Ow 186 668:=bw rfl fun t=>aO bj ck rfl (w668 bm t)
def H674:Ow 194 674:=bw rfl fun r x=>aO bj ck rfl (w674 bm r x)
def H684:Ow 209 684:=bw rfl fun r hp0=>aO bj ck rfl (w684 bm Uh X0 G828 r hp0)
def H701:Ow 83 701:=bw rfl fun a b hp0=>aO bj ck rfl (w701 bm NK G295 a b hp0)
def H744:Ow 219 744:=bw rfl fun s hp0=>aO bj ck rfl (w744 bm uJ G896 G897 G898 G899 X1 s hp0)
def H811:Ow 214 811:=bw rfl fun l i hp0=>aO bj ck rfl (w811 bm G950 l i (Wo (aL _)) (G951u (aL _)) hp0)
def H819:Ow 229 819:=bw rfl fun s hp0=>aO bj ck rfl (w819 bm Qy Ui X0 G828 G956 G957 s hp0)
def H898:Ow 251 898:=bw rfl fun s=>aO bj ck rfl (w898 bm s)
def H947:Ow 240 947:=mM rfl fun w nd b nx lp ln m K h1 h2 h3 h4 hK=>wV rT aF rfl (fun _=>rfl) bj ck rfl h1 h2 h3 h4 hK (w947 bm w nd b X2)
def H953:Ow 247 953:=bw rfl fun m=>aO bj ck rfl (w953 bm G954 G1035 m)
def H1007:Ow 272 1007:=bw rfl fun s=>aO bj ck rfl (w1007 bm s)
def H1035:Ow 269 1035:=bw rfl fun l hp0=>aO bj ck rfl (w1035 bm G1098 l hp0)
def H1100:Ow 284 1100:=bw rfl fun s b hp0=>aO bj ck rfl (w1100 bm s b hp0)
end
end
section
section
variable [dR]
def H73:Ow 26 73:=bw rfl fun r hp0=>aO bj ck rfl (w73 bm G71 G219 r hp0)
def H79:Ow 19 79:=bw rfl fun l i own hp0 hp1=>aO bj ck rfl (w79 bm G227 NN G229 G230 G231 G232 l i own hp0 hp1)
def H209:Ow 94 209:=bw rfl fun v hp0=>aO bj ck rfl (w209 bm G440 G441 G442 v hp0)
def H215:Ow 57 215:=bw rfl fun r hp0=>aO bj ck rfl (w215 bm Uh G450 G451 G452 r hp0)
def H221:Ow 104 221:=bw rfl fun s=>aO bj ck rfl (w221 bm G464 s)
def H227:Ow 50 227:=bw rfl fun n=>aO bj ck rfl (w227 bm Qx n)
def H239:Ow 64 239:=bw rfl fun s hp0=>aO bj ck rfl (w239 bm G331 s hp0)
def H255:Ow 32 255:=bw rfl fun s hp0=>aO bj ck rfl (w255 bm Qu XT G499 s hp0)
def H261:Ow 41 261:=mM rfl fun nm es y t hp0 nx lp ln m K h1 h2 h3 h4 hK1 hK2=>QC bj ck rfl h1 h2 h3 h4 hK1 hK2 (w261 bm nm es y t G75 G77 G501 hp0)
def H349:Ow 137 349:=bw rfl fun s=>aO bj ck rfl (w349 bm s)
def H441:Ow 134 441:=bw rfl fun s hp0=>aO bj ck rfl (w441 bm G442 Qy Ui G659 s hp0)
def H447:Ow 141 447:=bw rfl fun l=>aO bj ck rfl (w447 bm l)
def H454:Ow 103 454:=bw rfl fun c=>aO bj ck rfl (w454 bm c)
def H460:Ow 152 460:=bw rfl fun r of hp0=>aO bj ck rfl (w460 bm G672 G673 G674 r of hp0)
def H466:Ow 115 466:=bw rfl fun s hp0=>aO bj ck rfl (w466 bm NK G451 Qy Ui G675 s hp0)
def H473:Ow 169 473:=mM rfl fun x t hp0 hp1 hp2 hp3 hp4 nx j0 j1 j2 j3 j4 m K h1 h2 h3 hK=>r6 rfl bj ck rfl h1 h2 h3 hK (w473 bm t x.r.name x.r.v x.r.needs x.r.bars x.r.feats x.st XV hp0 hp1 hp2 hp3 hp4)
def H479:Ow 79 479:=bw rfl fun l i=>aO bj ck rfl (w479 bm l i)
def H495:Ow 177 495:=bw rfl fun s hp0=>aO bj ck rfl (w495 bm Qu G682 G683 XZ G685 G9124 s hp0)
def H504:Ow 45 504:=mM rfl fun s r hp0 nx m K hK1 hK2=>SK bj ck rfl hK1 hK2 (w504 bm s r G75 G358 G580 hp0)
def H533:Ow 122 533:=bw rfl fun s b hp0=>aO bj ck rfl (w533 bm s b hp0)
def H630:Ow 173 630:=bw rfl fun a b=>aO bj ck rfl (w630 bm a b)
def H662:Ow 181 662:=bw rfl fun l hp0=>aO bj ck rfl (w662 bm G811 l hp0)
def H669:Ow 187 669:=bw rfl fun r w al hp0=>aO bj ck rfl (w669 bm NL G572 G812 r w al hp0)
def H675:Ow 161 675:=bw rfl fun s b=>aO bj ck rfl (w675 bm s b)
def H685:Ow 210 685:=bw rfl fun r hp0=>aO bj ck rfl (w685 bm XZ r hp0)
def H704:Ow 203 704:=bw rfl fun x=>aO bj ck rfl (w704 bm x)
def H745:Ow 220 745:=bw rfl fun r hp0=>aO bj ck rfl (w745 bm X1 G901 r hp0)
def H812:Ow 216 812:=bw rfl fun l al=>aO bj ck rfl (w812 bm NP G815 l al)
def H827:Ow 237 827:=bw rfl fun c hp0=>aO bj ck rfl (w827 bm NK c hp0)
def H899:Ow 252 899:=bw rfl fun r hp0=>aO bj ck rfl (w899 bm G676 r hp0)
def H948:Ow 241 948:=mM rfl fun x w nd b hp0 nx lp ln m K h1 h2 h3 h4 hK=>gA rT aF rfl (fun _=>rfl) bj ck rfl h1 h2 h3 h4 hK (w948 bm x w nd b hp0)
def H954:Ow 248 954:=bw rfl fun l hp0=>aO bj ck rfl (w954 bm G1036 l hp0)
def H1008:Ow 273 1008:=bw rfl fun l=>aO bj ck rfl (w1008 bm Uj l)
def H1036:Ow 270 1036:=bw rfl fun l i hp0=>aO bj ck rfl (w1036 bm Wm G1100 l i (XS (aL _)) hp0)
def H1126:Ow 290 1126:=mM rfl fun W w nd hp0 hp1 nx lp ln m K h1 h2 h3 h4 hK=>gA (uo _) aF rfl (fun _=>rfl) bj ck rfl h1 h2 h3 h4 hK (w1126 bm W w nd NP KC Wm G1141 hp0 hp1)
end
end
section
section
variable [dR]
def H74:Ow 46 74:=bw rfl fun r hp0=>aO bj ck rfl (w74 bm G72 G220 r hp0)
def H85:Ow 10 85:=bw rfl (aO bj ck rfl (w85 bm G251 G9086))
def H210:Ow 95 210:=bw rfl fun r n hp0=>aO bj ck rfl (w210 bm G212 NO G443 r n hp0)
def H216:Ow 59 216:=bw rfl fun s=>aO bj ck rfl (w216 bm G453 XU s)
def H222:Ow 70 222:=YW rfl D222 fun r hp0=>Gv 2 bj ck rfl rfl (w222 bm G466 G467 G468 G469 G9465 r hp0)
def H228:Ow 44 228:=bw rfl fun l i n hp0=>aO bj ck rfl (w228 bm Qx XW l i n hp0)
def H246:Ow 160 246:=bw rfl fun l x=>aO bj ck rfl (w246 bm G494 l x)
def H256:Ow 33 256:=bw rfl fun s hp0=>aO bj ck rfl (w256 bm XT G487 s hp0)
def H262:Ow 42 262:=bw rfl fun l en hp0=>aO bj ck rfl (w262 bm Qw l en hp0)
def H353:Ow 20 353:=bw rfl fun s hp0=>aO bj ck rfl (w353 bm G74 Qv G511 s hp0)
def H442:Ow 135 442:=bw rfl fun s hp0=>aO bj ck rfl (w442 bm Qy s hp0)
def H448:Ow 142 448:=bw rfl fun s hp0=>aO bj ck rfl (w448 bm Qv G254 NO G487 s hp0)
def H455:Ow 147 455:=bw rfl fun n=>aO bj ck rfl (w455 bm n)
def H461:Ow 108 461:=bw rfl fun w hp0=>aO bj ck rfl (w461 bm Qw w hp0)
def H467:Ow 116 467:=YW rfl D467 fun r hp0=>Gv 2 bj ck rfl rfl (w467 bm Qu G465 G468 r hp0)
def H474:Ow 170 474:=bw rfl fun l n=>aO bj ck rfl (w474 bm l n)
def H480:Ow 89 480:=bw rfl fun l i own alone hp0 hp1=>aO bj ck rfl (w480 bm G227 NN G230 l i own alone hp0 hp1)
def H496:Ow 178 496:=bw rfl fun r hp0=>aO bj ck rfl (w496 bm XZ r hp0)
def H511:Ow 47 511:=bw rfl fun l nm v hp0=>aO bj ck rfl (w511 bm G699 l nm v hp0)
def H534:Ow 123 534:=bw rfl fun a b=>aO bj ck rfl (w534 bm G516 G532 Ui G659 a b)
def H631:Ow 174 631:=bw rfl fun a b hp0=>aO bj ck rfl (w631 bm uJ XY G783 a b hp0)
def H663:Ow 182 663:=bw rfl fun l nm=>aO bj ck rfl (w663 bm l nm)
def H670:Ow 188 670:=bw rfl fun s=>aO bj ck rfl (w670 bm G813 G814 s)
def H676:Ow 130 676:=bw rfl fun c hp0=>aO bj ck rfl (w676 bm NM c hp0)
def H686:Ow 58 686:=bw rfl fun k hp0=>aO bj ck rfl (w686 bm k hp0)
def H714:Ow 164 714:=bw rfl fun x=>aO bj ck rfl (w714 bm x)
def H783:Ow 205 783:=bw rfl fun a b=>aO bj ck rfl (w783 bm XY Uj G668 G927 a b)
def H813:Ow 217 813:=bw rfl fun s=>aO bj ck rfl (w813 bm uJ G952 G953 s)
def H828:Ow 238 828:=bw rfl fun c hp0=>aO bj ck rfl (w828 bm G665 X0 G957 c hp0)
def H900:Ow 253 900:=bw rfl fun r hp0=>aO bj ck rfl (w900 bm XX r hp0)
def H949:Ow 242 949:=mM rfl fun w nd hp0 nx lp ln m K h1 h2 h3 h4 hK=>gA rT aF rfl (fun _=>rfl) bj ck rfl h1 h2 h3 h4 hK (w949 bm w nd (G660u (Nat.le_of_eq (oe (c:=fun _=>0) h1).symm)) Uk Ul (Wp (Nat.le_of_eq (oe (c:=fun _=>0) h1).symm)) G1031 hp0)
def H955:Ow 255 955:=bw rfl fun l nm=>aO bj ck rfl (w955 bm l nm)
def H1031:Ow 261 1031:=mM rfl fun k w nd b hp0 nx lp ln m K h1 h2 h3 h4 hK=>gA rT aF rfl (fun _=>rfl) bj ck rfl h1 h2 h3 h4 hK (w1031 bm k w nd b NO Uk Ul G950 hp0)
def H1079:Ow 285 1079:=bw rfl fun s w=>aO bj ck rfl (w1079 bm s w)
def H1141:Ow 291 1141:=mM rfl fun W w nd b hp0 nx lp ln m K h1 h2 h3 h4 hK=>wV (uo _) aF rfl (fun _=>rfl) bj ck rfl h1 h2 h3 h4 hK (w1141 bm W w nd b hp0)
end
end
section
section
variable [dR]
def H75:Ow 60 75:=bw rfl fun r hp0=>aO bj ck rfl (w75 bm G73 G221 r hp0)
def H86:Ow 13 86:=bw rfl fun s hp0=>aO bj ck rfl (w86 bm G76 Qv Uh G252 XT G254 G255 G256 G257 s hp0)
def H211:Ow 96 211:=bw rfl fun r name xU hp0=>aO bj ck rfl (w211 bm Qv G444 r name xU hp0)
def H217:Ow 105 217:=bw rfl fun v hp0=>aO bj ck rfl (w217 bm G455 G456 v hp0)
def H223:Ow 37 223:=bw rfl fun s hp0=>aO bj ck rfl (w223 bm uJ s hp0)
def H229:Ow 51 229:=bw rfl fun l i own hp0 hp1=>aO bj ck rfl (w229 bm NN G231 XW G480 G481 l i own hp0 hp1)
def H249:Ow 77 249:=bw rfl fun l x hp0=>aO bj ck rfl (w249 bm l x hp0)
def H257:Ow 36 257:=bw rfl fun s r n hp0=>aO bj ck rfl (w257 bm G74 G295 s r n hp0)
def H263:Ow 43 263:=bw rfl fun a b=>aO bj ck rfl (w263 bm G78 a b)
def H357:Ow 189 357:=bw rfl fun s=>aO bj ck rfl (w357 bm G453 XU s)
def H443:Ow 136 443:=bw rfl fun r w al hp0=>aO bj ck rfl (w443 bm G211 NO r w al hp0)
def H449:Ow 143 449:=bw rfl fun l nm=>aO bj ck rfl (w449 bm G663 l nm)
def H456:Ow 148 456:=bw rfl fun s p hp0=>aO bj ck rfl (w456 bm uJ G666 Uj G668 s p hp0)
def H462:Ow 109 462:=bw rfl fun s hp0=>aO bj ck rfl (w462 bm s hp0)
def H468:Ow 117 468:=YW rfl D468 fun r hp0=>Gv 2 bj ck rfl rfl (w468 bm G465 r hp0)
def H475:Ow 171 475:=bw rfl fun s n hp0 hp1=>aO bj ck rfl (w475 bm Qw uJ s n hp0 hp1)
def H481:Ow 90 481:=bw rfl fun n=>aO bj ck rfl (w481 bm Qx n)
def H497:Ow 23 497:=bw rfl fun n=>aO bj ck rfl (w497 bm G686 n)
def H516:Ow 166 516:=bw rfl fun a b=>aO bj ck rfl (w516 bm G704 a b)
def H554:Ow 153 554:=bw rfl fun v hp0=>aO bj ck rfl (w554 bm G734 v hp0)
def H658:Ow 162 658:=bw rfl fun s=>aO bj ck rfl (w658 bm s)
def H665:Ow 145 665:=bw rfl fun n hp0=>aO bj ck rfl (w665 bm G336 n hp0)
def H671:Ow 191 671:=bw rfl fun l of hp0=>aO bj ck rfl (w671 bm G672 G815 G816 l of hp0)
def H677:Ow 131 677:=mM rfl fun c hp0 nx m K hK=>P2 rfl rfl bj ck rfl rfl hK (w677 bm c G734 hp0)
def H688:Ow 124 688:=bw rfl fun c hp0=>aO bj ck rfl (w688 bm c hp0)
def H734:Ow 176 734:=bw rfl fun n hp0=>aO bj ck rfl (w734 bm G882 n hp0)
def H808:Ow 211 808:=mM rfl ⟨fun w nd hp0 nx lp ln m K h1 h2 h3 h4 hK=>gA rT aF rfl (fun _=>rfl) bj ck rfl h1 h2 h3 h4 hK (w808 bm kP 809 qZ 4 w nd X2 Uk Ul hp0 Ab aF aF (fun w2 nd2 hl hp=>G809u (aL _) w2 nd2 hp (by rw[oe h1];exact(show 6*w2.length+2<6*w.length+3 by omega)))),fun w nd hp0 nx lp ln m K h1 h2 h3 h4 hK=>gA rT aF rfl (fun _=>rfl) bj ck rfl h1 h2 h3 h4 hK (w808 bm j6 949 lM 3 w nd X2 Uk Ul hp0 wi aF aF (fun w2 nd2 hl hp=>Wp (aL _) w2 nd2 hp (by rw[oe h1];exact(show 6*w2.length+0<6*w.length+1 by omega))))⟩
def H814:Ow 218 814:=bw rfl fun m=>aO bj ck rfl (w814 bm G953 G954 m)
def H882:Ow 206 882:=bw rfl fun n hp0=>aO bj ck rfl (w882 bm n hp0)
def H901:Ow 254 901:=bw rfl fun r hp0=>aO bj ck rfl (w901 bm G899 X1 r hp0)
def H950:Ow 243 950:=bw rfl (aO bj ck rfl (w950 bm))
def H956:Ow 256 956:=bw rfl fun s w=>aO bj ck rfl (w956 bm s w)
def H1032:Ow 266 1032:=mM rfl fun W w nd hp0 hp1 nx lp ln m K h1 h2 h3 h4 hK=>gA (uo _) aF rfl (fun _=>rfl) bj ck rfl h1 h2 h3 h4 hK (w1032 bm W w nd Qs KC (Qt (Nat.le_of_eq (uf (c:=fun _=>1) hp0.1 h1).symm)) hp0 hp1)
def H1097:Ow 281 1097:=mM rfl fun W w nd hp0 hp1 nx lp ln m K h1 h2 h3 h4 hK=>gA (uo _) aF rfl (fun _=>rfl) bj ck rfl h1 h2 h3 h4 hK (w1097 bm W w nd (G952u (Nat.le_of_eq (uf (c:=fun _=>0) hp0.1 h1).symm)) Qs KC (Qt (Nat.le_of_eq (uf (c:=fun _=>0) hp0.1 h1).symm)) G1126 hp0 hp1)
def H1197:Ow 5 1197:=bw rfl fun l a c b=>aO bj ck rfl (w1197 bm G85 G86 G87 G88 Qx G1202 G1203 l a c b)
end
end
def T3:List (Nat×Nat)->Prop
 |[]=>True
 |p::r=>Ow p.1 p.2/\T3 r
def T3.mem:∀{l:List (Nat×Nat)},T3 l->∀p∈l,Ow p.1 p.2
 |p::r,h,q,hq=>by
  rcases ca.1 hq with rfl|hq
  .exact h.1
  .exact h.2.mem q hq
def allY:T3 xK:=⟨H1197,H85,H251,H1202,H86,H87,H88,H1203,H478,H79,H353,E489,H72,H497,E452,H358,H73,H313,H252,H253,E254,H208,H255,H256,H76,E242,H257,H223,H258,H259,H260,H261,H262,H263,H228,H504,H74,H511,H227,H229,H230,H231,H232,H70,H215,H686,H216,H75,H580,H71,H219,H239,E244,E124,H499,E487,H222,H295,H470,H500,H77,H501,H249,H78,H479,H220,H699,H700,H701,E469,H480,H481,H482,H483,H209,H210,H211,H212,H213,H214,H450,H451,H453,H454,H221,H217,H218,H316,H461,H462,E331,H465,H466,H467,H468,H530,H531,H532,H533,H534,H688,H224,H424,H225,H226,H463,H676,H677,H678,H440,H441,H442,H443,H349,H444,H445,H446,H447,H448,H449,E664,H665,H464,H455,H456,H457,H458,H459,H460,H554,E245,H246,H675,H658,H714,H659,H516,H471,H472,H473,H474,H475,H476,H630,H631,H477,H734,H495,H496,H660,H661,H662,H663,E336,H666,H667,H668,H669,H670,H357,H572,H671,H672,H673,H674,H494,H704,H568,H783,H882,H682,E683,H684,H685,H808,H809,H810,H811,H812,H813,H814,H744,H745,H815,H816,H741,H742,H927,H819,H827,H828,H946,H947,H948,H949,H950,H951,H952,H953,H954,H896,H897,H898,H899,H900,H901,H955,H956,H957,H1031,H1032,H1033,H1034,H1035,H1036,H1006,H1007,H1008,H1097,H1098,H1099,H1100,H1079,H1126,H1141,trivial⟩
def vS:∀{l:List (Nat×Nat)}{a b:Nat},fI l a=some b->(a,b)∈l
 |[],_,_,h=>by simp[fI]at h
 |(c,d)::r,a,b,h=>by
  simp only[fI]at h;split at h
  .rename_i e;simp_all
  .exact .tail _ (vS h)
def okY:Ok (Go.Proofs.Tryz.prog) xK N9 (Ca aY):=okA (fun fid n hn=>(show ∀p∈xK,p.2<1000000 by decide+kernel) _ (vS hn)) (fun t ht=>by simp[N9]at ht;show t=60;omega) fun fid n hn=>allY.mem (fid,n) (vS hn)
section
open Go.RowKit Go.ChangeShapes
def gU.below {w w':World}(h:gU w w'):Below w.heap.size w w':=⟨h.os,h.tape,h.output,h.size,h.old⟩
section
variable {H:Type} {enc:TypeId×Value->H} {P:Program}
def Ck {f:Func}{s:ChangeSpec}{apart fresh handsOn again:Bool}{W W':World}{args:Array Value}{v:Value}{ds gs:List (DataW H)}{before pa pv:List MemPlace}
  (hW:DataW.Whole enc P f.params.toList s.vars apart W args.toList ds gs before)
  (hres:∀(b:Nat) (sp:Nat->Bool) (hd:Bool),DataW.TrodAll enc P W' b sp hd f.resultTypes.toList (v.resultList f.resultTypes.size) (s.fn H (ds++gs)).results [])
  (hargs:∀sp:Nat->Bool,(∀p∈before,sp p.block=true)->DataW.TrodAll enc P W' 0 sp true f.params.toList args.toList (s.fn H (ds++gs)).args pa)
  (hvars:∀sp:Nat->Bool,(∀p∈before,sp p.block=true)->DataW.TrodVars enc P W' sp s.vars (s.fn H (ds++gs)).vars pv)
  (hps:before=pa++pv) (hb:Below W.heap.size W W')
  (hok:∀(j:Nat) (t:TypeId) (r:Value),f.resultTypes[j]? =some t->(v.resultList f.resultTypes.size)[j]? =some r->Value.okWide P W' .any 0 t r):
  s.post enc P f apart fresh handsOn again W args v W':=by
 have hold:∀p∈before,(fun b=>decide (b<W.heap.size)) p.block=true:=fun p hp=>by simpa using hW.lt p hp
 refine⟨ds,gs,before,[],pa,pv,hW,hres _ _ _,hargs _ hold,hvars _ hold,World.keptBut_mono (fun p hp=>⟨hp, ?_⟩) (hb.frame (· ∈before)),fun _=>?_⟩
 .rw[hps,List.mem_append]at hp;exact Or.inr hp
 .have hlt:=hW.lt;obtain⟨_,_,_,_,_,hz,hn⟩:=hW;refine⟨hok,_,_,([]++pa)++pv,⟨[]++pa,pv,trodAll_append (hargs _ (fun _ _=>rfl)) (hres _ _ _),hvars _ (fun _ _=>rfl),rfl, ?_, ?_⟩, ?_⟩
  .intro b off hp;have hmem:MemPlace.cell b off∈before:=by rw[hps];simpa using hp
   have hq:=hz b off hmem;have hl:b<W.heap.size:=hlt _ hmem;simpa only[World.frozen?,hb.block b hl]using hq
  .grind
  .intro p hp _;rw[hps];simpa using hp
end
end
end Go.Abs
