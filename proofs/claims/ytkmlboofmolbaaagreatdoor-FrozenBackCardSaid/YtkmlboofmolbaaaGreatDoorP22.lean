/- A part of the proofs. -/
import Derived.KernelRfl
import Derived.Test.YtkmlboofmolbaaaGreatDoorProg
import Derived.Test.YtkmlboofmolbaaaGreatDoorP09
import Derived.Test.YtkmlboofmolbaaaGreatDoorP19
import Derived.Test.YtkmlboofmolbaaaGreatDoorP20
import Derived.Test.YtkmlboofmolbaaaGreatDoorP21
set_option linter.all false
set_option maxRecDepth 60000
set_option maxHeartbeats 2000000
namespace Go.Abs
section
def A109 (T:FT):Prop:=∀(g:Gs) (n:Int),(n<=9223372036854775807)->(0<=g.i/\g.i<=1000000)->T (Gs.D g) [.int .i64 n] (.int .i64 (g.val n)) (Gs.D g.aR)
def D109:yb (nR A109):=BL
def A110 (T:FT):Prop:=∀(g:Gs) (nm:av) (v:bX) (most:Int),(0<=g.i/\g.i<=970000)->(0<=most/\most<=100)->T (Gs.D g) [.str nm,bX.D v,.int .i64 most] (Rec.D (oV g nm v most).1) (Gs.D (oV g nm v most).2)
def D110:yb (nR A110):=BL
def A124 (T:RT):Prop:=Sj T/\Nh T
def A266 (T:FT):Prop:=∀(g:Gs) (l:List bJ),(0<=g.i/\g.i<=960000)->(ja l/\1<=l.length/\l.length<=100)->T (Gs.D g) [.sl 2 (l.map bJ.D)] (.sl 2 ((lF g l).1.map bJ.D)) (Gs.D (lF g l).2)
def D266:yb (nR A266):=BL
def A296 (T:FT):Prop:=∀(g:Gs) (own:av),(0<=g.i/\g.i<=980000)->T (Gs.D g) [.str own] (bj.D (mc g own).1) (Gs.D (mc g own).2)
def D296:yb (nR A296):=BL
def A297 (T:FT):Prop:=∀(g:Gs) (own:av),(0<=g.i/\g.i<=990000)->T (Gs.D g) [.str own] (.str (cN g own).1) (Gs.D (cN g own).2)
def D297:yb (nR A297):=BL
def A298 (T:FT):Prop:=∀(g:Gs) (l:List bj),(0<=g.i/\g.i<=980000)->((∀n∈l,n.sm)/\l.length<=1000)->T (Gs.D g) [.sl 3 (l.map bj.D)] (b6.D (mQ g l).1) (Gs.D (mQ g l).2)
def D298:yb (nR A298):=BL
def u505:List D->Nat:=negD
def A535 (T:FT):Prop:=∀(g:Gs) (own:av),(0<=g.i/\g.i<=990000)->T (Gs.D g) [.str own] (cZ.D (dw g own).1) (Gs.D (dw g own).2)
def D535:yb (nR A535):=BL
def D1216:Det (G1 D5):=VU
noncomputable def aA:List (Nat×mC):=[(25,rP 1 PO),(28,rP 16 PQ),(29,rP 2 PR),(46,rP 13 PS),(52,rP 17 PT),(70,rP 14 y5),(71,rP 14 y5),(72,rP 15 y6),(73,rP 15 y6),(74,rP 16 y7),(75,rP 16 y7),(89,rP 22 ZW),(90,rP 20 PU),(91,rP 28 PV),(92,rP 21 PW),(109,rF 2 A109),(110,rF 6 A110),(111,rP 1 Sg),(112,rP 1 Si),(114,rP 1 Ij),(124,rP 1 A124),(135,rP 1 Sk),(136,rP 15 Ik),(138,rP 2 tk),(142,rP 18 tl),(143,rP 16 Il),(144,rP 3 tk),(145,rP 18 tl),(147,rP 27 Im),(153,rP 1 Io),(156,bQ eK eE 10 156),(158,rP 2 Ip),(159,rP 1 Iq),(169,rP 14 tm),(170,rP 15 tv),(175,rP 12 tm),(183,rP 12 Ir),(184,rP 2 Is),(186,rP 16 tD),(208,rP 1 tn),(209,rP 4 tp),(210,rP 13 tq),(211,rP 11 It),(212,bQ eK eE 10 212),(213,bQ eK eE 10 213),(214,rP 11 Iu),(215,rP 6 tt),(216,rP 2 tn),(217,rP 4 tp),(218,rP 13 Iv),(219,rP 6 tt),(220,rP 2 tu),(221,rP 2 tu),(242,rP 1 Sn),(249,rP 1 Iw),(254,rP 1 So),(264,rP 20 Ix),(265,rP 21 Iy),(266,rF 19 A266),(267,rP 14 Iz),(268,rP 2 IA),(269,rP 17 IB),(270,rP 20 IC),(273,rP 13 tv),(274,rP 18 tw),(295,rP 5 tx),(296,rF 5 A296),(297,rF 3 A297),(298,rF 3 A298),(315,rP 6 ID),(316,rP 5 tG),(336,rP 1 oI),(344,rP 3 IE),(345,rP 11 IF),(349,rP 1 tz),(353,rP 17 tA),(354,rP 2 IG),(355,rP 1 IH),(356,rP 1 II),(357,rP 2 tz),(358,rP 17 tA),(359,rP 1 tC),(360,rP 17 IJ),(361,rP 2 tC),(362,rG 26 C362),(374,bQ eK eE 10 374),(375,rP 1 Sp),(376,bQ eK eE 10 376),(377,bQ eK eE 10 377),(378,bQ eK eE 10 378),(379,bQ eK eE 10 379),(381,rP 1 IK),(403,rP 13 IL),(408,rP 3 IM),(409,rP 11 IN),(410,rP 14 tD),(415,rP 11 IP),(416,rP 1 IQ),(417,rP 13 IS),(424,rP 5 tx),(440,rP 1 tE),(441,rP 3 IU),(442,rP 2 IV),(443,rP 12 tF),(444,bQ eK eE 10 444),(445,bQ eK eE 10 445),(446,bQ eK eE 10 446),(447,bQ eK eE 10 447),(448,bQ eK eE 10 448),(449,bQ eK eE 10 449),(450,rG 2 C450),(451,rP 5 tG),(452,rG 1 C452),(453,rP 1 IW),(454,rP 1 IX),(455,rP 1 tE),(456,rP 3 IY),(457,rP 12 tq),(458,rP 11 IZ),(459,bQ eK eE 10 459),(460,rP 11 I0),(461,rP 2 I1),(462,rP 1 I2),(463,rP 1 I3),(464,rP 1 I4),(470,rP 1 tK),(482,bQ eK eE 10 482),(487,rP 1 Ss),(489,rG 1 C489),(495,bQ eK eE 10 495),(496,bQ eK eE 10 496),(501,rP 6 tR),(502,rG 19 C502),(503,rP 18 I5),(504,rP 18 I6),(505,rP 5 Su u505),(506,rP 16 I7),(507,rP 1 I8),(508,rP 19 I9),(510,rP 1 Ja),(511,rP 9 tH),(516,rP 2 tI),(530,rP 1 Jb),(531,rP 1 Jc),(532,rP 2 tJ),(533,rP 1 tK),(534,rP 3 tL),(535,rF 4 A535),(536,rP 1 Jd),(553,rP 5 Je),(554,rP 3 Jf),(572,bQ eK eE 10 572),(580,rP 7 tH),(581,rP 1 Jg),(582,rG 25 C582),(583,rG 24 C583),(598,bQ eK eE 10 598),(599,bQ eK eE 10 599),(600,rP 1 Jh),(601,bQ eK eE 10 601),(602,bQ eK eE 10 602),(603,bQ eK eE 10 603),(604,bQ eK eE 10 604),(617,rP 1 Ji),(618,rP 12 Jj),(622,rP 10 Jk),(623,rP 12 tM),(624,rP 11 tN),(627,rP 10 tO),(628,rP 12 tM),(629,rP 11 tN),(630,rP 1 tJ),(631,rP 4 Jl),(658,rP 1 tP),(659,rP 1 tQ),(660,bQ eK eE 10 660),(661,bQ eK eE 10 661),(662,bQ eK eE 10 662),(663,bQ eK eE 10 663),(664,rG 1 C664),(665,rP 2 oI),(666,rP 1 Jm),(667,rP 2 tP),(668,rP 1 tQ),(669,rP 11 tF),(670,bQ eK eE 10 670),(671,bQ eK eE 10 671),(672,bQ eK eE 10 672),(673,rP 1 Jn),(674,rP 1 Jo),(676,bQ eK eE 10 676),(677,bQ eK eE 10 677),(678,bQ eK eE 10 678),(682,bQ eK eE 10 682),(683,rP 1 Sv),(684,bQ eK eE 10 684),(685,bQ eK eE 10 685),(689,rP 7 Jp),(690,rP 1 Jq),(691,rP 6 Jr),(692,rP 3 Js),(693,rP 3 Jt),(694,rP 4 Ju),(695,rP 18 tw),(699,rP 8 Jv),(700,rP 7 Jw),(701,rP 6 tR),(704,rP 1 Jx),(712,rP 10 tO),(714,rP 1 Jy),(734,rP 2 oI),(744,bQ eK eE 10 744),(745,bQ eK eE 10 745),(748,rG 24 C748),(749,rP 2 Jz),(750,rP 2 JA),(751,rG 11 C751),(752,rG 23 C752),(753,rP 13 JB),(754,rP 11 JC),(755,rG 22 C755),(769,bQ eK eE 10 769),(770,rP 9 tS),(771,bQ eK eE 10 771),(772,bQ eK eE 10 772),(777,rP 11 JD),(778,rP 10 JE),(780,rP 9 tS),(782,rP 9 tT),(783,rP 3 tL),(808,bQ eK eE 10 808),(809,bQ eK eE 10 809),(810,bQ eK eE 10 810),(811,bQ eK eE 10 811),(812,rP 3 JF),(813,bQ eK eE 10 813),(814,bQ eK eE 10 814),(815,rP 1 JG),(816,rP 2 JH),(819,bQ eK eE 10 819),(827,bQ eK eE 10 827),(828,bQ eK eE 10 828),(829,rP 1 JI),(830,rP 1 JJ),(831,rP 1 JK),(861,rP 9 tT),(882,rP 1 JL),(896,bQ eK eE 10 896),(897,bQ eK eE 10 897),(898,bQ eK eE 10 898),(899,bQ eK eE 10 899),(900,bQ eK eE 10 900),(901,bQ eK eE 10 901),(902,rP 1 JM),(903,rP 1 JN),(904,rP 12 JO),(905,rP 2 JP),(906,rP 12 JQ),(907,bQ eK eE 10 907),(908,bQ eK eE 10 908),(909,rG 21 C909),(916,rP 8 tV),(917,rP 2 JR),(918,bQ eK eE 10 918),(919,bQ eK eE 10 919),(920,bQ eK eE 10 920),(921,bQ eK eE 10 921),(924,rP 1 JS),(925,rP 8 tV),(926,rP 8 tW),(927,rP 1 tI),(946,bQ eK eE 10 946),(947,bQ eK eE 10 947),(948,bQ eK eE 10 948),(949,bQ eK eE 10 949),(950,bQ eK eE 10 950),(951,bQ eK eE 10 951),(952,bQ eK eE 10 952),(953,bQ eK eE 10 953),(954,bQ eK eE 10 954),(955,rP 1 JT),(956,bQ eK eE 10 956),(957,bQ eK eE 10 957),(980,rP 8 tW),(1006,bQ eK eE 10 1006),(1007,bQ eK eE 10 1007),(1008,bQ eK eE 10 1008),(1009,rP 11 DV),(1010,bQ eK eE 10 1010),(1011,bQ eK eE 10 1011),(1012,rP 17 DW),(1013,rP 20 DX),(1014,rP 17 DY),(1015,rP 7 DZ),(1019,rP 7 pW),(1020,rP 6 pX),(1021,bQ eK eE 10 1021),(1023,rP 7 pW),(1024,rP 6 pX),(1025,rP 6 pY),(1031,bQ eK eE 10 1031),(1032,bQ eK eE 10 1032),(1033,bQ eK eE 10 1033),(1034,bQ eK eE 10 1034),(1035,bQ eK eE 10 1035),(1036,bQ eK eE 10 1036),(1055,rP 6 pY),(1079,bQ eK eE 10 1079),(1080,rP 1 D0),(1081,bQ eK eE 10 1081),(1082,bQ eK eE 10 1082),(1083,rP 19 D1),(1084,rP 18 D2),(1085,bQ eK eE 10 1085),(1086,rP 5 pZ),(1087,rP 5 pZ),(1097,bQ eK eE 10 1097),(1098,bQ eK eE 10 1098),(1099,bQ eK eE 10 1099),(1100,bQ eK eE 10 1100),(1118,bQ eK eE 10 1118),(1119,bQ eK eE 10 1119),(1120,rP 3 D3),(1121,rP 1 D4),(1122,bQ eK eE 10 1122),(1126,bQ eK eE 10 1126),(1137,bQ eK eE 10 1137),(1138,bQ eK eE 10 1138),(1139,bQ eK eE 10 1139),(1141,bQ eK eE 10 1141),(1144,bQ eK eE 10 1144),(1145,bQ eK eE 10 1145),(1147,bQ eK eE 10 1147),(1148,bQ eK eE 10 1148),(1216,rP 29 D5)]
variable {k u v:Nat}
def AllR (F:Nat->mC):List (Nat×aj)->Prop
 |[]=>True
 |p::r=>lk aA p.1 mU=F p.1/\AllR F r
def AllR.ok {F:Nat->mC}:∀{l:List (Nat×aj)},AllR F l->∀f a,lk (l.map fun p=>(p.1,some p.2)) f none=some a->lk aA f mU=F f
 |[],_,f,a,h=>by simp[lk]at h
 |p::r,h,f,a,h1=>by
  simp only[List.map_cons,lk]at h1;cases h2:Nat.beq p.1 f with
  |true=>rw[<-Nat.eq_of_beq_eq_true h2];exact h.1
  |false=>rw[h2]at h1;exact h.2.ok f a h1
def b8:∀f a,eK f=some a->lk aA f mU=bQ eK eE 10 f:=AllR.ok (l:=tbT) ⟨rfl,rfl,rfl,rfl,rfl,rfl,rfl,rfl,rfl,rfl,rfl,rfl,rfl,rfl,rfl,rfl,rfl,rfl,rfl,rfl,rfl,rfl,rfl,rfl,rfl,rfl,rfl,rfl,rfl,rfl,rfl,rfl,rfl,rfl,rfl,rfl,rfl,rfl,rfl,rfl,rfl,rfl,rfl,rfl,rfl,rfl,rfl,rfl,rfl,rfl,rfl,rfl,rfl,rfl,rfl,rfl,rfl,rfl,rfl,rfl,rfl,rfl,rfl,rfl,rfl,rfl,rfl,rfl,rfl,rfl,rfl,rfl,rfl,rfl,rfl,rfl,rfl,rfl,rfl,rfl,rfl,rfl,rfl,rfl,rfl,rfl,rfl,rfl,rfl,rfl,rfl,rfl,rfl,rfl,rfl,rfl,rfl,rfl,rfl,rfl,rfl,rfl,rfl,rfl,rfl,rfl,rfl,trivial⟩
def G25 (hk:1<k:=by decide):C25 (under aA k u):=aN
def G28 (hk:16<k:=by decide):C28 (under aA k u):=aN
def G29 (hk:2<k:=by decide):C29 (under aA k u):=aN
def G46 (hk:13<k:=by decide):C46 (under aA k u):=aN
def G52 (hk:17<k:=by decide):C52 (under aA k u):=aN
def G70 (hk:14<k:=by decide):C70 (under aA k u):=aN
def G71 (hk:14<k:=by decide):C71 (under aA k u):=aN
def G72 (hk:15<k:=by decide):C72 (under aA k u):=aN
def G73 (hk:15<k:=by decide):C73 (under aA k u):=aN
def G74 (hk:16<k:=by decide):C74 (under aA k u):=aN
def G75 (hk:16<k:=by decide):C75 (under aA k u):=aN
def G89 (hk:22<k:=by decide):C89 (under aA k u):=aN
def G90 (hk:20<k:=by decide):C90 (under aA k u):=aN
def G91 (hk:28<k:=by decide):C91 (under aA k u):=aN
def G92 (hk:21<k:=by decide):C92 (under aA k u):=aN
def Kk (hk:2<k:=by decide):Gi (under aA k u):=fun g n hp0 hp1=>okf D109 hk fun T h=>h g n hp0 hp1
def G110 (hk:6<k:=by decide):C110 (under aA k u):=fun g nm v most hp0 hp1=>okf D110 hk fun T h=>h g nm v most hp0 hp1
def G111 (hk:1<k:=by decide):C111 (under aA k u):=aN
def G112 (hk:1<k:=by decide):C112 (under aA k u):=aN
def G114 (hk:1<k:=by decide):C114 (under aA k u):=aN
def G124 (hk:1<k:=by decide):C124 (under aA k u):=fun s b hp=>okp VU (.inl hk) fun T h=>h.1 s b hp
def G9124 (hk:1<k:=by decide):aek (under aA k u):=fun s hp=>okp VU (.inl hk) fun T h=>h.2 s hp
def G135 (hk:1<k:=by decide):C135 (under aA k u):=aN
def G136 (hk:15<k:=by decide):C136 (under aA k u):=aN
def G138 (hk:2<k:=by decide):C138 (under aA k u):=aN
def G142 (hk:18<k:=by decide):C142 (under aA k u):=aN
def G143 (hk:16<k:=by decide):UR (under aA k u):=aN
def G144 (hk:3<k:=by decide):US (under aA k u):=aN
def G145 (hk:18<k:=by decide):C145 (under aA k u):=aN
def G147 (hk:27<k:=by decide):C147 (under aA k u):=aN
def G153 (hk:1<k:=by decide):C153 (under aA k u):=aN
def G158 (hk:2<k:=by decide):C158 (under aA k u):=aN
def G159 (hk:1<k:=by decide):C159 (under aA k u):=aN
def G169 (hk:14<k:=by decide):C169 (under aA k u):=aN
def G170 (hk:15<k:=by decide):UT (under aA k u):=aN
def G175 (hk:12<k:=by decide):C175 (under aA k u):=aN
def G183 (hk:12<k:=by decide):C183 (under aA k u):=aN
def G184 (hk:2<k:=by decide):C184 (under aA k u):=aN
def G186 (hk:16<k:=by decide):C186 (under aA k u):=aN
def U7 (hk:1<k:=by decide):Sz (under aA k u):=aN
def Bx (hk:4<k:=by decide):An (under aA k u):=aN
def G210 (hk:13<k:=by decide):C210 (under aA k u):=aN
def G211 (hk:11<k:=by decide):C211 (under aA k u):=aN
def G214 (hk:11<k:=by decide):C214 (under aA k u):=aN
def G215 (hk:6<k:=by decide):C215 (under aA k u):=aN
def Kl (hk:2<k:=by decide):Gj (under aA k u):=aN
def Eb (hk:4<k:=by decide):Bv (under aA k u):=aN
def G218 (hk:13<k:=by decide):C218 (under aA k u):=aN
def G219 (hk:6<k:=by decide):C219 (under aA k u):=aN
def G220 (hk:2<k:=by decide):C220 (under aA k u):=aN
def G221 (hk:2<k:=by decide):C221 (under aA k u):=aN
def G242 (hk:1<k:=by decide):C242 (under aA k u):=aN
def G249 (hk:1<k:=by decide):C249 (under aA k u):=aN
def G254 (hk:1<k:=by decide):C254 (under aA k u):=aN
def G264 (hk:20<k:=by decide):C264 (under aA k u):=aN
def G265 (hk:21<k:=by decide):C265 (under aA k u):=aN
def G266 (hk:19<k:=by decide):C266 (under aA k u):=fun g l hp0 hp1=>okf D266 hk fun T h=>h g l hp0 hp1
def G267 (hk:14<k:=by decide):C267 (under aA k u):=aN
def G268 (hk:2<k:=by decide):C268 (under aA k u):=aN
def G269 (hk:17<k:=by decide):C269 (under aA k u):=aN
def G270 (hk:20<k:=by decide):C270 (under aA k u):=aN
def G273 (hk:13<k:=by decide):C273 (under aA k u):=aN
def G274 (hk:18<k:=by decide):C274 (under aA k u):=aN
def U8 (hk:5<k:=by decide):SA (under aA k u):=aN
def G296 (hk:5<k:=by decide):C296 (under aA k u):=fun g own hp0=>okf D296 hk fun T h=>h g own hp0
def G297 (hk:3<k:=by decide):C297 (under aA k u):=fun g own hp0=>okf D297 hk fun T h=>h g own hp0
def G298 (hk:3<k:=by decide):C298 (under aA k u):=fun g l hp0 hp1=>okf D298 hk fun T h=>h g l hp0 hp1
def G315 (hk:6<k:=by decide):C315 (under aA k u):=aN
def G316 (hk:5<k:=by decide):C316 (under aA k u):=aN
def G336 (hk:1<k:=by decide):C336 (under aA k u):=aN
def G344 (hk:3<k:=by decide):C344 (under aA k u):=aN
def G345 (hk:11<k:=by decide):C345 (under aA k u):=aN
def U9 (hk:1<k:=by decide):SB (under aA k u):=aN
def G353 (hk:17<k:=by decide):C353 (under aA k u):=aN
def G354 (hk:2<k:=by decide):C354 (under aA k u):=aN
def G355 (hk:1<k:=by decide):C355 (under aA k u):=aN
def G356 (hk:1<k:=by decide):C356 (under aA k u):=aN
def G357 (hk:2<k:=by decide):UU (under aA k u):=aN
def Va (hk:17<k:=by decide):SC (under aA k u):=aN
def G359 (hk:1<k:=by decide):C359 (under aA k u):=aN
def G360 (hk:17<k:=by decide):C360 (under aA k u):=aN
def G361 (hk:2<k:=by decide):C361 (under aA k u):=aN
def G362 (hk:26<k:=by decide):C362 (under aA k u):=fun y hp0 nx lf m K h1 hat hK=>Rn (.inl hk) fun T _ h=>h y hp0 nx lf m K h1 hat hK
def G375 (hk:1<k:=by decide):C375 (under aA k u):=aN
def G381 (hk:1<k:=by decide):C381 (under aA k u):=aN
def G403 (hk:13<k:=by decide):C403 (under aA k u):=aN
def G408 (hk:3<k:=by decide):C408 (under aA k u):=aN
def G409 (hk:11<k:=by decide):C409 (under aA k u):=aN
def G410 (hk:14<k:=by decide):C410 (under aA k u):=aN
def G415 (hk:11<k:=by decide):C415 (under aA k u):=aN
def G416 (hk:1<k:=by decide):C416 (under aA k u):=aN
def G417 (hk:13<k:=by decide):C417 (under aA k u):=aN
def Vb (hk:5<k:=by decide):SD (under aA k u):=aN
def G440 (hk:1<k:=by decide):C440 (under aA k u):=aN
def G441 (hk:3<k:=by decide):C441 (under aA k u):=aN
def G442 (hk:2<k:=by decide):C442 (under aA k u):=aN
def G443 (hk:12<k:=by decide):C443 (under aA k u):=aN
def G450 (hk:2<k:=by decide):C450 (under aA k u):=fun ws t l lw nx m K h1 h2 h3 h4 h5 hK=>Rn (.inl hk) fun T _ h=>h ws t l lw nx m K h1 h2 h3 h4 h5 hK
def G451 (hk:5<k:=by decide):C451 (under aA k u):=aN
def G452 (hk:1<k:=by decide):C452 (under aA k u):=fun ds st K h1=>Rn (.inl hk) fun T _ h=>h ds st K h1
def G453 (hk:1<k:=by decide):C453 (under aA k u):=aN
def G454 (hk:1<k:=by decide):C454 (under aA k u):=aN
def G455 (hk:1<k:=by decide):C455 (under aA k u):=aN
def G456 (hk:3<k:=by decide):C456 (under aA k u):=aN
def G457 (hk:12<k:=by decide):C457 (under aA k u):=aN
def G458 (hk:11<k:=by decide):C458 (under aA k u):=aN
def G460 (hk:11<k:=by decide):C460 (under aA k u):=aN
def G461 (hk:2<k:=by decide):C461 (under aA k u):=aN
def G462 (hk:1<k:=by decide):C462 (under aA k u):=aN
def G463 (hk:1<k:=by decide):C463 (under aA k u):=aN
def G464 (hk:1<k:=by decide):C464 (under aA k u):=aN
def G470 (hk:1<k:=by decide):C470 (under aA k u):=aN
def G487 (hk:1<k:=by decide):C487 (under aA k u):=aN
def G489 (hk:1<k:=by decide):C489 (under aA k u):=fun ds st K h1=>Rn (.inl hk) fun T _ h=>h ds st K h1
def G501 (hk:6<k:=by decide):C501 (under aA k u):=aN
def G502 (hk:19<k:=by decide):C502 (under aA k u):=fun shop w x c kvs hp0 hp1 nx lm lc m K hlc hlm h1 h2 hK=>Rn (.inl hk) fun T _ h=>h shop w x c kvs hp0 hp1 nx lm lc m K hlc hlm h1 h2 hK
def G503 (hk:18<k:=by decide):C503 (under aA k u):=aN
def G504 (hk:18<k:=by decide):C504 (under aA k u):=aN
def G505 (hk:5<k:=by decide):C505 (under aA k u):=aN
def G505u (hv:v<=u):aej (under aA 5 u) v:=fun m od c hp0 hu=>okp VU (.inr ⟨rfl,by rw[show(lk aA 505 mU).mu=negD from rfl,Rf];exact jd hu hv⟩) fun T hT=>hT m od c hp0
def G506 (hk:16<k:=by decide):C506 (under aA k u):=aN
def G507 (hk:1<k:=by decide):C507 (under aA k u):=aN
def G508 (hk:19<k:=by decide):C508 (under aA k u):=aN
def G510 (hk:1<k:=by decide):C510 (under aA k u):=aN
def G511 (hk:9<k:=by decide):C511 (under aA k u):=aN
def G516 (hk:2<k:=by decide):C516 (under aA k u):=aN
def G530 (hk:1<k:=by decide):C530 (under aA k u):=aN
def G531 (hk:1<k:=by decide):C531 (under aA k u):=aN
def G532 (hk:2<k:=by decide):C532 (under aA k u):=aN
def G533 (hk:1<k:=by decide):UW (under aA k u):=aN
def G534 (hk:3<k:=by decide):C534 (under aA k u):=aN
def G535 (hk:4<k:=by decide):C535 (under aA k u):=fun g own hp0=>okf D535 hk fun T h=>h g own hp0
def G536 (hk:1<k:=by decide):C536 (under aA k u):=aN
def G553 (hk:5<k:=by decide):C553 (under aA k u):=aN
def G554 (hk:3<k:=by decide):C554 (under aA k u):=aN
def G580 (hk:7<k:=by decide):UX (under aA k u):=aN
def G581 (hk:1<k:=by decide):C581 (under aA k u):=aN
def G582 (hk:25<k:=by decide):C582 (under aA k u):=fun y ns hp0 hp1 nx lf ln lr m K h1 h2 h3 hne hat hK=>Rn (.inl hk) fun T _ h=>h y ns hp0 hp1 nx lf ln lr m K h1 h2 h3 hne hat hK
def G583 (hk:24<k:=by decide):C583 (under aA k u):=fun y ns all k hp0 hp1 nx lf ln lr m K h1 h2 h3 hne hat hK=>Rn (.inl hk) fun T _ h=>h y ns all k hp0 hp1 nx lf ln lr m K h1 h2 h3 hne hat hK
def G600 (hk:1<k:=by decide):C600 (under aA k u):=aN
def G617 (hk:1<k:=by decide):C617 (under aA k u):=aN
def G618 (hk:12<k:=by decide):C618 (under aA k u):=aN
def G622 (hk:10<k:=by decide):C622 (under aA k u):=aN
def G623 (hk:12<k:=by decide):C623 (under aA k u):=aN
def G624 (hk:11<k:=by decide):C624 (under aA k u):=aN
def G627 (hk:10<k:=by decide):C627 (under aA k u):=aN
def G628 (hk:12<k:=by decide):C628 (under aA k u):=aN
def G629 (hk:11<k:=by decide):C629 (under aA k u):=aN
def G630 (hk:1<k:=by decide):UY (under aA k u):=aN
def G631 (hk:4<k:=by decide):C631 (under aA k u):=aN
def G658 (hk:1<k:=by decide):C658 (under aA k u):=aN
def G659 (hk:1<k:=by decide):C659 (under aA k u):=aN
def G664 (hk:1<k:=by decide):C664 (under aA k u):=fun ds st K h1=>Rn (.inl hk) fun T _ h=>h ds st K h1
def G665 (hk:2<k:=by decide):C665 (under aA k u):=aN
def G666 (hk:1<k:=by decide):C666 (under aA k u):=aN
def G667 (hk:2<k:=by decide):C667 (under aA k u):=aN
def G668 (hk:1<k:=by decide):C668 (under aA k u):=aN
def G669 (hk:11<k:=by decide):C669 (under aA k u):=aN
def G673 (hk:1<k:=by decide):C673 (under aA k u):=aN
def G674 (hk:1<k:=by decide):C674 (under aA k u):=aN
def G683 (hk:1<k:=by decide):C683 (under aA k u):=aN
def G689 (hk:7<k:=by decide):C689 (under aA k u):=aN
def G690 (hk:1<k:=by decide):C690 (under aA k u):=aN
def G691 (hk:6<k:=by decide):C691 (under aA k u):=aN
def G692 (hk:3<k:=by decide):C692 (under aA k u):=aN
def G693 (hk:3<k:=by decide):C693 (under aA k u):=aN
def G694 (hk:4<k:=by decide):C694 (under aA k u):=aN
def G695 (hk:18<k:=by decide):C695 (under aA k u):=aN
def G699 (hk:8<k:=by decide):C699 (under aA k u):=aN
def G700 (hk:7<k:=by decide):C700 (under aA k u):=aN
def G701 (hk:6<k:=by decide):C701 (under aA k u):=aN
def G704 (hk:1<k:=by decide):C704 (under aA k u):=aN
def G712 (hk:10<k:=by decide):C712 (under aA k u):=aN
def G714 (hk:1<k:=by decide):C714 (under aA k u):=aN
def G734 (hk:2<k:=by decide):C734 (under aA k u):=aN
def G748 (hk:24<k:=by decide):C748 (under aA k u):=fun y ns k hp0 hp1 nx lf ln lr m K h1 h2 h3 hne hat hK=>Rn (.inl hk) fun T _ h=>h y ns k hp0 hp1 nx lf ln lr m K h1 h2 h3 hne hat hK
def G749 (hk:2<k:=by decide):C749 (under aA k u):=aN
def G750 (hk:2<k:=by decide):C750 (under aA k u):=aN
def G751 (hk:11<k:=by decide):C751 (under aA k u):=fun y ns hp0 hp1 nx lf ln lr m K h1 h2 h3 hne hat hK=>Rn (.inl hk) fun T _ h=>h y ns hp0 hp1 nx lf ln lr m K h1 h2 h3 hne hat hK
def G752 (hk:23<k:=by decide):C752 (under aA k u):=fun y ns k hp0 hp1 nx lf ln lr m K h1 h2 h3 hne hat hK=>Rn (.inl hk) fun T _ h=>h y ns k hp0 hp1 nx lf ln lr m K h1 h2 h3 hne hat hK
def G753 (hk:13<k:=by decide):C753 (under aA k u):=aN
def G754 (hk:11<k:=by decide):C754 (under aA k u):=aN
def G755 (hk:22<k:=by decide):C755 (under aA k u):=fun y ns nm hp0 hp1 nx lf ln lr m K h1 h2 h3 hne hat hK=>Rn (.inl hk) fun T _ h=>h y ns nm hp0 hp1 nx lf ln lr m K h1 h2 h3 hne hat hK
def G770 (hk:9<k:=by decide):UZ (under aA k u):=aN
def G777 (hk:11<k:=by decide):C777 (under aA k u):=aN
def G778 (hk:10<k:=by decide):C778 (under aA k u):=aN
def G780 (hk:9<k:=by decide):C780 (under aA k u):=aN
def G782 (hk:9<k:=by decide):C782 (under aA k u):=aN
def G783 (hk:3<k:=by decide):C783 (under aA k u):=aN
def G812 (hk:3<k:=by decide):C812 (under aA k u):=aN
def G815 (hk:1<k:=by decide):C815 (under aA k u):=aN
def G816 (hk:2<k:=by decide):C816 (under aA k u):=aN
def G829 (hk:1<k:=by decide):C829 (under aA k u):=aN
def G830 (hk:1<k:=by decide):C830 (under aA k u):=aN
def G831 (hk:1<k:=by decide):C831 (under aA k u):=aN
def G861 (hk:9<k:=by decide):C861 (under aA k u):=aN
def G882 (hk:1<k:=by decide):C882 (under aA k u):=aN
def G902 (hk:1<k:=by decide):C902 (under aA k u):=aN
def G903 (hk:1<k:=by decide):C903 (under aA k u):=aN
def G904 (hk:12<k:=by decide):C904 (under aA k u):=aN
def G905 (hk:2<k:=by decide):C905 (under aA k u):=aN
def G906 (hk:12<k:=by decide):C906 (under aA k u):=aN
def G909 (hk:21<k:=by decide):C909 (under aA k u):=fun y ns nm hp0 nx lf ln lr m K h1 h2 h3 hne hat hK=>Rn (.inl hk) fun T _ h=>h y ns nm hp0 nx lf ln lr m K h1 h2 h3 hne hat hK
def G916 (hk:8<k:=by decide):U1 (under aA k u):=aN
def G917 (hk:2<k:=by decide):C917 (under aA k u):=aN
def G924 (hk:1<k:=by decide):C924 (under aA k u):=aN
def G925 (hk:8<k:=by decide):C925 (under aA k u):=aN
def G926 (hk:8<k:=by decide):C926 (under aA k u):=aN
def G927 (hk:1<k:=by decide):C927 (under aA k u):=aN
def G955 (hk:1<k:=by decide):C955 (under aA k u):=aN
def G980 (hk:8<k:=by decide):C980 (under aA k u):=aN
def ael (hk:11<k:=by decide):UO (under aA k u):=aN
def G1012 (hk:17<k:=by decide):ad7 (under aA k u):=aN
def G1013 (hk:20<k:=by decide):ad8 (under aA k u):=aN
def G1014 (hk:17<k:=by decide):ad9 (under aA k u):=aN
def G1015 (hk:7<k:=by decide):aea (under aA k u):=aN
def U3 (hk:7<k:=by decide):Ki (under aA k u):=aN
def U4 (hk:6<k:=by decide):Qc (under aA k u):=aN
def aem (hk:7<k:=by decide):UP (under aA k u):=aN
def aen (hk:6<k:=by decide):UQ (under aA k u):=aN
def G1025 (hk:6<k:=by decide):aeb (under aA k u):=aN
def G1055 (hk:6<k:=by decide):aec (under aA k u):=aN
def G1080 (hk:1<k:=by decide):aed (under aA k u):=aN
def G1083 (hk:19<k:=by decide):aee (under aA k u):=aN
def G1084 (hk:18<k:=by decide):aef (under aA k u):=aN
def U5 (hk:5<k:=by decide):Qd (under aA k u):=aN
def U6 (hk:5<k:=by decide):Qe (under aA k u):=aN
def G1120 (hk:3<k:=by decide):aeh (under aA k u):=aN
def G1121 (hk:1<k:=by decide):aei (under aA k u):=aN
def G212 (hk:10<k:=by decide):C212 (under aA k u):=fun s hp=>ku rfl hk (ev212 hp)
def G670 (hk:10<k:=by decide):C670 (under aA k u):=fun s hp=>ku rfl hk (ev670 hp)
def G448 (hk:10<k:=by decide):C448 (under aA k u):=fun s hp=>ku rfl hk (ev448 hp)
def G672 (hk:10<k:=by decide):C672 (under aA k u):=fun s hp=>ku rfl hk (ev672 hp)
def G444 (hk:10<k:=by decide):C444 (under aA k u):=fun s hp=>ku rfl hk (ev444 hp)
def G572 (hk:10<k:=by decide):C572 (under aA k u):=fun s hp=>ku rfl hk (ev572 hp)
def G213 (hk:10<k:=by decide):C213 (under aA k u):=fun l hp=>ku rfl hk (ev213 hp)
def G459 (hk:10<k:=by decide):C459 (under aA k u):=fun l hp=>ku rfl hk (ev459 hp)
def G908 (hk:10<k:=by decide):C908 (under aA k u):=fun s hp=>ku rfl hk (ev908 hp)
def G1011 (hk:10<k:=by decide):ad6 (under aA k u):=fun s hp=>ku rfl hk (ahR hp)
def G1085 (hk:10<k:=by decide):aeg (under aA k u):=fun s hp=>ku rfl hk (ahS hp)
def aeo (hk:10<k:=by decide):U0 (under aA k u):=fun v hp=>ku rfl hk (ev156 hp)
def G374 (hk:10<k:=by decide):C374 (under aA k u):=ku rfl hk ev374
def G907 (hk:10<k:=by decide):C907 (under aA k u):=fun s e hp=>ku rfl hk (ev907 hp.1 hp.2)
def eN (u:Nat):Rm (under aA 10 u) eE:=ahX (ahW U9 G357 U7 Kl G658 G667 G665 G734 G533 G470 G124 G9124 G683 G487 G254 G815 G249 G242 Bx Eb) (ahV G144 G375 G600 G770 G816 G916 U3 U4)
end
def ar:(Go.Proofs.Tryz.prog).follows .mixedOrders=true:=xX
abbrev Ow [cG](f n:Nat):Prop:=Owe Go.Proofs.Tryz.prog AF NR aA f n
abbrev Cp (f:Nat)(a:aj):Prop:=UF Go.Proofs.Tryz.prog AF NR f a
def ck {f:Nat}{a:aj}(h:((Go.Proofs.Tryz.prog).funcs[f]?).map (fun f=>(compile Go.Proofs.Tryz.prog AF NR f,f.name== "runtime.NumGoroutine"))=some (some a,false):=by kernel_rfl):Cp f a:=h
end Go.Abs
