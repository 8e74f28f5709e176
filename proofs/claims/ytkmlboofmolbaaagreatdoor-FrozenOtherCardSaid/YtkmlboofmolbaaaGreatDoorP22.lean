/- A part of the proofs. -/
import Derived.KernelRfl
import Derived.Test.YtkmlboofmolbaaaGreatDoorProg
import Derived.Test.YtkmlboofmolbaaaGreatDoorP09
import Derived.Test.YtkmlboofmolbaaaGreatDoorP19
import Derived.Test.YtkmlboofmolbaaaGreatDoorP20
import Derived.Test.YtkmlboofmolbaaaGreatDoorP21
set_option linter.all false
set_option maxRecDepth 60000
set_option maxHeartbeats 2000000
namespace Go.Abs
variable(T:FT)
section
def A109:=∀(g:Gs) (n:Int),(n<=9223372036854775807)->(0<=g.i/\g.i<=1000000)->T (Gs.D g) [.int .i64 n] (.int .i64 (g.val n)) (Gs.D g.aS)
def D109:yB (n8 A109):=B8
def A110:=∀(g:Gs) (nm:au) (v:bV) (most:Int),(0<=g.i/\g.i<=970000)->(0<=most/\most<=100)->T (Gs.D g) [.str nm,bV.D v,.int .i64 most] (Rec.D (ph g nm v most).1) (Gs.D (ph g nm v most).2)
def D110:yB (n8 A110):=B8
def A124 (T:RT):Prop:=S0 T/\NS T
def A266:=∀(g:Gs) (l:List bA),(0<=g.i/\g.i<=960000)->(iH l/\1<=l.length/\l.length<=100)->T (Gs.D g) [.sl 2 (l.map bA.D)] (.sl 2 ((lS g l).1.map bA.D)) (Gs.D (lS g l).2)
def D266:yB (n8 A266):=B8
def A296:=∀(g:Gs) (own:au),(0<=g.i/\g.i<=980000)->T (Gs.D g) [.str own] (bn.D (mB g own).1) (Gs.D (mB g own).2)
def D296:yB (n8 A296):=B8
def A297:=∀(g:Gs) (own:au),(0<=g.i/\g.i<=990000)->T (Gs.D g) [.str own] (.str (cS g own).1) (Gs.D (cS g own).2)
def D297:yB (n8 A297):=B8
def A298:=∀(g:Gs) (l:List bn),(0<=g.i/\g.i<=980000)->((∀n∈l,n.sm)/\l.length<=1000)->T (Gs.D g) [.sl 3 (l.map bn.D)] (b6.D (m6 g l).1) (Gs.D (m6 g l).2)
def D298:yB (n8 A298):=B8
def u505:List D->Nat:=negD
def A535:=∀(g:Gs) (own:au),(0<=g.i/\g.i<=990000)->T (Gs.D g) [.str own] (de.D (dE g own).1) (Gs.D (dE g own).2)
def D535:yB (n8 A535):=B8
def D1218:Det (Hq EB):=WD
noncomputable def az:List (Nat×mL):=[(25,rP 1 Qs),(28,rP 16 Qt),(29,rP 2 Qu),(46,rP 13 Qv),(52,rP 17 Qw),(70,rP 14 zx),(71,rP 14 zx),(72,rP 15 zy),(73,rP 15 zy),(74,rP 16 zz),(75,rP 16 zz),(89,rP 22 aaN),(90,rP 20 Qx),(91,rP 28 Qy),(92,rP 21 Qz),(109,rF 2 A109),(110,rF 6 A110),(111,rP 1 SY),(112,rP 1 SZ),(114,rP 1 IK),(124,rP 1 A124),(135,rP 1 S1),(136,rP 15 IL),(138,rP 2 tI),(142,rP 18 tJ),(143,rP 16 IM),(144,rP 3 tI),(145,rP 18 tJ),(147,rP 27 IN),(156,bS eS eN 10 156),(158,rP 2 IP),(159,rP 1 IQ),(169,rP 14 tK),(170,rP 15 tQ),(175,rP 12 tK),(183,rP 12 IS),(184,rP 2 IU),(186,rP 16 tX),(190,rP 1 IV),(208,rP 1 tL),(209,rP 4 tM),(210,rP 13 tN),(211,rP 11 IW),(212,bS eS eN 10 212),(213,bS eS eN 10 213),(214,rP 11 IX),(215,rP 6 tO),(216,rP 2 tL),(217,rP 4 tM),(218,rP 13 IY),(219,rP 6 tO),(220,rP 2 tP),(221,rP 2 tP),(242,rP 1 S4),(249,rP 1 IZ),(254,rP 1 S5),(264,rP 20 I0),(265,rP 21 I1),(266,rF 19 A266),(267,rP 14 I2),(268,rP 2 I3),(269,rP 17 I4),(270,rP 20 I5),(273,rP 13 tQ),(274,rP 18 tR),(295,rP 5 tS),(296,rF 5 A296),(297,rF 3 A297),(298,rF 3 A298),(315,rP 6 I6),(316,rP 5 ua),(336,rP 1 oT),(344,rP 3 I7),(345,rP 11 I8),(349,rP 1 tT),(353,rP 17 tV),(354,rP 2 I9),(355,rP 1 Ja),(356,rP 1 Jb),(357,rP 2 tT),(358,rP 17 tV),(359,rP 1 tW),(360,rP 17 Jc),(361,rP 2 tW),(362,rG 26 C362),(374,bS eS eN 10 374),(375,rP 1 S6),(376,bS eS eN 10 376),(377,bS eS eN 10 377),(378,bS eS eN 10 378),(379,bS eS eN 10 379),(381,rP 1 Jd),(403,rP 13 Je),(408,rP 3 Jf),(409,rP 11 Jg),(410,rP 14 tX),(415,rP 11 Jh),(416,rP 1 Ji),(417,rP 13 Jj),(424,rP 5 tS),(440,rP 1 tY),(441,rP 3 Jk),(442,rP 2 Jl),(443,rP 12 tZ),(444,bS eS eN 10 444),(445,bS eS eN 10 445),(446,bS eS eN 10 446),(447,bS eS eN 10 447),(448,bS eS eN 10 448),(449,bS eS eN 10 449),(450,rG 2 C450),(451,rP 5 ua),(452,rG 1 C452),(453,rP 1 Jm),(454,rP 1 Jn),(455,rP 1 tY),(456,rP 3 Jo),(457,rP 12 tN),(458,rP 11 Jp),(459,bS eS eN 10 459),(460,rP 11 Jq),(461,rP 2 Jr),(462,rP 1 Js),(463,rP 1 Jt),(464,rP 1 Ju),(470,rP 1 ue),(482,bS eS eN 10 482),(487,rP 1 S9),(489,rG 1 C489),(495,bS eS eN 10 495),(496,bS eS eN 10 496),(501,rP 6 um),(502,rG 19 C502),(503,rP 18 Jv),(504,rP 18 Jw),(505,rP 5 Ta u505),(506,rP 16 Jx),(507,rP 1 Jy),(508,rP 19 Jz),(510,rP 1 JA),(511,rP 9 ub),(516,rP 2 uc),(530,rP 1 JB),(531,rP 1 JC),(532,rP 2 ud),(533,rP 1 ue),(534,rP 3 uf),(535,rF 4 A535),(536,rP 1 JD),(553,rP 5 JE),(554,rP 3 JF),(572,bS eS eN 10 572),(580,rP 7 ub),(581,rP 1 JG),(582,rG 25 C582),(583,rG 24 C583),(598,bS eS eN 10 598),(599,bS eS eN 10 599),(600,rP 1 JH),(601,bS eS eN 10 601),(602,bS eS eN 10 602),(603,bS eS eN 10 603),(604,bS eS eN 10 604),(617,rP 1 JI),(618,rP 12 JJ),(622,rP 10 JK),(623,rP 12 ug),(624,rP 11 uh),(627,rP 10 ui),(628,rP 12 ug),(629,rP 11 uh),(630,rP 1 ud),(631,rP 4 JL),(658,rP 1 uj),(659,rP 1 uk),(660,bS eS eN 10 660),(661,bS eS eN 10 661),(662,bS eS eN 10 662),(663,bS eS eN 10 663),(664,rG 1 C664),(665,rP 2 oT),(666,rP 1 JM),(667,rP 2 uj),(668,rP 1 uk),(669,rP 11 tZ),(670,bS eS eN 10 670),(671,bS eS eN 10 671),(672,bS eS eN 10 672),(673,rP 1 JN),(674,rP 1 JO),(676,bS eS eN 10 676),(677,bS eS eN 10 677),(678,bS eS eN 10 678),(682,bS eS eN 10 682),(683,rP 1 Tb),(684,bS eS eN 10 684),(685,bS eS eN 10 685),(689,rP 7 JP),(690,rP 1 JQ),(691,rP 6 JR),(692,rP 3 JS),(693,rP 3 JT),(694,rP 4 JU),(695,rP 18 tR),(699,rP 8 JV),(700,rP 7 JW),(701,rP 6 um),(704,rP 1 JX),(712,rP 10 ui),(714,rP 1 JY),(734,rP 2 oT),(744,bS eS eN 10 744),(745,bS eS eN 10 745),(748,rG 24 C748),(749,rP 2 JZ),(750,rP 2 J0),(751,rG 11 C751),(752,rG 23 C752),(753,rP 13 J1),(754,rP 11 J2),(755,rG 22 C755),(769,bS eS eN 10 769),(770,rP 9 uo),(771,bS eS eN 10 771),(772,bS eS eN 10 772),(777,rP 11 J3),(778,rP 10 J4),(780,rP 9 uo),(782,rP 9 uq),(783,rP 3 uf),(808,bS eS eN 10 808),(809,bS eS eN 10 809),(810,bS eS eN 10 810),(811,bS eS eN 10 811),(812,rP 3 J5),(813,bS eS eN 10 813),(814,bS eS eN 10 814),(815,rP 1 J6),(816,rP 2 J7),(819,bS eS eN 10 819),(827,bS eS eN 10 827),(828,bS eS eN 10 828),(829,rP 1 J8),(830,rP 1 J9),(831,rP 1 Ka),(861,rP 9 uq),(882,rP 1 Kb),(896,bS eS eN 10 896),(897,bS eS eN 10 897),(898,bS eS eN 10 898),(899,bS eS eN 10 899),(900,bS eS eN 10 900),(901,bS eS eN 10 901),(902,rP 1 Kd),(903,rP 1 Ke),(904,rP 12 Kf),(905,rP 2 Kg),(906,rP 12 Kh),(907,bS eS eN 10 907),(908,bS eS eN 10 908),(909,rG 21 C909),(916,rP 8 ur),(917,rP 2 Ki),(918,bS eS eN 10 918),(919,bS eS eN 10 919),(920,bS eS eN 10 920),(921,bS eS eN 10 921),(924,rP 1 Kj),(925,rP 8 ur),(926,rP 8 uu),(927,rP 1 uc),(946,bS eS eN 10 946),(947,bS eS eN 10 947),(948,bS eS eN 10 948),(949,bS eS eN 10 949),(950,bS eS eN 10 950),(951,bS eS eN 10 951),(952,bS eS eN 10 952),(953,bS eS eN 10 953),(954,bS eS eN 10 954),(955,rP 1 Kk),(956,bS eS eN 10 956),(957,bS eS eN 10 957),(980,rP 8 uu),(1006,bS eS eN 10 1006),(1007,bS eS eN 10 1007),(1008,bS eS eN 10 1008),(1009,rP 11 Ep),(1010,bS eS eN 10 1010),(1011,bS eS eN 10 1011),(1012,rP 17 Er),(1013,rP 20 Es),(1014,rP 17 Et),(1015,rP 7 Eu),(1019,rP 7 qh),(1020,rP 6 qi),(1021,bS eS eN 10 1021),(1023,rP 7 qh),(1024,rP 6 qi),(1025,rP 6 qj),(1031,bS eS eN 10 1031),(1032,bS eS eN 10 1032),(1033,bS eS eN 10 1033),(1034,bS eS eN 10 1034),(1035,bS eS eN 10 1035),(1036,bS eS eN 10 1036),(1055,rP 6 qj),(1079,bS eS eN 10 1079),(1080,rP 1 Ev),(1081,bS eS eN 10 1081),(1082,bS eS eN 10 1082),(1083,rP 19 Ew),(1084,rP 18 Ey),(1085,bS eS eN 10 1085),(1086,rP 5 qk),(1087,rP 5 qk),(1097,bS eS eN 10 1097),(1098,bS eS eN 10 1098),(1099,bS eS eN 10 1099),(1100,bS eS eN 10 1100),(1118,bS eS eN 10 1118),(1119,bS eS eN 10 1119),(1120,rP 3 Ez),(1121,rP 1 EA),(1122,bS eS eN 10 1122),(1126,bS eS eN 10 1126),(1137,bS eS eN 10 1137),(1138,bS eS eN 10 1138),(1139,bS eS eN 10 1139),(1141,bS eS eN 10 1141),(1144,bS eS eN 10 1144),(1145,bS eS eN 10 1145),(1147,bS eS eN 10 1147),(1148,bS eS eN 10 1148),(1218,rP 29 EB)]
variable {k u v:Nat}
def AllR (F:Nat->mL):List (Nat×aj)->Prop
 |[]=>True
 |p::r=>lk az p.1 na=F p.1/\AllR F r
def AllR.ok {F:Nat->mL}:∀{l:List (Nat×aj)},AllR F l->∀f a,lk (l.map λp=>(p.1,some p.2)) f none=some a->lk az f na=F f
 |[],_,f,a,h=>by simp[lk]at h
 |p::r,h,f,a,h1=>by
  simp only[List.map_cons,lk]at h1;cases h2:Nat.beq p.1 f with
  |true=>rw[<-Nat.eq_of_beq_eq_true h2];exact h.1
  |false=>rw[h2]at h1;exact h.2.ok f a h1
def b9:∀f a,eS f=some a->lk az f na=bS eS eN 10 f:=AllR.ok (l:=tbT) ⟨rfl,rfl,rfl,rfl,rfl,rfl,rfl,rfl,rfl,rfl,rfl,rfl,rfl,rfl,rfl,rfl,rfl,rfl,rfl,rfl,rfl,rfl,rfl,rfl,rfl,rfl,rfl,rfl,rfl,rfl,rfl,rfl,rfl,rfl,rfl,rfl,rfl,rfl,rfl,rfl,rfl,rfl,rfl,rfl,rfl,rfl,rfl,rfl,rfl,rfl,rfl,rfl,rfl,rfl,rfl,rfl,rfl,rfl,rfl,rfl,rfl,rfl,rfl,rfl,rfl,rfl,rfl,rfl,rfl,rfl,rfl,rfl,rfl,rfl,rfl,rfl,rfl,rfl,rfl,rfl,rfl,rfl,rfl,rfl,rfl,rfl,rfl,rfl,rfl,rfl,rfl,rfl,rfl,rfl,rfl,rfl,rfl,rfl,rfl,rfl,rfl,rfl,rfl,rfl,rfl,rfl,rfl,trivial⟩
def G25 (hk:1<k:=by decide):C25 (under az k u):=aO
def G28 (hk:16<k:=by decide):C28 (under az k u):=aO
def G29 (hk:2<k:=by decide):C29 (under az k u):=aO
def G46 (hk:13<k:=by decide):C46 (under az k u):=aO
def G52 (hk:17<k:=by decide):C52 (under az k u):=aO
def G70 (hk:14<k:=by decide):C70 (under az k u):=aO
def G71 (hk:14<k:=by decide):C71 (under az k u):=aO
def G72 (hk:15<k:=by decide):C72 (under az k u):=aO
def G73 (hk:15<k:=by decide):C73 (under az k u):=aO
def G74 (hk:16<k:=by decide):C74 (under az k u):=aO
def G75 (hk:16<k:=by decide):C75 (under az k u):=aO
def G89 (hk:22<k:=by decide):C89 (under az k u):=aO
def G90 (hk:20<k:=by decide):C90 (under az k u):=aO
def G91 (hk:28<k:=by decide):C91 (under az k u):=aO
def G92 (hk:21<k:=by decide):C92 (under az k u):=aO
def KO (hk:2<k:=by decide):GM (under az k u):=λg n hp0 hp1=>okf D109 hk λT h=>h g n hp0 hp1
def G110 (hk:6<k:=by decide):C110 (under az k u):=λg nm v most hp0 hp1=>okf D110 hk λT h=>h g nm v most hp0 hp1
def G111 (hk:1<k:=by decide):C111 (under az k u):=aO
def G112 (hk:1<k:=by decide):C112 (under az k u):=aO
def G114 (hk:1<k:=by decide):C114 (under az k u):=aO
def G124 (hk:1<k:=by decide):C124 (under az k u):=λs b hp=>okp WD (.inl hk) λT h=>h.1 s b hp
def G9124 (hk:1<k:=by decide):afb (under az k u):=λs hp=>okp WD (.inl hk) λT h=>h.2 s hp
def G135 (hk:1<k:=by decide):C135 (under az k u):=aO
def G136 (hk:15<k:=by decide):C136 (under az k u):=aO
def G138 (hk:2<k:=by decide):C138 (under az k u):=aO
def G142 (hk:18<k:=by decide):C142 (under az k u):=aO
def G143 (hk:16<k:=by decide):Vz (under az k u):=aO
def G144 (hk:3<k:=by decide):VA (under az k u):=aO
def G145 (hk:18<k:=by decide):C145 (under az k u):=aO
def G147 (hk:27<k:=by decide):C147 (under az k u):=aO
def G158 (hk:2<k:=by decide):C158 (under az k u):=aO
def G159 (hk:1<k:=by decide):C159 (under az k u):=aO
def G169 (hk:14<k:=by decide):C169 (under az k u):=aO
def G170 (hk:15<k:=by decide):VB (under az k u):=aO
def G175 (hk:12<k:=by decide):C175 (under az k u):=aO
def G183 (hk:12<k:=by decide):C183 (under az k u):=aO
def G184 (hk:2<k:=by decide):C184 (under az k u):=aO
def G186 (hk:16<k:=by decide):C186 (under az k u):=aO
def G190 (hk:1<k:=by decide):C190 (under az k u):=aO
def VN (hk:1<k:=by decide):Tf (under az k u):=aO
def BV (hk:4<k:=by decide):AK (under az k u):=aO
def G210 (hk:13<k:=by decide):C210 (under az k u):=aO
def G211 (hk:11<k:=by decide):C211 (under az k u):=aO
def G214 (hk:11<k:=by decide):C214 (under az k u):=aO
def G215 (hk:6<k:=by decide):C215 (under az k u):=aO
def KP (hk:2<k:=by decide):GN (under az k u):=aO
def EJ (hk:4<k:=by decide):BT (under az k u):=aO
def G218 (hk:13<k:=by decide):C218 (under az k u):=aO
def G219 (hk:6<k:=by decide):C219 (under az k u):=aO
def G220 (hk:2<k:=by decide):C220 (under az k u):=aO
def G221 (hk:2<k:=by decide):C221 (under az k u):=aO
def G242 (hk:1<k:=by decide):C242 (under az k u):=aO
def G249 (hk:1<k:=by decide):C249 (under az k u):=aO
def G254 (hk:1<k:=by decide):C254 (under az k u):=aO
def G264 (hk:20<k:=by decide):C264 (under az k u):=aO
def G265 (hk:21<k:=by decide):C265 (under az k u):=aO
def G266 (hk:19<k:=by decide):C266 (under az k u):=λg l hp0 hp1=>okf D266 hk λT h=>h g l hp0 hp1
def G267 (hk:14<k:=by decide):C267 (under az k u):=aO
def G268 (hk:2<k:=by decide):C268 (under az k u):=aO
def G269 (hk:17<k:=by decide):C269 (under az k u):=aO
def G270 (hk:20<k:=by decide):C270 (under az k u):=aO
def G273 (hk:13<k:=by decide):C273 (under az k u):=aO
def G274 (hk:18<k:=by decide):C274 (under az k u):=aO
def VO (hk:5<k:=by decide):Tg (under az k u):=aO
def G296 (hk:5<k:=by decide):C296 (under az k u):=λg own hp0=>okf D296 hk λT h=>h g own hp0
def G297 (hk:3<k:=by decide):C297 (under az k u):=λg own hp0=>okf D297 hk λT h=>h g own hp0
def G298 (hk:3<k:=by decide):C298 (under az k u):=λg l hp0 hp1=>okf D298 hk λT h=>h g l hp0 hp1
def G315 (hk:6<k:=by decide):C315 (under az k u):=aO
def G316 (hk:5<k:=by decide):C316 (under az k u):=aO
def G336 (hk:1<k:=by decide):C336 (under az k u):=aO
def G344 (hk:3<k:=by decide):C344 (under az k u):=aO
def G345 (hk:11<k:=by decide):C345 (under az k u):=aO
def VP (hk:1<k:=by decide):Th (under az k u):=aO
def G353 (hk:17<k:=by decide):C353 (under az k u):=aO
def G354 (hk:2<k:=by decide):C354 (under az k u):=aO
def G355 (hk:1<k:=by decide):C355 (under az k u):=aO
def G356 (hk:1<k:=by decide):C356 (under az k u):=aO
def G357 (hk:2<k:=by decide):VC (under az k u):=aO
def VQ (hk:17<k:=by decide):Ti (under az k u):=aO
def G359 (hk:1<k:=by decide):C359 (under az k u):=aO
def G360 (hk:17<k:=by decide):C360 (under az k u):=aO
def G361 (hk:2<k:=by decide):C361 (under az k u):=aO
def G362 (hk:26<k:=by decide):C362 (under az k u):=λy hp0 nx lf m K h1 hat hK=>R5 (.inl hk) λT _ h=>h y hp0 nx lf m K h1 hat hK
def G375 (hk:1<k:=by decide):C375 (under az k u):=aO
def G381 (hk:1<k:=by decide):C381 (under az k u):=aO
def G403 (hk:13<k:=by decide):C403 (under az k u):=aO
def G408 (hk:3<k:=by decide):C408 (under az k u):=aO
def G409 (hk:11<k:=by decide):C409 (under az k u):=aO
def G410 (hk:14<k:=by decide):C410 (under az k u):=aO
def G415 (hk:11<k:=by decide):C415 (under az k u):=aO
def G416 (hk:1<k:=by decide):C416 (under az k u):=aO
def G417 (hk:13<k:=by decide):C417 (under az k u):=aO
def VR (hk:5<k:=by decide):Tj (under az k u):=aO
def G440 (hk:1<k:=by decide):C440 (under az k u):=aO
def G441 (hk:3<k:=by decide):C441 (under az k u):=aO
def G442 (hk:2<k:=by decide):C442 (under az k u):=aO
def G443 (hk:12<k:=by decide):C443 (under az k u):=aO
def G450 (hk:2<k:=by decide):C450 (under az k u):=λws t l lw nx m K h1 h2 h3 h4 h5 hK=>R5 (.inl hk) λT _ h=>h ws t l lw nx m K h1 h2 h3 h4 h5 hK
def G451 (hk:5<k:=by decide):C451 (under az k u):=aO
def G452 (hk:1<k:=by decide):C452 (under az k u):=λds st K h1=>R5 (.inl hk) λT _ h=>h ds st K h1
def G453 (hk:1<k:=by decide):C453 (under az k u):=aO
def G454 (hk:1<k:=by decide):C454 (under az k u):=aO
def G455 (hk:1<k:=by decide):C455 (under az k u):=aO
def G456 (hk:3<k:=by decide):C456 (under az k u):=aO
def G457 (hk:12<k:=by decide):C457 (under az k u):=aO
def G458 (hk:11<k:=by decide):C458 (under az k u):=aO
def G460 (hk:11<k:=by decide):C460 (under az k u):=aO
def G461 (hk:2<k:=by decide):C461 (under az k u):=aO
def G462 (hk:1<k:=by decide):C462 (under az k u):=aO
def G463 (hk:1<k:=by decide):C463 (under az k u):=aO
def G464 (hk:1<k:=by decide):C464 (under az k u):=aO
def G470 (hk:1<k:=by decide):C470 (under az k u):=aO
def G487 (hk:1<k:=by decide):C487 (under az k u):=aO
def G489 (hk:1<k:=by decide):C489 (under az k u):=λds st K h1=>R5 (.inl hk) λT _ h=>h ds st K h1
def G501 (hk:6<k:=by decide):C501 (under az k u):=aO
def G502 (hk:19<k:=by decide):C502 (under az k u):=λshop w x c kvs hp0 hp1 nx lm lc m K hlc hlm h1 h2 hK=>R5 (.inl hk) λT _ h=>h shop w x c kvs hp0 hp1 nx lm lc m K hlc hlm h1 h2 hK
def G503 (hk:18<k:=by decide):C503 (under az k u):=aO
def G504 (hk:18<k:=by decide):C504 (under az k u):=aO
def G505 (hk:5<k:=by decide):C505 (under az k u):=aO
def G505u (hv:v<=u):afa (under az 5 u) v:=λm od c hp0 hu=>okp WD (.inr ⟨rfl,by rw[show(lk az 505 na).mu=negD from rfl,RX];exact jr hu hv⟩) λT hT=>hT m od c hp0
def G506 (hk:16<k:=by decide):C506 (under az k u):=aO
def G507 (hk:1<k:=by decide):C507 (under az k u):=aO
def G508 (hk:19<k:=by decide):C508 (under az k u):=aO
def G510 (hk:1<k:=by decide):C510 (under az k u):=aO
def G511 (hk:9<k:=by decide):C511 (under az k u):=aO
def G516 (hk:2<k:=by decide):C516 (under az k u):=aO
def G530 (hk:1<k:=by decide):C530 (under az k u):=aO
def G531 (hk:1<k:=by decide):C531 (under az k u):=aO
def G532 (hk:2<k:=by decide):C532 (under az k u):=aO
def G533 (hk:1<k:=by decide):VD (under az k u):=aO
def G534 (hk:3<k:=by decide):C534 (under az k u):=aO
def G535 (hk:4<k:=by decide):C535 (under az k u):=λg own hp0=>okf D535 hk λT h=>h g own hp0
def G536 (hk:1<k:=by decide):C536 (under az k u):=aO
def G553 (hk:5<k:=by decide):C553 (under az k u):=aO
def G554 (hk:3<k:=by decide):C554 (under az k u):=aO
def G580 (hk:7<k:=by decide):VE (under az k u):=aO
def G581 (hk:1<k:=by decide):C581 (under az k u):=aO
def G582 (hk:25<k:=by decide):C582 (under az k u):=λy ns hp0 hp1 nx lf ln lr m K h1 h2 h3 hne hat hK=>R5 (.inl hk) λT _ h=>h y ns hp0 hp1 nx lf ln lr m K h1 h2 h3 hne hat hK
def G583 (hk:24<k:=by decide):C583 (under az k u):=λy ns all k hp0 hp1 nx lf ln lr m K h1 h2 h3 hne hat hK=>R5 (.inl hk) λT _ h=>h y ns all k hp0 hp1 nx lf ln lr m K h1 h2 h3 hne hat hK
def G600 (hk:1<k:=by decide):C600 (under az k u):=aO
def G617 (hk:1<k:=by decide):C617 (under az k u):=aO
def G618 (hk:12<k:=by decide):C618 (under az k u):=aO
def G622 (hk:10<k:=by decide):C622 (under az k u):=aO
def G623 (hk:12<k:=by decide):C623 (under az k u):=aO
def G624 (hk:11<k:=by decide):C624 (under az k u):=aO
def G627 (hk:10<k:=by decide):C627 (under az k u):=aO
def G628 (hk:12<k:=by decide):C628 (under az k u):=aO
def G629 (hk:11<k:=by decide):C629 (under az k u):=aO
def G630 (hk:1<k:=by decide):VF (under az k u):=aO
def G631 (hk:4<k:=by decide):C631 (under az k u):=aO
def G658 (hk:1<k:=by decide):C658 (under az k u):=aO
def G659 (hk:1<k:=by decide):C659 (under az k u):=aO
def G664 (hk:1<k:=by decide):C664 (under az k u):=λds st K h1=>R5 (.inl hk) λT _ h=>h ds st K h1
def G665 (hk:2<k:=by decide):C665 (under az k u):=aO
def G666 (hk:1<k:=by decide):C666 (under az k u):=aO
def G667 (hk:2<k:=by decide):C667 (under az k u):=aO
def G668 (hk:1<k:=by decide):C668 (under az k u):=aO
def G669 (hk:11<k:=by decide):C669 (under az k u):=aO
def G673 (hk:1<k:=by decide):C673 (under az k u):=aO
def G674 (hk:1<k:=by decide):C674 (under az k u):=aO
def G683 (hk:1<k:=by decide):C683 (under az k u):=aO
def G689 (hk:7<k:=by decide):C689 (under az k u):=aO
def G690 (hk:1<k:=by decide):C690 (under az k u):=aO
def G691 (hk:6<k:=by decide):C691 (under az k u):=aO
def G692 (hk:3<k:=by decide):C692 (under az k u):=aO
def G693 (hk:3<k:=by decide):C693 (under az k u):=aO
def G694 (hk:4<k:=by decide):C694 (under az k u):=aO
def G695 (hk:18<k:=by decide):C695 (under az k u):=aO
def G699 (hk:8<k:=by decide):C699 (under az k u):=aO
def G700 (hk:7<k:=by decide):C700 (under az k u):=aO
def G701 (hk:6<k:=by decide):C701 (under az k u):=aO
def G704 (hk:1<k:=by decide):C704 (under az k u):=aO
def G712 (hk:10<k:=by decide):C712 (under az k u):=aO
def G714 (hk:1<k:=by decide):C714 (under az k u):=aO
def G734 (hk:2<k:=by decide):C734 (under az k u):=aO
def G748 (hk:24<k:=by decide):C748 (under az k u):=λy ns k hp0 hp1 nx lf ln lr m K h1 h2 h3 hne hat hK=>R5 (.inl hk) λT _ h=>h y ns k hp0 hp1 nx lf ln lr m K h1 h2 h3 hne hat hK
def G749 (hk:2<k:=by decide):C749 (under az k u):=aO
def G750 (hk:2<k:=by decide):C750 (under az k u):=aO
def G751 (hk:11<k:=by decide):C751 (under az k u):=λy ns hp0 hp1 nx lf ln lr m K h1 h2 h3 hne hat hK=>R5 (.inl hk) λT _ h=>h y ns hp0 hp1 nx lf ln lr m K h1 h2 h3 hne hat hK
def G752 (hk:23<k:=by decide):C752 (under az k u):=λy ns k hp0 hp1 nx lf ln lr m K h1 h2 h3 hne hat hK=>R5 (.inl hk) λT _ h=>h y ns k hp0 hp1 nx lf ln lr m K h1 h2 h3 hne hat hK
def G753 (hk:13<k:=by decide):C753 (under az k u):=aO
def G754 (hk:11<k:=by decide):C754 (under az k u):=aO
def G755 (hk:22<k:=by decide):C755 (under az k u):=λy ns nm hp0 hp1 nx lf ln lr m K h1 h2 h3 hne hat hK=>R5 (.inl hk) λT _ h=>h y ns nm hp0 hp1 nx lf ln lr m K h1 h2 h3 hne hat hK
def G770 (hk:9<k:=by decide):VG (under az k u):=aO
def G777 (hk:11<k:=by decide):C777 (under az k u):=aO
def G778 (hk:10<k:=by decide):C778 (under az k u):=aO
def G780 (hk:9<k:=by decide):C780 (under az k u):=aO
def G782 (hk:9<k:=by decide):C782 (under az k u):=aO
def G783 (hk:3<k:=by decide):C783 (under az k u):=aO
def G812 (hk:3<k:=by decide):C812 (under az k u):=aO
def G815 (hk:1<k:=by decide):C815 (under az k u):=aO
def G816 (hk:2<k:=by decide):C816 (under az k u):=aO
def G829 (hk:1<k:=by decide):C829 (under az k u):=aO
def G830 (hk:1<k:=by decide):C830 (under az k u):=aO
def G831 (hk:1<k:=by decide):C831 (under az k u):=aO
def G861 (hk:9<k:=by decide):C861 (under az k u):=aO
def G882 (hk:1<k:=by decide):C882 (under az k u):=aO
def G902 (hk:1<k:=by decide):C902 (under az k u):=aO
def G903 (hk:1<k:=by decide):C903 (under az k u):=aO
def G904 (hk:12<k:=by decide):C904 (under az k u):=aO
def G905 (hk:2<k:=by decide):C905 (under az k u):=aO
def G906 (hk:12<k:=by decide):C906 (under az k u):=aO
def G909 (hk:21<k:=by decide):C909 (under az k u):=λy ns nm hp0 nx lf ln lr m K h1 h2 h3 hne hat hK=>R5 (.inl hk) λT _ h=>h y ns nm hp0 nx lf ln lr m K h1 h2 h3 hne hat hK
def G916 (hk:8<k:=by decide):VI (under az k u):=aO
def G917 (hk:2<k:=by decide):C917 (under az k u):=aO
def G924 (hk:1<k:=by decide):C924 (under az k u):=aO
def G925 (hk:8<k:=by decide):C925 (under az k u):=aO
def G926 (hk:8<k:=by decide):C926 (under az k u):=aO
def G927 (hk:1<k:=by decide):C927 (under az k u):=aO
def G955 (hk:1<k:=by decide):C955 (under az k u):=aO
def G980 (hk:8<k:=by decide):C980 (under az k u):=aO
def afc (hk:11<k:=by decide):Vw (under az k u):=aO
def G1012 (hk:17<k:=by decide):aeY (under az k u):=aO
def G1013 (hk:20<k:=by decide):aeZ (under az k u):=aO
def G1014 (hk:17<k:=by decide):ae0 (under az k u):=aO
def G1015 (hk:7<k:=by decide):ae1 (under az k u):=aO
def VJ (hk:7<k:=by decide):KM (under az k u):=aO
def VK (hk:6<k:=by decide):QO (under az k u):=aO
def afd (hk:7<k:=by decide):Vx (under az k u):=aO
def afe (hk:6<k:=by decide):Vy (under az k u):=aO
def G1025 (hk:6<k:=by decide):ae2 (under az k u):=aO
def G1055 (hk:6<k:=by decide):ae3 (under az k u):=aO
def G1080 (hk:1<k:=by decide):ae4 (under az k u):=aO
def G1083 (hk:19<k:=by decide):ae5 (under az k u):=aO
def G1084 (hk:18<k:=by decide):ae6 (under az k u):=aO
def VL (hk:5<k:=by decide):QP (under az k u):=aO
def VM (hk:5<k:=by decide):QQ (under az k u):=aO
def G1120 (hk:3<k:=by decide):ae8 (under az k u):=aO
def G1121 (hk:1<k:=by decide):ae9 (under az k u):=aO
def G212 (hk:10<k:=by decide):C212 (under az k u):=λs hp=>kI rfl hk (ev212 hp)
def G670 (hk:10<k:=by decide):C670 (under az k u):=λs hp=>kI rfl hk (ev670 hp)
def G448 (hk:10<k:=by decide):C448 (under az k u):=λs hp=>kI rfl hk (ev448 hp)
def G672 (hk:10<k:=by decide):C672 (under az k u):=λs hp=>kI rfl hk (ev672 hp)
def G444 (hk:10<k:=by decide):C444 (under az k u):=λs hp=>kI rfl hk (ev444 hp)
def G572 (hk:10<k:=by decide):C572 (under az k u):=λs hp=>kI rfl hk (ev572 hp)
def G213 (hk:10<k:=by decide):C213 (under az k u):=λl hp=>kI rfl hk (ev213 hp)
def G459 (hk:10<k:=by decide):C459 (under az k u):=λl hp=>kI rfl hk (ev459 hp)
def G908 (hk:10<k:=by decide):C908 (under az k u):=λs hp=>kI rfl hk (ev908 hp)
def G1011 (hk:10<k:=by decide):aeX (under az k u):=λs hp=>kI rfl hk (aiJ hp)
def G1085 (hk:10<k:=by decide):ae7 (under az k u):=λs hp=>kI rfl hk (aiK hp)
def aff (hk:10<k:=by decide):VH (under az k u):=λv hp=>kI rfl hk (ev156 hp)
def G374 (hk:10<k:=by decide):C374 (under az k u):=kI rfl hk ev374
def G907 (hk:10<k:=by decide):C907 (under az k u):=λs e hp=>kI rfl hk (ev907 hp.1 hp.2)
def eW (u:Nat):R4 (under az 10 u) eN:=aiP (aiO VP G357 VN KP G658 G667 G665 G734 G533 G470 G124 G9124 G683 G487 G254 G815 G249 G242 BV EJ) (aiN G144 G375 G600 G770 G816 G916 VJ VK)
end
def ar:(Go.Proofs.Tryz.prog).follows .mixedOrders=true:=yt
abbrev Ow [cL](f n:Nat):Prop:=Owe Go.Proofs.Tryz.prog A1 Ot az f n
abbrev Cp (f:Nat)(a:aj):Prop:=Vn Go.Proofs.Tryz.prog A1 Ot f a
def ck {f:Nat}{a:aj}(h:((Go.Proofs.Tryz.prog).funcs[f]?).map (λf=>(compile Go.Proofs.Tryz.prog A1 Ot f,f.name== "runtime.NumGoroutine"))=some (some a,false):=by kernel_rfl):Cp f a:=h
end Go.Abs
