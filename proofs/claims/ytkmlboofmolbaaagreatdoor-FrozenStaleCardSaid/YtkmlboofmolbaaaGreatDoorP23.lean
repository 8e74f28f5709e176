/- A part of the proofs. -/
import Derived.KernelRfl
import Derived.Test.YtkmlboofmolbaaaGreatDoorProg
import Derived.Test.YtkmlboofmolbaaaGreatDoorP09
import Derived.Test.YtkmlboofmolbaaaGreatDoorP20
import Derived.Test.YtkmlboofmolbaaaGreatDoorP21
import Derived.Test.YtkmlboofmolbaaaGreatDoorP22
set_option linter.all false
set_option maxRecDepth 60000
set_option maxHeartbeats 2000000
namespace Go.Abs
variable(T:FT)
section
def A109:=∀(g:Gs) (n:Int),(n<=9223372036854775807)->(0<=g.i/\g.i<=1000000)->T (Gs.D g) [.int .i64 n] (.int .i64 (g.val n)) (Gs.D g.aS)
def D109:yG (og A109):=Cb
def A110:=∀(g:Gs) (nm:au) (v:ca) (most:Int),(0<=g.i/\g.i<=970000)->(0<=most/\most<=100)->T (Gs.D g) [.str nm,ca.D v,.int .i64 most] (Rec.D (py g nm v most).1) (Gs.D (py g nm v most).2)
def D110:yG (og A110):=Cb
def A124 (T:RT):Prop:=SQ T/\NL T
def A266:=∀(g:Gs) (l:List bM),(0<=g.i/\g.i<=960000)->(jl l/\1<=l.length/\l.length<=100)->T (Gs.D g) [.sl 2 (l.map bM.D)] (.sl 2 ((lR g l).1.map bM.D)) (Gs.D (lR g l).2)
def D266:yG (og A266):=Cb
def A296:=∀(g:Gs) (own:au),(0<=g.i/\g.i<=980000)->T (Gs.D g) [.str own] (bw.D (mz g own).1) (Gs.D (mz g own).2)
def D296:yG (og A296):=Cb
def A297:=∀(g:Gs) (own:au),(0<=g.i/\g.i<=990000)->T (Gs.D g) [.str own] (.str (cW g own).1) (Gs.D (cW g own).2)
def D297:yG (og A297):=Cb
def A298:=∀(g:Gs) (l:List bw),(0<=g.i/\g.i<=980000)->((∀n∈l,n.sm)/\l.length<=1000)->T (Gs.D g) [.sl 3 (l.map bw.D)] (cn.D (m7 g l).1) (Gs.D (m7 g l).2)
def D298:yG (og A298):=Cb
def u505:List D->Nat:=negD
def A535:=∀(g:Gs) (own:au),(0<=g.i/\g.i<=990000)->T (Gs.D g) [.str own] (di.D (dE g own).1) (Gs.D (dE g own).2)
def D535:yG (og A535):=Cb
def D1217:Det (Hm EA):=Wq
noncomputable def az:List (Nat×mO):=[(25,rP 1 Qh),(28,rP 16 Qi),(29,rP 2 Qj),(46,rP 13 Qk),(52,rP 17 Ql),(70,rP 14 zE),(71,rP 14 zE),(72,rP 15 zF),(73,rP 15 zF),(74,rP 16 zG),(75,rP 16 zG),(89,rP 22 aaz),(90,rP 20 Qm),(91,rP 28 Qn),(92,rP 21 Qo),(93,rP 3 Qp),(109,rF 2 A109),(110,rF 6 A110),(111,rP 1 SO),(112,rP 1 SP),(114,rP 1 IE),(124,rP 1 A124),(135,rP 1 SR),(136,rP 15 IF),(138,rP 2 tO),(142,rP 18 tP),(143,rP 16 IG),(144,rP 3 tO),(145,rP 18 tP),(147,rP 27 IH),(156,b6 eU eM 10 156),(158,rP 2 II),(159,rP 1 IJ),(169,rP 14 tQ),(170,rP 15 tX),(175,rP 12 tQ),(183,rP 12 IK),(184,rP 2 IL),(186,rP 16 ud),(208,rP 1 tR),(209,rP 4 tS),(210,rP 13 tT),(211,rP 11 IM),(212,b6 eU eM 10 212),(213,b6 eU eM 10 213),(214,rP 11 IN),(215,rP 6 tV),(216,rP 2 tR),(217,rP 4 tS),(218,rP 13 IP),(219,rP 6 tV),(220,rP 2 tW),(221,rP 2 tW),(242,rP 1 SV),(249,rP 1 IQ),(254,rP 1 SW),(264,rP 20 IS),(265,rP 21 IU),(266,rF 19 A266),(267,rP 14 IV),(268,rP 2 IW),(269,rP 17 IX),(270,rP 20 IY),(273,rP 13 tX),(274,rP 18 tY),(295,rP 5 tZ),(296,rF 5 A296),(297,rF 3 A297),(298,rF 3 A298),(315,rP 6 IZ),(316,rP 5 ug),(336,rP 1 oZ),(344,rP 3 I0),(345,rP 11 I1),(349,rP 1 ua),(353,rP 17 ub),(354,rP 2 I2),(355,rP 1 I3),(356,rP 1 I4),(357,rP 2 ua),(358,rP 17 ub),(359,rP 1 uc),(360,rP 17 I5),(361,rP 2 uc),(362,rG 26 C362),(374,b6 eU eM 10 374),(375,rP 1 SX),(376,b6 eU eM 10 376),(377,b6 eU eM 10 377),(378,b6 eU eM 10 378),(379,b6 eU eM 10 379),(381,rP 1 I6),(403,rP 13 I7),(408,rP 3 I8),(409,rP 11 I9),(410,rP 14 ud),(415,rP 11 Ja),(416,rP 1 Jb),(417,rP 13 Jc),(424,rP 5 tZ),(440,rP 1 ue),(441,rP 3 Jd),(442,rP 2 Je),(443,rP 12 uf),(444,b6 eU eM 10 444),(445,b6 eU eM 10 445),(446,b6 eU eM 10 446),(447,b6 eU eM 10 447),(448,b6 eU eM 10 448),(449,b6 eU eM 10 449),(450,rG 2 C450),(451,rP 5 ug),(452,rG 1 C452),(453,rP 1 Jf),(454,rP 1 Jg),(455,rP 1 ue),(456,rP 3 Jh),(457,rP 12 tT),(458,rP 11 Ji),(459,b6 eU eM 10 459),(460,rP 11 Jj),(461,rP 2 Jk),(462,rP 1 Jl),(463,rP 1 Jm),(464,rP 1 Jn),(470,rP 1 uk),(482,b6 eU eM 10 482),(487,rP 1 S0),(489,rG 1 C489),(495,b6 eU eM 10 495),(496,b6 eU eM 10 496),(501,rP 6 uw),(502,rG 19 C502),(503,rP 18 Jo),(504,rP 18 Jp),(505,rP 5 S1 u505),(506,rP 16 Jq),(507,rP 1 Jr),(508,rP 19 Js),(510,rP 1 Jt),(511,rP 9 uh),(516,rP 2 ui),(530,rP 1 Ju),(531,rP 1 Jv),(532,rP 2 uj),(533,rP 1 uk),(534,rP 3 um),(535,rF 4 A535),(536,rP 1 Jw),(553,rP 5 Jx),(554,rP 3 Jy),(572,b6 eU eM 10 572),(580,rP 7 uh),(581,rP 1 Jz),(582,rG 25 C582),(583,rG 24 C583),(598,b6 eU eM 10 598),(599,b6 eU eM 10 599),(600,rP 1 JA),(601,b6 eU eM 10 601),(602,b6 eU eM 10 602),(603,b6 eU eM 10 603),(604,b6 eU eM 10 604),(617,rP 1 JB),(618,rP 12 JC),(622,rP 10 JD),(623,rP 12 uo),(624,rP 11 uq),(627,rP 10 ur),(628,rP 12 uo),(629,rP 11 uq),(630,rP 1 uj),(631,rP 4 JE),(658,rP 1 uu),(659,rP 1 uv),(660,b6 eU eM 10 660),(661,b6 eU eM 10 661),(662,b6 eU eM 10 662),(663,b6 eU eM 10 663),(664,rG 1 C664),(665,rP 2 oZ),(666,rP 1 JF),(667,rP 2 uu),(668,rP 1 uv),(669,rP 11 uf),(670,b6 eU eM 10 670),(671,b6 eU eM 10 671),(672,b6 eU eM 10 672),(673,rP 1 JG),(674,rP 1 JH),(676,b6 eU eM 10 676),(677,b6 eU eM 10 677),(678,b6 eU eM 10 678),(682,b6 eU eM 10 682),(683,rP 1 S2),(684,b6 eU eM 10 684),(685,b6 eU eM 10 685),(689,rP 7 JI),(690,rP 1 JJ),(691,rP 6 JK),(692,rP 3 JL),(693,rP 3 JM),(694,rP 4 JN),(695,rP 18 tY),(699,rP 8 JO),(700,rP 7 JP),(701,rP 6 uw),(704,rP 1 JQ),(712,rP 10 ur),(714,rP 1 JR),(734,rP 2 oZ),(744,b6 eU eM 10 744),(745,b6 eU eM 10 745),(748,rG 24 C748),(749,rP 2 JS),(750,rP 2 JT),(751,rG 11 C751),(752,rG 23 C752),(753,rP 13 JU),(754,rP 11 JV),(755,rG 22 C755),(769,b6 eU eM 10 769),(770,rP 9 ux),(771,b6 eU eM 10 771),(772,b6 eU eM 10 772),(777,rP 11 JW),(778,rP 10 JX),(780,rP 9 ux),(782,rP 9 uy),(783,rP 3 um),(808,b6 eU eM 10 808),(809,b6 eU eM 10 809),(810,b6 eU eM 10 810),(811,b6 eU eM 10 811),(812,rP 3 JY),(813,b6 eU eM 10 813),(814,b6 eU eM 10 814),(815,rP 1 JZ),(816,rP 2 J0),(819,b6 eU eM 10 819),(827,b6 eU eM 10 827),(828,b6 eU eM 10 828),(829,rP 1 J1),(830,rP 1 J2),(831,rP 1 J3),(861,rP 9 uy),(882,rP 1 J4),(896,b6 eU eM 10 896),(897,b6 eU eM 10 897),(898,b6 eU eM 10 898),(899,b6 eU eM 10 899),(900,b6 eU eM 10 900),(901,b6 eU eM 10 901),(902,rP 1 J5),(903,rP 1 J6),(904,rP 12 J7),(905,rP 2 J8),(906,rP 12 J9),(907,b6 eU eM 10 907),(908,b6 eU eM 10 908),(909,rG 21 C909),(916,rP 8 uz),(917,rP 2 Ka),(918,b6 eU eM 10 918),(919,b6 eU eM 10 919),(920,b6 eU eM 10 920),(921,b6 eU eM 10 921),(924,rP 1 Kb),(925,rP 8 uz),(926,rP 8 uA),(927,rP 1 ui),(946,b6 eU eM 10 946),(947,b6 eU eM 10 947),(948,b6 eU eM 10 948),(949,b6 eU eM 10 949),(950,b6 eU eM 10 950),(951,b6 eU eM 10 951),(952,b6 eU eM 10 952),(953,b6 eU eM 10 953),(954,b6 eU eM 10 954),(955,rP 1 Kd),(956,b6 eU eM 10 956),(957,b6 eU eM 10 957),(980,rP 8 uA),(1006,b6 eU eM 10 1006),(1007,b6 eU eM 10 1007),(1008,b6 eU eM 10 1008),(1009,rP 11 Eo),(1010,b6 eU eM 10 1010),(1011,b6 eU eM 10 1011),(1012,rP 17 Ep),(1013,rP 20 Er),(1014,rP 17 Es),(1015,rP 7 Et),(1019,rP 7 qp),(1020,rP 6 qq),(1021,b6 eU eM 10 1021),(1023,rP 7 qp),(1024,rP 6 qq),(1025,rP 6 qt),(1031,b6 eU eM 10 1031),(1032,b6 eU eM 10 1032),(1033,b6 eU eM 10 1033),(1034,b6 eU eM 10 1034),(1035,b6 eU eM 10 1035),(1036,b6 eU eM 10 1036),(1055,rP 6 qt),(1079,b6 eU eM 10 1079),(1080,rP 1 Eu),(1081,b6 eU eM 10 1081),(1082,b6 eU eM 10 1082),(1083,rP 19 Ev),(1084,rP 18 Ew),(1085,b6 eU eM 10 1085),(1086,rP 5 qu),(1087,rP 5 qu),(1097,b6 eU eM 10 1097),(1098,b6 eU eM 10 1098),(1099,b6 eU eM 10 1099),(1100,b6 eU eM 10 1100),(1118,b6 eU eM 10 1118),(1119,b6 eU eM 10 1119),(1120,rP 3 Ey),(1121,rP 1 Ez),(1122,b6 eU eM 10 1122),(1126,b6 eU eM 10 1126),(1137,b6 eU eM 10 1137),(1138,b6 eU eM 10 1138),(1139,b6 eU eM 10 1139),(1141,b6 eU eM 10 1141),(1144,b6 eU eM 10 1144),(1145,b6 eU eM 10 1145),(1147,b6 eU eM 10 1147),(1148,b6 eU eM 10 1148),(1217,rP 29 EA)]
variable {k u v:Nat}
def AllR (F:Nat->mO):List (Nat×aj)->Prop
 |[]=>True
 |p::r=>lk az p.1 nb=F p.1/\AllR F r
def AllR.ok {F:Nat->mO}:∀{l:List (Nat×aj)},AllR F l->∀f a,lk (l.map λp=>(p.1,some p.2)) f none=some a->lk az f nb=F f
 |[],_,f,a,h=>by simp[lk]at h
 |p::r,h,f,a,h1=>by
  simp only[List.map_cons,lk]at h1;cases h2:Nat.beq p.1 f with
  |true=>rw[<-Nat.eq_of_beq_eq_true h2];exact h.1
  |false=>rw[h2]at h1;exact h.2.ok f a h1
def cq:∀f a,eU f=some a->lk az f nb=b6 eU eM 10 f:=AllR.ok (l:=tbT) ⟨rfl,rfl,rfl,rfl,rfl,rfl,rfl,rfl,rfl,rfl,rfl,rfl,rfl,rfl,rfl,rfl,rfl,rfl,rfl,rfl,rfl,rfl,rfl,rfl,rfl,rfl,rfl,rfl,rfl,rfl,rfl,rfl,rfl,rfl,rfl,rfl,rfl,rfl,rfl,rfl,rfl,rfl,rfl,rfl,rfl,rfl,rfl,rfl,rfl,rfl,rfl,rfl,rfl,rfl,rfl,rfl,rfl,rfl,rfl,rfl,rfl,rfl,rfl,rfl,rfl,rfl,rfl,rfl,rfl,rfl,rfl,rfl,rfl,rfl,rfl,rfl,rfl,rfl,rfl,rfl,rfl,rfl,rfl,rfl,rfl,rfl,rfl,rfl,rfl,rfl,rfl,rfl,rfl,rfl,rfl,rfl,rfl,rfl,rfl,rfl,rfl,rfl,rfl,rfl,rfl,rfl,rfl,trivial⟩
def G25 (hk:1<k:=by decide):C25 (under az k u):=aP
def G28 (hk:16<k:=by decide):C28 (under az k u):=aP
def G29 (hk:2<k:=by decide):C29 (under az k u):=aP
def G46 (hk:13<k:=by decide):C46 (under az k u):=aP
def G52 (hk:17<k:=by decide):C52 (under az k u):=aP
def G70 (hk:14<k:=by decide):C70 (under az k u):=aP
def G71 (hk:14<k:=by decide):C71 (under az k u):=aP
def G72 (hk:15<k:=by decide):C72 (under az k u):=aP
def G73 (hk:15<k:=by decide):C73 (under az k u):=aP
def G74 (hk:16<k:=by decide):C74 (under az k u):=aP
def G75 (hk:16<k:=by decide):C75 (under az k u):=aP
def G89 (hk:22<k:=by decide):C89 (under az k u):=aP
def G90 (hk:20<k:=by decide):C90 (under az k u):=aP
def G91 (hk:28<k:=by decide):C91 (under az k u):=aP
def G92 (hk:21<k:=by decide):C92 (under az k u):=aP
def G93 (hk:3<k:=by decide):C93 (under az k u):=aP
def KH (hk:2<k:=by decide):GH (under az k u):=λg n hp0 hp1=>okf D109 hk λT h=>h g n hp0 hp1
def G110 (hk:6<k:=by decide):C110 (under az k u):=λg nm v most hp0 hp1=>okf D110 hk λT h=>h g nm v most hp0 hp1
def G111 (hk:1<k:=by decide):C111 (under az k u):=aP
def G112 (hk:1<k:=by decide):C112 (under az k u):=aP
def G114 (hk:1<k:=by decide):C114 (under az k u):=aP
def G124 (hk:1<k:=by decide):C124 (under az k u):=λs b hp=>okp Wq (.inl hk) λT h=>h.1 s b hp
def G9124 (hk:1<k:=by decide):aeX (under az k u):=λs hp=>okp Wq (.inl hk) λT h=>h.2 s hp
def G135 (hk:1<k:=by decide):C135 (under az k u):=aP
def G136 (hk:15<k:=by decide):C136 (under az k u):=aP
def G138 (hk:2<k:=by decide):C138 (under az k u):=aP
def G142 (hk:18<k:=by decide):C142 (under az k u):=aP
def G143 (hk:16<k:=by decide):Vn (under az k u):=aP
def G144 (hk:3<k:=by decide):Vo (under az k u):=aP
def G145 (hk:18<k:=by decide):C145 (under az k u):=aP
def G147 (hk:27<k:=by decide):C147 (under az k u):=aP
def G158 (hk:2<k:=by decide):C158 (under az k u):=aP
def G159 (hk:1<k:=by decide):C159 (under az k u):=aP
def G169 (hk:14<k:=by decide):C169 (under az k u):=aP
def G170 (hk:15<k:=by decide):Vp (under az k u):=aP
def G175 (hk:12<k:=by decide):C175 (under az k u):=aP
def G183 (hk:12<k:=by decide):C183 (under az k u):=aP
def G184 (hk:2<k:=by decide):C184 (under az k u):=aP
def G186 (hk:16<k:=by decide):C186 (under az k u):=aP
def VB (hk:1<k:=by decide):S6 (under az k u):=aP
def BY (hk:4<k:=by decide):AU (under az k u):=aP
def G210 (hk:13<k:=by decide):C210 (under az k u):=aP
def G211 (hk:11<k:=by decide):C211 (under az k u):=aP
def G214 (hk:11<k:=by decide):C214 (under az k u):=aP
def G215 (hk:6<k:=by decide):C215 (under az k u):=aP
def KI (hk:2<k:=by decide):GJ (under az k u):=aP
def EF (hk:4<k:=by decide):BW (under az k u):=aP
def G218 (hk:13<k:=by decide):C218 (under az k u):=aP
def G219 (hk:6<k:=by decide):C219 (under az k u):=aP
def G220 (hk:2<k:=by decide):C220 (under az k u):=aP
def G221 (hk:2<k:=by decide):C221 (under az k u):=aP
def G242 (hk:1<k:=by decide):C242 (under az k u):=aP
def G249 (hk:1<k:=by decide):C249 (under az k u):=aP
def G254 (hk:1<k:=by decide):C254 (under az k u):=aP
def G264 (hk:20<k:=by decide):C264 (under az k u):=aP
def G265 (hk:21<k:=by decide):C265 (under az k u):=aP
def G266 (hk:19<k:=by decide):C266 (under az k u):=λg l hp0 hp1=>okf D266 hk λT h=>h g l hp0 hp1
def G267 (hk:14<k:=by decide):C267 (under az k u):=aP
def G268 (hk:2<k:=by decide):C268 (under az k u):=aP
def G269 (hk:17<k:=by decide):C269 (under az k u):=aP
def G270 (hk:20<k:=by decide):C270 (under az k u):=aP
def G273 (hk:13<k:=by decide):C273 (under az k u):=aP
def G274 (hk:18<k:=by decide):C274 (under az k u):=aP
def VC (hk:5<k:=by decide):S7 (under az k u):=aP
def G296 (hk:5<k:=by decide):C296 (under az k u):=λg own hp0=>okf D296 hk λT h=>h g own hp0
def G297 (hk:3<k:=by decide):C297 (under az k u):=λg own hp0=>okf D297 hk λT h=>h g own hp0
def G298 (hk:3<k:=by decide):C298 (under az k u):=λg l hp0 hp1=>okf D298 hk λT h=>h g l hp0 hp1
def G315 (hk:6<k:=by decide):C315 (under az k u):=aP
def G316 (hk:5<k:=by decide):C316 (under az k u):=aP
def G336 (hk:1<k:=by decide):C336 (under az k u):=aP
def G344 (hk:3<k:=by decide):C344 (under az k u):=aP
def G345 (hk:11<k:=by decide):C345 (under az k u):=aP
def VD (hk:1<k:=by decide):S8 (under az k u):=aP
def G353 (hk:17<k:=by decide):C353 (under az k u):=aP
def G354 (hk:2<k:=by decide):C354 (under az k u):=aP
def G355 (hk:1<k:=by decide):C355 (under az k u):=aP
def G356 (hk:1<k:=by decide):C356 (under az k u):=aP
def G357 (hk:2<k:=by decide):Vq (under az k u):=aP
def VE (hk:17<k:=by decide):S9 (under az k u):=aP
def G359 (hk:1<k:=by decide):C359 (under az k u):=aP
def G360 (hk:17<k:=by decide):C360 (under az k u):=aP
def G361 (hk:2<k:=by decide):C361 (under az k u):=aP
def G362 (hk:26<k:=by decide):C362 (under az k u):=λy hp0 nx lf m K h1 hat hK=>RS (.inl hk) λT _ h=>h y hp0 nx lf m K h1 hat hK
def G375 (hk:1<k:=by decide):C375 (under az k u):=aP
def G381 (hk:1<k:=by decide):C381 (under az k u):=aP
def G403 (hk:13<k:=by decide):C403 (under az k u):=aP
def G408 (hk:3<k:=by decide):C408 (under az k u):=aP
def G409 (hk:11<k:=by decide):C409 (under az k u):=aP
def G410 (hk:14<k:=by decide):C410 (under az k u):=aP
def G415 (hk:11<k:=by decide):C415 (under az k u):=aP
def G416 (hk:1<k:=by decide):C416 (under az k u):=aP
def G417 (hk:13<k:=by decide):C417 (under az k u):=aP
def VF (hk:5<k:=by decide):Ta (under az k u):=aP
def G440 (hk:1<k:=by decide):C440 (under az k u):=aP
def G441 (hk:3<k:=by decide):C441 (under az k u):=aP
def G442 (hk:2<k:=by decide):C442 (under az k u):=aP
def G443 (hk:12<k:=by decide):C443 (under az k u):=aP
def G450 (hk:2<k:=by decide):C450 (under az k u):=λws t l lw nx m K h1 h2 h3 h4 h5 hK=>RS (.inl hk) λT _ h=>h ws t l lw nx m K h1 h2 h3 h4 h5 hK
def G451 (hk:5<k:=by decide):C451 (under az k u):=aP
def G452 (hk:1<k:=by decide):C452 (under az k u):=λds st K h1=>RS (.inl hk) λT _ h=>h ds st K h1
def G453 (hk:1<k:=by decide):C453 (under az k u):=aP
def G454 (hk:1<k:=by decide):C454 (under az k u):=aP
def G455 (hk:1<k:=by decide):C455 (under az k u):=aP
def G456 (hk:3<k:=by decide):C456 (under az k u):=aP
def G457 (hk:12<k:=by decide):C457 (under az k u):=aP
def G458 (hk:11<k:=by decide):C458 (under az k u):=aP
def G460 (hk:11<k:=by decide):C460 (under az k u):=aP
def G461 (hk:2<k:=by decide):C461 (under az k u):=aP
def G462 (hk:1<k:=by decide):C462 (under az k u):=aP
def G463 (hk:1<k:=by decide):C463 (under az k u):=aP
def G464 (hk:1<k:=by decide):C464 (under az k u):=aP
def G470 (hk:1<k:=by decide):C470 (under az k u):=aP
def G487 (hk:1<k:=by decide):C487 (under az k u):=aP
def G489 (hk:1<k:=by decide):C489 (under az k u):=λds st K h1=>RS (.inl hk) λT _ h=>h ds st K h1
def G501 (hk:6<k:=by decide):C501 (under az k u):=aP
def G502 (hk:19<k:=by decide):C502 (under az k u):=λshop w x c kvs hp0 hp1 nx lm lc m K hlc hlm h1 h2 hK=>RS (.inl hk) λT _ h=>h shop w x c kvs hp0 hp1 nx lm lc m K hlc hlm h1 h2 hK
def G503 (hk:18<k:=by decide):C503 (under az k u):=aP
def G504 (hk:18<k:=by decide):C504 (under az k u):=aP
def G505 (hk:5<k:=by decide):C505 (under az k u):=aP
def G505u (hv:v<=u):aeW (under az 5 u) v:=λm od c hp0 hu=>okp Wq (.inr ⟨rfl,by rw[show(lk az 505 nb).mu=negD from rfl,RJ];exact jo hu hv⟩) λT hT=>hT m od c hp0
def G506 (hk:16<k:=by decide):C506 (under az k u):=aP
def G507 (hk:1<k:=by decide):C507 (under az k u):=aP
def G508 (hk:19<k:=by decide):C508 (under az k u):=aP
def G510 (hk:1<k:=by decide):C510 (under az k u):=aP
def G511 (hk:9<k:=by decide):C511 (under az k u):=aP
def G516 (hk:2<k:=by decide):C516 (under az k u):=aP
def G530 (hk:1<k:=by decide):C530 (under az k u):=aP
def G531 (hk:1<k:=by decide):C531 (under az k u):=aP
def G532 (hk:2<k:=by decide):C532 (under az k u):=aP
def G533 (hk:1<k:=by decide):Vr (under az k u):=aP
def G534 (hk:3<k:=by decide):C534 (under az k u):=aP
def G535 (hk:4<k:=by decide):C535 (under az k u):=λg own hp0=>okf D535 hk λT h=>h g own hp0
def G536 (hk:1<k:=by decide):C536 (under az k u):=aP
def G553 (hk:5<k:=by decide):C553 (under az k u):=aP
def G554 (hk:3<k:=by decide):C554 (under az k u):=aP
def G580 (hk:7<k:=by decide):Vs (under az k u):=aP
def G581 (hk:1<k:=by decide):C581 (under az k u):=aP
def G582 (hk:25<k:=by decide):C582 (under az k u):=λy ns hp0 hp1 nx lf ln lr m K h1 h2 h3 hne hat hK=>RS (.inl hk) λT _ h=>h y ns hp0 hp1 nx lf ln lr m K h1 h2 h3 hne hat hK
def G583 (hk:24<k:=by decide):C583 (under az k u):=λy ns all k hp0 hp1 nx lf ln lr m K h1 h2 h3 hne hat hK=>RS (.inl hk) λT _ h=>h y ns all k hp0 hp1 nx lf ln lr m K h1 h2 h3 hne hat hK
def G600 (hk:1<k:=by decide):C600 (under az k u):=aP
def G617 (hk:1<k:=by decide):C617 (under az k u):=aP
def G618 (hk:12<k:=by decide):C618 (under az k u):=aP
def G622 (hk:10<k:=by decide):C622 (under az k u):=aP
def G623 (hk:12<k:=by decide):C623 (under az k u):=aP
def G624 (hk:11<k:=by decide):C624 (under az k u):=aP
def G627 (hk:10<k:=by decide):C627 (under az k u):=aP
def G628 (hk:12<k:=by decide):C628 (under az k u):=aP
def G629 (hk:11<k:=by decide):C629 (under az k u):=aP
def G630 (hk:1<k:=by decide):Vt (under az k u):=aP
def G631 (hk:4<k:=by decide):C631 (under az k u):=aP
def G658 (hk:1<k:=by decide):C658 (under az k u):=aP
def G659 (hk:1<k:=by decide):C659 (under az k u):=aP
def G664 (hk:1<k:=by decide):C664 (under az k u):=λds st K h1=>RS (.inl hk) λT _ h=>h ds st K h1
def G665 (hk:2<k:=by decide):C665 (under az k u):=aP
def G666 (hk:1<k:=by decide):C666 (under az k u):=aP
def G667 (hk:2<k:=by decide):C667 (under az k u):=aP
def G668 (hk:1<k:=by decide):C668 (under az k u):=aP
def G669 (hk:11<k:=by decide):C669 (under az k u):=aP
def G673 (hk:1<k:=by decide):C673 (under az k u):=aP
def G674 (hk:1<k:=by decide):C674 (under az k u):=aP
def G683 (hk:1<k:=by decide):C683 (under az k u):=aP
def G689 (hk:7<k:=by decide):C689 (under az k u):=aP
def G690 (hk:1<k:=by decide):C690 (under az k u):=aP
def G691 (hk:6<k:=by decide):C691 (under az k u):=aP
def G692 (hk:3<k:=by decide):C692 (under az k u):=aP
def G693 (hk:3<k:=by decide):C693 (under az k u):=aP
def G694 (hk:4<k:=by decide):C694 (under az k u):=aP
def G695 (hk:18<k:=by decide):C695 (under az k u):=aP
def G699 (hk:8<k:=by decide):C699 (under az k u):=aP
def G700 (hk:7<k:=by decide):C700 (under az k u):=aP
def G701 (hk:6<k:=by decide):C701 (under az k u):=aP
def G704 (hk:1<k:=by decide):C704 (under az k u):=aP
def G712 (hk:10<k:=by decide):C712 (under az k u):=aP
def G714 (hk:1<k:=by decide):C714 (under az k u):=aP
def G734 (hk:2<k:=by decide):C734 (under az k u):=aP
def G748 (hk:24<k:=by decide):C748 (under az k u):=λy ns k hp0 hp1 nx lf ln lr m K h1 h2 h3 hne hat hK=>RS (.inl hk) λT _ h=>h y ns k hp0 hp1 nx lf ln lr m K h1 h2 h3 hne hat hK
def G749 (hk:2<k:=by decide):C749 (under az k u):=aP
def G750 (hk:2<k:=by decide):C750 (under az k u):=aP
def G751 (hk:11<k:=by decide):C751 (under az k u):=λy ns hp0 hp1 nx lf ln lr m K h1 h2 h3 hne hat hK=>RS (.inl hk) λT _ h=>h y ns hp0 hp1 nx lf ln lr m K h1 h2 h3 hne hat hK
def G752 (hk:23<k:=by decide):C752 (under az k u):=λy ns k hp0 hp1 nx lf ln lr m K h1 h2 h3 hne hat hK=>RS (.inl hk) λT _ h=>h y ns k hp0 hp1 nx lf ln lr m K h1 h2 h3 hne hat hK
def G753 (hk:13<k:=by decide):C753 (under az k u):=aP
def G754 (hk:11<k:=by decide):C754 (under az k u):=aP
def G755 (hk:22<k:=by decide):C755 (under az k u):=λy ns nm hp0 hp1 nx lf ln lr m K h1 h2 h3 hne hat hK=>RS (.inl hk) λT _ h=>h y ns nm hp0 hp1 nx lf ln lr m K h1 h2 h3 hne hat hK
def G770 (hk:9<k:=by decide):Vu (under az k u):=aP
def G777 (hk:11<k:=by decide):C777 (under az k u):=aP
def G778 (hk:10<k:=by decide):C778 (under az k u):=aP
def G780 (hk:9<k:=by decide):C780 (under az k u):=aP
def G782 (hk:9<k:=by decide):C782 (under az k u):=aP
def G783 (hk:3<k:=by decide):C783 (under az k u):=aP
def G812 (hk:3<k:=by decide):C812 (under az k u):=aP
def G815 (hk:1<k:=by decide):C815 (under az k u):=aP
def G816 (hk:2<k:=by decide):C816 (under az k u):=aP
def G829 (hk:1<k:=by decide):C829 (under az k u):=aP
def G830 (hk:1<k:=by decide):C830 (under az k u):=aP
def G831 (hk:1<k:=by decide):C831 (under az k u):=aP
def G861 (hk:9<k:=by decide):C861 (under az k u):=aP
def G882 (hk:1<k:=by decide):C882 (under az k u):=aP
def G902 (hk:1<k:=by decide):C902 (under az k u):=aP
def G903 (hk:1<k:=by decide):C903 (under az k u):=aP
def G904 (hk:12<k:=by decide):C904 (under az k u):=aP
def G905 (hk:2<k:=by decide):C905 (under az k u):=aP
def G906 (hk:12<k:=by decide):C906 (under az k u):=aP
def G909 (hk:21<k:=by decide):C909 (under az k u):=λy ns nm hp0 nx lf ln lr m K h1 h2 h3 hne hat hK=>RS (.inl hk) λT _ h=>h y ns nm hp0 nx lf ln lr m K h1 h2 h3 hne hat hK
def G916 (hk:8<k:=by decide):Vw (under az k u):=aP
def G917 (hk:2<k:=by decide):C917 (under az k u):=aP
def G924 (hk:1<k:=by decide):C924 (under az k u):=aP
def G925 (hk:8<k:=by decide):C925 (under az k u):=aP
def G926 (hk:8<k:=by decide):C926 (under az k u):=aP
def G927 (hk:1<k:=by decide):C927 (under az k u):=aP
def G955 (hk:1<k:=by decide):C955 (under az k u):=aP
def G980 (hk:8<k:=by decide):C980 (under az k u):=aP
def aeY (hk:11<k:=by decide):Vk (under az k u):=aP
def G1012 (hk:17<k:=by decide):aeK (under az k u):=aP
def G1013 (hk:20<k:=by decide):aeL (under az k u):=aP
def G1014 (hk:17<k:=by decide):aeM (under az k u):=aP
def G1015 (hk:7<k:=by decide):aeN (under az k u):=aP
def Vx (hk:7<k:=by decide):KF (under az k u):=aP
def Vy (hk:6<k:=by decide):QD (under az k u):=aP
def aeZ (hk:7<k:=by decide):Vl (under az k u):=aP
def ae0 (hk:6<k:=by decide):Vm (under az k u):=aP
def G1025 (hk:6<k:=by decide):aeO (under az k u):=aP
def G1055 (hk:6<k:=by decide):aeP (under az k u):=aP
def G1080 (hk:1<k:=by decide):aeQ (under az k u):=aP
def G1083 (hk:19<k:=by decide):aeR (under az k u):=aP
def G1084 (hk:18<k:=by decide):aeS (under az k u):=aP
def Vz (hk:5<k:=by decide):QE (under az k u):=aP
def VA (hk:5<k:=by decide):QF (under az k u):=aP
def G1120 (hk:3<k:=by decide):aeU (under az k u):=aP
def G1121 (hk:1<k:=by decide):aeV (under az k u):=aP
def G212 (hk:10<k:=by decide):C212 (under az k u):=λs hp=>kM rfl hk (ev212 hp)
def G670 (hk:10<k:=by decide):C670 (under az k u):=λs hp=>kM rfl hk (ev670 hp)
def G448 (hk:10<k:=by decide):C448 (under az k u):=λs hp=>kM rfl hk (ev448 hp)
def G672 (hk:10<k:=by decide):C672 (under az k u):=λs hp=>kM rfl hk (ev672 hp)
def G444 (hk:10<k:=by decide):C444 (under az k u):=λs hp=>kM rfl hk (ev444 hp)
def G572 (hk:10<k:=by decide):C572 (under az k u):=λs hp=>kM rfl hk (ev572 hp)
def G213 (hk:10<k:=by decide):C213 (under az k u):=λl hp=>kM rfl hk (ev213 hp)
def G459 (hk:10<k:=by decide):C459 (under az k u):=λl hp=>kM rfl hk (ev459 hp)
def G908 (hk:10<k:=by decide):C908 (under az k u):=λs hp=>kM rfl hk (ev908 hp)
def G1011 (hk:10<k:=by decide):aeJ (under az k u):=λs hp=>kM rfl hk (aiy hp)
def G1085 (hk:10<k:=by decide):aeT (under az k u):=λs hp=>kM rfl hk (aiz hp)
def ae1 (hk:10<k:=by decide):Vv (under az k u):=λv hp=>kM rfl hk (ev156 hp)
def G374 (hk:10<k:=by decide):C374 (under az k u):=kM rfl hk ev374
def G907 (hk:10<k:=by decide):C907 (under az k u):=λs e hp=>kM rfl hk (ev907 hp.1 hp.2)
def eY (u:Nat):RR (under az 10 u) eM:=aiE (aiD VD G357 VB KI G658 G667 G665 G734 G533 G470 G124 G9124 G683 G487 G254 G815 G249 G242 BY EF) (aiC G144 G375 G600 G770 G816 G916 Vx Vy)
end
def ar:(Go.Proofs.Tryz.prog).follows .mixedOrders=true:=yy
abbrev Ow [cP](f n:Nat):Prop:=Owe Go.Proofs.Tryz.prog A7 Oi az f n
abbrev Cp (f:Nat)(a:aj):Prop:=Vc Go.Proofs.Tryz.prog A7 Oi f a
def ck {f:Nat}{a:aj}(h:((Go.Proofs.Tryz.prog).funcs[f]?).map (λf=>(compile Go.Proofs.Tryz.prog A7 Oi f,f.name== "runtime.NumGoroutine"))=some (some a,false):=by kernel_rfl):Cp f a:=h
end Go.Abs
