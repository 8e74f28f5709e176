/- A part of the proofs. -/
import Derived.KernelRfl
import Derived.Test.YtdhangmdmdegpaaGreatDoorProg
import Derived.Test.YtdhangmdmdegpaaGreatDoorP09
import Derived.Test.YtdhangmdmdegpaaGreatDoorP20
import Derived.Test.YtdhangmdmdegpaaGreatDoorP21
import Derived.Test.YtdhangmdmdegpaaGreatDoorP22
set_option linter.all false
set_option maxRecDepth 60000
set_option maxHeartbeats 2000000
namespace Go.Abs
variable(T:FT)
section
def A109:=∀(g:Gs) (n:Int),(n<=9223372036854775807)->(0<=g.i/\g.i<=1000000)->T (Gs.D g) [.int .i64 n] (.int .i64 (g.val n)) (Gs.D g.aU)
def D109:y1 (oz A109):=CP
def A110:=∀(g:Gs) (nm:aw) (v:b6) (most:Int),(0<=g.i/\g.i<=970000)->(0<=most/\most<=100)->T (Gs.D g) [.str nm,b6.D v,.int .i64 most] (Rec.D (pR g nm v most).1) (Gs.D (pR g nm v most).2)
def D110:y1 (oz A110):=CP
def A124 (T:RT):Prop:=T4 T/\OT T
def A266:=∀(g:Gs) (l:Β),(0<=g.i/\g.i<=960000)->(fq l/\1<=l.length/\l.length<=100)->T (Gs.D g) [.sl 2 (l.map bz.D)] (.sl 2 ((lD g l).1.map bz.D)) (Gs.D (lD g l).2)
def D266:y1 (oz A266):=CP
def A296:=∀(g:Gs) (own:aw),(0<=g.i/\g.i<=980000)->T (Gs.D g) [.str own] (bn.D (mF g own).1) (Gs.D (mF g own).2)
def D296:y1 (oz A296):=CP
def A297:=∀(g:Gs) (own:aw),(0<=g.i/\g.i<=990000)->T (Gs.D g) [.str own] (.str (cV g own).1) (Gs.D (cV g own).2)
def D297:y1 (oz A297):=CP
def A298:=∀(g:Gs) (l:υ),(0<=g.i/\g.i<=980000)->((∀n∈l,n.sm)/\l.length<=1000)->T (Gs.D g) [.sl 3 (l.map bn.D)] (b7.D (nk g l).1) (Gs.D (nk g l).2)
def D298:y1 (oz A298):=CP
def u505:Θ->Nat:=negD
def A535:=∀(g:Gs) (own:aw),(0<=g.i/\g.i<=990000)->T (Gs.D g) [.str own] (cP.D (dM g own).1) (Gs.D (dM g own).2)
def D535:y1 (oz A535):=CP
def D1223:Det (Ie Fq):=XL
noncomputable def aB:τ:=[(25,rP 1 Rs),(28,rP 16 Rt),(29,rP 2 Ru),(46,rP 13 Rv),(52,rP 17 Rw),(70,rP 14 Ad),(71,rP 14 Ad),(72,rP 15 Ae),(73,rP 15 Ae),(74,rP 16 Af),(75,rP 16 Af),(78,rP 4 Rx),(89,rP 22 abY),(90,rP 20 Ry),(91,rP 28 Rz),(92,rP 21 RA),(109,rF 2 A109),(110,rF 6 A110),(111,rP 1 T2),(112,rP 1 T3),(114,rP 1 Jx),(117,rP 3 Jy),(124,rP 1 A124),(135,rP 1 T5),(136,rP 15 Jz),(138,rP 2 uf),(142,rP 18 ug),(143,rP 16 JA),(144,rP 3 uf),(145,rP 18 ug),(147,rP 27 JB),(156,bX e8 eR 10 156),(158,rP 2 JC),(159,rP 1 JD),(169,rP 14 uh),(170,rP 15 uq),(175,rP 12 uh),(183,rP 12 JE),(184,rP 2 JF),(186,rP 16 uy),(208,rP 1 ui),(209,rP 4 uj),(210,rP 13 uk),(211,rP 11 JG),(212,bX e8 eR 10 212),(213,bX e8 eR 10 213),(214,rP 11 JH),(215,rP 6 um),(216,rP 2 ui),(217,rP 4 uj),(218,rP 13 JI),(219,rP 6 um),(220,rP 2 uo),(221,rP 2 uo),(225,rP 3 JJ),(226,rP 1 JK),(242,rP 1 T8),(249,rP 1 JL),(254,rP 1 T9),(263,rP 5 JM),(264,rP 20 JN),(265,rP 21 JO),(266,rF 19 A266),(267,rP 14 JP),(268,rP 2 JQ),(269,rP 17 JR),(270,rP 20 JS),(273,rP 13 uq),(274,rP 18 ur),(295,rP 5 uu),(296,rF 5 A296),(297,rF 3 A297),(298,rF 3 A298),(310,rP 2 JT),(311,rP 1 JU),(315,rP 6 JV),(316,rP 5 uB),(336,rP 1 pF),(344,rP 3 JW),(345,rP 11 JX),(349,rP 1 uv),(353,rP 17 uw),(354,rP 2 JY),(355,rP 1 JZ),(356,rP 1 J0),(357,rP 2 uv),(358,rP 17 uw),(359,rP 1 ux),(360,rP 17 J1),(361,rP 2 ux),(362,rG 26 C362),(374,bX e8 eR 10 374),(375,rP 1 Ua),(376,bX e8 eR 10 376),(377,bX e8 eR 10 377),(378,bX e8 eR 10 378),(379,bX e8 eR 10 379),(381,rP 1 J2),(403,rP 13 J3),(408,rP 3 J4),(409,rP 11 J5),(410,rP 14 uy),(415,rP 11 J6),(416,rP 1 J7),(417,rP 13 J8),(424,rP 5 uu),(440,rP 1 uz),(441,rP 3 J9),(442,rP 2 Ka),(443,rP 12 uA),(444,bX e8 eR 10 444),(445,bX e8 eR 10 445),(446,bX e8 eR 10 446),(447,bX e8 eR 10 447),(448,bX e8 eR 10 448),(449,bX e8 eR 10 449),(450,rG 2 C450),(451,rP 5 uB),(452,rG 1 C452),(453,rP 1 Kb),(454,rP 1 Kd),(455,rP 1 uz),(456,rP 3 Ke),(457,rP 12 uk),(458,rP 11 Kf),(459,bX e8 eR 10 459),(460,rP 11 Kg),(461,rP 2 Kh),(462,rP 1 Ki),(463,rP 1 Kj),(464,rP 1 Kk),(470,rP 1 uF),(477,rP 2 Kl),(482,bX e8 eR 10 482),(487,rP 1 Ud),(489,rG 1 C489),(495,bX e8 eR 10 495),(496,bX e8 eR 10 496),(501,rP 6 uM),(502,rG 19 C502),(503,rP 18 Km),(504,rP 18 Kn),(505,rP 5 Ue u505),(506,rP 16 Ko),(507,rP 1 Kq),(508,rP 19 Kr),(510,rP 1 Ks),(511,rP 9 uC),(516,rP 2 uD),(530,rP 1 Kt),(531,rP 1 Ku),(532,rP 2 uE),(533,rP 1 uF),(534,rP 3 uG),(535,rF 4 A535),(536,rP 1 Kv),(553,rP 5 Kw),(554,rP 3 Kx),(572,bX e8 eR 10 572),(580,rP 7 uC),(581,rP 1 Ky),(582,rG 25 C582),(583,rG 24 C583),(594,rP 1 Kz),(598,bX e8 eR 10 598),(599,bX e8 eR 10 599),(600,rP 1 KA),(601,bX e8 eR 10 601),(602,bX e8 eR 10 602),(603,bX e8 eR 10 603),(604,bX e8 eR 10 604),(617,rP 1 KB),(618,rP 12 KC),(622,rP 10 KD),(623,rP 12 uH),(624,rP 11 uI),(627,rP 10 uJ),(628,rP 12 uH),(629,rP 11 uI),(630,rP 1 uE),(631,rP 4 KE),(658,rP 1 uK),(659,rP 1 uL),(660,bX e8 eR 10 660),(661,bX e8 eR 10 661),(662,bX e8 eR 10 662),(663,bX e8 eR 10 663),(664,rG 1 C664),(665,rP 2 pF),(666,rP 1 KF),(667,rP 2 uK),(668,rP 1 uL),(669,rP 11 uA),(670,bX e8 eR 10 670),(671,bX e8 eR 10 671),(672,bX e8 eR 10 672),(673,rP 1 KG),(674,rP 1 KH),(676,bX e8 eR 10 676),(677,bX e8 eR 10 677),(678,bX e8 eR 10 678),(682,bX e8 eR 10 682),(683,rP 1 Uf),(684,bX e8 eR 10 684),(685,bX e8 eR 10 685),(689,rP 7 KI),(690,rP 1 KJ),(691,rP 6 KK),(692,rP 3 KL),(693,rP 3 KM),(694,rP 4 KN),(695,rP 18 ur),(699,rP 8 KO),(700,rP 7 KP),(701,rP 6 uM),(704,rP 1 KQ),(712,rP 10 uJ),(714,rP 1 KR),(734,rP 2 pF),(744,bX e8 eR 10 744),(745,bX e8 eR 10 745),(748,rG 24 C748),(749,rP 2 KT),(750,rP 2 KU),(751,rG 11 C751),(752,rG 23 C752),(753,rP 13 KV),(754,rP 11 KW),(755,rG 22 C755),(769,bX e8 eR 10 769),(770,rP 9 uN),(771,bX e8 eR 10 771),(772,bX e8 eR 10 772),(777,rP 11 KX),(778,rP 10 KY),(780,rP 9 uN),(782,rP 9 uO),(783,rP 3 uG),(808,bX e8 eR 10 808),(809,bX e8 eR 10 809),(810,bX e8 eR 10 810),(811,bX e8 eR 10 811),(812,rP 3 KZ),(813,bX e8 eR 10 813),(814,bX e8 eR 10 814),(815,rP 1 K0),(816,rP 2 K1),(819,bX e8 eR 10 819),(827,bX e8 eR 10 827),(828,bX e8 eR 10 828),(829,rP 1 K2),(830,rP 1 K3),(831,rP 1 K4),(861,rP 9 uO),(882,rP 1 K5),(896,bX e8 eR 10 896),(897,bX e8 eR 10 897),(898,bX e8 eR 10 898),(899,bX e8 eR 10 899),(900,bX e8 eR 10 900),(901,bX e8 eR 10 901),(902,rP 1 K6),(903,rP 1 K7),(904,rP 12 K8),(905,rP 2 K9),(906,rP 12 La),(907,bX e8 eR 10 907),(908,bX e8 eR 10 908),(909,rG 21 C909),(916,rP 8 uP),(917,rP 2 Lb),(918,bX e8 eR 10 918),(919,bX e8 eR 10 919),(920,bX e8 eR 10 920),(921,bX e8 eR 10 921),(924,rP 1 Ld),(925,rP 8 uP),(926,rP 8 uQ),(927,rP 1 uD),(946,bX e8 eR 10 946),(947,bX e8 eR 10 947),(948,bX e8 eR 10 948),(949,bX e8 eR 10 949),(950,bX e8 eR 10 950),(951,bX e8 eR 10 951),(952,bX e8 eR 10 952),(953,bX e8 eR 10 953),(954,bX e8 eR 10 954),(955,rP 1 Lg),(956,bX e8 eR 10 956),(957,bX e8 eR 10 957),(980,rP 8 uQ),(1006,bX e8 eR 10 1006),(1007,bX e8 eR 10 1007),(1008,bX e8 eR 10 1008),(1009,rP 11 Fb),(1010,bX e8 eR 10 1010),(1011,bX e8 eR 10 1011),(1012,rP 17 Fc),(1013,rP 20 Fe),(1014,rP 17 Ff),(1015,rP 7 Fg),(1019,rP 7 qI),(1020,rP 6 qJ),(1021,bX e8 eR 10 1021),(1023,rP 7 qI),(1024,rP 6 qJ),(1025,rP 6 qK),(1031,bX e8 eR 10 1031),(1032,bX e8 eR 10 1032),(1033,bX e8 eR 10 1033),(1034,bX e8 eR 10 1034),(1035,bX e8 eR 10 1035),(1036,bX e8 eR 10 1036),(1055,rP 6 qK),(1079,bX e8 eR 10 1079),(1080,rP 1 Fh),(1081,bX e8 eR 10 1081),(1082,bX e8 eR 10 1082),(1083,rP 19 Fi),(1084,rP 18 Fj),(1085,bX e8 eR 10 1085),(1086,rP 5 qL),(1087,rP 5 qL),(1097,bX e8 eR 10 1097),(1098,bX e8 eR 10 1098),(1099,bX e8 eR 10 1099),(1100,bX e8 eR 10 1100),(1118,bX e8 eR 10 1118),(1119,bX e8 eR 10 1119),(1120,rP 3 Fk),(1121,rP 1 Fl),(1122,bX e8 eR 10 1122),(1126,bX e8 eR 10 1126),(1137,bX e8 eR 10 1137),(1138,bX e8 eR 10 1138),(1139,bX e8 eR 10 1139),(1141,bX e8 eR 10 1141),(1144,bX e8 eR 10 1144),(1145,bX e8 eR 10 1145),(1147,bX e8 eR 10 1147),(1148,bX e8 eR 10 1148),(1220,rP 20 Fm),(1221,rP 20 Fo),(1222,rP 18 Fp),(1223,rP 29 Fq)]
variable {k u v:Nat}
def wXr (F:Nat->mS):List (Nat×aj)->Prop
 |[]=>True
 |p::r=>lk aB p.1 nu=F p.1/\wXr F r
def wXr.ok {F:Nat->mS}:∀{l:List (Nat×aj)},wXr F l->∀f a,lk (l.map λp=>(p.1,some p.2)) f none=some a->lk aB f nu=F f
 |[],_,f,a,h=>by simp[lk]at h
 |p::r,h,f,a,h1=>by
  simp only[List.map_cons,lk]at h1;cases h2:Nat.beq p.1 f with
  |true=>rw[<-Nat.eq_of_beq_eq_true h2];exact h.1
  |false=>rw[h2]at h1;exact h.2.ok f a h1
def ch:∀f a,e8 f=some a->lk aB f nu=bX e8 eR 10 f:=wXr.ok (l:=tbT) ⟨rfl,rfl,rfl,rfl,rfl,rfl,rfl,rfl,rfl,rfl,rfl,rfl,rfl,rfl,rfl,rfl,rfl,rfl,rfl,rfl,rfl,rfl,rfl,rfl,rfl,rfl,rfl,rfl,rfl,rfl,rfl,rfl,rfl,rfl,rfl,rfl,rfl,rfl,rfl,rfl,rfl,rfl,rfl,rfl,rfl,rfl,rfl,rfl,rfl,rfl,rfl,rfl,rfl,rfl,rfl,rfl,rfl,rfl,rfl,rfl,rfl,rfl,rfl,rfl,rfl,rfl,rfl,rfl,rfl,rfl,rfl,rfl,rfl,rfl,rfl,rfl,rfl,rfl,rfl,rfl,rfl,rfl,rfl,rfl,rfl,rfl,rfl,rfl,rfl,rfl,rfl,rfl,rfl,rfl,rfl,rfl,rfl,rfl,rfl,rfl,rfl,rfl,rfl,rfl,rfl,rfl,rfl,trivial⟩
def G25 (hk:1<k:=by decide):C25 (under aB k u):=aM
def G28 (hk:16<k:=by decide):C28 (under aB k u):=aM
def G29 (hk:2<k:=by decide):C29 (under aB k u):=aM
def G46 (hk:13<k:=by decide):C46 (under aB k u):=aM
def G52 (hk:17<k:=by decide):C52 (under aB k u):=aM
def G70 (hk:14<k:=by decide):C70 (under aB k u):=aM
def G71 (hk:14<k:=by decide):C71 (under aB k u):=aM
def G72 (hk:15<k:=by decide):C72 (under aB k u):=aM
def G73 (hk:15<k:=by decide):C73 (under aB k u):=aM
def G74 (hk:16<k:=by decide):C74 (under aB k u):=aM
def G75 (hk:16<k:=by decide):C75 (under aB k u):=aM
def G78 (hk:4<k:=by decide):C78 (under aB k u):=aM
def G89 (hk:22<k:=by decide):C89 (under aB k u):=aM
def G90 (hk:20<k:=by decide):C90 (under aB k u):=aM
def G91 (hk:28<k:=by decide):C91 (under aB k u):=aM
def G92 (hk:21<k:=by decide):C92 (under aB k u):=aM
def LI (hk:2<k:=by decide):Hx (under aB k u):=λg n hp0 hp1=>okf D109 hk λT h=>h g n hp0 hp1
def G110 (hk:6<k:=by decide):C110 (under aB k u):=λg nm v most hp0 hp1=>okf D110 hk λT h=>h g nm v most hp0 hp1
def G111 (hk:1<k:=by decide):C111 (under aB k u):=aM
def G112 (hk:1<k:=by decide):C112 (under aB k u):=aM
def G114 (hk:1<k:=by decide):C114 (under aB k u):=aM
def G117 (hk:3<k:=by decide):C117 (under aB k u):=aM
def G124 (hk:1<k:=by decide):C124 (under aB k u):=λs b hp=>okp XL (.inl hk) λT h=>h.1 s b hp
def G9124 (hk:1<k:=by decide):agp (under aB k u):=λs hp=>okp XL (.inl hk) λT h=>h.2 s hp
def G135 (hk:1<k:=by decide):C135 (under aB k u):=aM
def G136 (hk:15<k:=by decide):C136 (under aB k u):=aM
def G138 (hk:2<k:=by decide):C138 (under aB k u):=aM
def G142 (hk:18<k:=by decide):C142 (under aB k u):=aM
def G143 (hk:16<k:=by decide):WI (under aB k u):=aM
def G144 (hk:3<k:=by decide):WJ (under aB k u):=aM
def G145 (hk:18<k:=by decide):C145 (under aB k u):=aM
def G147 (hk:27<k:=by decide):C147 (under aB k u):=aM
def G158 (hk:2<k:=by decide):C158 (under aB k u):=aM
def G159 (hk:1<k:=by decide):C159 (under aB k u):=aM
def G169 (hk:14<k:=by decide):C169 (under aB k u):=aM
def G170 (hk:15<k:=by decide):WK (under aB k u):=aM
def G175 (hk:12<k:=by decide):C175 (under aB k u):=aM
def G183 (hk:12<k:=by decide):C183 (under aB k u):=aM
def G184 (hk:2<k:=by decide):C184 (under aB k u):=aM
def G186 (hk:16<k:=by decide):C186 (under aB k u):=aM
def WX (hk:1<k:=by decide):Uj (under aB k u):=aM
def Cy (hk:4<k:=by decide):Bn (under aB k u):=aM
def G210 (hk:13<k:=by decide):C210 (under aB k u):=aM
def G211 (hk:11<k:=by decide):C211 (under aB k u):=aM
def G214 (hk:11<k:=by decide):C214 (under aB k u):=aM
def G215 (hk:6<k:=by decide):C215 (under aB k u):=aM
def LJ (hk:2<k:=by decide):Hy (under aB k u):=aM
def Fx (hk:4<k:=by decide):Cw (under aB k u):=aM
def G218 (hk:13<k:=by decide):C218 (under aB k u):=aM
def G219 (hk:6<k:=by decide):C219 (under aB k u):=aM
def G220 (hk:2<k:=by decide):C220 (under aB k u):=aM
def G221 (hk:2<k:=by decide):C221 (under aB k u):=aM
def G225 (hk:3<k:=by decide):C225 (under aB k u):=aM
def G226 (hk:1<k:=by decide):C226 (under aB k u):=aM
def G242 (hk:1<k:=by decide):C242 (under aB k u):=aM
def G249 (hk:1<k:=by decide):C249 (under aB k u):=aM
def G254 (hk:1<k:=by decide):C254 (under aB k u):=aM
def G263 (hk:5<k:=by decide):C263 (under aB k u):=aM
def G264 (hk:20<k:=by decide):C264 (under aB k u):=aM
def G265 (hk:21<k:=by decide):C265 (under aB k u):=aM
def G266 (hk:19<k:=by decide):C266 (under aB k u):=λg l hp0 hp1=>okf D266 hk λT h=>h g l hp0 hp1
def G267 (hk:14<k:=by decide):C267 (under aB k u):=aM
def G268 (hk:2<k:=by decide):C268 (under aB k u):=aM
def G269 (hk:17<k:=by decide):C269 (under aB k u):=aM
def G270 (hk:20<k:=by decide):C270 (under aB k u):=aM
def G273 (hk:13<k:=by decide):C273 (under aB k u):=aM
def G274 (hk:18<k:=by decide):C274 (under aB k u):=aM
def WY (hk:5<k:=by decide):Uk (under aB k u):=aM
def G296 (hk:5<k:=by decide):C296 (under aB k u):=λg own hp0=>okf D296 hk λT h=>h g own hp0
def G297 (hk:3<k:=by decide):C297 (under aB k u):=λg own hp0=>okf D297 hk λT h=>h g own hp0
def G298 (hk:3<k:=by decide):C298 (under aB k u):=λg l hp0 hp1=>okf D298 hk λT h=>h g l hp0 hp1
def G310 (hk:2<k:=by decide):C310 (under aB k u):=aM
def G311 (hk:1<k:=by decide):C311 (under aB k u):=aM
def G315 (hk:6<k:=by decide):C315 (under aB k u):=aM
def G316 (hk:5<k:=by decide):C316 (under aB k u):=aM
def G336 (hk:1<k:=by decide):C336 (under aB k u):=aM
def G344 (hk:3<k:=by decide):C344 (under aB k u):=aM
def G345 (hk:11<k:=by decide):C345 (under aB k u):=aM
def WZ (hk:1<k:=by decide):Ul (under aB k u):=aM
def G353 (hk:17<k:=by decide):C353 (under aB k u):=aM
def G354 (hk:2<k:=by decide):C354 (under aB k u):=aM
def G355 (hk:1<k:=by decide):C355 (under aB k u):=aM
def G356 (hk:1<k:=by decide):C356 (under aB k u):=aM
def G357 (hk:2<k:=by decide):WL (under aB k u):=aM
def Uo (hk:17<k:=by decide):O0 (under aB k u):=aM
def G359 (hk:1<k:=by decide):C359 (under aB k u):=aM
def G360 (hk:17<k:=by decide):C360 (under aB k u):=aM
def G361 (hk:2<k:=by decide):C361 (under aB k u):=aM
def G362 (hk:26<k:=by decide):C362 (under aB k u):=λy hp0 nx lf m K h1 hat hK=>Te (.inl hk) λT _ h=>h y hp0 nx lf m K h1 hat hK
def G375 (hk:1<k:=by decide):C375 (under aB k u):=aM
def G381 (hk:1<k:=by decide):C381 (under aB k u):=aM
def G403 (hk:13<k:=by decide):C403 (under aB k u):=aM
def G408 (hk:3<k:=by decide):C408 (under aB k u):=aM
def G409 (hk:11<k:=by decide):C409 (under aB k u):=aM
def G410 (hk:14<k:=by decide):C410 (under aB k u):=aM
def G415 (hk:11<k:=by decide):C415 (under aB k u):=aM
def G416 (hk:1<k:=by decide):C416 (under aB k u):=aM
def G417 (hk:13<k:=by decide):C417 (under aB k u):=aM
def W0 (hk:5<k:=by decide):Um (under aB k u):=aM
def G440 (hk:1<k:=by decide):C440 (under aB k u):=aM
def G441 (hk:3<k:=by decide):C441 (under aB k u):=aM
def G442 (hk:2<k:=by decide):C442 (under aB k u):=aM
def G443 (hk:12<k:=by decide):C443 (under aB k u):=aM
def G450 (hk:2<k:=by decide):C450 (under aB k u):=λws t l lw nx m K h1 h2 h3 h4 h5 hK=>Te (.inl hk) λT _ h=>h ws t l lw nx m K h1 h2 h3 h4 h5 hK
def G451 (hk:5<k:=by decide):C451 (under aB k u):=aM
def G452 (hk:1<k:=by decide):C452 (under aB k u):=λds st K h1=>Te (.inl hk) λT _ h=>h ds st K h1
def G453 (hk:1<k:=by decide):C453 (under aB k u):=aM
def G454 (hk:1<k:=by decide):C454 (under aB k u):=aM
def G455 (hk:1<k:=by decide):C455 (under aB k u):=aM
def G456 (hk:3<k:=by decide):C456 (under aB k u):=aM
def G457 (hk:12<k:=by decide):C457 (under aB k u):=aM
def G458 (hk:11<k:=by decide):C458 (under aB k u):=aM
def G460 (hk:11<k:=by decide):C460 (under aB k u):=aM
def G461 (hk:2<k:=by decide):C461 (under aB k u):=aM
def G462 (hk:1<k:=by decide):C462 (under aB k u):=aM
def G463 (hk:1<k:=by decide):C463 (under aB k u):=aM
def G464 (hk:1<k:=by decide):C464 (under aB k u):=aM
def G470 (hk:1<k:=by decide):C470 (under aB k u):=aM
def G477 (hk:2<k:=by decide):C477 (under aB k u):=aM
def G487 (hk:1<k:=by decide):C487 (under aB k u):=aM
def G489 (hk:1<k:=by decide):C489 (under aB k u):=λds st K h1=>Te (.inl hk) λT _ h=>h ds st K h1
def G501 (hk:6<k:=by decide):C501 (under aB k u):=aM
def G502 (hk:19<k:=by decide):C502 (under aB k u):=λshop w x c kvs hp0 hp1 nx lm lc m K hlc hlm h1 h2 hK=>Te (.inl hk) λT _ h=>h shop w x c kvs hp0 hp1 nx lm lc m K hlc hlm h1 h2 hK
def G503 (hk:18<k:=by decide):C503 (under aB k u):=aM
def G504 (hk:18<k:=by decide):C504 (under aB k u):=aM
def G505 (hk:5<k:=by decide):C505 (under aB k u):=aM
def G505u (hv:v<=u):ago (under aB 5 u) v:=λm od c hp0 hu=>okp XL (.inr ⟨rfl,by rw[show(lk aB 505 nu).mu=negD from rfl,S4];exact js hu hv⟩) λT hT=>hT m od c hp0
def G506 (hk:16<k:=by decide):C506 (under aB k u):=aM
def G507 (hk:1<k:=by decide):C507 (under aB k u):=aM
def G508 (hk:19<k:=by decide):C508 (under aB k u):=aM
def G510 (hk:1<k:=by decide):C510 (under aB k u):=aM
def G511 (hk:9<k:=by decide):C511 (under aB k u):=aM
def G516 (hk:2<k:=by decide):C516 (under aB k u):=aM
def G530 (hk:1<k:=by decide):C530 (under aB k u):=aM
def G531 (hk:1<k:=by decide):C531 (under aB k u):=aM
def G532 (hk:2<k:=by decide):C532 (under aB k u):=aM
def G533 (hk:1<k:=by decide):WM (under aB k u):=aM
def G534 (hk:3<k:=by decide):C534 (under aB k u):=aM
def G535 (hk:4<k:=by decide):C535 (under aB k u):=λg own hp0=>okf D535 hk λT h=>h g own hp0
def G536 (hk:1<k:=by decide):C536 (under aB k u):=aM
def G553 (hk:5<k:=by decide):C553 (under aB k u):=aM
def G554 (hk:3<k:=by decide):C554 (under aB k u):=aM
def G580 (hk:7<k:=by decide):WN (under aB k u):=aM
def G581 (hk:1<k:=by decide):C581 (under aB k u):=aM
def G582 (hk:25<k:=by decide):C582 (under aB k u):=λy ns hp0 hp1 nx lf ln lr m K h1 h2 h3 hne hat hK=>Te (.inl hk) λT _ h=>h y ns hp0 hp1 nx lf ln lr m K h1 h2 h3 hne hat hK
def G583 (hk:24<k:=by decide):C583 (under aB k u):=λy ns all k hp0 hp1 nx lf ln lr m K h1 h2 h3 hne hat hK=>Te (.inl hk) λT _ h=>h y ns all k hp0 hp1 nx lf ln lr m K h1 h2 h3 hne hat hK
def G594 (hk:1<k:=by decide):C594 (under aB k u):=aM
def G600 (hk:1<k:=by decide):C600 (under aB k u):=aM
def G617 (hk:1<k:=by decide):C617 (under aB k u):=aM
def G618 (hk:12<k:=by decide):C618 (under aB k u):=aM
def G622 (hk:10<k:=by decide):C622 (under aB k u):=aM
def G623 (hk:12<k:=by decide):C623 (under aB k u):=aM
def G624 (hk:11<k:=by decide):C624 (under aB k u):=aM
def G627 (hk:10<k:=by decide):C627 (under aB k u):=aM
def G628 (hk:12<k:=by decide):C628 (under aB k u):=aM
def G629 (hk:11<k:=by decide):C629 (under aB k u):=aM
def G630 (hk:1<k:=by decide):WO (under aB k u):=aM
def G631 (hk:4<k:=by decide):C631 (under aB k u):=aM
def G658 (hk:1<k:=by decide):C658 (under aB k u):=aM
def G659 (hk:1<k:=by decide):C659 (under aB k u):=aM
def G664 (hk:1<k:=by decide):C664 (under aB k u):=λds st K h1=>Te (.inl hk) λT _ h=>h ds st K h1
def G665 (hk:2<k:=by decide):C665 (under aB k u):=aM
def G666 (hk:1<k:=by decide):C666 (under aB k u):=aM
def G667 (hk:2<k:=by decide):C667 (under aB k u):=aM
def G668 (hk:1<k:=by decide):C668 (under aB k u):=aM
def G669 (hk:11<k:=by decide):C669 (under aB k u):=aM
def G673 (hk:1<k:=by decide):C673 (under aB k u):=aM
def G674 (hk:1<k:=by decide):C674 (under aB k u):=aM
def G683 (hk:1<k:=by decide):C683 (under aB k u):=aM
def G689 (hk:7<k:=by decide):C689 (under aB k u):=aM
def G690 (hk:1<k:=by decide):C690 (under aB k u):=aM
def G691 (hk:6<k:=by decide):C691 (under aB k u):=aM
def G692 (hk:3<k:=by decide):C692 (under aB k u):=aM
def G693 (hk:3<k:=by decide):C693 (under aB k u):=aM
def G694 (hk:4<k:=by decide):C694 (under aB k u):=aM
def G695 (hk:18<k:=by decide):C695 (under aB k u):=aM
def G699 (hk:8<k:=by decide):C699 (under aB k u):=aM
def G700 (hk:7<k:=by decide):C700 (under aB k u):=aM
def G701 (hk:6<k:=by decide):C701 (under aB k u):=aM
def G704 (hk:1<k:=by decide):C704 (under aB k u):=aM
def G712 (hk:10<k:=by decide):C712 (under aB k u):=aM
def G714 (hk:1<k:=by decide):C714 (under aB k u):=aM
def G734 (hk:2<k:=by decide):C734 (under aB k u):=aM
def G748 (hk:24<k:=by decide):C748 (under aB k u):=λy ns k hp0 hp1 nx lf ln lr m K h1 h2 h3 hne hat hK=>Te (.inl hk) λT _ h=>h y ns k hp0 hp1 nx lf ln lr m K h1 h2 h3 hne hat hK
def G749 (hk:2<k:=by decide):C749 (under aB k u):=aM
def G750 (hk:2<k:=by decide):C750 (under aB k u):=aM
def G751 (hk:11<k:=by decide):C751 (under aB k u):=λy ns hp0 hp1 nx lf ln lr m K h1 h2 h3 hne hat hK=>Te (.inl hk) λT _ h=>h y ns hp0 hp1 nx lf ln lr m K h1 h2 h3 hne hat hK
def G752 (hk:23<k:=by decide):C752 (under aB k u):=λy ns k hp0 hp1 nx lf ln lr m K h1 h2 h3 hne hat hK=>Te (.inl hk) λT _ h=>h y ns k hp0 hp1 nx lf ln lr m K h1 h2 h3 hne hat hK
def G753 (hk:13<k:=by decide):C753 (under aB k u):=aM
def G754 (hk:11<k:=by decide):C754 (under aB k u):=aM
def G755 (hk:22<k:=by decide):C755 (under aB k u):=λy ns nm hp0 hp1 nx lf ln lr m K h1 h2 h3 hne hat hK=>Te (.inl hk) λT _ h=>h y ns nm hp0 hp1 nx lf ln lr m K h1 h2 h3 hne hat hK
def G770 (hk:9<k:=by decide):WQ (under aB k u):=aM
def G777 (hk:11<k:=by decide):C777 (under aB k u):=aM
def G778 (hk:10<k:=by decide):C778 (under aB k u):=aM
def G780 (hk:9<k:=by decide):C780 (under aB k u):=aM
def G782 (hk:9<k:=by decide):C782 (under aB k u):=aM
def G783 (hk:3<k:=by decide):C783 (under aB k u):=aM
def G812 (hk:3<k:=by decide):C812 (under aB k u):=aM
def G815 (hk:1<k:=by decide):C815 (under aB k u):=aM
def G816 (hk:2<k:=by decide):C816 (under aB k u):=aM
def G829 (hk:1<k:=by decide):C829 (under aB k u):=aM
def G830 (hk:1<k:=by decide):C830 (under aB k u):=aM
def G831 (hk:1<k:=by decide):C831 (under aB k u):=aM
def G861 (hk:9<k:=by decide):C861 (under aB k u):=aM
def G882 (hk:1<k:=by decide):C882 (under aB k u):=aM
def G902 (hk:1<k:=by decide):C902 (under aB k u):=aM
def G903 (hk:1<k:=by decide):C903 (under aB k u):=aM
def G904 (hk:12<k:=by decide):C904 (under aB k u):=aM
def G905 (hk:2<k:=by decide):C905 (under aB k u):=aM
def G906 (hk:12<k:=by decide):C906 (under aB k u):=aM
def G909 (hk:21<k:=by decide):C909 (under aB k u):=λy ns nm hp0 nx lf ln lr m K h1 h2 h3 hne hat hK=>Te (.inl hk) λT _ h=>h y ns nm hp0 nx lf ln lr m K h1 h2 h3 hne hat hK
def G916 (hk:8<k:=by decide):WS (under aB k u):=aM
def G917 (hk:2<k:=by decide):C917 (under aB k u):=aM
def G924 (hk:1<k:=by decide):C924 (under aB k u):=aM
def G925 (hk:8<k:=by decide):C925 (under aB k u):=aM
def G926 (hk:8<k:=by decide):C926 (under aB k u):=aM
def G927 (hk:1<k:=by decide):C927 (under aB k u):=aM
def G955 (hk:1<k:=by decide):C955 (under aB k u):=aM
def G980 (hk:8<k:=by decide):C980 (under aB k u):=aM
def agq (hk:11<k:=by decide):WD (under aB k u):=aM
def G1012 (hk:17<k:=by decide):af9 (under aB k u):=aM
def G1013 (hk:20<k:=by decide):aga (under aB k u):=aM
def G1014 (hk:17<k:=by decide):agb (under aB k u):=aM
def G1015 (hk:7<k:=by decide):agc (under aB k u):=aM
def WT (hk:7<k:=by decide):LG (under aB k u):=aM
def WU (hk:6<k:=by decide):RR (under aB k u):=aM
def ags (hk:7<k:=by decide):WE (under aB k u):=aM
def agt (hk:6<k:=by decide):WG (under aB k u):=aM
def G1025 (hk:6<k:=by decide):agd (under aB k u):=aM
def G1055 (hk:6<k:=by decide):age (under aB k u):=aM
def G1080 (hk:1<k:=by decide):agf (under aB k u):=aM
def agu (hk:19<k:=by decide):WH (under aB k u):=aM
def G1084 (hk:18<k:=by decide):agh (under aB k u):=aM
def WV (hk:5<k:=by decide):RS (under aB k u):=aM
def WW (hk:5<k:=by decide):RV (under aB k u):=aM
def G1120 (hk:3<k:=by decide):agj (under aB k u):=aM
def G1121 (hk:1<k:=by decide):agk (under aB k u):=aM
def G1220 (hk:20<k:=by decide):agl (under aB k u):=aM
def G1221 (hk:20<k:=by decide):agm (under aB k u):=aM
def G1222 (hk:18<k:=by decide):agn (under aB k u):=aM
def G212 (hk:10<k:=by decide):C212 (under aB k u):=λs hp=>kT rfl hk (ev212 hp)
def G670 (hk:10<k:=by decide):C670 (under aB k u):=λs hp=>kT rfl hk (ev670 hp)
def G448 (hk:10<k:=by decide):C448 (under aB k u):=λs hp=>kT rfl hk (ev448 hp)
def G672 (hk:10<k:=by decide):C672 (under aB k u):=λs hp=>kT rfl hk (ev672 hp)
def G444 (hk:10<k:=by decide):C444 (under aB k u):=λs hp=>kT rfl hk (ev444 hp)
def G572 (hk:10<k:=by decide):C572 (under aB k u):=λs hp=>kT rfl hk (ev572 hp)
def G213 (hk:10<k:=by decide):C213 (under aB k u):=λl hp=>kT rfl hk (ev213 hp)
def G459 (hk:10<k:=by decide):C459 (under aB k u):=λl hp=>kT rfl hk (ev459 hp)
def G908 (hk:10<k:=by decide):C908 (under aB k u):=λs hp=>kT rfl hk (ev908 hp)
def G1011 (hk:10<k:=by decide):af8 (under aB k u):=λs hp=>kT rfl hk (aj1 hp)
def G1085 (hk:10<k:=by decide):agi (under aB k u):=λs hp=>kT rfl hk (aj2 hp)
def agv (hk:10<k:=by decide):WR (under aB k u):=λv hp=>kT rfl hk (ev156 hp)
def G374 (hk:10<k:=by decide):C374 (under aB k u):=kT rfl hk ev374
def G907 (hk:10<k:=by decide):C907 (under aB k u):=λs e hp=>kT rfl hk (ev907 hp.1 hp.2)
def fh (u:Nat):Td (under aB 10 u) eR:=aj7 (aj6 WZ G357 WX LJ G658 G667 G665 G734 G533 G470 G124 G9124 G683 G487 G254 G815 G249 G242 Cy Fx) (aj5 G144 G375 G600 G770 G816 G916 WT WU)
end
def au:(Go.Proofs.Tryz.prog).follows .mixedOrders=true:=yT
abbrev Ow [cO](f n:Nat):Prop:=Owe Go.Proofs.Tryz.prog BD Ps aB f n
abbrev Cp (f:Nat)(a:aj):Prop:=Wu Go.Proofs.Tryz.prog BD Ps f a
def ck {f:Nat}{a:aj}(h:((Go.Proofs.Tryz.prog).funcs[f]?).map (λf=>(compile Go.Proofs.Tryz.prog BD Ps f,f.name== "runtime.NumGoroutine"))=some (some a,false):=by kernel_rfl):Cp f a:=h
end Go.Abs
