/- A part of the proofs. -/
import Derived.KernelRfl
import Derived.Test.YtkllcniplomebaaGreatDoorProg
import Derived.Test.YtkllcniplomebaaGreatDoorP09
import Derived.Test.YtkllcniplomebaaGreatDoorP20
import Derived.Test.YtkllcniplomebaaGreatDoorP21
import Derived.Test.YtkllcniplomebaaGreatDoorP22
set_option linter.all false
set_option maxRecDepth 60000
set_option maxHeartbeats 2000000
namespace Go.Abs
variable(T:FT)
section
def A109:=∀(g:Gs) (n:Int),(n<=9223372036854775807)->(0<=g.i/\g.i<=1000000)->T (Gs.D g) [.int .i64 n] (.int .i64 (g.val n)) (Gs.D g.aI)
def D109:wz (mJ A109):=Aa
def A110:=∀(g:Gs) (nm:av) (v:bO) (most:Int),(0<=g.i/\g.i<=970000)->(0<=most/\most<=100)->T (Gs.D g) [.str nm,bO.D v,.int .i64 most] (Rec.D (pw g nm v most).1) (Gs.D (pw g nm v most).2)
def D110:wz (mJ A110):=Aa
def A124 (T:RT):Prop:=Tj T/\Ox T
def A266:=∀(g:Gs) (l:List cj),(0<=g.i/\g.i<=960000)->(jG l/\1<=l.length/\l.length<=100)->T (Gs.D g) [.sl 2 (l.map cj.D)] (.sl 2 ((lN g l).1.map cj.D)) (Gs.D (lN g l).2)
def D266:wz (mJ A266):=Aa
def A296:=∀(g:Gs) (own:av),(0<=g.i/\g.i<=980000)->T (Gs.D g) [.str own] (bp.D (mr g own).1) (Gs.D (mr g own).2)
def D296:wz (mJ A296):=Aa
def A297:=∀(g:Gs) (own:av),(0<=g.i/\g.i<=990000)->T (Gs.D g) [.str own] (.str (cQ g own).1) (Gs.D (cQ g own).2)
def D297:wz (mJ A297):=Aa
def A298:=∀(g:Gs) (l:List bp),(0<=g.i/\g.i<=980000)->((∀n∈l,n.sm)/\l.length<=1000)->T (Gs.D g) [.sl 3 (l.map bp.D)] (bY.D (mV g l).1) (Gs.D (mV g l).2)
def D298:wz (mJ A298):=Aa
def u505:List D->Nat:=negD
def A535:=∀(g:Gs) (own:av),(0<=g.i/\g.i<=990000)->T (Gs.D g) [.str own] (c9.D (dD g own).1) (Gs.D (dD g own).2)
def D535:wz (mJ A535):=Aa
def A545:=∀(r:oY),(r.at'<=r.s.length)->(r.s.length<=1048576)->(r.n<=2097152)->T (oY.D r) [] (.tup [.str r.ln.1,.bool r.ln.2.2]) (oY.D r.aI)
def D545:wz (mJ A545):=Aa
def D1219:Det (HL EX):=W5
noncomputable def aA:List (Nat×mG):=[(25,rP 1 QY),(28,rP 16 QZ),(29,rP 2 Q0),(46,rP 13 Q3),(70,rP 14 zN),(71,rP 14 zN),(72,rP 15 zO),(73,rP 15 zO),(74,rP 16 zP),(75,rP 16 zP),(90,rP 20 Q4),(91,rP 28 Q5),(98,rP 19 Q6),(101,rP 1 IZ),(109,rF 2 A109),(110,rF 6 A110),(111,rP 1 Tg),(112,rP 1 Th),(114,rP 1 I0),(119,rP 9 Ti),(124,rP 1 A124),(135,rP 1 Tk),(136,rP 15 I1),(138,rP 2 tQ),(142,rP 18 tR),(143,rP 16 I2),(144,rP 3 tQ),(145,rP 18 tR),(147,rP 27 I3),(156,bP eS eK 10 156),(158,rP 2 I4),(159,rP 1 I5),(169,rP 14 tS),(170,rP 15 tZ),(175,rP 12 tS),(176,rP 15 I6),(183,rP 12 I7),(184,rP 2 I8),(208,rP 1 tT),(209,rP 4 tV),(210,rP 13 tW),(211,rP 11 I9),(212,bP eS eK 10 212),(213,bP eS eK 10 213),(214,rP 11 Ja),(215,rP 6 tX),(216,rP 2 tT),(217,rP 4 tV),(218,rP 13 Jb),(219,rP 6 tX),(220,rP 2 tY),(221,rP 2 tY),(242,rP 1 Tn),(249,rP 1 Jc),(254,rP 1 To),(266,rF 19 A266),(267,rP 14 Jd),(268,rP 2 Je),(269,rP 17 Jf),(273,rP 13 tZ),(274,rP 18 Jg),(294,rP 3 Jh),(295,rP 5 ua),(296,rF 5 A296),(297,rF 3 A297),(298,rF 3 A298),(309,rP 8 Ji),(312,rP 7 Jj),(313,rP 1 uh),(314,rP 5 Jk),(315,rP 6 Jl),(316,rP 5 ug),(336,rP 1 oU),(344,rP 3 Jm),(345,rP 11 Jn),(349,rP 1 ub),(353,rP 17 uc),(354,rP 2 Jo),(355,rP 1 Jp),(356,rP 1 Jq),(357,rP 2 ub),(358,rP 17 uc),(359,rP 1 ud),(360,rP 17 Jr),(361,rP 2 ud),(362,rG 26 C362),(374,bP eS eK 10 374),(375,rP 1 Tp),(376,bP eS eK 10 376),(377,bP eS eK 10 377),(378,bP eS eK 10 378),(379,bP eS eK 10 379),(381,rP 1 Js),(403,rP 13 Jt),(408,rP 3 Ju),(409,rP 11 Jv),(410,rP 14 Jw),(415,rP 11 Jx),(416,rP 1 Jy),(424,rP 5 ua),(440,rP 1 ue),(441,rP 3 Jz),(442,rP 2 JA),(443,rP 12 uf),(444,bP eS eK 10 444),(445,bP eS eK 10 445),(446,bP eS eK 10 446),(447,bP eS eK 10 447),(448,bP eS eK 10 448),(449,bP eS eK 10 449),(450,rG 2 C450),(451,rP 5 ug),(452,rG 1 C452),(453,rP 1 JB),(454,rP 1 JC),(455,rP 1 ue),(456,rP 3 JD),(457,rP 12 tW),(458,rP 11 JE),(459,bP eS eK 10 459),(460,rP 11 JF),(461,rP 2 JG),(462,rP 1 JH),(463,rP 1 JI),(464,rP 1 JJ),(466,rP 6 JK),(470,rP 1 um),(482,bP eS eK 10 482),(486,rP 1 JL),(487,rP 1 Ts),(489,rG 1 C489),(491,rP 1 Tt),(495,bP eS eK 10 495),(496,bP eS eK 10 496),(497,rP 2 uh),(499,rP 1 JM),(501,rP 6 ux),(503,rP 18 JN),(504,rP 18 JO),(505,rP 5 Tu u505),(506,rP 16 JP),(510,rP 1 JQ),(511,rP 9 ui),(516,rP 2 uj),(528,rP 2 JR),(529,rP 1 JS),(530,rP 1 JT),(531,rP 1 JU),(532,rP 2 uk),(533,rP 1 um),(534,rP 3 uo),(535,rF 4 A535),(536,rP 1 JV),(545,rF 2 A545),(546,rP 3 JW),(547,rP 7 JX),(548,rP 1 JY),(549,rP 6 JZ),(550,rP 4 J0),(551,rP 3 uq),(552,rP 2 uq),(553,rP 5 J1),(554,rP 3 J2),(572,bP eS eK 10 572),(580,rP 7 ui),(581,rP 1 J3),(582,rG 25 C582),(583,rG 24 C583),(598,bP eS eK 10 598),(599,bP eS eK 10 599),(600,rP 1 J4),(601,bP eS eK 10 601),(602,bP eS eK 10 602),(603,bP eS eK 10 603),(604,bP eS eK 10 604),(617,rP 1 J5),(618,rP 12 J6),(622,rP 10 J7),(623,rP 12 J8),(624,rP 11 ur),(627,rP 10 uu),(629,rP 11 ur),(630,rP 1 uk),(631,rP 4 J9),(658,rP 1 uv),(659,rP 1 uw),(660,bP eS eK 10 660),(661,bP eS eK 10 661),(662,bP eS eK 10 662),(663,bP eS eK 10 663),(664,rG 1 C664),(665,rP 2 oU),(666,rP 1 Ka),(667,rP 2 uv),(668,rP 1 uw),(669,rP 11 uf),(670,bP eS eK 10 670),(671,bP eS eK 10 671),(672,bP eS eK 10 672),(673,rP 1 Kb),(674,rP 1 Kd),(675,rP 1 Ke),(676,bP eS eK 10 676),(677,bP eS eK 10 677),(678,bP eS eK 10 678),(682,bP eS eK 10 682),(683,rP 1 Tv),(684,bP eS eK 10 684),(685,bP eS eK 10 685),(686,rP 1 Kf),(692,rP 3 Kg),(693,rP 3 Kh),(694,rP 4 Ki),(699,rP 8 Kj),(700,rP 7 Kk),(701,rP 6 ux),(704,rP 1 Kl),(712,rP 10 uu),(714,rP 1 Km),(733,rP 1 Kn),(734,rP 2 oU),(744,bP eS eK 10 744),(745,bP eS eK 10 745),(748,rG 24 C748),(749,rP 2 Ko),(750,rP 2 Kq),(751,rG 11 C751),(752,rG 23 C752),(753,rP 13 Kr),(754,rP 11 Ks),(755,rG 22 C755),(769,bP eS eK 10 769),(770,rP 9 uy),(771,bP eS eK 10 771),(772,bP eS eK 10 772),(777,rP 11 Kt),(778,rP 10 Ku),(780,rP 9 uy),(782,rP 9 uz),(783,rP 3 uo),(808,bP eS eK 10 808),(809,bP eS eK 10 809),(810,bP eS eK 10 810),(811,bP eS eK 10 811),(812,rP 3 Kv),(813,bP eS eK 10 813),(814,bP eS eK 10 814),(815,rP 1 Kw),(816,rP 2 Kx),(819,bP eS eK 10 819),(827,bP eS eK 10 827),(828,bP eS eK 10 828),(829,rP 1 Ky),(830,rP 1 Kz),(831,rP 1 KA),(861,rP 9 uz),(882,rP 1 KB),(896,bP eS eK 10 896),(897,bP eS eK 10 897),(898,bP eS eK 10 898),(899,bP eS eK 10 899),(900,bP eS eK 10 900),(901,bP eS eK 10 901),(902,rP 1 KC),(903,rP 1 KD),(904,rP 12 KE),(905,rP 2 KF),(906,rP 12 KG),(907,bP eS eK 10 907),(908,bP eS eK 10 908),(909,rG 21 C909),(916,rP 8 uA),(917,rP 2 KH),(918,bP eS eK 10 918),(919,bP eS eK 10 919),(920,bP eS eK 10 920),(921,bP eS eK 10 921),(924,rP 1 KI),(925,rP 8 uA),(926,rP 8 uB),(927,rP 1 uj),(946,bP eS eK 10 946),(947,bP eS eK 10 947),(948,bP eS eK 10 948),(949,bP eS eK 10 949),(950,bP eS eK 10 950),(951,bP eS eK 10 951),(952,bP eS eK 10 952),(953,bP eS eK 10 953),(954,bP eS eK 10 954),(955,rP 1 KJ),(956,bP eS eK 10 956),(957,bP eS eK 10 957),(980,rP 8 uB),(1006,bP eS eK 10 1006),(1007,bP eS eK 10 1007),(1008,bP eS eK 10 1008),(1009,rP 11 EJ),(1010,bP eS eK 10 1010),(1011,bP eS eK 10 1011),(1012,rP 17 EK),(1013,rP 20 EN),(1014,rP 17 EO),(1015,rP 7 ER),(1019,rP 7 qq),(1020,rP 6 qt),(1021,bP eS eK 10 1021),(1023,rP 7 qq),(1024,rP 6 qt),(1025,rP 6 qu),(1031,bP eS eK 10 1031),(1032,bP eS eK 10 1032),(1033,bP eS eK 10 1033),(1034,bP eS eK 10 1034),(1035,bP eS eK 10 1035),(1036,bP eS eK 10 1036),(1055,rP 6 qu),(1079,bP eS eK 10 1079),(1080,rP 1 ES),(1081,bP eS eK 10 1081),(1082,bP eS eK 10 1082),(1083,rP 19 ET),(1084,rP 18 EU),(1085,bP eS eK 10 1085),(1086,rP 5 qv),(1087,rP 5 qv),(1097,bP eS eK 10 1097),(1098,bP eS eK 10 1098),(1099,bP eS eK 10 1099),(1100,bP eS eK 10 1100),(1118,bP eS eK 10 1118),(1119,bP eS eK 10 1119),(1120,rP 3 EV),(1121,rP 1 EW),(1122,bP eS eK 10 1122),(1126,bP eS eK 10 1126),(1137,bP eS eK 10 1137),(1138,bP eS eK 10 1138),(1139,bP eS eK 10 1139),(1141,bP eS eK 10 1141),(1144,bP eS eK 10 1144),(1145,bP eS eK 10 1145),(1147,bP eS eK 10 1147),(1148,bP eS eK 10 1148),(1219,rP 29 EX)]
variable {k u v:Nat}
def AllR (F:Nat->mG):List (Nat×aj)->Prop
 |[]=>True
 |p::r=>lk aA p.1 mZ=F p.1/\AllR F r
def AllR.ok {F:Nat->mG}:∀{l:List (Nat×aj)},AllR F l->∀f a,lk (l.map λp=>(p.1,some p.2)) f none=some a->lk aA f mZ=F f
 |[],_,f,a,h=>by simp[lk]at h
 |p::r,h,f,a,h1=>by
  simp only[List.map_cons,lk]at h1;cases h2:Nat.beq p.1 f with
  |true=>rw[<-Nat.eq_of_beq_eq_true h2];exact h.1
  |false=>rw[h2]at h1;exact h.2.ok f a h1
def bZ:∀f a,eS f=some a->lk aA f mZ=bP eS eK 10 f:=AllR.ok (l:=tbT) ⟨rfl,rfl,rfl,rfl,rfl,rfl,rfl,rfl,rfl,rfl,rfl,rfl,rfl,rfl,rfl,rfl,rfl,rfl,rfl,rfl,rfl,rfl,rfl,rfl,rfl,rfl,rfl,rfl,rfl,rfl,rfl,rfl,rfl,rfl,rfl,rfl,rfl,rfl,rfl,rfl,rfl,rfl,rfl,rfl,rfl,rfl,rfl,rfl,rfl,rfl,rfl,rfl,rfl,rfl,rfl,rfl,rfl,rfl,rfl,rfl,rfl,rfl,rfl,rfl,rfl,rfl,rfl,rfl,rfl,rfl,rfl,rfl,rfl,rfl,rfl,rfl,rfl,rfl,rfl,rfl,rfl,rfl,rfl,rfl,rfl,rfl,rfl,rfl,rfl,rfl,rfl,rfl,rfl,rfl,rfl,rfl,rfl,rfl,rfl,rfl,rfl,rfl,rfl,rfl,rfl,rfl,rfl,trivial⟩
def G25 (hk:1<k:=by decide):C25 (under aA k u):=aN
def G28 (hk:16<k:=by decide):C28 (under aA k u):=aN
def G29 (hk:2<k:=by decide):C29 (under aA k u):=aN
def G46 (hk:13<k:=by decide):C46 (under aA k u):=aN
def G70 (hk:14<k:=by decide):C70 (under aA k u):=aN
def G71 (hk:14<k:=by decide):C71 (under aA k u):=aN
def G72 (hk:15<k:=by decide):C72 (under aA k u):=aN
def G73 (hk:15<k:=by decide):C73 (under aA k u):=aN
def G74 (hk:16<k:=by decide):C74 (under aA k u):=aN
def G75 (hk:16<k:=by decide):C75 (under aA k u):=aN
def G90 (hk:20<k:=by decide):C90 (under aA k u):=aN
def G91 (hk:28<k:=by decide):C91 (under aA k u):=aN
def G98 (hk:19<k:=by decide):C98 (under aA k u):=aN
def G101 (hk:1<k:=by decide):C101 (under aA k u):=aN
def Lh (hk:2<k:=by decide):G9 (under aA k u):=λg n hp0 hp1=>okf D109 hk λT h=>h g n hp0 hp1
def G110 (hk:6<k:=by decide):C110 (under aA k u):=λg nm v most hp0 hp1=>okf D110 hk λT h=>h g nm v most hp0 hp1
def G111 (hk:1<k:=by decide):C111 (under aA k u):=aN
def G112 (hk:1<k:=by decide):C112 (under aA k u):=aN
def G114 (hk:1<k:=by decide):C114 (under aA k u):=aN
def G119 (hk:9<k:=by decide):C119 (under aA k u):=aN
def G124 (hk:1<k:=by decide):C124 (under aA k u):=λs b hp=>okp W5 (.inl hk) λT h=>h.1 s b hp
def G9124 (hk:1<k:=by decide):afy (under aA k u):=λs hp=>okp W5 (.inl hk) λT h=>h.2 s hp
def G135 (hk:1<k:=by decide):C135 (under aA k u):=aN
def G136 (hk:15<k:=by decide):C136 (under aA k u):=aN
def G138 (hk:2<k:=by decide):C138 (under aA k u):=aN
def G142 (hk:18<k:=by decide):C142 (under aA k u):=aN
def G143 (hk:16<k:=by decide):VY (under aA k u):=aN
def G144 (hk:3<k:=by decide):C144 (under aA k u):=aN
def G145 (hk:18<k:=by decide):C145 (under aA k u):=aN
def G147 (hk:27<k:=by decide):C147 (under aA k u):=aN
def G158 (hk:2<k:=by decide):C158 (under aA k u):=aN
def G159 (hk:1<k:=by decide):C159 (under aA k u):=aN
def G169 (hk:14<k:=by decide):C169 (under aA k u):=aN
def G170 (hk:15<k:=by decide):C170 (under aA k u):=aN
def G175 (hk:12<k:=by decide):C175 (under aA k u):=aN
def G176 (hk:15<k:=by decide):C176 (under aA k u):=aN
def G183 (hk:12<k:=by decide):C183 (under aA k u):=aN
def G184 (hk:2<k:=by decide):C184 (under aA k u):=aN
def Wd (hk:1<k:=by decide):Tx (under aA k u):=aN
def A6 (hk:4<k:=by decide):yB (under aA k u):=aN
def G210 (hk:13<k:=by decide):C210 (under aA k u):=aN
def G211 (hk:11<k:=by decide):C211 (under aA k u):=aN
def G214 (hk:11<k:=by decide):C214 (under aA k u):=aN
def G215 (hk:6<k:=by decide):C215 (under aA k u):=aN
def Li (hk:2<k:=by decide):Ha (under aA k u):=aN
def E3 (hk:4<k:=by decide):Ca (under aA k u):=aN
def G218 (hk:13<k:=by decide):C218 (under aA k u):=aN
def G219 (hk:6<k:=by decide):C219 (under aA k u):=aN
def G220 (hk:2<k:=by decide):C220 (under aA k u):=aN
def G221 (hk:2<k:=by decide):C221 (under aA k u):=aN
def G242 (hk:1<k:=by decide):VZ (under aA k u):=aN
def G249 (hk:1<k:=by decide):C249 (under aA k u):=aN
def G254 (hk:1<k:=by decide):C254 (under aA k u):=aN
def G266 (hk:19<k:=by decide):C266 (under aA k u):=λg l hp0 hp1=>okf D266 hk λT h=>h g l hp0 hp1
def G267 (hk:14<k:=by decide):C267 (under aA k u):=aN
def G268 (hk:2<k:=by decide):C268 (under aA k u):=aN
def G269 (hk:17<k:=by decide):C269 (under aA k u):=aN
def G273 (hk:13<k:=by decide):C273 (under aA k u):=aN
def G274 (hk:18<k:=by decide):C274 (under aA k u):=aN
def G294 (hk:3<k:=by decide):C294 (under aA k u):=aN
def G295 (hk:5<k:=by decide):V0 (under aA k u):=aN
def G296 (hk:5<k:=by decide):C296 (under aA k u):=λg own hp0=>okf D296 hk λT h=>h g own hp0
def G297 (hk:3<k:=by decide):C297 (under aA k u):=λg own hp0=>okf D297 hk λT h=>h g own hp0
def G298 (hk:3<k:=by decide):C298 (under aA k u):=λg l hp0 hp1=>okf D298 hk λT h=>h g l hp0 hp1
def G309 (hk:8<k:=by decide):C309 (under aA k u):=aN
def G312 (hk:7<k:=by decide):C312 (under aA k u):=aN
def G313 (hk:1<k:=by decide):C313 (under aA k u):=aN
def G314 (hk:5<k:=by decide):C314 (under aA k u):=aN
def G315 (hk:6<k:=by decide):C315 (under aA k u):=aN
def G316 (hk:5<k:=by decide):C316 (under aA k u):=aN
def G336 (hk:1<k:=by decide):C336 (under aA k u):=aN
def G344 (hk:3<k:=by decide):C344 (under aA k u):=aN
def G345 (hk:11<k:=by decide):C345 (under aA k u):=aN
def We (hk:1<k:=by decide):Ty (under aA k u):=aN
def G353 (hk:17<k:=by decide):C353 (under aA k u):=aN
def G354 (hk:2<k:=by decide):C354 (under aA k u):=aN
def G355 (hk:1<k:=by decide):C355 (under aA k u):=aN
def G356 (hk:1<k:=by decide):C356 (under aA k u):=aN
def G357 (hk:2<k:=by decide):V1 (under aA k u):=aN
def G358 (hk:17<k:=by decide):V2 (under aA k u):=aN
def G359 (hk:1<k:=by decide):C359 (under aA k u):=aN
def G360 (hk:17<k:=by decide):C360 (under aA k u):=aN
def G361 (hk:2<k:=by decide):C361 (under aA k u):=aN
def G362 (hk:26<k:=by decide):C362 (under aA k u):=λy hp0 nx lf m K h1 hat hK=>UL (.inl hk) λT _ h=>h y hp0 nx lf m K h1 hat hK
def G375 (hk:1<k:=by decide):C375 (under aA k u):=aN
def G381 (hk:1<k:=by decide):C381 (under aA k u):=aN
def G403 (hk:13<k:=by decide):C403 (under aA k u):=aN
def G408 (hk:3<k:=by decide):C408 (under aA k u):=aN
def G409 (hk:11<k:=by decide):C409 (under aA k u):=aN
def G410 (hk:14<k:=by decide):C410 (under aA k u):=aN
def G415 (hk:11<k:=by decide):C415 (under aA k u):=aN
def G416 (hk:1<k:=by decide):C416 (under aA k u):=aN
def Wf (hk:5<k:=by decide):Tz (under aA k u):=aN
def G440 (hk:1<k:=by decide):C440 (under aA k u):=aN
def G441 (hk:3<k:=by decide):C441 (under aA k u):=aN
def G442 (hk:2<k:=by decide):C442 (under aA k u):=aN
def G443 (hk:12<k:=by decide):C443 (under aA k u):=aN
def G450 (hk:2<k:=by decide):C450 (under aA k u):=λws t l lw nx m K h1 h2 h3 h4 h5 hK=>UL (.inl hk) λT _ h=>h ws t l lw nx m K h1 h2 h3 h4 h5 hK
def G451 (hk:5<k:=by decide):C451 (under aA k u):=aN
def G452 (hk:1<k:=by decide):C452 (under aA k u):=λds st K h1=>UL (.inl hk) λT _ h=>h ds st K h1
def G453 (hk:1<k:=by decide):C453 (under aA k u):=aN
def G454 (hk:1<k:=by decide):C454 (under aA k u):=aN
def G455 (hk:1<k:=by decide):C455 (under aA k u):=aN
def G456 (hk:3<k:=by decide):C456 (under aA k u):=aN
def G457 (hk:12<k:=by decide):C457 (under aA k u):=aN
def G458 (hk:11<k:=by decide):C458 (under aA k u):=aN
def G460 (hk:11<k:=by decide):C460 (under aA k u):=aN
def G461 (hk:2<k:=by decide):C461 (under aA k u):=aN
def G462 (hk:1<k:=by decide):C462 (under aA k u):=aN
def G463 (hk:1<k:=by decide):C463 (under aA k u):=aN
def G464 (hk:1<k:=by decide):C464 (under aA k u):=aN
def G466 (hk:6<k:=by decide):C466 (under aA k u):=aN
def G470 (hk:1<k:=by decide):C470 (under aA k u):=aN
def G486 (hk:1<k:=by decide):C486 (under aA k u):=aN
def G487 (hk:1<k:=by decide):C487 (under aA k u):=aN
def G489 (hk:1<k:=by decide):C489 (under aA k u):=λds st K h1=>UL (.inl hk) λT _ h=>h ds st K h1
def G491 (hk:1<k:=by decide):C491 (under aA k u):=aN
def G497 (hk:2<k:=by decide):C497 (under aA k u):=aN
def G499 (hk:1<k:=by decide):C499 (under aA k u):=aN
def G501 (hk:6<k:=by decide):C501 (under aA k u):=aN
def G503 (hk:18<k:=by decide):C503 (under aA k u):=aN
def G504 (hk:18<k:=by decide):C504 (under aA k u):=aN
def G505 (hk:5<k:=by decide):C505 (under aA k u):=aN
def G505u (hv:v<=u):afx (under aA 5 u) v:=λm od c hp0 hu=>okp W5 (.inr ⟨rfl,by rw[show(lk aA 505 mZ).mu=negD from rfl,Sl];exact jj hu hv⟩) λT hT=>hT m od c hp0
def G506 (hk:16<k:=by decide):C506 (under aA k u):=aN
def G510 (hk:1<k:=by decide):C510 (under aA k u):=aN
def G511 (hk:9<k:=by decide):C511 (under aA k u):=aN
def G516 (hk:2<k:=by decide):C516 (under aA k u):=aN
def G528 (hk:2<k:=by decide):C528 (under aA k u):=aN
def G529 (hk:1<k:=by decide):C529 (under aA k u):=aN
def G530 (hk:1<k:=by decide):C530 (under aA k u):=aN
def G531 (hk:1<k:=by decide):C531 (under aA k u):=aN
def G532 (hk:2<k:=by decide):C532 (under aA k u):=aN
def Wg (hk:1<k:=by decide):TA (under aA k u):=aN
def G534 (hk:3<k:=by decide):C534 (under aA k u):=aN
def G535 (hk:4<k:=by decide):C535 (under aA k u):=λg own hp0=>okf D535 hk λT h=>h g own hp0
def G536 (hk:1<k:=by decide):C536 (under aA k u):=aN
def G545 (hk:2<k:=by decide):C545 (under aA k u):=λr hp0 hp1 hp2=>okf D545 hk λT h=>h r hp0 hp1 hp2
def G546 (hk:3<k:=by decide):C546 (under aA k u):=aN
def G547 (hk:7<k:=by decide):C547 (under aA k u):=aN
def G548 (hk:1<k:=by decide):C548 (under aA k u):=aN
def G549 (hk:6<k:=by decide):C549 (under aA k u):=aN
def G550 (hk:4<k:=by decide):C550 (under aA k u):=aN
def G551 (hk:3<k:=by decide):C551 (under aA k u):=aN
def G552 (hk:2<k:=by decide):C552 (under aA k u):=aN
def G553 (hk:5<k:=by decide):C553 (under aA k u):=aN
def G554 (hk:3<k:=by decide):C554 (under aA k u):=aN
def G580 (hk:7<k:=by decide):C580 (under aA k u):=aN
def G581 (hk:1<k:=by decide):C581 (under aA k u):=aN
def G582 (hk:25<k:=by decide):C582 (under aA k u):=λy ns hp0 hp1 nx lf ln lr m K h1 h2 h3 hne hat hK=>UL (.inl hk) λT _ h=>h y ns hp0 hp1 nx lf ln lr m K h1 h2 h3 hne hat hK
def G583 (hk:24<k:=by decide):C583 (under aA k u):=λy ns all k hp0 hp1 nx lf ln lr m K h1 h2 h3 hne hat hK=>UL (.inl hk) λT _ h=>h y ns all k hp0 hp1 nx lf ln lr m K h1 h2 h3 hne hat hK
def G600 (hk:1<k:=by decide):C600 (under aA k u):=aN
def G617 (hk:1<k:=by decide):C617 (under aA k u):=aN
def G618 (hk:12<k:=by decide):C618 (under aA k u):=aN
def G622 (hk:10<k:=by decide):C622 (under aA k u):=aN
def G623 (hk:12<k:=by decide):C623 (under aA k u):=aN
def G624 (hk:11<k:=by decide):C624 (under aA k u):=aN
def G627 (hk:10<k:=by decide):C627 (under aA k u):=aN
def G629 (hk:11<k:=by decide):C629 (under aA k u):=aN
def G630 (hk:1<k:=by decide):V3 (under aA k u):=aN
def G631 (hk:4<k:=by decide):C631 (under aA k u):=aN
def G658 (hk:1<k:=by decide):V4 (under aA k u):=aN
def G659 (hk:1<k:=by decide):C659 (under aA k u):=aN
def G664 (hk:1<k:=by decide):C664 (under aA k u):=λds st K h1=>UL (.inl hk) λT _ h=>h ds st K h1
def G665 (hk:2<k:=by decide):C665 (under aA k u):=aN
def G666 (hk:1<k:=by decide):C666 (under aA k u):=aN
def G667 (hk:2<k:=by decide):C667 (under aA k u):=aN
def G668 (hk:1<k:=by decide):C668 (under aA k u):=aN
def G669 (hk:11<k:=by decide):C669 (under aA k u):=aN
def G673 (hk:1<k:=by decide):C673 (under aA k u):=aN
def G674 (hk:1<k:=by decide):C674 (under aA k u):=aN
def G675 (hk:1<k:=by decide):C675 (under aA k u):=aN
def G683 (hk:1<k:=by decide):C683 (under aA k u):=aN
def G686 (hk:1<k:=by decide):C686 (under aA k u):=aN
def G692 (hk:3<k:=by decide):C692 (under aA k u):=aN
def G693 (hk:3<k:=by decide):C693 (under aA k u):=aN
def G694 (hk:4<k:=by decide):C694 (under aA k u):=aN
def G699 (hk:8<k:=by decide):C699 (under aA k u):=aN
def G700 (hk:7<k:=by decide):C700 (under aA k u):=aN
def G701 (hk:6<k:=by decide):C701 (under aA k u):=aN
def G704 (hk:1<k:=by decide):C704 (under aA k u):=aN
def G712 (hk:10<k:=by decide):C712 (under aA k u):=aN
def G714 (hk:1<k:=by decide):C714 (under aA k u):=aN
def G733 (hk:1<k:=by decide):C733 (under aA k u):=aN
def G734 (hk:2<k:=by decide):C734 (under aA k u):=aN
def G748 (hk:24<k:=by decide):C748 (under aA k u):=λy ns k hp0 hp1 nx lf ln lr m K h1 h2 h3 hne hat hK=>UL (.inl hk) λT _ h=>h y ns k hp0 hp1 nx lf ln lr m K h1 h2 h3 hne hat hK
def G749 (hk:2<k:=by decide):C749 (under aA k u):=aN
def G750 (hk:2<k:=by decide):C750 (under aA k u):=aN
def G751 (hk:11<k:=by decide):C751 (under aA k u):=λy ns hp0 hp1 nx lf ln lr m K h1 h2 h3 hne hat hK=>UL (.inl hk) λT _ h=>h y ns hp0 hp1 nx lf ln lr m K h1 h2 h3 hne hat hK
def G752 (hk:23<k:=by decide):C752 (under aA k u):=λy ns k hp0 hp1 nx lf ln lr m K h1 h2 h3 hne hat hK=>UL (.inl hk) λT _ h=>h y ns k hp0 hp1 nx lf ln lr m K h1 h2 h3 hne hat hK
def G753 (hk:13<k:=by decide):C753 (under aA k u):=aN
def G754 (hk:11<k:=by decide):C754 (under aA k u):=aN
def G755 (hk:22<k:=by decide):C755 (under aA k u):=λy ns nm hp0 hp1 nx lf ln lr m K h1 h2 h3 hne hat hK=>UL (.inl hk) λT _ h=>h y ns nm hp0 hp1 nx lf ln lr m K h1 h2 h3 hne hat hK
def G770 (hk:9<k:=by decide):V5 (under aA k u):=aN
def G777 (hk:11<k:=by decide):C777 (under aA k u):=aN
def G778 (hk:10<k:=by decide):C778 (under aA k u):=aN
def G780 (hk:9<k:=by decide):C780 (under aA k u):=aN
def G782 (hk:9<k:=by decide):C782 (under aA k u):=aN
def G783 (hk:3<k:=by decide):C783 (under aA k u):=aN
def G812 (hk:3<k:=by decide):C812 (under aA k u):=aN
def G815 (hk:1<k:=by decide):C815 (under aA k u):=aN
def G816 (hk:2<k:=by decide):C816 (under aA k u):=aN
def G829 (hk:1<k:=by decide):C829 (under aA k u):=aN
def G830 (hk:1<k:=by decide):C830 (under aA k u):=aN
def G831 (hk:1<k:=by decide):C831 (under aA k u):=aN
def G861 (hk:9<k:=by decide):C861 (under aA k u):=aN
def G882 (hk:1<k:=by decide):C882 (under aA k u):=aN
def G902 (hk:1<k:=by decide):C902 (under aA k u):=aN
def G903 (hk:1<k:=by decide):C903 (under aA k u):=aN
def G904 (hk:12<k:=by decide):C904 (under aA k u):=aN
def G905 (hk:2<k:=by decide):C905 (under aA k u):=aN
def G906 (hk:12<k:=by decide):C906 (under aA k u):=aN
def G909 (hk:21<k:=by decide):C909 (under aA k u):=λy ns nm hp0 nx lf ln lr m K h1 h2 h3 hne hat hK=>UL (.inl hk) λT _ h=>h y ns nm hp0 nx lf ln lr m K h1 h2 h3 hne hat hK
def G916 (hk:8<k:=by decide):V7 (under aA k u):=aN
def G917 (hk:2<k:=by decide):C917 (under aA k u):=aN
def G924 (hk:1<k:=by decide):C924 (under aA k u):=aN
def G925 (hk:8<k:=by decide):C925 (under aA k u):=aN
def G926 (hk:8<k:=by decide):C926 (under aA k u):=aN
def G927 (hk:1<k:=by decide):C927 (under aA k u):=aN
def G955 (hk:1<k:=by decide):C955 (under aA k u):=aN
def G980 (hk:8<k:=by decide):C980 (under aA k u):=aN
def afz (hk:11<k:=by decide):VV (under aA k u):=aN
def G1012 (hk:17<k:=by decide):afk (under aA k u):=aN
def G1013 (hk:20<k:=by decide):afl (under aA k u):=aN
def G1014 (hk:17<k:=by decide):afm (under aA k u):=aN
def G1015 (hk:7<k:=by decide):afn (under aA k u):=aN
def V9 (hk:7<k:=by decide):Lb (under aA k u):=aN
def Wa (hk:6<k:=by decide):Rn (under aA k u):=aN
def afA (hk:7<k:=by decide):VW (under aA k u):=aN
def afB (hk:6<k:=by decide):VX (under aA k u):=aN
def G1025 (hk:6<k:=by decide):afo (under aA k u):=aN
def G1055 (hk:6<k:=by decide):afp (under aA k u):=aN
def G1080 (hk:1<k:=by decide):afq (under aA k u):=aN
def G1083 (hk:19<k:=by decide):afr (under aA k u):=aN
def G1084 (hk:18<k:=by decide):afs (under aA k u):=aN
def Wb (hk:5<k:=by decide):Ro (under aA k u):=aN
def Wc (hk:5<k:=by decide):Rp (under aA k u):=aN
def G1120 (hk:3<k:=by decide):afv (under aA k u):=aN
def G1121 (hk:1<k:=by decide):afw (under aA k u):=aN
def G212 (hk:10<k:=by decide):C212 (under aA k u):=λs hp=>kH rfl hk (ev212 hp)
def G670 (hk:10<k:=by decide):C670 (under aA k u):=λs hp=>kH rfl hk (ev670 hp)
def G448 (hk:10<k:=by decide):C448 (under aA k u):=λs hp=>kH rfl hk (ev448 hp)
def G672 (hk:10<k:=by decide):C672 (under aA k u):=λs hp=>kH rfl hk (ev672 hp)
def G444 (hk:10<k:=by decide):C444 (under aA k u):=λs hp=>kH rfl hk (ev444 hp)
def G572 (hk:10<k:=by decide):C572 (under aA k u):=λs hp=>kH rfl hk (ev572 hp)
def G213 (hk:10<k:=by decide):C213 (under aA k u):=λl hp=>kH rfl hk (ev213 hp)
def G459 (hk:10<k:=by decide):C459 (under aA k u):=λl hp=>kH rfl hk (ev459 hp)
def G908 (hk:10<k:=by decide):C908 (under aA k u):=λs hp=>kH rfl hk (ev908 hp)
def G1011 (hk:10<k:=by decide):afj (under aA k u):=λs hp=>kH rfl hk (ajd hp)
def G1085 (hk:10<k:=by decide):afu (under aA k u):=λs hp=>kH rfl hk (aje hp)
def afC (hk:10<k:=by decide):V6 (under aA k u):=λv hp=>kH rfl hk (ev156 hp)
def G374 (hk:10<k:=by decide):C374 (under aA k u):=kH rfl hk ev374
def G907 (hk:10<k:=by decide):C907 (under aA k u):=λs e hp=>kH rfl hk (ev907 hp.1 hp.2)
def eY (u:Nat):Ss (under aA 10 u) eK:=ajj (aji We G357 Wd Li G658 G667 G665 G734 Wg G470 G124 G9124 G683 G487 G254 G815 G249 G242 A6 E3) (ajh G144 G375 G600 G770 G816 G916 V9 Wa)
end
def au:(Go.Proofs.Tryz.prog).follows .mixedOrders=true:=uN
abbrev Ow [cI](f n:Nat):Prop:=Owe Go.Proofs.Tryz.prog Av O0 aA f n
abbrev Cp (f:Nat)(a:aj):Prop:=V8 Go.Proofs.Tryz.prog Av O0 f a
def ck {f:Nat}{a:aj}(h:((Go.Proofs.Tryz.prog).funcs[f]?).map (λf=>(compile Go.Proofs.Tryz.prog Av O0 f,f.name== "runtime.NumGoroutine"))=some (some a,false):=by kernel_rfl):Cp f a:=h
end Go.Abs
