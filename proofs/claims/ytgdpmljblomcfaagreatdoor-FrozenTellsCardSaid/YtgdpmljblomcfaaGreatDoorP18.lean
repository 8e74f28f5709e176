/- A part of the proofs. -/
import Derived.KernelRfl
import Derived.Test.YtgdpmljblomcfaaGreatDoorProg
import Derived.Test.YtgdpmljblomcfaaGreatDoorP04
import Derived.Test.YtgdpmljblomcfaaGreatDoorP15
import Derived.Test.YtgdpmljblomcfaaGreatDoorP16
import Derived.Test.YtgdpmljblomcfaaGreatDoorP17
set_option linter.all false
set_option maxRecDepth 60000
set_option maxHeartbeats 2000000
namespace Go.Abs
section
def D16:Det (Hd P0):=V2
def A109 (T:FT):Prop:=∀(g:Gs) (n:Int),(n<=9223372036854775807)->(0<=g.i/\g.i<=1000000)->T (Gs.D g) [.int .i64 n] (.int .i64 (g.val n)) (Gs.D g.aS)
def D109:yG (nV A109):=Ca
def A110 (T:FT):Prop:=∀(g:Gs) (nm:av) (v:bZ) (most:Int),(0<=g.i/\g.i<=970000)->(0<=most/\most<=100)->T (Gs.D g) [.str nm,bZ.D v,.int .i64 most] (Rec.D (pj g nm v most).1) (Gs.D (pj g nm v most).2)
def D110:yG (nV A110):=Ca
def A124 (T:RT):Prop:=Sv T/\Nn T
def A266 (T:FT):Prop:=∀(g:Gs) (l:List bN),(0<=g.i/\g.i<=960000)->(iP l/\1<=l.length/\l.length<=100)->T (Gs.D g) [.sl 2 (l.map bN.D)] (.sl 2 ((lG g l).1.map bN.D)) (Gs.D (lG g l).2)
def D266:yG (nV A266):=Ca
def A296 (T:FT):Prop:=∀(g:Gs) (own:av),(0<=g.i/\g.i<=980000)->T (Gs.D g) [.str own] (br.D (mb g own).1) (Gs.D (mb g own).2)
def D296:yG (nV A296):=Ca
def A297 (T:FT):Prop:=∀(g:Gs) (own:av),(0<=g.i/\g.i<=990000)->T (Gs.D g) [.str own] (.str (cS g own).1) (Gs.D (cS g own).2)
def D297:yG (nV A297):=Ca
def A298 (T:FT):Prop:=∀(g:Gs) (l:List br),(0<=g.i/\g.i<=980000)->((∀n∈l,n.sm)/\l.length<=1000)->T (Gs.D g) [.sl 3 (l.map br.D)] (ch.D (mN g l).1) (Gs.D (mN g l).2)
def D298:yG (nV A298):=Ca
def u505:List D->Nat:=negD
def A535 (T:FT):Prop:=∀(g:Gs) (own:av),(0<=g.i/\g.i<=990000)->T (Gs.D g) [.str own] (de.D (dG g own).1) (Gs.D (dG g own).2)
def D535:yG (nV A535):=Ca
noncomputable def az:List (Nat×mA):=[(16,rP 29 P0),(25,rP 1 P1),(28,rP 16 P2),(29,rP 2 P3),(46,rP 13 P4),(52,rP 17 P5),(70,rP 14 zD),(71,rP 14 zD),(72,rP 15 zE),(73,rP 15 zE),(74,rP 16 zF),(75,rP 16 zF),(89,rP 22 Z3),(90,rP 20 P6),(91,rP 28 P7),(92,rP 21 P8),(93,rP 3 P9),(94,rP 24 Qa),(109,rF 2 A109),(110,rF 6 A110),(111,rP 1 Ss),(112,rP 1 Su),(114,rP 1 Ir),(124,rP 1 A124),(135,rP 1 Sw),(136,rP 15 Is),(138,rP 2 tF),(142,rP 18 tG),(143,rP 16 It),(144,rP 3 tF),(145,rP 18 tG),(147,rP 27 Iu),(153,rP 1 Iv),(156,bW eK eE 10 156),(158,rP 2 Iw),(159,rP 1 Ix),(169,rP 14 tH),(170,rP 15 tP),(175,rP 12 tH),(183,rP 12 Iy),(184,rP 2 Iz),(186,rP 16 tX),(189,rP 6 tS),(208,rP 1 tI),(209,rP 4 tJ),(210,rP 13 tK),(211,rP 11 IA),(212,bW eK eE 10 212),(213,bW eK eE 10 213),(214,rP 11 IB),(215,rP 6 tL),(216,rP 2 tI),(217,rP 4 tJ),(218,rP 13 IC),(219,rP 6 tL),(220,rP 2 tM),(221,rP 2 tM),(242,rP 1 Sz),(249,rP 1 ID),(254,rP 1 SA),(264,rP 20 tO),(265,rP 21 tN),(266,rF 19 A266),(267,rP 14 IE),(268,rP 2 IF),(269,rP 17 IG),(270,rP 20 IH),(271,rP 22 tO),(272,rP 23 tN),(273,rP 13 tP),(274,rP 18 tQ),(295,rP 5 tR),(296,rF 5 A296),(297,rF 3 A297),(298,rF 3 A298),(315,rP 6 tS),(316,rP 5 ua),(336,rP 1 oV),(344,rP 3 II),(345,rP 11 IJ),(349,rP 1 tT),(353,rP 17 tV),(354,rP 2 IK),(355,rP 1 IL),(356,rP 1 IM),(357,rP 2 tT),(358,rP 17 tV),(359,rP 1 tW),(360,rP 17 IN),(361,rP 2 tW),(362,rG 26 C362),(374,bW eK eE 10 374),(375,rP 1 SB),(376,bW eK eE 10 376),(377,bW eK eE 10 377),(378,bW eK eE 10 378),(379,bW eK eE 10 379),(381,rP 1 IP),(403,rP 13 IQ),(408,rP 3 IS),(409,rP 11 IU),(410,rP 14 tX),(415,rP 11 IV),(416,rP 1 IW),(417,rP 13 IX),(418,rP 5 ug),(424,rP 5 tR),(440,rP 1 tY),(441,rP 3 IY),(442,rP 2 IZ),(443,rP 12 tZ),(444,bW eK eE 10 444),(445,bW eK eE 10 445),(446,bW eK eE 10 446),(447,bW eK eE 10 447),(448,bW eK eE 10 448),(449,bW eK eE 10 449),(450,rG 2 C450),(451,rP 5 ua),(452,rG 1 C452),(453,rP 1 I0),(454,rP 1 I1),(455,rP 1 tY),(456,rP 3 I2),(457,rP 12 tK),(458,rP 11 I3),(459,bW eK eE 10 459),(460,rP 11 I4),(461,rP 2 I5),(462,rP 1 I6),(463,rP 1 I7),(464,rP 1 I8),(470,rP 1 ue),(482,bW eK eE 10 482),(487,rP 1 SF),(489,rG 1 C489),(495,bW eK eE 10 495),(496,bW eK eE 10 496),(501,rP 6 uo),(502,rG 19 C502),(503,rP 18 I9),(504,rP 18 Ja),(505,rP 5 SG u505),(506,rP 16 Jb),(507,rP 1 Jc),(508,rP 19 Jd),(509,rG 21 C509),(510,rP 1 Je),(511,rP 9 ub),(516,rP 2 uc),(530,rP 1 Jf),(531,rP 1 Jg),(532,rP 2 ud),(533,rP 1 ue),(534,rP 3 uf),(535,rF 4 A535),(536,rP 1 Jh),(553,rP 5 ug),(554,rP 3 Ji),(572,bW eK eE 10 572),(580,rP 7 ub),(581,rP 1 Jj),(582,rG 25 C582),(583,rG 24 C583),(598,bW eK eE 10 598),(599,bW eK eE 10 599),(600,rP 1 Jk),(601,bW eK eE 10 601),(602,bW eK eE 10 602),(603,bW eK eE 10 603),(604,bW eK eE 10 604),(617,rP 1 Jl),(618,rP 12 Jm),(622,rP 10 Jn),(623,rP 12 uh),(624,rP 11 ui),(627,rP 10 uj),(628,rP 12 uh),(629,rP 11 ui),(630,rP 1 ud),(631,rP 4 Jo),(658,rP 1 uk),(659,rP 1 um),(660,bW eK eE 10 660),(661,bW eK eE 10 661),(662,bW eK eE 10 662),(663,bW eK eE 10 663),(664,rG 1 C664),(665,rP 2 oV),(666,rP 1 Jp),(667,rP 2 uk),(668,rP 1 um),(669,rP 11 tZ),(670,bW eK eE 10 670),(671,bW eK eE 10 671),(672,bW eK eE 10 672),(673,rP 1 Jq),(674,rP 1 Jr),(676,bW eK eE 10 676),(677,bW eK eE 10 677),(678,bW eK eE 10 678),(682,bW eK eE 10 682),(683,rP 1 SH),(684,bW eK eE 10 684),(685,bW eK eE 10 685),(689,rP 7 Js),(690,rP 1 Jt),(691,rP 6 Ju),(692,rP 3 Jv),(693,rP 3 Jw),(694,rP 4 Jx),(695,rP 18 tQ),(696,rP 1 Jy),(697,rP 6 Jz),(698,rP 20 JA),(699,rP 8 JB),(700,rP 7 JC),(701,rP 6 uo),(704,rP 1 JD),(712,rP 10 uj),(714,rP 1 JE),(734,rP 2 oV),(744,bW eK eE 10 744),(745,bW eK eE 10 745),(748,rG 24 C748),(749,rP 2 JF),(750,rP 2 JG),(751,rG 11 C751),(752,rG 23 C752),(753,rP 13 JH),(754,rP 11 JI),(755,rG 22 C755),(769,bW eK eE 10 769),(770,rP 9 uq),(771,bW eK eE 10 771),(772,bW eK eE 10 772),(777,rP 11 JJ),(778,rP 10 JK),(780,rP 9 uq),(782,rP 9 ur),(783,rP 3 uf),(808,bW eK eE 10 808),(809,bW eK eE 10 809),(810,bW eK eE 10 810),(811,bW eK eE 10 811),(812,rP 3 JL),(813,bW eK eE 10 813),(814,bW eK eE 10 814),(815,rP 1 JM),(816,rP 2 JN),(819,bW eK eE 10 819),(827,bW eK eE 10 827),(828,bW eK eE 10 828),(829,rP 1 JO),(830,rP 1 JP),(831,rP 1 JQ),(861,rP 9 ur),(882,rP 1 JR),(896,bW eK eE 10 896),(897,bW eK eE 10 897),(898,bW eK eE 10 898),(899,bW eK eE 10 899),(900,bW eK eE 10 900),(901,bW eK eE 10 901),(902,rP 1 JS),(903,rP 1 JT),(904,rP 12 JU),(905,rP 2 JV),(906,rP 12 JW),(907,bW eK eE 10 907),(908,bW eK eE 10 908),(909,rG 21 C909),(916,rP 8 uu),(917,rP 2 JX),(918,bW eK eE 10 918),(919,bW eK eE 10 919),(920,bW eK eE 10 920),(921,bW eK eE 10 921),(924,rP 1 JY),(925,rP 8 uu),(926,rP 8 uv),(927,rP 1 uc),(946,bW eK eE 10 946),(947,bW eK eE 10 947),(948,bW eK eE 10 948),(949,bW eK eE 10 949),(950,bW eK eE 10 950),(951,bW eK eE 10 951),(952,bW eK eE 10 952),(953,bW eK eE 10 953),(954,bW eK eE 10 954),(955,rP 1 JZ),(956,bW eK eE 10 956),(957,bW eK eE 10 957),(980,rP 8 uv),(1006,bW eK eE 10 1006),(1007,bW eK eE 10 1007),(1008,bW eK eE 10 1008),(1009,rP 11 Ek),(1010,bW eK eE 10 1010),(1011,bW eK eE 10 1011),(1012,rP 17 El),(1013,rP 20 Em),(1014,rP 17 En),(1015,rP 7 Eo),(1019,rP 7 qi),(1020,rP 6 qj),(1021,bW eK eE 10 1021),(1023,rP 7 qi),(1024,rP 6 qj),(1025,rP 6 qk),(1031,bW eK eE 10 1031),(1032,bW eK eE 10 1032),(1033,bW eK eE 10 1033),(1034,bW eK eE 10 1034),(1035,bW eK eE 10 1035),(1036,bW eK eE 10 1036),(1055,rP 6 qk),(1079,bW eK eE 10 1079),(1080,rP 1 Ep),(1081,bW eK eE 10 1081),(1082,bW eK eE 10 1082),(1083,rP 19 Er),(1084,rP 18 Es),(1085,bW eK eE 10 1085),(1086,rP 5 qm),(1087,rP 5 qm),(1097,bW eK eE 10 1097),(1098,bW eK eE 10 1098),(1099,bW eK eE 10 1099),(1100,bW eK eE 10 1100),(1118,bW eK eE 10 1118),(1119,bW eK eE 10 1119),(1120,rP 3 Et),(1121,rP 1 Eu),(1122,bW eK eE 10 1122),(1126,bW eK eE 10 1126),(1137,bW eK eE 10 1137),(1138,bW eK eE 10 1138),(1139,bW eK eE 10 1139),(1141,bW eK eE 10 1141),(1144,bW eK eE 10 1144),(1145,bW eK eE 10 1145),(1147,bW eK eE 10 1147),(1148,bW eK eE 10 1148)]
variable {k u v:Nat}
def AllR (F:Nat->mA):List (Nat×aj)->Prop
 |[]=>True
 |p::r=>lk az p.1 mS=F p.1/\AllR F r
def AllR.ok {F:Nat->mA}:∀{l:List (Nat×aj)},AllR F l->∀f a,lk (l.map fun p=>(p.1,some p.2)) f none=some a->lk az f mS=F f
 |[],_,f,a,h=>by simp[lk]at h
 |p::r,h,f,a,h1=>by
  simp only[List.map_cons,lk]at h1;cases h2:Nat.beq p.1 f with
  |true=>rw[<-Nat.eq_of_beq_eq_true h2];exact h.1
  |false=>rw[h2]at h1;exact h.2.ok f a h1
def cj:∀f a,eK f=some a->lk az f mS=bW eK eE 10 f:=AllR.ok (l:=tbT) ⟨rfl,rfl,rfl,rfl,rfl,rfl,rfl,rfl,rfl,rfl,rfl,rfl,rfl,rfl,rfl,rfl,rfl,rfl,rfl,rfl,rfl,rfl,rfl,rfl,rfl,rfl,rfl,rfl,rfl,rfl,rfl,rfl,rfl,rfl,rfl,rfl,rfl,rfl,rfl,rfl,rfl,rfl,rfl,rfl,rfl,rfl,rfl,rfl,rfl,rfl,rfl,rfl,rfl,rfl,rfl,rfl,rfl,rfl,rfl,rfl,rfl,rfl,rfl,rfl,rfl,rfl,rfl,rfl,rfl,rfl,rfl,rfl,rfl,rfl,rfl,rfl,rfl,rfl,rfl,rfl,rfl,rfl,rfl,rfl,rfl,rfl,rfl,rfl,rfl,rfl,rfl,rfl,rfl,rfl,rfl,rfl,rfl,rfl,rfl,rfl,rfl,rfl,rfl,rfl,rfl,rfl,rfl,trivial⟩
def G25 (hk:1<k:=by decide):C25 (under az k u):=aM
def G28 (hk:16<k:=by decide):C28 (under az k u):=aM
def G29 (hk:2<k:=by decide):C29 (under az k u):=aM
def G46 (hk:13<k:=by decide):C46 (under az k u):=aM
def G52 (hk:17<k:=by decide):C52 (under az k u):=aM
def G70 (hk:14<k:=by decide):C70 (under az k u):=aM
def G71 (hk:14<k:=by decide):C71 (under az k u):=aM
def G72 (hk:15<k:=by decide):C72 (under az k u):=aM
def G73 (hk:15<k:=by decide):C73 (under az k u):=aM
def G74 (hk:16<k:=by decide):C74 (under az k u):=aM
def G75 (hk:16<k:=by decide):C75 (under az k u):=aM
def G89 (hk:22<k:=by decide):C89 (under az k u):=aM
def G90 (hk:20<k:=by decide):C90 (under az k u):=aM
def G91 (hk:28<k:=by decide):C91 (under az k u):=aM
def G92 (hk:21<k:=by decide):C92 (under az k u):=aM
def G93 (hk:3<k:=by decide):C93 (under az k u):=aM
def G94 (hk:24<k:=by decide):C94 (under az k u):=aM
def Kv (hk:2<k:=by decide):GB (under az k u):=fun g n hp0 hp1=>okf D109 hk fun T h=>h g n hp0 hp1
def G110 (hk:6<k:=by decide):C110 (under az k u):=fun g nm v most hp0 hp1=>okf D110 hk fun T h=>h g nm v most hp0 hp1
def G111 (hk:1<k:=by decide):C111 (under az k u):=aM
def G112 (hk:1<k:=by decide):C112 (under az k u):=aM
def G114 (hk:1<k:=by decide):C114 (under az k u):=aM
def G124 (hk:1<k:=by decide):C124 (under az k u):=fun s b hp=>okp V2 (.inl hk) fun T h=>h.1 s b hp
def G9124 (hk:1<k:=by decide):aen (under az k u):=fun s hp=>okp V2 (.inl hk) fun T h=>h.2 s hp
def G135 (hk:1<k:=by decide):C135 (under az k u):=aM
def G136 (hk:15<k:=by decide):C136 (under az k u):=aM
def G138 (hk:2<k:=by decide):C138 (under az k u):=aM
def G142 (hk:18<k:=by decide):C142 (under az k u):=aM
def G143 (hk:16<k:=by decide):U3 (under az k u):=aM
def Vg (hk:3<k:=by decide):Nu (under az k u):=aM
def G145 (hk:18<k:=by decide):U4 (under az k u):=aM
def G147 (hk:27<k:=by decide):C147 (under az k u):=aM
def G153 (hk:1<k:=by decide):C153 (under az k u):=aM
def G158 (hk:2<k:=by decide):C158 (under az k u):=aM
def G159 (hk:1<k:=by decide):C159 (under az k u):=aM
def G169 (hk:14<k:=by decide):C169 (under az k u):=aM
def G170 (hk:15<k:=by decide):U5 (under az k u):=aM
def G175 (hk:12<k:=by decide):C175 (under az k u):=aM
def G183 (hk:12<k:=by decide):C183 (under az k u):=aM
def G184 (hk:2<k:=by decide):C184 (under az k u):=aM
def G186 (hk:16<k:=by decide):C186 (under az k u):=aM
def G189 (hk:6<k:=by decide):C189 (under az k u):=aM
def Vh (hk:1<k:=by decide):SK (under az k u):=aM
def BV (hk:4<k:=by decide):AR (under az k u):=aM
def G210 (hk:13<k:=by decide):C210 (under az k u):=aM
def G211 (hk:11<k:=by decide):C211 (under az k u):=aM
def G214 (hk:11<k:=by decide):C214 (under az k u):=aM
def G215 (hk:6<k:=by decide):C215 (under az k u):=aM
def GC (hk:2<k:=by decide):EA (under az k u):=aM
def BW (hk:4<k:=by decide):AS (under az k u):=aM
def G218 (hk:13<k:=by decide):C218 (under az k u):=aM
def G219 (hk:6<k:=by decide):C219 (under az k u):=aM
def G220 (hk:2<k:=by decide):C220 (under az k u):=aM
def G221 (hk:2<k:=by decide):C221 (under az k u):=aM
def G242 (hk:1<k:=by decide):C242 (under az k u):=aM
def G249 (hk:1<k:=by decide):C249 (under az k u):=aM
def G254 (hk:1<k:=by decide):C254 (under az k u):=aM
def G264 (hk:20<k:=by decide):C264 (under az k u):=aM
def G265 (hk:21<k:=by decide):C265 (under az k u):=aM
def G266 (hk:19<k:=by decide):C266 (under az k u):=fun g l hp0 hp1=>okf D266 hk fun T h=>h g l hp0 hp1
def G267 (hk:14<k:=by decide):C267 (under az k u):=aM
def G268 (hk:2<k:=by decide):C268 (under az k u):=aM
def G269 (hk:17<k:=by decide):C269 (under az k u):=aM
def G270 (hk:20<k:=by decide):C270 (under az k u):=aM
def G271 (hk:22<k:=by decide):C271 (under az k u):=aM
def G272 (hk:23<k:=by decide):C272 (under az k u):=aM
def G273 (hk:13<k:=by decide):C273 (under az k u):=aM
def G274 (hk:18<k:=by decide):C274 (under az k u):=aM
def Vi (hk:5<k:=by decide):SL (under az k u):=aM
def G296 (hk:5<k:=by decide):C296 (under az k u):=fun g own hp0=>okf D296 hk fun T h=>h g own hp0
def G297 (hk:3<k:=by decide):C297 (under az k u):=fun g own hp0=>okf D297 hk fun T h=>h g own hp0
def G298 (hk:3<k:=by decide):C298 (under az k u):=fun g l hp0 hp1=>okf D298 hk fun T h=>h g l hp0 hp1
def G315 (hk:6<k:=by decide):C315 (under az k u):=aM
def G316 (hk:5<k:=by decide):C316 (under az k u):=aM
def G336 (hk:1<k:=by decide):C336 (under az k u):=aM
def G344 (hk:3<k:=by decide):C344 (under az k u):=aM
def G345 (hk:11<k:=by decide):C345 (under az k u):=aM
def Vj (hk:1<k:=by decide):SM (under az k u):=aM
def G353 (hk:17<k:=by decide):C353 (under az k u):=aM
def G354 (hk:2<k:=by decide):C354 (under az k u):=aM
def G355 (hk:1<k:=by decide):C355 (under az k u):=aM
def G356 (hk:1<k:=by decide):C356 (under az k u):=aM
def Vk (hk:2<k:=by decide):SN (under az k u):=aM
def Vl (hk:17<k:=by decide):SO (under az k u):=aM
def G359 (hk:1<k:=by decide):C359 (under az k u):=aM
def G360 (hk:17<k:=by decide):C360 (under az k u):=aM
def G361 (hk:2<k:=by decide):C361 (under az k u):=aM
def G362 (hk:26<k:=by decide):C362 (under az k u):=fun y hp0 nx lf m K h1 hat hK=>OM (.inl hk) fun T _ h=>h y hp0 nx lf m K h1 hat hK
def G375 (hk:1<k:=by decide):C375 (under az k u):=aM
def G381 (hk:1<k:=by decide):C381 (under az k u):=aM
def G403 (hk:13<k:=by decide):C403 (under az k u):=aM
def G408 (hk:3<k:=by decide):C408 (under az k u):=aM
def G409 (hk:11<k:=by decide):C409 (under az k u):=aM
def G410 (hk:14<k:=by decide):C410 (under az k u):=aM
def G415 (hk:11<k:=by decide):C415 (under az k u):=aM
def G416 (hk:1<k:=by decide):C416 (under az k u):=aM
def G417 (hk:13<k:=by decide):C417 (under az k u):=aM
def G418 (hk:5<k:=by decide):C418 (under az k u):=aM
def SR (hk:5<k:=by decide):Nv (under az k u):=aM
def G440 (hk:1<k:=by decide):C440 (under az k u):=aM
def G441 (hk:3<k:=by decide):C441 (under az k u):=aM
def G442 (hk:2<k:=by decide):C442 (under az k u):=aM
def G443 (hk:12<k:=by decide):C443 (under az k u):=aM
def G450 (hk:2<k:=by decide):C450 (under az k u):=fun ws t l lw nx m K h1 h2 h3 h4 h5 hK=>OM (.inl hk) fun T _ h=>h ws t l lw nx m K h1 h2 h3 h4 h5 hK
def G451 (hk:5<k:=by decide):C451 (under az k u):=aM
def G452 (hk:1<k:=by decide):C452 (under az k u):=fun ds st K h1=>OM (.inl hk) fun T _ h=>h ds st K h1
def G453 (hk:1<k:=by decide):C453 (under az k u):=aM
def G454 (hk:1<k:=by decide):C454 (under az k u):=aM
def G455 (hk:1<k:=by decide):C455 (under az k u):=aM
def G456 (hk:3<k:=by decide):C456 (under az k u):=aM
def G457 (hk:12<k:=by decide):C457 (under az k u):=aM
def G458 (hk:11<k:=by decide):C458 (under az k u):=aM
def G460 (hk:11<k:=by decide):C460 (under az k u):=aM
def G461 (hk:2<k:=by decide):C461 (under az k u):=aM
def G462 (hk:1<k:=by decide):C462 (under az k u):=aM
def G463 (hk:1<k:=by decide):C463 (under az k u):=aM
def G464 (hk:1<k:=by decide):C464 (under az k u):=aM
def G470 (hk:1<k:=by decide):C470 (under az k u):=aM
def G487 (hk:1<k:=by decide):C487 (under az k u):=aM
def G489 (hk:1<k:=by decide):C489 (under az k u):=fun ds st K h1=>OM (.inl hk) fun T _ h=>h ds st K h1
def G501 (hk:6<k:=by decide):C501 (under az k u):=aM
def G502 (hk:19<k:=by decide):C502 (under az k u):=fun shop w x c kvs hp0 hp1 nx lm lc m K hlc hlm h1 h2 hK=>OM (.inl hk) fun T _ h=>h shop w x c kvs hp0 hp1 nx lm lc m K hlc hlm h1 h2 hK
def G503 (hk:18<k:=by decide):C503 (under az k u):=aM
def G504 (hk:18<k:=by decide):C504 (under az k u):=aM
def G505 (hk:5<k:=by decide):C505 (under az k u):=aM
def G505u (hv:v<=u):aem (under az 5 u) v:=fun m od c hp0 hu=>okp V2 (.inr ⟨rfl,by rw[show(lk az 505 mS).mu=negD from rfl,Rr];exact jj hu hv⟩) fun T hT=>hT m od c hp0
def G506 (hk:16<k:=by decide):C506 (under az k u):=aM
def G507 (hk:1<k:=by decide):C507 (under az k u):=aM
def G508 (hk:19<k:=by decide):C508 (under az k u):=aM
def G509 (hk:21<k:=by decide):C509 (under az k u):=fun shop w x c hp0 nx lc m K hlt h1 hK=>OM (.inl hk) fun T _ h=>h shop w x c hp0 nx lc m K hlt h1 hK
def G510 (hk:1<k:=by decide):C510 (under az k u):=aM
def G511 (hk:9<k:=by decide):C511 (under az k u):=aM
def G516 (hk:2<k:=by decide):C516 (under az k u):=aM
def G530 (hk:1<k:=by decide):C530 (under az k u):=aM
def G531 (hk:1<k:=by decide):C531 (under az k u):=aM
def G532 (hk:2<k:=by decide):C532 (under az k u):=aM
def G533 (hk:1<k:=by decide):U6 (under az k u):=aM
def G534 (hk:3<k:=by decide):C534 (under az k u):=aM
def G535 (hk:4<k:=by decide):C535 (under az k u):=fun g own hp0=>okf D535 hk fun T h=>h g own hp0
def G536 (hk:1<k:=by decide):C536 (under az k u):=aM
def G553 (hk:5<k:=by decide):C553 (under az k u):=aM
def G554 (hk:3<k:=by decide):C554 (under az k u):=aM
def G580 (hk:7<k:=by decide):U7 (under az k u):=aM
def G581 (hk:1<k:=by decide):C581 (under az k u):=aM
def G582 (hk:25<k:=by decide):C582 (under az k u):=fun y ns hp0 hp1 nx lf ln lr m K h1 h2 h3 hne hat hK=>OM (.inl hk) fun T _ h=>h y ns hp0 hp1 nx lf ln lr m K h1 h2 h3 hne hat hK
def G583 (hk:24<k:=by decide):C583 (under az k u):=fun y ns all k hp0 hp1 nx lf ln lr m K h1 h2 h3 hne hat hK=>OM (.inl hk) fun T _ h=>h y ns all k hp0 hp1 nx lf ln lr m K h1 h2 h3 hne hat hK
def G600 (hk:1<k:=by decide):C600 (under az k u):=aM
def G617 (hk:1<k:=by decide):C617 (under az k u):=aM
def G618 (hk:12<k:=by decide):C618 (under az k u):=aM
def G622 (hk:10<k:=by decide):C622 (under az k u):=aM
def G623 (hk:12<k:=by decide):C623 (under az k u):=aM
def G624 (hk:11<k:=by decide):C624 (under az k u):=aM
def G627 (hk:10<k:=by decide):C627 (under az k u):=aM
def G628 (hk:12<k:=by decide):C628 (under az k u):=aM
def G629 (hk:11<k:=by decide):C629 (under az k u):=aM
def G630 (hk:1<k:=by decide):U8 (under az k u):=aM
def G631 (hk:4<k:=by decide):C631 (under az k u):=aM
def G658 (hk:1<k:=by decide):C658 (under az k u):=aM
def G659 (hk:1<k:=by decide):C659 (under az k u):=aM
def G664 (hk:1<k:=by decide):C664 (under az k u):=fun ds st K h1=>OM (.inl hk) fun T _ h=>h ds st K h1
def G665 (hk:2<k:=by decide):C665 (under az k u):=aM
def G666 (hk:1<k:=by decide):C666 (under az k u):=aM
def G667 (hk:2<k:=by decide):C667 (under az k u):=aM
def G668 (hk:1<k:=by decide):C668 (under az k u):=aM
def G669 (hk:11<k:=by decide):C669 (under az k u):=aM
def G673 (hk:1<k:=by decide):C673 (under az k u):=aM
def G674 (hk:1<k:=by decide):C674 (under az k u):=aM
def G683 (hk:1<k:=by decide):C683 (under az k u):=aM
def G689 (hk:7<k:=by decide):C689 (under az k u):=aM
def G690 (hk:1<k:=by decide):C690 (under az k u):=aM
def G691 (hk:6<k:=by decide):C691 (under az k u):=aM
def G692 (hk:3<k:=by decide):C692 (under az k u):=aM
def G693 (hk:3<k:=by decide):C693 (under az k u):=aM
def G694 (hk:4<k:=by decide):C694 (under az k u):=aM
def G695 (hk:18<k:=by decide):C695 (under az k u):=aM
def G696 (hk:1<k:=by decide):C696 (under az k u):=aM
def G697 (hk:6<k:=by decide):C697 (under az k u):=aM
def G698 (hk:20<k:=by decide):C698 (under az k u):=aM
def G699 (hk:8<k:=by decide):C699 (under az k u):=aM
def G700 (hk:7<k:=by decide):C700 (under az k u):=aM
def G701 (hk:6<k:=by decide):C701 (under az k u):=aM
def G704 (hk:1<k:=by decide):C704 (under az k u):=aM
def G712 (hk:10<k:=by decide):C712 (under az k u):=aM
def G714 (hk:1<k:=by decide):C714 (under az k u):=aM
def G734 (hk:2<k:=by decide):C734 (under az k u):=aM
def G748 (hk:24<k:=by decide):C748 (under az k u):=fun y ns k hp0 hp1 nx lf ln lr m K h1 h2 h3 hne hat hK=>OM (.inl hk) fun T _ h=>h y ns k hp0 hp1 nx lf ln lr m K h1 h2 h3 hne hat hK
def G749 (hk:2<k:=by decide):C749 (under az k u):=aM
def G750 (hk:2<k:=by decide):C750 (under az k u):=aM
def G751 (hk:11<k:=by decide):C751 (under az k u):=fun y ns hp0 hp1 nx lf ln lr m K h1 h2 h3 hne hat hK=>OM (.inl hk) fun T _ h=>h y ns hp0 hp1 nx lf ln lr m K h1 h2 h3 hne hat hK
def G752 (hk:23<k:=by decide):C752 (under az k u):=fun y ns k hp0 hp1 nx lf ln lr m K h1 h2 h3 hne hat hK=>OM (.inl hk) fun T _ h=>h y ns k hp0 hp1 nx lf ln lr m K h1 h2 h3 hne hat hK
def G753 (hk:13<k:=by decide):C753 (under az k u):=aM
def G754 (hk:11<k:=by decide):C754 (under az k u):=aM
def G755 (hk:22<k:=by decide):C755 (under az k u):=fun y ns nm hp0 hp1 nx lf ln lr m K h1 h2 h3 hne hat hK=>OM (.inl hk) fun T _ h=>h y ns nm hp0 hp1 nx lf ln lr m K h1 h2 h3 hne hat hK
def G770 (hk:9<k:=by decide):U9 (under az k u):=aM
def G777 (hk:11<k:=by decide):C777 (under az k u):=aM
def G778 (hk:10<k:=by decide):C778 (under az k u):=aM
def G780 (hk:9<k:=by decide):C780 (under az k u):=aM
def G782 (hk:9<k:=by decide):C782 (under az k u):=aM
def G783 (hk:3<k:=by decide):C783 (under az k u):=aM
def G812 (hk:3<k:=by decide):C812 (under az k u):=aM
def G815 (hk:1<k:=by decide):C815 (under az k u):=aM
def G816 (hk:2<k:=by decide):C816 (under az k u):=aM
def G829 (hk:1<k:=by decide):C829 (under az k u):=aM
def G830 (hk:1<k:=by decide):C830 (under az k u):=aM
def G831 (hk:1<k:=by decide):C831 (under az k u):=aM
def G861 (hk:9<k:=by decide):C861 (under az k u):=aM
def G882 (hk:1<k:=by decide):C882 (under az k u):=aM
def G902 (hk:1<k:=by decide):C902 (under az k u):=aM
def G903 (hk:1<k:=by decide):C903 (under az k u):=aM
def G904 (hk:12<k:=by decide):C904 (under az k u):=aM
def G905 (hk:2<k:=by decide):C905 (under az k u):=aM
def G906 (hk:12<k:=by decide):C906 (under az k u):=aM
def G909 (hk:21<k:=by decide):C909 (under az k u):=fun y ns nm hp0 nx lf ln lr m K h1 h2 h3 hne hat hK=>OM (.inl hk) fun T _ h=>h y ns nm hp0 nx lf ln lr m K h1 h2 h3 hne hat hK
def G916 (hk:8<k:=by decide):Vb (under az k u):=aM
def G917 (hk:2<k:=by decide):C917 (under az k u):=aM
def G924 (hk:1<k:=by decide):C924 (under az k u):=aM
def G925 (hk:8<k:=by decide):C925 (under az k u):=aM
def G926 (hk:8<k:=by decide):C926 (under az k u):=aM
def G927 (hk:1<k:=by decide):C927 (under az k u):=aM
def G955 (hk:1<k:=by decide):C955 (under az k u):=aM
def G980 (hk:8<k:=by decide):C980 (under az k u):=aM
def aeo (hk:11<k:=by decide):UZ (under az k u):=aM
def G1012 (hk:17<k:=by decide):aea (under az k u):=aM
def G1013 (hk:20<k:=by decide):aeb (under az k u):=aM
def G1014 (hk:17<k:=by decide):aec (under az k u):=aM
def G1015 (hk:7<k:=by decide):aed (under az k u):=aM
def Vc (hk:7<k:=by decide):Kt (under az k u):=aM
def Vd (hk:6<k:=by decide):Qo (under az k u):=aM
def aep (hk:7<k:=by decide):U0 (under az k u):=aM
def aeq (hk:6<k:=by decide):U1 (under az k u):=aM
def G1025 (hk:6<k:=by decide):aee (under az k u):=aM
def G1055 (hk:6<k:=by decide):aef (under az k u):=aM
def G1080 (hk:1<k:=by decide):aeg (under az k u):=aM
def G1083 (hk:19<k:=by decide):aeh (under az k u):=aM
def G1084 (hk:18<k:=by decide):aei (under az k u):=aM
def Ve (hk:5<k:=by decide):Qp (under az k u):=aM
def Vf (hk:5<k:=by decide):Qq (under az k u):=aM
def G1120 (hk:3<k:=by decide):aek (under az k u):=aM
def G1121 (hk:1<k:=by decide):ael (under az k u):=aM
def G212 (hk:10<k:=by decide):C212 (under az k u):=fun s hp=>kE rfl hk (ev212 hp)
def G670 (hk:10<k:=by decide):C670 (under az k u):=fun s hp=>kE rfl hk (ev670 hp)
def G448 (hk:10<k:=by decide):C448 (under az k u):=fun s hp=>kE rfl hk (ev448 hp)
def G672 (hk:10<k:=by decide):C672 (under az k u):=fun s hp=>kE rfl hk (ev672 hp)
def G444 (hk:10<k:=by decide):C444 (under az k u):=fun s hp=>kE rfl hk (ev444 hp)
def G572 (hk:10<k:=by decide):C572 (under az k u):=fun s hp=>kE rfl hk (ev572 hp)
def G213 (hk:10<k:=by decide):C213 (under az k u):=fun l hp=>kE rfl hk (ev213 hp)
def G459 (hk:10<k:=by decide):C459 (under az k u):=fun l hp=>kE rfl hk (ev459 hp)
def G908 (hk:10<k:=by decide):C908 (under az k u):=fun s hp=>kE rfl hk (ev908 hp)
def G1011 (hk:10<k:=by decide):ad9 (under az k u):=fun s hp=>kE rfl hk (ah9 hp)
def G1085 (hk:10<k:=by decide):aej (under az k u):=fun s hp=>kE rfl hk (aia hp)
def aer (hk:10<k:=by decide):Va (under az k u):=fun v hp=>kE rfl hk (ev156 hp)
def G374 (hk:10<k:=by decide):C374 (under az k u):=kE rfl hk ev374
def G907 (hk:10<k:=by decide):C907 (under az k u):=fun s e hp=>kE rfl hk (ev907 hp.1 hp.2)
def eN (u:Nat):Ry (under az 10 u) eE:=aif (aie Vj Vk Vh GC G658 G667 G665 G734 G533 G470 G124 G9124 G683 G487 G254 G815 G249 G242 BV BW) (aid Vg G375 G600 G770 G816 G916 Vc Vd)
end
def ar:(Go.Proofs.Tryz.prog).follows .mixedOrders=true:=yz
abbrev Ow [cN](f n:Nat):Prop:=Owe Go.Proofs.Tryz.prog A8 NY az f n
abbrev Cp (f:Nat)(a:aj):Prop:=SP Go.Proofs.Tryz.prog A8 NY f a
def ck {f:Nat}{a:aj}(h:((Go.Proofs.Tryz.prog).funcs[f]?).map (fun f=>(compile Go.Proofs.Tryz.prog A8 NY f,f.name== "runtime.NumGoroutine"))=some (some a,false):=by kernel_rfl):Cp f a:=h
end Go.Abs
