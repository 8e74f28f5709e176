/- A part of the proofs. -/
import Derived.Test.YtkmlboofmolbaaaGreatDoorP10
import Derived.Test.YtkmlboofmolbaaaGreatDoorP11
import Derived.Test.YtkmlboofmolbaaaGreatDoorP12
import Derived.Test.YtkmlboofmolbaaaGreatDoorP13
import Derived.Test.YtkmlboofmolbaaaGreatDoorP14
import Derived.Test.YtkmlboofmolbaaaGreatDoorP15
import Derived.Test.YtkmlboofmolbaaaGreatDoorP16
import Derived.Test.YtkmlboofmolbaaaGreatDoorP17
import Derived.Test.YtkmlboofmolbaaaGreatDoorP22
set_option linter.all false
set_option maxRecDepth 60000
set_option maxHeartbeats 2000000
namespace Go.Abs
section
variable [cL]
def H28:Ow 7 28:=aM rfl λks=>av ar ck rfl (w28 aI KO G110 G111 G112 G135 G136 ks)
def H72:Ow 166 72:=aM rfl λr hp0=>av ar ck rfl (w72 aI G70 G215 r hp0)
def H91:Ow 10 91:=aM rfl λm shop e os hp0=>av ar ck rfl (w91 aI G114 G147 G267 G268 G269 m shop e os hp0)
def H114:Ow 29 114:=aM rfl λw hp0=>av ar ck rfl (w114 aI w hp0)
def H144:Ow 57 144:=aM rfl λe=>av ar ck rfl (w144 aI G357 e)
def H170:Ow 40 170:=aM rfl λw c hp0=>av ar ck rfl (w170 aI G169 w c hp0)
def H208:Ow 121 208:=aM rfl λs=>av ar ck rfl (w208 aI s)
def H216:Ow 92 216:=aM rfl λs=>av ar ck rfl (w216 aI G453 G454 s)
def H249:Ow 130 249:=aM rfl λl x hp0=>av ar ck rfl (w249 aI l x hp0)
def H269:Ow 32 269:=aM rfl λw c hp0 hp1=>av ar ck rfl (w269 aI G506 w c hp0 hp1)
def H297:Ow 47 297:=Pf rfl D297 λg own hp0=>Cu 2 ar ck rfl rfl (w297 aI KO G111 G536 g own hp0)
def H349:Ow 74 349:=aM rfl λs=>av ar ck rfl (w349 aI s)
def H358:Ow 95 358:=aM rfl λs hp0=>av ar ck rfl (w358 aI G75 KP G580 s hp0)
def H381:Ow 157 381:=aM rfl λn hp0=>av ar ck rfl (w381 aI n hp0)
def H416:Ow 196 416:=aM rfl λc x hp0=>av ar ck rfl (w416 aI c x hp0)
def H443:Ow 268 443:=aM rfl λr w al hp0=>av ar ck rfl (w443 aI G211 VP r w al hp0)
def H456:Ow 87 456:=aM rfl λs p hp0=>av ar ck rfl (w456 aI G470 G666 G667 G668 s p hp0)
def H463:Ow 205 463:=aM rfl λh k hp0=>av ar ck rfl (w463 aI h k hp0)
def H504:Ow 54 504:=aM rfl λs r hp0=>av ar ck rfl (w504 aI G75 VQ G580 s r hp0)
def H511:Ow 123 511:=aM rfl λl nm v hp0=>av ar ck rfl (w511 aI G699 l nm v hp0)
def H534:Ow 119 534:=aM rfl λa b=>av ar ck rfl (w534 aI G516 G532 G658 G659 a b)
def H581:Ow 100 581:=aM rfl λl p hp0=>av ar ck rfl (w581 aI l p hp0)
def H622:Ow 120 622:=aM rfl λl n hp0=>av ar ck rfl (w622 aI G780 l n hp0)
def H630:Ow 88 630:=aM rfl λa b=>av ar ck rfl (w630 aI a b)
def H667:Ow 133 667:=aM rfl λs=>av ar ck rfl (w667 aI G454 s)
def H690:Ow 77 690:=aM rfl λc x hp0=>av ar ck rfl (w690 aI c x hp0)
def H699:Ow 168 699:=aM rfl λl nm v hp0=>av ar ck rfl (w699 aI G700 l nm v hp0)
def H734:Ow 207 734:=aM rfl λn hp0=>av ar ck rfl (w734 aI G882 n hp0)
def H753:Ow 149 753:=aM rfl λr e ft hp0=>av ar ck rfl (w753 aI G672 G904 G905 G906 aff r e ft hp0)
def H780:Ow 165 780:=aM rfl λs hp0=>av ar ck rfl (w780 aI G924 G925 s hp0)
def H829:Ow 152 829:=aM rfl λal u p hp0=>av ar ck rfl (w829 aI al u p hp0)
def H903:Ow 187 903:=aM rfl λl k=>av ar ck rfl (w903 aI l k)
def H917:Ow 231 917:=aM rfl λc=>av ar ck rfl (w917 aI G600 c)
def H980:Ow 206 980:=aM rfl λs v hp0=>av ar ck rfl (w980 aI BV afd G1055 s v hp0)
def H1019:Ow 264 1019:=aM rfl λs hp0=>av ar ck rfl (w1019 aI VK VL s hp0)
def H1080:Ow 257 1080:=aM rfl λx hp0=>av ar ck rfl (w1080 aI x hp0)
def H1121:Ow 289 1121:=aM rfl λs nm=>av ar ck rfl (w1121 aI s nm)
def H376:Ow 218 376:=aJ b9 eW ar (a:=u7) ck rfl
def H446:Ow 271 446:=aJ b9 eW ar (a:=xm) ck rfl
def H495:Ow 293 495:=aJ b9 eW ar (a:=vj) ck rfl
def H602:Ow 255 602:=aJ b9 eW ar (a:=Ap) ck rfl
def H663:Ow 301 663:=aJ b9 eW ar (a:=sa) ck rfl
def H678:Ow 249 678:=aJ b9 eW ar (a:=Ax) ck rfl
def H769:Ow 284 769:=aJ b9 eW ar (a:=An) ck rfl
def H811:Ow 324 811:=aJ b9 eW ar (a:=z6) ck rfl
def H896:Ow 180 896:=aJ b9 eW ar (a:=AA) ck rfl
def H907:Ow 193 907:=aJ b9 eW ar (a:=Dt) ck rfl
def H946:Ow 349 946:=aJ b9 eW ar (a:=oO) ck rfl
def H952:Ow 246 952:=aJ b9 eW ar (a:=lE) ck rfl
def H1007:Ow 213 1007:=aJ b9 eW ar (a:=DC) ck rfl
def H1032:Ow 279 1032:=aJ b9 eW ar (a:=nd) ck rfl
def H1081:Ow 258 1081:=aJ b9 eW ar (a:=sE) ck rfl
def H1100:Ow 308 1100:=aJ b9 eW ar (a:=xY) ck rfl
def H1138:Ow 311 1138:=aJ b9 eW ar (a:=Av) ck rfl
def H1148:Ow 360 1148:=aJ b9 eW ar (a:=yc) ck rfl
end
section
variable [cL]
def H52:Ow 17 52:=aM rfl λw c hp0=>av ar ck rfl (w52 aI G170 G186 w c hp0)
def H75:Ow 18 75:=aM rfl λr hp0=>av ar ck rfl (w75 aI G73 G221 r hp0)
def H110:Ow 21 110:=Pf rfl D110 λg nm v most hp0 hp1=>Cu 2 ar ck rfl rfl (w110 aI KO G135 G296 G297 G298 g nm v most hp0 hp1)
def H138:Ow 36 138:=aM rfl λe=>av ar ck rfl (w138 aI VP e)
def H158:Ow 107 158:=aM rfl λw u hp0=>av ar ck rfl (w158 aI G381 w u hp0)
def H184:Ow 153 184:=aM rfl λc l hp0=>av ar ck rfl (w184 aI G416 c l hp0)
def H211:Ow 236 211:=aM rfl λr name rng hp0=>av ar ck rfl (w211 aI VN G444 r name rng hp0)
def H219:Ow 84 219:=aM rfl λr hp0=>av ar ck rfl (w219 aI G249 G316 G461 G462 r hp0)
def H266:Ow 27 266:=Pf rfl D266 λg l hp0 hp1=>Cu 2 ar ck rfl rfl (w266 aI KO G110 G111 G112 G503 G504 g l hp0 hp1)
def H274:Ow 78 274:=aM rfl λs nm v hp0=>av ar ck rfl (w274 aI G353 G511 s nm v hp0)
def H316:Ow 127 316:=aM rfl λv hp0=>av ar ck rfl (w316 aI EJ G554 v hp0)
def H355:Ow 73 355:=aM rfl λx s=>av ar ck rfl (w355 aI x s)
def H361:Ow 59 361:=aM rfl λl nm=>av ar ck rfl (w361 aI G359 l nm)
def H409:Ow 70 409:=aM rfl λc n hp0=>av ar ck rfl (w409 aI G622 c n hp0)
def H440:Ow 113 440:=aM rfl λn=>av ar ck rfl (w440 aI n)
def H453:Ow 136 453:=aM rfl λc=>av ar ck rfl (w453 aI c)
def H460:Ow 141 460:=aM rfl λr of hp0=>av ar ck rfl (w460 aI G672 G673 G674 r of hp0)
def H501:Ow 20 501:=aM rfl λa b hp0=>av ar ck rfl (w501 aI EJ VR a b hp0)
def H507:Ow 65 507:=aM rfl λw c nm hp0=>av ar ck rfl (w507 aI w c nm hp0)
def H531:Ow 111 531:=aM rfl λl=>av ar ck rfl (w531 aI l)
def H553:Ow 75 553:=aM rfl λx hp0=>av ar ck rfl (w553 aI VN BV VP x hp0)
def H600:Ow 253 600:=aM rfl λv=>av ar ck rfl (w600 aI v)
def H627:Ow 158 627:=aM rfl λs v hp0=>av ar ck rfl (w627 aI EJ G770 G782 s v hp0)
def H659:Ow 163 659:=aM rfl λt=>av ar ck rfl (w659 aI t)
def H673:Ow 178 673:=aM rfl λr x=>av ar ck rfl (w673 aI r x)
def H693:Ow 104 693:=aM rfl λm al c hp0=>av ar ck rfl (w693 aI G184 G829 m al c hp0)
def H704:Ow 161 704:=aM rfl λx=>av ar ck rfl (w704 aI x)
def H750:Ow 146 750:=aM rfl λall l hp0=>av ar ck rfl (w750 aI G903 all l hp0)
def H770:Ow 197 770:=aM rfl λs hp0=>av ar ck rfl (w770 aI G916 G917 s hp0)
def H812:Ow 208 812:=aM rfl λl al=>av ar ck rfl (w812 aI G357 G815 l al)
def H861:Ow 171 861:=aM rfl λl v hp0=>av ar ck rfl (w861 aI G925 G980 l v hp0)
def H906:Ow 192 906:=aM rfl λr e nm ft hp0=>av ar ck rfl (w906 aI G907 G908 afc r e nm ft hp0)
def H926:Ow 232 926:=aM rfl λs v hp0=>av ar ck rfl (w926 aI EJ VJ G1025 s v hp0)
def H1013:Ow 227 1013:=aM rfl λshop ps nm hp0=>av ar ck rfl (w1013 aI G1083 G1084 shop ps nm hp0)
def H1024:Ow 234 1024:=aM rfl λa b hp0=>av ar ck rfl (w1024 aI VO G532 VM a b hp0)
def H1086:Ow 292 1086:=aM rfl λc hp0=>av ar ck rfl (w1086 aI EJ c hp0)
def H212:Ow 237 212:=aJ b9 eW ar (a:=rC) ck rfl
def H379:Ow 221 379:=aJ b9 eW ar (a:=vc) ck rfl
def H449:Ow 274 449:=aJ b9 eW ar (a:=rq) ck rfl
def H598:Ow 290 598:=aJ b9 eW ar (a:=x8) ck rfl
def H660:Ow 296 660:=aJ b9 eW ar (a:=oP) ck rfl
def H672:Ow 177 672:=aJ b9 eW ar (a:=xZ) ck rfl
def H685:Ow 319 685:=aJ b9 eW ar (a:=AG) ck rfl
def H808:Ow 321 808:=aJ b9 eW ar (a:=m7) ck rfl
def H819:Ow 336 819:=aJ b9 eW ar (a:=zJ) ck rfl
def H899:Ow 183 899:=aJ b9 eW ar (a:=DH) ck rfl
def H919:Ow 313 919:=aJ b9 eW ar (a:=As) ck rfl
def H949:Ow 352 949:=aJ b9 eW ar (a:=oN) ck rfl
def H956:Ow 361 956:=aJ b9 eW ar (a:=uO) ck rfl
def H1011:Ow 225 1011:=aJ b9 eW ar (a:=F7) ck rfl
def H1035:Ow 282 1035:=aJ b9 eW ar (a:=xX) ck rfl
def H1097:Ow 305 1097:=aJ b9 eW ar (a:=ou) ck rfl
def H1122:Ow 291 1122:=aJ b9 eW ar (a:=Dw) ck rfl
def H1144:Ow 332 1144:=aJ b9 eW ar (a:=Ay) ck rfl
end
end Go.Abs
