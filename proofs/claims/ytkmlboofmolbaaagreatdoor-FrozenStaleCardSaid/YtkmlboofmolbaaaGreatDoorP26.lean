/- A part of the proofs. -/
import Derived.Test.YtkmlboofmolbaaaGreatDoorP10
import Derived.Test.YtkmlboofmolbaaaGreatDoorP11
import Derived.Test.YtkmlboofmolbaaaGreatDoorP12
import Derived.Test.YtkmlboofmolbaaaGreatDoorP13
import Derived.Test.YtkmlboofmolbaaaGreatDoorP14
import Derived.Test.YtkmlboofmolbaaaGreatDoorP15
import Derived.Test.YtkmlboofmolbaaaGreatDoorP16
import Derived.Test.YtkmlboofmolbaaaGreatDoorP17
import Derived.Test.YtkmlboofmolbaaaGreatDoorP18
import Derived.Test.YtkmlboofmolbaaaGreatDoorP23
set_option linter.all false
set_option maxRecDepth 60000
set_option maxHeartbeats 2000000
namespace Go.Abs
section
variable [cP]
def H28:Ow 7 28:=aO rfl λks=>av ar ck rfl (w28 aJ KH G110 G111 G112 G135 G136 ks)
def H72:Ow 166 72:=aO rfl λr hp0=>av ar ck rfl (w72 aJ G70 G215 r hp0)
def H91:Ow 10 91:=aO rfl λm shop e os hp0=>av ar ck rfl (w91 aJ G114 G147 G267 G268 G269 m shop e os hp0)
def H112:Ow 22 112:=aO rfl (av ar ck rfl (w112 aJ))
def H143:Ow 55 143:=aO rfl λl hp0=>av ar ck rfl (w143 aJ G136 G356 l hp0)
def H169:Ow 64 169:=aO rfl λw hp0=>av ar ck rfl (w169 aJ G403 w hp0)
def H208:Ow 121 208:=aO rfl λs=>av ar ck rfl (w208 aJ s)
def H216:Ow 92 216:=aO rfl λs=>av ar ck rfl (w216 aJ G453 G454 s)
def H249:Ow 130 249:=aO rfl λl x hp0=>av ar ck rfl (w249 aJ l x hp0)
def H269:Ow 32 269:=aO rfl λw c hp0 hp1=>av ar ck rfl (w269 aJ G506 w c hp0 hp1)
def H297:Ow 47 297:=O7 rfl D297 λg own hp0=>Cv 2 ar ck rfl rfl (w297 aJ KH G111 G536 g own hp0)
def H349:Ow 74 349:=aO rfl λs=>av ar ck rfl (w349 aJ s)
def H358:Ow 95 358:=aO rfl λs hp0=>av ar ck rfl (w358 aJ G75 KI G580 s hp0)
def H381:Ow 157 381:=aO rfl λn hp0=>av ar ck rfl (w381 aJ n hp0)
def H416:Ow 196 416:=aO rfl λc x hp0=>av ar ck rfl (w416 aJ c x hp0)
def H443:Ow 268 443:=aO rfl λr w al hp0=>av ar ck rfl (w443 aJ G211 VD r w al hp0)
def H456:Ow 87 456:=aO rfl λs p hp0=>av ar ck rfl (w456 aJ G470 G666 G667 G668 s p hp0)
def H463:Ow 205 463:=aO rfl λh k hp0=>av ar ck rfl (w463 aJ h k hp0)
def H504:Ow 54 504:=aO rfl λs r hp0=>av ar ck rfl (w504 aJ G75 VE G580 s r hp0)
def H511:Ow 123 511:=aO rfl λl nm v hp0=>av ar ck rfl (w511 aJ G699 l nm v hp0)
def H534:Ow 119 534:=aO rfl λa b=>av ar ck rfl (w534 aJ G516 G532 G658 G659 a b)
def H581:Ow 100 581:=aO rfl λl p hp0=>av ar ck rfl (w581 aJ l p hp0)
def H622:Ow 120 622:=aO rfl λl n hp0=>av ar ck rfl (w622 aJ G780 l n hp0)
def H630:Ow 88 630:=aO rfl λa b=>av ar ck rfl (w630 aJ a b)
def H667:Ow 133 667:=aO rfl λs=>av ar ck rfl (w667 aJ G454 s)
def H690:Ow 77 690:=aO rfl λc x hp0=>av ar ck rfl (w690 aJ c x hp0)
def H699:Ow 168 699:=aO rfl λl nm v hp0=>av ar ck rfl (w699 aJ G700 l nm v hp0)
def H734:Ow 207 734:=aO rfl λn hp0=>av ar ck rfl (w734 aJ G882 n hp0)
def H753:Ow 149 753:=aO rfl λr e ft hp0=>av ar ck rfl (w753 aJ G672 G904 G905 G906 ae1 r e ft hp0)
def H780:Ow 165 780:=aO rfl λs hp0=>av ar ck rfl (w780 aJ G924 G925 s hp0)
def H829:Ow 152 829:=aO rfl λal u p hp0=>av ar ck rfl (w829 aJ al u p hp0)
def H903:Ow 187 903:=aO rfl λl k=>av ar ck rfl (w903 aJ l k)
def H917:Ow 231 917:=aO rfl λc=>av ar ck rfl (w917 aJ G600 c)
def H980:Ow 206 980:=aO rfl λs v hp0=>av ar ck rfl (w980 aJ BY aeZ G1055 s v hp0)
def H1019:Ow 264 1019:=aO rfl λs hp0=>av ar ck rfl (w1019 aJ Vy Vz s hp0)
def H1080:Ow 257 1080:=aO rfl λx hp0=>av ar ck rfl (w1080 aJ x hp0)
def H1121:Ow 289 1121:=aO rfl λs nm=>av ar ck rfl (w1121 aJ s nm)
def H376:Ow 218 376:=aK cq eY ar (a:=vl) ck rfl
def H446:Ow 271 446:=aK cq eY ar (a:=xw) ck rfl
def H495:Ow 293 495:=aK cq eY ar (a:=vw) ck rfl
def H602:Ow 255 602:=aK cq eY ar (a:=Ax) ck rfl
def H663:Ow 301 663:=aK cq eY ar (a:=si) ck rfl
def H678:Ow 249 678:=aK cq eY ar (a:=AG) ck rfl
def H769:Ow 284 769:=aK cq eY ar (a:=Av) ck rfl
def H811:Ow 324 811:=aK cq eY ar (a:=Af) ck rfl
def H896:Ow 180 896:=aK cq eY ar (a:=AJ) ck rfl
def H907:Ow 193 907:=aK cq eY ar (a:=Du) ck rfl
def H946:Ow 349 946:=aK cq eY ar (a:=oT) ck rfl
def H952:Ow 246 952:=aK cq eY ar (a:=lE) ck rfl
def H1007:Ow 213 1007:=aK cq eY ar (a:=DE) ck rfl
def H1032:Ow 279 1032:=aK cq eY ar (a:=nj) ck rfl
def H1081:Ow 258 1081:=aK cq eY ar (a:=sM) ck rfl
def H1100:Ow 308 1100:=aK cq eY ar (a:=x8) ck rfl
def H1138:Ow 311 1138:=aK cq eY ar (a:=AE) ck rfl
def H1148:Ow 360 1148:=aK cq eY ar (a:=yh) ck rfl
end
section
variable [cP]
def H52:Ow 17 52:=aO rfl λw c hp0=>av ar ck rfl (w52 aJ G170 G186 w c hp0)
def H75:Ow 18 75:=aO rfl λr hp0=>av ar ck rfl (w75 aJ G73 G221 r hp0)
def H109:Ow 23 109:=O7 rfl D109 λg n hp0 hp1=>Cv 2 ar ck rfl rfl (w109 aJ G25 G159 g n hp0 hp1)
def H136:Ow 26 136:=aO rfl λm hp0=>av ar ck rfl (w136 aJ G71 G344 G345 m hp0)
def H147:Ow 28 147:=aO rfl λl shop e ks hp0=>av ar ck rfl (w147 aJ G143 G144 G145 G360 G361 G362 l shop e ks hp0)
def H183:Ow 106 183:=aO rfl λw l hp0=>av ar ck rfl (w183 aJ G415 w l hp0)
def H211:Ow 236 211:=aO rfl λr name rng hp0=>av ar ck rfl (w211 aJ VB G444 r name rng hp0)
def H219:Ow 84 219:=aO rfl λr hp0=>av ar ck rfl (w219 aJ G249 G316 G461 G462 r hp0)
def H266:Ow 27 266:=O7 rfl D266 λg l hp0 hp1=>Cv 2 ar ck rfl rfl (w266 aJ KH G110 G111 G112 G503 G504 g l hp0 hp1)
def H274:Ow 78 274:=aO rfl λs nm v hp0=>av ar ck rfl (w274 aJ G353 G511 s nm v hp0)
def H316:Ow 127 316:=aO rfl λv hp0=>av ar ck rfl (w316 aJ EF G554 v hp0)
def H355:Ow 73 355:=aO rfl λx s=>av ar ck rfl (w355 aJ x s)
def H361:Ow 59 361:=aO rfl λl nm=>av ar ck rfl (w361 aJ G359 l nm)
def H409:Ow 70 409:=aO rfl λc n hp0=>av ar ck rfl (w409 aJ G622 c n hp0)
def H440:Ow 113 440:=aO rfl λn=>av ar ck rfl (w440 aJ n)
def H453:Ow 136 453:=aO rfl λc=>av ar ck rfl (w453 aJ c)
def H460:Ow 141 460:=aO rfl λr of hp0=>av ar ck rfl (w460 aJ G672 G673 G674 r of hp0)
def H501:Ow 20 501:=aO rfl λa b hp0=>av ar ck rfl (w501 aJ EF VF a b hp0)
def H507:Ow 65 507:=aO rfl λw c nm hp0=>av ar ck rfl (w507 aJ w c nm hp0)
def H531:Ow 111 531:=aO rfl λl=>av ar ck rfl (w531 aJ l)
def H553:Ow 75 553:=aO rfl λx hp0=>av ar ck rfl (w553 aJ VB BY VD x hp0)
def H600:Ow 253 600:=aO rfl λv=>av ar ck rfl (w600 aJ v)
def H627:Ow 158 627:=aO rfl λs v hp0=>av ar ck rfl (w627 aJ EF G770 G782 s v hp0)
def H659:Ow 163 659:=aO rfl λt=>av ar ck rfl (w659 aJ t)
def H673:Ow 178 673:=aO rfl λr x=>av ar ck rfl (w673 aJ r x)
def H693:Ow 104 693:=aO rfl λm al c hp0=>av ar ck rfl (w693 aJ G184 G829 m al c hp0)
def H704:Ow 161 704:=aO rfl λx=>av ar ck rfl (w704 aJ x)
def H750:Ow 146 750:=aO rfl λall l hp0=>av ar ck rfl (w750 aJ G903 all l hp0)
def H770:Ow 197 770:=aO rfl λs hp0=>av ar ck rfl (w770 aJ G916 G917 s hp0)
def H812:Ow 208 812:=aO rfl λl al=>av ar ck rfl (w812 aJ G357 G815 l al)
def H861:Ow 171 861:=aO rfl λl v hp0=>av ar ck rfl (w861 aJ G925 G980 l v hp0)
def H906:Ow 192 906:=aO rfl λr e nm ft hp0=>av ar ck rfl (w906 aJ G907 G908 aeY r e nm ft hp0)
def H926:Ow 232 926:=aO rfl λs v hp0=>av ar ck rfl (w926 aJ EF Vx G1025 s v hp0)
def H1013:Ow 227 1013:=aO rfl λshop ps nm hp0=>av ar ck rfl (w1013 aJ G1083 G1084 shop ps nm hp0)
def H1024:Ow 234 1024:=aO rfl λa b hp0=>av ar ck rfl (w1024 aJ VC G532 VA a b hp0)
def H1086:Ow 292 1086:=aO rfl λc hp0=>av ar ck rfl (w1086 aJ EF c hp0)
def H212:Ow 237 212:=aK cq eY ar (a:=rH) ck rfl
def H379:Ow 221 379:=aK cq eY ar (a:=vr) ck rfl
def H449:Ow 274 449:=aK cq eY ar (a:=rv) ck rfl
def H598:Ow 290 598:=aK cq eY ar (a:=yd) ck rfl
def H660:Ow 296 660:=aK cq eY ar (a:=oU) ck rfl
def H672:Ow 177 672:=aK cq eY ar (a:=x9) ck rfl
def H685:Ow 319 685:=aK cq eY ar (a:=AO) ck rfl
def H808:Ow 321 808:=aK cq eY ar (a:=m8) ck rfl
def H819:Ow 336 819:=aK cq eY ar (a:=zR) ck rfl
def H899:Ow 183 899:=aK cq eY ar (a:=DI) ck rfl
def H919:Ow 313 919:=aK cq eY ar (a:=AA) ck rfl
def H949:Ow 352 949:=aK cq eY ar (a:=oS) ck rfl
def H956:Ow 361 956:=aK cq eY ar (a:=uV) ck rfl
def H1011:Ow 225 1011:=aK cq eY ar (a:=F4) ck rfl
def H1035:Ow 282 1035:=aK cq eY ar (a:=x7) ck rfl
def H1097:Ow 305 1097:=aK cq eY ar (a:=oy) ck rfl
def H1122:Ow 291 1122:=aK cq eY ar (a:=Dx) ck rfl
def H1144:Ow 332 1144:=aK cq eY ar (a:=AH) ck rfl
end
end Go.Abs
