/- A part of the proofs. -/
import Derived.Test.YtkmlboofmolbaaaGreatDoorP10
import Derived.Test.YtkmlboofmolbaaaGreatDoorP11
import Derived.Test.YtkmlboofmolbaaaGreatDoorP12
import Derived.Test.YtkmlboofmolbaaaGreatDoorP13
import Derived.Test.YtkmlboofmolbaaaGreatDoorP14
import Derived.Test.YtkmlboofmolbaaaGreatDoorP15
import Derived.Test.YtkmlboofmolbaaaGreatDoorP16
import Derived.Test.YtkmlboofmolbaaaGreatDoorP17
import Derived.Test.YtkmlboofmolbaaaGreatDoorP22
set_option linter.all false
set_option maxRecDepth 60000
set_option maxHeartbeats 2000000
namespace Go.Abs
section
section
variable [cG]
def H28:Ow 7 28:=aM rfl fun ks=>au ar ck rfl (w28 aI Kk G110 G111 G112 G135 G136 ks)
def H72:Ow 166 72:=aM rfl fun r hp0=>au ar ck rfl (w72 aI G70 G215 r hp0)
def H91:Ow 10 91:=aM rfl fun m shop e os hp0=>au ar ck rfl (w91 aI G114 G147 G267 G268 G269 m shop e os hp0)
def H114:Ow 29 114:=aM rfl fun w hp0=>au ar ck rfl (w114 aI w hp0)
def H144:Ow 57 144:=aM rfl fun e=>au ar ck rfl (w144 aI G357 e)
def H169:Ow 64 169:=aM rfl fun w hp0=>au ar ck rfl (w169 aI G403 w hp0)
def H208:Ow 121 208:=aM rfl fun s=>au ar ck rfl (w208 aI s)
def H216:Ow 92 216:=aM rfl fun s=>au ar ck rfl (w216 aI G453 G454 s)
def H249:Ow 130 249:=aM rfl fun l x hp0=>au ar ck rfl (w249 aI l x hp0)
def H269:Ow 32 269:=aM rfl fun w c hp0 hp1=>au ar ck rfl (w269 aI G506 w c hp0 hp1)
def H297:Ow 47 297:=OG rfl D297 fun g own hp0=>B5 2 ar ck rfl rfl (w297 aI Kk G111 G536 g own hp0)
def H349:Ow 74 349:=aM rfl fun s=>au ar ck rfl (w349 aI s)
def H358:Ow 95 358:=aM rfl fun s hp0=>au ar ck rfl (w358 aI G75 Kl G580 s hp0)
def H381:Ow 157 381:=aM rfl fun n hp0=>au ar ck rfl (w381 aI n hp0)
def H416:Ow 196 416:=aM rfl fun c x hp0=>au ar ck rfl (w416 aI c x hp0)
def H443:Ow 268 443:=aM rfl fun r w al hp0=>au ar ck rfl (w443 aI G211 U9 r w al hp0)
def H456:Ow 87 456:=aM rfl fun s p hp0=>au ar ck rfl (w456 aI G470 G666 G667 G668 s p hp0)
def H463:Ow 205 463:=aM rfl fun h k hp0=>au ar ck rfl (w463 aI h k hp0)
def H504:Ow 54 504:=aM rfl fun s r hp0=>au ar ck rfl (w504 aI G75 Va G580 s r hp0)
def H511:Ow 123 511:=aM rfl fun l nm v hp0=>au ar ck rfl (w511 aI G699 l nm v hp0)
def H534:Ow 119 534:=aM rfl fun a b=>au ar ck rfl (w534 aI G516 G532 G658 G659 a b)
def H581:Ow 100 581:=aM rfl fun l p hp0=>au ar ck rfl (w581 aI l p hp0)
def H622:Ow 120 622:=aM rfl fun l n hp0=>au ar ck rfl (w622 aI G780 l n hp0)
def H630:Ow 88 630:=aM rfl fun a b=>au ar ck rfl (w630 aI a b)
def H667:Ow 133 667:=aM rfl fun s=>au ar ck rfl (w667 aI G454 s)
def H690:Ow 77 690:=aM rfl fun c x hp0=>au ar ck rfl (w690 aI c x hp0)
def H699:Ow 168 699:=aM rfl fun l nm v hp0=>au ar ck rfl (w699 aI G700 l nm v hp0)
def H734:Ow 207 734:=aM rfl fun n hp0=>au ar ck rfl (w734 aI G882 n hp0)
def H753:Ow 149 753:=aM rfl fun r e ft hp0=>au ar ck rfl (w753 aI G672 G904 G905 G906 aeo r e ft hp0)
def H780:Ow 165 780:=aM rfl fun s hp0=>au ar ck rfl (w780 aI G924 G925 s hp0)
def H829:Ow 152 829:=aM rfl fun al u p hp0=>au ar ck rfl (w829 aI al u p hp0)
def H903:Ow 187 903:=aM rfl fun l k=>au ar ck rfl (w903 aI l k)
def H917:Ow 231 917:=aM rfl fun c=>au ar ck rfl (w917 aI G600 c)
def H980:Ow 206 980:=aM rfl fun s v hp0=>au ar ck rfl (w980 aI Bx aem G1055 s v hp0)
def H1019:Ow 264 1019:=aM rfl fun s hp0=>au ar ck rfl (w1019 aI U4 U5 s hp0)
def H1080:Ow 257 1080:=aM rfl fun x hp0=>au ar ck rfl (w1080 aI x hp0)
def H1121:Ow 289 1121:=aM rfl fun s nm=>au ar ck rfl (w1121 aI s nm)
def H376:Ow 218 376:=aJ b8 eN ar (a:=uK) ck rfl
def H446:Ow 271 446:=aJ b8 eN ar (a:=wO) ck rfl
def H495:Ow 293 495:=aJ b8 eN ar (a:=uQ) ck rfl
def H602:Ow 255 602:=aJ b8 eN ar (a:=zW) ck rfl
def H663:Ow 301 663:=aJ b8 eN ar (a:=rK) ck rfl
def H678:Ow 249 678:=aJ b8 eN ar (a:=Ab) ck rfl
def H769:Ow 284 769:=aJ b8 eN ar (a:=zT) ck rfl
def H811:Ow 324 811:=aJ b8 eN ar (a:=zD) ck rfl
def H896:Ow 180 896:=aJ b8 eN ar (a:=Ae) ck rfl
def H907:Ow 193 907:=aJ b8 eN ar (a:=CZ) ck rfl
def H946:Ow 349 946:=aJ b8 eN ar (a:=oD) ck rfl
def H952:Ow 246 952:=aJ b8 eN ar (a:=k9) ck rfl
def H1007:Ow 213 1007:=aJ b8 eN ar (a:=C8) ck rfl
def H1032:Ow 279 1032:=aJ b8 eN ar (a:=mW) ck rfl
def H1081:Ow 258 1081:=aJ b8 eN ar (a:=sf) ck rfl
def H1100:Ow 308 1100:=aJ b8 eN ar (a:=xr) ck rfl
def H1138:Ow 311 1138:=aJ b8 eN ar (a:=z8) ck rfl
def H1148:Ow 360 1148:=aJ b8 eN ar (a:=xE) ck rfl
end
end
section
section
variable [cG]
def H52:Ow 17 52:=aM rfl fun w c hp0=>au ar ck rfl (w52 aI G170 G186 w c hp0)
def H75:Ow 18 75:=aM rfl fun r hp0=>au ar ck rfl (w75 aI G73 G221 r hp0)
def H110:Ow 21 110:=OG rfl D110 fun g nm v most hp0 hp1=>B5 2 ar ck rfl rfl (w110 aI Kk G135 G296 G297 G298 g nm v most hp0 hp1)
def H138:Ow 36 138:=aM rfl fun e=>au ar ck rfl (w138 aI U9 e)
def H153:Ow 14 153:=aM rfl fun a b=>au ar ck rfl (w153 aI a b)
def H183:Ow 106 183:=aM rfl fun w l hp0=>au ar ck rfl (w183 aI G415 w l hp0)
def H211:Ow 236 211:=aM rfl fun r name rng hp0=>au ar ck rfl (w211 aI U7 G444 r name rng hp0)
def H219:Ow 84 219:=aM rfl fun r hp0=>au ar ck rfl (w219 aI G249 G316 G461 G462 r hp0)
def H266:Ow 27 266:=OG rfl D266 fun g l hp0 hp1=>B5 2 ar ck rfl rfl (w266 aI Kk G110 G111 G112 G503 G504 g l hp0 hp1)
def H274:Ow 78 274:=aM rfl fun s nm v hp0=>au ar ck rfl (w274 aI G353 G511 s nm v hp0)
def H316:Ow 127 316:=aM rfl fun v hp0=>au ar ck rfl (w316 aI Eb G554 v hp0)
def H355:Ow 73 355:=aM rfl fun x s=>au ar ck rfl (w355 aI x s)
def H361:Ow 59 361:=aM rfl fun l nm=>au ar ck rfl (w361 aI G359 l nm)
def H409:Ow 70 409:=aM rfl fun c n hp0=>au ar ck rfl (w409 aI G622 c n hp0)
def H440:Ow 113 440:=aM rfl fun n=>au ar ck rfl (w440 aI n)
def H453:Ow 136 453:=aM rfl fun c=>au ar ck rfl (w453 aI c)
def H460:Ow 141 460:=aM rfl fun r of hp0=>au ar ck rfl (w460 aI G672 G673 G674 r of hp0)
def H501:Ow 20 501:=aM rfl fun a b hp0=>au ar ck rfl (w501 aI Eb Vb a b hp0)
def H507:Ow 65 507:=aM rfl fun w c nm hp0=>au ar ck rfl (w507 aI w c nm hp0)
def H531:Ow 111 531:=aM rfl fun l=>au ar ck rfl (w531 aI l)
def H553:Ow 75 553:=aM rfl fun x hp0=>au ar ck rfl (w553 aI U7 Bx U9 x hp0)
def H600:Ow 253 600:=aM rfl fun v=>au ar ck rfl (w600 aI v)
def H627:Ow 158 627:=aM rfl fun s v hp0=>au ar ck rfl (w627 aI Eb G770 G782 s v hp0)
def H659:Ow 163 659:=aM rfl fun t=>au ar ck rfl (w659 aI t)
def H673:Ow 178 673:=aM rfl fun r x=>au ar ck rfl (w673 aI r x)
def H693:Ow 104 693:=aM rfl fun m al c hp0=>au ar ck rfl (w693 aI G184 G829 m al c hp0)
def H704:Ow 161 704:=aM rfl fun x=>au ar ck rfl (w704 aI x)
def H750:Ow 146 750:=aM rfl fun all l hp0=>au ar ck rfl (w750 aI G903 all l hp0)
def H770:Ow 197 770:=aM rfl fun s hp0=>au ar ck rfl (w770 aI G916 G917 s hp0)
def H812:Ow 208 812:=aM rfl fun l al=>au ar ck rfl (w812 aI G357 G815 l al)
def H861:Ow 171 861:=aM rfl fun l v hp0=>au ar ck rfl (w861 aI G925 G980 l v hp0)
def H906:Ow 192 906:=aM rfl fun r e nm ft hp0=>au ar ck rfl (w906 aI G907 G908 ael r e nm ft hp0)
def H926:Ow 232 926:=aM rfl fun s v hp0=>au ar ck rfl (w926 aI Eb U3 G1025 s v hp0)
def H1013:Ow 227 1013:=aM rfl fun shop ps nm hp0=>au ar ck rfl (w1013 aI G1083 G1084 shop ps nm hp0)
def H1024:Ow 234 1024:=aM rfl fun a b hp0=>au ar ck rfl (w1024 aI U8 G532 U6 a b hp0)
def H1086:Ow 292 1086:=aM rfl fun c hp0=>au ar ck rfl (w1086 aI Eb c hp0)
def H212:Ow 237 212:=aJ b8 eN ar (a:=qZ) ck rfl
def H379:Ow 221 379:=aJ b8 eN ar (a:=uM) ck rfl
def H449:Ow 274 449:=aJ b8 eN ar (a:=qS) ck rfl
def H598:Ow 290 598:=aJ b8 eN ar (a:=xz) ck rfl
def H660:Ow 296 660:=aJ b8 eN ar (a:=oE) ck rfl
def H672:Ow 177 672:=aJ b8 eN ar (a:=xu) ck rfl
def H685:Ow 319 685:=aJ b8 eN ar (a:=Aj) ck rfl
def H808:Ow 321 808:=aJ b8 eN ar (a:=mR) ck rfl
def H819:Ow 336 819:=aJ b8 eN ar (a:=zk) ck rfl
def H899:Ow 183 899:=aJ b8 eN ar (a:=Dc) ck rfl
def H919:Ow 313 919:=aJ b8 eN ar (a:=zZ) ck rfl
def H949:Ow 352 949:=aJ b8 eN ar (a:=oC) ck rfl
def H956:Ow 361 956:=aJ b8 eN ar (a:=ux) ck rfl
def H1011:Ow 225 1011:=aJ b8 eN ar (a:=FG) ck rfl
def H1035:Ow 282 1035:=aJ b8 eN ar (a:=xq) ck rfl
def H1097:Ow 305 1097:=aJ b8 eN ar (a:=n6) ck rfl
def H1122:Ow 291 1122:=aJ b8 eN ar (a:=C2) ck rfl
def H1144:Ow 332 1144:=aJ b8 eN ar (a:=Ac) ck rfl
end
end
end Go.Abs
