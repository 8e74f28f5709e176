/- A part of the proofs. -/
import Derived.Test.YtkmlboofmolbaaaGreatDoorP09
set_option linter.all false
set_option maxRecDepth 60000
set_option maxHeartbeats 2000000
section
set_option maxRecDepth 10000
namespace Go.Abs
def ahI:jd (cb 212 [.str []])=true:=by decide+kernel
def ahJ:jd (cb 212 [.str [111,115,32,61,32,108,105,110,117,120]])=true:=by decide+kernel
def ahK:jd (cb 212 [.str [111,115,32,33,61,32,108,105,110,117,120]])=true:=by decide+kernel
def ev212 {s:au}(h:og s):cb 212 [.str s]=some (.bool (xp s)):=by
 simp only[og,L2,bG,cU,or_false]at h;rcases h with rfl|rfl|rfl
 .exact dM aV ahI
 .exact dM aV ahJ
 .exact dM aV ahK
def air:jd (cb 670 [.str []])=true:=by decide+kernel
def ais:jd (cb 670 [.str [111,115,32,61,32,108,105,110,117,120]])=true:=by decide+kernel
def ait:jd (cb 670 [.str [111,115,32,33,61,32,108,105,110,117,120]])=true:=by decide+kernel
def ev670 {s:au}(h:og s):cb 670 [.str s]=some (.bool (xp s)):=by
 simp only[og,L2,bG,cU,or_false]at h;rcases h with rfl|rfl|rfl
 .exact dM aV air
 .exact dM aV ais
 .exact dM aV ait
def ah3:rv (bK [63,111]) (cb 448 [.str [63,111]])=true:=by decide+kernel
def ah4:rv (bK [97,110,116,47,102]) (cb 448 [.str [97,110,116,47,102]])=true:=by decide+kernel
def ah5:rv (bK [98,101,101,47,102]) (cb 448 [.str [98,101,101,47,102]])=true:=by decide+kernel
def ah6:rv (bK [99,111,119,47,102]) (cb 448 [.str [99,111,119,47,102]])=true:=by decide+kernel
def ah7:rv (bK [100,111,103,47,102]) (cb 448 [.str [100,111,103,47,102]])=true:=by decide+kernel
def ev448 {s:au}(h:ry s):cb 448 [.str s]=some (.tup [.int .i64 (bK s).1,.str (bK s).2.1,.str (bK s).2.2]):=by
 simp only[ry,T2,bG,cU,or_false]at h;rcases h with rfl|rfl|rfl|rfl|rfl
 .exact jT ah3
 .exact jT ah4
 .exact jT ah5
 .exact jT ah6
 .exact jT ah7
def aiu:rv (bK [63,111]) (cb 672 [.str [63,111]])=true:=by decide+kernel
def aiv:rv (bK [97,110,116,47,102]) (cb 672 [.str [97,110,116,47,102]])=true:=by decide+kernel
def aiw:rv (bK [98,101,101,47,102]) (cb 672 [.str [98,101,101,47,102]])=true:=by decide+kernel
def aix:rv (bK [99,111,119,47,102]) (cb 672 [.str [99,111,119,47,102]])=true:=by decide+kernel
def aiy:rv (bK [100,111,103,47,102]) (cb 672 [.str [100,111,103,47,102]])=true:=by decide+kernel
def ev672 {s:au}(h:ry s):cb 672 [.str s]=some (.tup [.int .i64 (bK s).1,.str (bK s).2.1,.str (bK s).2.2]):=by
 simp only[ry,T2,bG,cU,or_false]at h;rcases h with rfl|rfl|rfl|rfl|rfl
 .exact jT aiu
 .exact jT aiv
 .exact jT aiw
 .exact jT aix
 .exact jT aiy
end Go.Abs
end
section
set_option maxRecDepth 10000
namespace Go.Abs
def ahV:jd (cb 444 [.str [42]])=true:=by decide+kernel
def ahW:jd (cb 444 [.str [94,49,46,48,46,48]])=true:=by decide+kernel
def ahX:jd (cb 444 [.str [61,49,46,50,46,48]])=true:=by decide+kernel
def ahY:jd (cb 444 [.str [62,61,49,46,50,46,48]])=true:=by decide+kernel
def ahZ:jd (cb 444 [.str [60,50,46,48,46,48]])=true:=by decide+kernel
def ah0:jd (cb 444 [.str [94,50,46,48,46,48,45,97,46,49]])=true:=by decide+kernel
def ah1:jd (cb 444 [.str [61,49,46,48,46,48,32,124,124,32,61,50,46,48,46,48]])=true:=by decide+kernel
def ah2:jd (cb 444 [.str [33,61,49,46,50,46,48]])=true:=by decide+kernel
def ev444 {s:au}(h:jX s):cb 444 [.str s]=some (.bool (qP s)):=by
 simp only[jX,kd,bG,cU,or_false]at h;rcases h with rfl|rfl|rfl|rfl|rfl|rfl|rfl|rfl
 .exact dM aV ahV
 .exact dM aV ahW
 .exact dM aV ahX
 .exact dM aV ahY
 .exact dM aV ahZ
 .exact dM aV ah0
 .exact dM aV ah1
 .exact dM aV ah2
end Go.Abs
end
section
set_option maxRecDepth 10000
namespace Go.Abs
def aij:jd (cb 572 [.str [42]])=true:=by decide+kernel
def aik:jd (cb 572 [.str [94,49,46,48,46,48]])=true:=by decide+kernel
def ail:jd (cb 572 [.str [61,49,46,50,46,48]])=true:=by decide+kernel
def aim:jd (cb 572 [.str [62,61,49,46,50,46,48]])=true:=by decide+kernel
def ain:jd (cb 572 [.str [60,50,46,48,46,48]])=true:=by decide+kernel
def aio:jd (cb 572 [.str [94,50,46,48,46,48,45,97,46,49]])=true:=by decide+kernel
def aip:jd (cb 572 [.str [61,49,46,48,46,48,32,124,124,32,61,50,46,48,46,48]])=true:=by decide+kernel
def aiq:jd (cb 572 [.str [33,61,49,46,50,46,48]])=true:=by decide+kernel
def ev572 {s:au}(h:jX s):cb 572 [.str s]=some (.bool (qP s)):=by
 simp only[jX,kd,bG,cU,or_false]at h;rcases h with rfl|rfl|rfl|rfl|rfl|rfl|rfl|rfl
 .exact dM aV aij
 .exact dM aV aik
 .exact dM aV ail
 .exact dM aV aim
 .exact dM aV ain
 .exact dM aV aio
 .exact dM aV aip
 .exact dM aV aiq
end Go.Abs
end
section
set_option maxRecDepth 10000
namespace Go.Abs
def ahL:fL (ek []) (cb 213 [.sl 2 (([]:List b6).map b6.D)])=true:=by decide+kernel
def ahM:fL (ek [⟨[102],[]⟩]) (cb 213 [.sl 2 (([⟨[102],[]⟩]:List b6).map b6.D)])=true:=by decide+kernel
def ahN:fL (ek [⟨[102],[[63,111]]⟩]) (cb 213 [.sl 2 (([⟨[102],[[63,111]]⟩]:List b6).map b6.D)])=true:=by decide+kernel
def ahO:fL (ek [⟨[102],[[97,110,116,47,102]]⟩]) (cb 213 [.sl 2 (([⟨[102],[[97,110,116,47,102]]⟩]:List b6).map b6.D)])=true:=by decide+kernel
def ahP:fL (ek [⟨[102],[[98,101,101,47,102]]⟩]) (cb 213 [.sl 2 (([⟨[102],[[98,101,101,47,102]]⟩]:List b6).map b6.D)])=true:=by decide+kernel
def ahQ:fL (ek [⟨[102],[[99,111,119,47,102]]⟩]) (cb 213 [.sl 2 (([⟨[102],[[99,111,119,47,102]]⟩]:List b6).map b6.D)])=true:=by decide+kernel
def ahR:fL (ek [⟨[102],[[100,111,103,47,102]]⟩]) (cb 213 [.sl 2 (([⟨[102],[[100,111,103,47,102]]⟩]:List b6).map b6.D)])=true:=by decide+kernel
def ahS:fL (ek [⟨[102],[[63,111],[97,110,116,47,102]]⟩]) (cb 213 [.sl 2 (([⟨[102],[[63,111],[97,110,116,47,102]]⟩]:List b6).map b6.D)])=true:=by decide+kernel
def ahT:fL (ek [⟨[102],[[63,111],[98,101,101,47,102]]⟩]) (cb 213 [.sl 2 (([⟨[102],[[63,111],[98,101,101,47,102]]⟩]:List b6).map b6.D)])=true:=by decide+kernel
def ahU:fL (ek [⟨[102],[[63,111],[99,111,119,47,102]]⟩]) (cb 213 [.sl 2 (([⟨[102],[[63,111],[99,111,119,47,102]]⟩]:List b6).map b6.D)])=true:=by decide+kernel
def acU:fL (ek [⟨[102],[[63,111],[100,111,103,47,102]]⟩]) (cb 213 [.sl 2 (([⟨[102],[[63,111],[100,111,103,47,102]]⟩]:List b6).map b6.D)])=true:=by decide+kernel
def ev213 {l:List b6}(h:jv l):cb 213 [.sl 2 (l.map b6.D)]=some (.bool (ek l)):=by
 simp only[jv,Cb,ofL,List.map_cons,List.map_nil,bG,cU,or_false]at h;rcases h with rfl|rfl|rfl|rfl|rfl|rfl|rfl|rfl|rfl|rfl|rfl
 .exact cz ahL
 .exact cz ahM
 .exact cz ahN
 .exact cz ahO
 .exact cz ahP
 .exact cz ahQ
 .exact cz ahR
 .exact cz ahS
 .exact cz ahT
 .exact cz ahU
 .exact cz acU
def ah8:fL (ek []) (cb 459 [.sl 2 (([]:List b6).map b6.D)])=true:=by decide+kernel
def ah9:fL (ek [⟨[102],[]⟩]) (cb 459 [.sl 2 (([⟨[102],[]⟩]:List b6).map b6.D)])=true:=by decide+kernel
def aia:fL (ek [⟨[102],[[63,111]]⟩]) (cb 459 [.sl 2 (([⟨[102],[[63,111]]⟩]:List b6).map b6.D)])=true:=by decide+kernel
def aib:fL (ek [⟨[102],[[97,110,116,47,102]]⟩]) (cb 459 [.sl 2 (([⟨[102],[[97,110,116,47,102]]⟩]:List b6).map b6.D)])=true:=by decide+kernel
def aic:fL (ek [⟨[102],[[98,101,101,47,102]]⟩]) (cb 459 [.sl 2 (([⟨[102],[[98,101,101,47,102]]⟩]:List b6).map b6.D)])=true:=by decide+kernel
def aid:fL (ek [⟨[102],[[99,111,119,47,102]]⟩]) (cb 459 [.sl 2 (([⟨[102],[[99,111,119,47,102]]⟩]:List b6).map b6.D)])=true:=by decide+kernel
def aie:fL (ek [⟨[102],[[100,111,103,47,102]]⟩]) (cb 459 [.sl 2 (([⟨[102],[[100,111,103,47,102]]⟩]:List b6).map b6.D)])=true:=by decide+kernel
def aif:fL (ek [⟨[102],[[63,111],[97,110,116,47,102]]⟩]) (cb 459 [.sl 2 (([⟨[102],[[63,111],[97,110,116,47,102]]⟩]:List b6).map b6.D)])=true:=by decide+kernel
def aih:fL (ek [⟨[102],[[63,111],[98,101,101,47,102]]⟩]) (cb 459 [.sl 2 (([⟨[102],[[63,111],[98,101,101,47,102]]⟩]:List b6).map b6.D)])=true:=by decide+kernel
def aii:fL (ek [⟨[102],[[63,111],[99,111,119,47,102]]⟩]) (cb 459 [.sl 2 (([⟨[102],[[63,111],[99,111,119,47,102]]⟩]:List b6).map b6.D)])=true:=by decide+kernel
def acV:fL (ek [⟨[102],[[63,111],[100,111,103,47,102]]⟩]) (cb 459 [.sl 2 (([⟨[102],[[63,111],[100,111,103,47,102]]⟩]:List b6).map b6.D)])=true:=by decide+kernel
def ev459 {l:List b6}(h:jv l):cb 459 [.sl 2 (l.map b6.D)]=some (.bool (ek l)):=by
 simp only[jv,Cb,ofL,List.map_cons,List.map_nil,bG,cU,or_false]at h;rcases h with rfl|rfl|rfl|rfl|rfl|rfl|rfl|rfl|rfl|rfl|rfl
 .exact cz ah8
 .exact cz ah9
 .exact cz aia
 .exact cz aib
 .exact cz aic
 .exact cz aid
 .exact cz aie
 .exact cz aif
 .exact cz aih
 .exact cz aii
 .exact cz acV
end Go.Abs
end
