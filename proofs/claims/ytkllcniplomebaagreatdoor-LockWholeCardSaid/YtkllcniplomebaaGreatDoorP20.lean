/- A part of the proofs. -/
import Derived.Test.YtkllcniplomebaaGreatDoorP09
set_option linter.all false
set_option maxRecDepth 60000
set_option maxHeartbeats 2000000
section
set_option maxRecDepth 10000
namespace Go.Abs
def aic:iW (b9 212 [.str []])=true:=by decide+kernel
def aid:iW (b9 212 [.str [111,115,32,61,32,108,105,110,117,120]])=true:=by decide+kernel
def aie:iW (b9 212 [.str [111,115,32,33,61,32,108,105,110,117,120]])=true:=by decide+kernel
def ev212 {s:av}(h:oR s):b9 212 [.str s]=some (.bool (xm s)):=by
 simp only[oR,Mw,bU,de,or_false]at h;rcases h with rfl|rfl|rfl
 .exact dJ a7 aic
 .exact dJ a7 aid
 .exact dJ a7 aie
def aiV:iW (b9 670 [.str []])=true:=by decide+kernel
def aiW:iW (b9 670 [.str [111,115,32,61,32,108,105,110,117,120]])=true:=by decide+kernel
def aiX:iW (b9 670 [.str [111,115,32,33,61,32,108,105,110,117,120]])=true:=by decide+kernel
def ev670 {s:av}(h:oR s):b9 670 [.str s]=some (.bool (xm s)):=by
 simp only[oR,Mw,bU,de,or_false]at h;rcases h with rfl|rfl|rfl
 .exact dJ a7 aiV
 .exact dJ a7 aiW
 .exact dJ a7 aiX
def aiy:rJ (bK [63,111]) (b9 448 [.str [63,111]])=true:=by decide+kernel
def aiz:rJ (bK [97,110,116,47,102]) (b9 448 [.str [97,110,116,47,102]])=true:=by decide+kernel
def aiA:rJ (bK [98,101,101,47,102]) (b9 448 [.str [98,101,101,47,102]])=true:=by decide+kernel
def aiB:rJ (bK [99,111,119,47,102]) (b9 448 [.str [99,111,119,47,102]])=true:=by decide+kernel
def aiC:rJ (bK [100,111,103,47,102]) (b9 448 [.str [100,111,103,47,102]])=true:=by decide+kernel
def ev448 {s:av}(h:rK s):b9 448 [.str s]=some (.tup [.int .i64 (bK s).1,.str (bK s).2.1,.str (bK s).2.2]):=by
 simp only[rK,Uj,bU,de,or_false]at h;rcases h with rfl|rfl|rfl|rfl|rfl
 .exact jM aiy
 .exact jM aiz
 .exact jM aiA
 .exact jM aiB
 .exact jM aiC
def aiY:rJ (bK [63,111]) (b9 672 [.str [63,111]])=true:=by decide+kernel
def aiZ:rJ (bK [97,110,116,47,102]) (b9 672 [.str [97,110,116,47,102]])=true:=by decide+kernel
def ai0:rJ (bK [98,101,101,47,102]) (b9 672 [.str [98,101,101,47,102]])=true:=by decide+kernel
def ai1:rJ (bK [99,111,119,47,102]) (b9 672 [.str [99,111,119,47,102]])=true:=by decide+kernel
def ai2:rJ (bK [100,111,103,47,102]) (b9 672 [.str [100,111,103,47,102]])=true:=by decide+kernel
def ev672 {s:av}(h:rK s):b9 672 [.str s]=some (.tup [.int .i64 (bK s).1,.str (bK s).2.1,.str (bK s).2.2]):=by
 simp only[rK,Uj,bU,de,or_false]at h;rcases h with rfl|rfl|rfl|rfl|rfl
 .exact jM aiY
 .exact jM aiZ
 .exact jM ai0
 .exact jM ai1
 .exact jM ai2
end Go.Abs
end
section
set_option maxRecDepth 10000
namespace Go.Abs
def aiq:iW (b9 444 [.str [42]])=true:=by decide+kernel
def air:iW (b9 444 [.str [94,49,46,48,46,48]])=true:=by decide+kernel
def ais:iW (b9 444 [.str [61,49,46,50,46,48]])=true:=by decide+kernel
def ait:iW (b9 444 [.str [62,61,49,46,50,46,48]])=true:=by decide+kernel
def aiu:iW (b9 444 [.str [60,50,46,48,46,48]])=true:=by decide+kernel
def aiv:iW (b9 444 [.str [94,50,46,48,46,48,45,97,46,49]])=true:=by decide+kernel
def aiw:iW (b9 444 [.str [61,49,46,48,46,48,32,124,124,32,61,50,46,48,46,48]])=true:=by decide+kernel
def aix:iW (b9 444 [.str [33,61,49,46,50,46,48]])=true:=by decide+kernel
def ev444 {s:av}(h:kj s):b9 444 [.str s]=some (.bool (qW s)):=by
 simp only[kj,j4,bU,de,or_false]at h;rcases h with rfl|rfl|rfl|rfl|rfl|rfl|rfl|rfl
 .exact dJ a7 aiq
 .exact dJ a7 air
 .exact dJ a7 ais
 .exact dJ a7 ait
 .exact dJ a7 aiu
 .exact dJ a7 aiv
 .exact dJ a7 aiw
 .exact dJ a7 aix
end Go.Abs
end
section
set_option maxRecDepth 10000
namespace Go.Abs
def aiN:iW (b9 572 [.str [42]])=true:=by decide+kernel
def aiO:iW (b9 572 [.str [94,49,46,48,46,48]])=true:=by decide+kernel
def aiP:iW (b9 572 [.str [61,49,46,50,46,48]])=true:=by decide+kernel
def aiQ:iW (b9 572 [.str [62,61,49,46,50,46,48]])=true:=by decide+kernel
def aiR:iW (b9 572 [.str [60,50,46,48,46,48]])=true:=by decide+kernel
def aiS:iW (b9 572 [.str [94,50,46,48,46,48,45,97,46,49]])=true:=by decide+kernel
def aiT:iW (b9 572 [.str [61,49,46,48,46,48,32,124,124,32,61,50,46,48,46,48]])=true:=by decide+kernel
def aiU:iW (b9 572 [.str [33,61,49,46,50,46,48]])=true:=by decide+kernel
def ev572 {s:av}(h:kj s):b9 572 [.str s]=some (.bool (qW s)):=by
 simp only[kj,j4,bU,de,or_false]at h;rcases h with rfl|rfl|rfl|rfl|rfl|rfl|rfl|rfl
 .exact dJ a7 aiN
 .exact dJ a7 aiO
 .exact dJ a7 aiP
 .exact dJ a7 aiQ
 .exact dJ a7 aiR
 .exact dJ a7 aiS
 .exact dJ a7 aiT
 .exact dJ a7 aiU
end Go.Abs
end
section
set_option maxRecDepth 10000
namespace Go.Abs
def aif:fJ (ep []) (b9 213 [.sl 2 (([]:List bY).map bY.D)])=true:=by decide+kernel
def aih:fJ (ep [⟨[102],[]⟩]) (b9 213 [.sl 2 (([⟨[102],[]⟩]:List bY).map bY.D)])=true:=by decide+kernel
def aii:fJ (ep [⟨[102],[[63,111]]⟩]) (b9 213 [.sl 2 (([⟨[102],[[63,111]]⟩]:List bY).map bY.D)])=true:=by decide+kernel
def aij:fJ (ep [⟨[102],[[97,110,116,47,102]]⟩]) (b9 213 [.sl 2 (([⟨[102],[[97,110,116,47,102]]⟩]:List bY).map bY.D)])=true:=by decide+kernel
def aik:fJ (ep [⟨[102],[[98,101,101,47,102]]⟩]) (b9 213 [.sl 2 (([⟨[102],[[98,101,101,47,102]]⟩]:List bY).map bY.D)])=true:=by decide+kernel
def ail:fJ (ep [⟨[102],[[99,111,119,47,102]]⟩]) (b9 213 [.sl 2 (([⟨[102],[[99,111,119,47,102]]⟩]:List bY).map bY.D)])=true:=by decide+kernel
def aim:fJ (ep [⟨[102],[[100,111,103,47,102]]⟩]) (b9 213 [.sl 2 (([⟨[102],[[100,111,103,47,102]]⟩]:List bY).map bY.D)])=true:=by decide+kernel
def ain:fJ (ep [⟨[102],[[63,111],[97,110,116,47,102]]⟩]) (b9 213 [.sl 2 (([⟨[102],[[63,111],[97,110,116,47,102]]⟩]:List bY).map bY.D)])=true:=by decide+kernel
def aio:fJ (ep [⟨[102],[[63,111],[98,101,101,47,102]]⟩]) (b9 213 [.sl 2 (([⟨[102],[[63,111],[98,101,101,47,102]]⟩]:List bY).map bY.D)])=true:=by decide+kernel
def aip:fJ (ep [⟨[102],[[63,111],[99,111,119,47,102]]⟩]) (b9 213 [.sl 2 (([⟨[102],[[63,111],[99,111,119,47,102]]⟩]:List bY).map bY.D)])=true:=by decide+kernel
def ada:fJ (ep [⟨[102],[[63,111],[100,111,103,47,102]]⟩]) (b9 213 [.sl 2 (([⟨[102],[[63,111],[100,111,103,47,102]]⟩]:List bY).map bY.D)])=true:=by decide+kernel
def ev213 {l:List bY}(h:jn l):b9 213 [.sl 2 (l.map bY.D)]=some (.bool (ep l)):=by
 simp only[jn,Cv,ofL,List.map_cons,List.map_nil,bU,de,or_false]at h;rcases h with rfl|rfl|rfl|rfl|rfl|rfl|rfl|rfl|rfl|rfl|rfl
 .exact cv aif
 .exact cv aih
 .exact cv aii
 .exact cv aij
 .exact cv aik
 .exact cv ail
 .exact cv aim
 .exact cv ain
 .exact cv aio
 .exact cv aip
 .exact cv ada
def aiD:fJ (ep []) (b9 459 [.sl 2 (([]:List bY).map bY.D)])=true:=by decide+kernel
def aiE:fJ (ep [⟨[102],[]⟩]) (b9 459 [.sl 2 (([⟨[102],[]⟩]:List bY).map bY.D)])=true:=by decide+kernel
def aiF:fJ (ep [⟨[102],[[63,111]]⟩]) (b9 459 [.sl 2 (([⟨[102],[[63,111]]⟩]:List bY).map bY.D)])=true:=by decide+kernel
def aiG:fJ (ep [⟨[102],[[97,110,116,47,102]]⟩]) (b9 459 [.sl 2 (([⟨[102],[[97,110,116,47,102]]⟩]:List bY).map bY.D)])=true:=by decide+kernel
def aiH:fJ (ep [⟨[102],[[98,101,101,47,102]]⟩]) (b9 459 [.sl 2 (([⟨[102],[[98,101,101,47,102]]⟩]:List bY).map bY.D)])=true:=by decide+kernel
def aiI:fJ (ep [⟨[102],[[99,111,119,47,102]]⟩]) (b9 459 [.sl 2 (([⟨[102],[[99,111,119,47,102]]⟩]:List bY).map bY.D)])=true:=by decide+kernel
def aiJ:fJ (ep [⟨[102],[[100,111,103,47,102]]⟩]) (b9 459 [.sl 2 (([⟨[102],[[100,111,103,47,102]]⟩]:List bY).map bY.D)])=true:=by decide+kernel
def aiK:fJ (ep [⟨[102],[[63,111],[97,110,116,47,102]]⟩]) (b9 459 [.sl 2 (([⟨[102],[[63,111],[97,110,116,47,102]]⟩]:List bY).map bY.D)])=true:=by decide+kernel
def aiL:fJ (ep [⟨[102],[[63,111],[98,101,101,47,102]]⟩]) (b9 459 [.sl 2 (([⟨[102],[[63,111],[98,101,101,47,102]]⟩]:List bY).map bY.D)])=true:=by decide+kernel
def aiM:fJ (ep [⟨[102],[[63,111],[99,111,119,47,102]]⟩]) (b9 459 [.sl 2 (([⟨[102],[[63,111],[99,111,119,47,102]]⟩]:List bY).map bY.D)])=true:=by decide+kernel
def adb:fJ (ep [⟨[102],[[63,111],[100,111,103,47,102]]⟩]) (b9 459 [.sl 2 (([⟨[102],[[63,111],[100,111,103,47,102]]⟩]:List bY).map bY.D)])=true:=by decide+kernel
def ev459 {l:List bY}(h:jn l):b9 459 [.sl 2 (l.map bY.D)]=some (.bool (ep l)):=by
 simp only[jn,Cv,ofL,List.map_cons,List.map_nil,bU,de,or_false]at h;rcases h with rfl|rfl|rfl|rfl|rfl|rfl|rfl|rfl|rfl|rfl|rfl
 .exact cv aiD
 .exact cv aiE
 .exact cv aiF
 .exact cv aiG
 .exact cv aiH
 .exact cv aiI
 .exact cv aiJ
 .exact cv aiK
 .exact cv aiL
 .exact cv aiM
 .exact cv adb
end Go.Abs
end
