/- A part of the proofs. -/
import Derived.Test.YtgdpmljblomcfaaGreatDoorP04
set_option linter.all false
set_option maxRecDepth 60000
set_option maxHeartbeats 2000000
section
set_option maxRecDepth 10000
namespace Go.Abs
def ag9:iW (cn 212 [.str []])=true:=by decide+kernel
def aha:iW (cn 212 [.str [111,115,32,61,32,108,105,110,117,120]])=true:=by decide+kernel
def ahb:iW (cn 212 [.str [111,115,32,33,61,32,108,105,110,117,120]])=true:=by decide+kernel
def ev212 {s:av}(h:oQ s):cn 212 [.str s]=some (.bool (xy s)):=by
 simp only[oQ,Ly,b9,cV,or_false]at h;rcases h with rfl|rfl|rfl
 .exact dM aT ag9
 .exact dM aT aha
 .exact dM aT ahb
def ahR:iW (cn 670 [.str []])=true:=by decide+kernel
def ahS:iW (cn 670 [.str [111,115,32,61,32,108,105,110,117,120]])=true:=by decide+kernel
def ahT:iW (cn 670 [.str [111,115,32,33,61,32,108,105,110,117,120]])=true:=by decide+kernel
def ev670 {s:av}(h:oQ s):cn 670 [.str s]=some (.bool (xy s)):=by
 simp only[oQ,Ly,b9,cV,or_false]at h;rcases h with rfl|rfl|rfl
 .exact dM aT ahR
 .exact dM aT ahS
 .exact dM aT ahT
def ahu:rq (bL [63,111]) (cn 448 [.str [63,111]])=true:=by decide+kernel
def ahv:rq (bL [97,110,116,47,102]) (cn 448 [.str [97,110,116,47,102]])=true:=by decide+kernel
def ahw:rq (bL [98,101,101,47,102]) (cn 448 [.str [98,101,101,47,102]])=true:=by decide+kernel
def ahx:rq (bL [99,111,119,47,102]) (cn 448 [.str [99,111,119,47,102]])=true:=by decide+kernel
def ahy:rq (bL [100,111,103,47,102]) (cn 448 [.str [100,111,103,47,102]])=true:=by decide+kernel
def ev448 {s:av}(h:rr s):cn 448 [.str s]=some (.tup [.int .i64 (bL s).1,.str (bL s).2.1,.str (bL s).2.2]):=by
 simp only[rr,Ty,b9,cV,or_false]at h;rcases h with rfl|rfl|rfl|rfl|rfl
 .exact jL ahu
 .exact jL ahv
 .exact jL ahw
 .exact jL ahx
 .exact jL ahy
def ahU:rq (bL [63,111]) (cn 672 [.str [63,111]])=true:=by decide+kernel
def ahV:rq (bL [97,110,116,47,102]) (cn 672 [.str [97,110,116,47,102]])=true:=by decide+kernel
def ahW:rq (bL [98,101,101,47,102]) (cn 672 [.str [98,101,101,47,102]])=true:=by decide+kernel
def ahX:rq (bL [99,111,119,47,102]) (cn 672 [.str [99,111,119,47,102]])=true:=by decide+kernel
def ahY:rq (bL [100,111,103,47,102]) (cn 672 [.str [100,111,103,47,102]])=true:=by decide+kernel
def ev672 {s:av}(h:rr s):cn 672 [.str s]=some (.tup [.int .i64 (bL s).1,.str (bL s).2.1,.str (bL s).2.2]):=by
 simp only[rr,Ty,b9,cV,or_false]at h;rcases h with rfl|rfl|rfl|rfl|rfl
 .exact jL ahU
 .exact jL ahV
 .exact jL ahW
 .exact jL ahX
 .exact jL ahY
end Go.Abs
end
section
set_option maxRecDepth 10000
namespace Go.Abs
def ahm:iW (cn 444 [.str [42]])=true:=by decide+kernel
def ahn:iW (cn 444 [.str [94,49,46,48,46,48]])=true:=by decide+kernel
def aho:iW (cn 444 [.str [61,49,46,50,46,48]])=true:=by decide+kernel
def ahp:iW (cn 444 [.str [62,61,49,46,50,46,48]])=true:=by decide+kernel
def ahq:iW (cn 444 [.str [60,50,46,48,46,48]])=true:=by decide+kernel
def ahr:iW (cn 444 [.str [94,50,46,48,46,48,45,97,46,49]])=true:=by decide+kernel
def ahs:iW (cn 444 [.str [61,49,46,48,46,48,32,124,124,32,61,50,46,48,46,48]])=true:=by decide+kernel
def aht:iW (cn 444 [.str [33,61,49,46,50,46,48]])=true:=by decide+kernel
def ev444 {s:av}(h:ki s):cn 444 [.str s]=some (.bool (qN s)):=by
 simp only[ki,j2,b9,cV,or_false]at h;rcases h with rfl|rfl|rfl|rfl|rfl|rfl|rfl|rfl
 .exact dM aT ahm
 .exact dM aT ahn
 .exact dM aT aho
 .exact dM aT ahp
 .exact dM aT ahq
 .exact dM aT ahr
 .exact dM aT ahs
 .exact dM aT aht
end Go.Abs
end
section
set_option maxRecDepth 10000
namespace Go.Abs
def ahJ:iW (cn 572 [.str [42]])=true:=by decide+kernel
def ahK:iW (cn 572 [.str [94,49,46,48,46,48]])=true:=by decide+kernel
def ahL:iW (cn 572 [.str [61,49,46,50,46,48]])=true:=by decide+kernel
def ahM:iW (cn 572 [.str [62,61,49,46,50,46,48]])=true:=by decide+kernel
def ahN:iW (cn 572 [.str [60,50,46,48,46,48]])=true:=by decide+kernel
def ahO:iW (cn 572 [.str [94,50,46,48,46,48,45,97,46,49]])=true:=by decide+kernel
def ahP:iW (cn 572 [.str [61,49,46,48,46,48,32,124,124,32,61,50,46,48,46,48]])=true:=by decide+kernel
def ahQ:iW (cn 572 [.str [33,61,49,46,50,46,48]])=true:=by decide+kernel
def ev572 {s:av}(h:ki s):cn 572 [.str s]=some (.bool (qN s)):=by
 simp only[ki,j2,b9,cV,or_false]at h;rcases h with rfl|rfl|rfl|rfl|rfl|rfl|rfl|rfl
 .exact dM aT ahJ
 .exact dM aT ahK
 .exact dM aT ahL
 .exact dM aT ahM
 .exact dM aT ahN
 .exact dM aT ahO
 .exact dM aT ahP
 .exact dM aT ahQ
end Go.Abs
end
section
set_option maxRecDepth 10000
namespace Go.Abs
def ahc:fA (ee []) (cn 213 [.sl 2 (([]:List ch).map ch.D)])=true:=by decide+kernel
def ahd:fA (ee [⟨[102],[]⟩]) (cn 213 [.sl 2 (([⟨[102],[]⟩]:List ch).map ch.D)])=true:=by decide+kernel
def ahe:fA (ee [⟨[102],[[63,111]]⟩]) (cn 213 [.sl 2 (([⟨[102],[[63,111]]⟩]:List ch).map ch.D)])=true:=by decide+kernel
def ahf:fA (ee [⟨[102],[[97,110,116,47,102]]⟩]) (cn 213 [.sl 2 (([⟨[102],[[97,110,116,47,102]]⟩]:List ch).map ch.D)])=true:=by decide+kernel
def ahg:fA (ee [⟨[102],[[98,101,101,47,102]]⟩]) (cn 213 [.sl 2 (([⟨[102],[[98,101,101,47,102]]⟩]:List ch).map ch.D)])=true:=by decide+kernel
def ahh:fA (ee [⟨[102],[[99,111,119,47,102]]⟩]) (cn 213 [.sl 2 (([⟨[102],[[99,111,119,47,102]]⟩]:List ch).map ch.D)])=true:=by decide+kernel
def ahi:fA (ee [⟨[102],[[100,111,103,47,102]]⟩]) (cn 213 [.sl 2 (([⟨[102],[[100,111,103,47,102]]⟩]:List ch).map ch.D)])=true:=by decide+kernel
def ahj:fA (ee [⟨[102],[[63,111],[97,110,116,47,102]]⟩]) (cn 213 [.sl 2 (([⟨[102],[[63,111],[97,110,116,47,102]]⟩]:List ch).map ch.D)])=true:=by decide+kernel
def ahk:fA (ee [⟨[102],[[63,111],[98,101,101,47,102]]⟩]) (cn 213 [.sl 2 (([⟨[102],[[63,111],[98,101,101,47,102]]⟩]:List ch).map ch.D)])=true:=by decide+kernel
def ahl:fA (ee [⟨[102],[[63,111],[99,111,119,47,102]]⟩]) (cn 213 [.sl 2 (([⟨[102],[[63,111],[99,111,119,47,102]]⟩]:List ch).map ch.D)])=true:=by decide+kernel
def ab6:fA (ee [⟨[102],[[63,111],[100,111,103,47,102]]⟩]) (cn 213 [.sl 2 (([⟨[102],[[63,111],[100,111,103,47,102]]⟩]:List ch).map ch.D)])=true:=by decide+kernel
def ev213 {l:List ch}(h:jm l):cn 213 [.sl 2 (l.map ch.D)]=some (.bool (ee l)):=by
 simp only[jm,Cd,ofL,List.map_cons,List.map_nil,b9,cV,or_false]at h;rcases h with rfl|rfl|rfl|rfl|rfl|rfl|rfl|rfl|rfl|rfl|rfl
 .exact cA ahc
 .exact cA ahd
 .exact cA ahe
 .exact cA ahf
 .exact cA ahg
 .exact cA ahh
 .exact cA ahi
 .exact cA ahj
 .exact cA ahk
 .exact cA ahl
 .exact cA ab6
def ahz:fA (ee []) (cn 459 [.sl 2 (([]:List ch).map ch.D)])=true:=by decide+kernel
def ahA:fA (ee [⟨[102],[]⟩]) (cn 459 [.sl 2 (([⟨[102],[]⟩]:List ch).map ch.D)])=true:=by decide+kernel
def ahB:fA (ee [⟨[102],[[63,111]]⟩]) (cn 459 [.sl 2 (([⟨[102],[[63,111]]⟩]:List ch).map ch.D)])=true:=by decide+kernel
def ahC:fA (ee [⟨[102],[[97,110,116,47,102]]⟩]) (cn 459 [.sl 2 (([⟨[102],[[97,110,116,47,102]]⟩]:List ch).map ch.D)])=true:=by decide+kernel
def ahD:fA (ee [⟨[102],[[98,101,101,47,102]]⟩]) (cn 459 [.sl 2 (([⟨[102],[[98,101,101,47,102]]⟩]:List ch).map ch.D)])=true:=by decide+kernel
def ahE:fA (ee [⟨[102],[[99,111,119,47,102]]⟩]) (cn 459 [.sl 2 (([⟨[102],[[99,111,119,47,102]]⟩]:List ch).map ch.D)])=true:=by decide+kernel
def ahF:fA (ee [⟨[102],[[100,111,103,47,102]]⟩]) (cn 459 [.sl 2 (([⟨[102],[[100,111,103,47,102]]⟩]:List ch).map ch.D)])=true:=by decide+kernel
def ahG:fA (ee [⟨[102],[[63,111],[97,110,116,47,102]]⟩]) (cn 459 [.sl 2 (([⟨[102],[[63,111],[97,110,116,47,102]]⟩]:List ch).map ch.D)])=true:=by decide+kernel
def ahH:fA (ee [⟨[102],[[63,111],[98,101,101,47,102]]⟩]) (cn 459 [.sl 2 (([⟨[102],[[63,111],[98,101,101,47,102]]⟩]:List ch).map ch.D)])=true:=by decide+kernel
def ahI:fA (ee [⟨[102],[[63,111],[99,111,119,47,102]]⟩]) (cn 459 [.sl 2 (([⟨[102],[[63,111],[99,111,119,47,102]]⟩]:List ch).map ch.D)])=true:=by decide+kernel
def ab7:fA (ee [⟨[102],[[63,111],[100,111,103,47,102]]⟩]) (cn 459 [.sl 2 (([⟨[102],[[63,111],[100,111,103,47,102]]⟩]:List ch).map ch.D)])=true:=by decide+kernel
def ev459 {l:List ch}(h:jm l):cn 459 [.sl 2 (l.map ch.D)]=some (.bool (ee l)):=by
 simp only[jm,Cd,ofL,List.map_cons,List.map_nil,b9,cV,or_false]at h;rcases h with rfl|rfl|rfl|rfl|rfl|rfl|rfl|rfl|rfl|rfl|rfl
 .exact cA ahz
 .exact cA ahA
 .exact cA ahB
 .exact cA ahC
 .exact cA ahD
 .exact cA ahE
 .exact cA ahF
 .exact cA ahG
 .exact cA ahH
 .exact cA ahI
 .exact cA ab7
end Go.Abs
end
