/- A part of the proofs. -/
import Derived.Test.YtkmlboofmolbaaaGreatDoorP09
set_option linter.all false
set_option maxRecDepth 60000
set_option maxHeartbeats 2000000
section
set_option maxRecDepth 10000
namespace Go.Abs
def agR:iQ (ca 212 [.str []])=true:=by decide+kernel
def agS:iQ (ca 212 [.str [111,115,32,61,32,108,105,110,117,120]])=true:=by decide+kernel
def agT:iQ (ca 212 [.str [111,115,32,33,61,32,108,105,110,117,120]])=true:=by decide+kernel
def ev212 {s:av}(h:oG s):ca 212 [.str s]=some (.bool (wQ s)):=by
 simp only[oG,Ls,bF,cP,or_false]at h;rcases h with rfl|rfl|rfl
 .exact dF aU agR
 .exact dF aU agS
 .exact dF aU agT
def ahz:iQ (ca 670 [.str []])=true:=by decide+kernel
def ahA:iQ (ca 670 [.str [111,115,32,61,32,108,105,110,117,120]])=true:=by decide+kernel
def ahB:iQ (ca 670 [.str [111,115,32,33,61,32,108,105,110,117,120]])=true:=by decide+kernel
def ev670 {s:av}(h:oG s):ca 670 [.str s]=some (.bool (wQ s)):=by
 simp only[oG,Ls,bF,cP,or_false]at h;rcases h with rfl|rfl|rfl
 .exact dF aU ahz
 .exact dF aU ahA
 .exact dF aU ahB
def ahc:qV (bI [63,111]) (ca 448 [.str [63,111]])=true:=by decide+kernel
def ahd:qV (bI [97,110,116,47,102]) (ca 448 [.str [97,110,116,47,102]])=true:=by decide+kernel
def ahe:qV (bI [98,101,101,47,102]) (ca 448 [.str [98,101,101,47,102]])=true:=by decide+kernel
def ahf:qV (bI [99,111,119,47,102]) (ca 448 [.str [99,111,119,47,102]])=true:=by decide+kernel
def ahg:qV (bI [100,111,103,47,102]) (ca 448 [.str [100,111,103,47,102]])=true:=by decide+kernel
def ev448 {s:av}(h:qW s):ca 448 [.str s]=some (.tup [.int .i64 (bI s).1,.str (bI s).2.1,.str (bI s).2.2]):=by
 simp only[qW,To,bF,cP,or_false]at h;rcases h with rfl|rfl|rfl|rfl|rfl
 .exact jG ahc
 .exact jG ahd
 .exact jG ahe
 .exact jG ahf
 .exact jG ahg
def ahC:qV (bI [63,111]) (ca 672 [.str [63,111]])=true:=by decide+kernel
def ahD:qV (bI [97,110,116,47,102]) (ca 672 [.str [97,110,116,47,102]])=true:=by decide+kernel
def ahE:qV (bI [98,101,101,47,102]) (ca 672 [.str [98,101,101,47,102]])=true:=by decide+kernel
def ahF:qV (bI [99,111,119,47,102]) (ca 672 [.str [99,111,119,47,102]])=true:=by decide+kernel
def ahG:qV (bI [100,111,103,47,102]) (ca 672 [.str [100,111,103,47,102]])=true:=by decide+kernel
def ev672 {s:av}(h:qW s):ca 672 [.str s]=some (.tup [.int .i64 (bI s).1,.str (bI s).2.1,.str (bI s).2.2]):=by
 simp only[qW,To,bF,cP,or_false]at h;rcases h with rfl|rfl|rfl|rfl|rfl
 .exact jG ahC
 .exact jG ahD
 .exact jG ahE
 .exact jG ahF
 .exact jG ahG
end Go.Abs
end
section
set_option maxRecDepth 10000
namespace Go.Abs
def ag4:iQ (ca 444 [.str [42]])=true:=by decide+kernel
def ag5:iQ (ca 444 [.str [94,49,46,48,46,48]])=true:=by decide+kernel
def ag6:iQ (ca 444 [.str [61,49,46,50,46,48]])=true:=by decide+kernel
def ag7:iQ (ca 444 [.str [62,61,49,46,50,46,48]])=true:=by decide+kernel
def ag8:iQ (ca 444 [.str [60,50,46,48,46,48]])=true:=by decide+kernel
def ag9:iQ (ca 444 [.str [94,50,46,48,46,48,45,97,46,49]])=true:=by decide+kernel
def aha:iQ (ca 444 [.str [61,49,46,48,46,48,32,124,124,32,61,50,46,48,46,48]])=true:=by decide+kernel
def ahb:iQ (ca 444 [.str [33,61,49,46,50,46,48]])=true:=by decide+kernel
def ev444 {s:av}(h:j9 s):ca 444 [.str s]=some (.bool (qz s)):=by
 simp only[j9,j0,bF,cP,or_false]at h;rcases h with rfl|rfl|rfl|rfl|rfl|rfl|rfl|rfl
 .exact dF aU ag4
 .exact dF aU ag5
 .exact dF aU ag6
 .exact dF aU ag7
 .exact dF aU ag8
 .exact dF aU ag9
 .exact dF aU aha
 .exact dF aU ahb
end Go.Abs
end
section
set_option maxRecDepth 10000
namespace Go.Abs
def ahr:iQ (ca 572 [.str [42]])=true:=by decide+kernel
def ahs:iQ (ca 572 [.str [94,49,46,48,46,48]])=true:=by decide+kernel
def aht:iQ (ca 572 [.str [61,49,46,50,46,48]])=true:=by decide+kernel
def ahu:iQ (ca 572 [.str [62,61,49,46,50,46,48]])=true:=by decide+kernel
def ahv:iQ (ca 572 [.str [60,50,46,48,46,48]])=true:=by decide+kernel
def ahw:iQ (ca 572 [.str [94,50,46,48,46,48,45,97,46,49]])=true:=by decide+kernel
def ahx:iQ (ca 572 [.str [61,49,46,48,46,48,32,124,124,32,61,50,46,48,46,48]])=true:=by decide+kernel
def ahy:iQ (ca 572 [.str [33,61,49,46,50,46,48]])=true:=by decide+kernel
def ev572 {s:av}(h:j9 s):ca 572 [.str s]=some (.bool (qz s)):=by
 simp only[j9,j0,bF,cP,or_false]at h;rcases h with rfl|rfl|rfl|rfl|rfl|rfl|rfl|rfl
 .exact dF aU ahr
 .exact dF aU ahs
 .exact dF aU aht
 .exact dF aU ahu
 .exact dF aU ahv
 .exact dF aU ahw
 .exact dF aU ahx
 .exact dF aU ahy
end Go.Abs
end
section
set_option maxRecDepth 10000
namespace Go.Abs
def agU:fF (dZ []) (ca 213 [.sl 2 (([]:List b6).map b6.D)])=true:=by decide+kernel
def agV:fF (dZ [⟨[102],[]⟩]) (ca 213 [.sl 2 (([⟨[102],[]⟩]:List b6).map b6.D)])=true:=by decide+kernel
def agW:fF (dZ [⟨[102],[[63,111]]⟩]) (ca 213 [.sl 2 (([⟨[102],[[63,111]]⟩]:List b6).map b6.D)])=true:=by decide+kernel
def agX:fF (dZ [⟨[102],[[97,110,116,47,102]]⟩]) (ca 213 [.sl 2 (([⟨[102],[[97,110,116,47,102]]⟩]:List b6).map b6.D)])=true:=by decide+kernel
def agY:fF (dZ [⟨[102],[[98,101,101,47,102]]⟩]) (ca 213 [.sl 2 (([⟨[102],[[98,101,101,47,102]]⟩]:List b6).map b6.D)])=true:=by decide+kernel
def agZ:fF (dZ [⟨[102],[[99,111,119,47,102]]⟩]) (ca 213 [.sl 2 (([⟨[102],[[99,111,119,47,102]]⟩]:List b6).map b6.D)])=true:=by decide+kernel
def ag0:fF (dZ [⟨[102],[[100,111,103,47,102]]⟩]) (ca 213 [.sl 2 (([⟨[102],[[100,111,103,47,102]]⟩]:List b6).map b6.D)])=true:=by decide+kernel
def ag1:fF (dZ [⟨[102],[[63,111],[97,110,116,47,102]]⟩]) (ca 213 [.sl 2 (([⟨[102],[[63,111],[97,110,116,47,102]]⟩]:List b6).map b6.D)])=true:=by decide+kernel
def ag2:fF (dZ [⟨[102],[[63,111],[98,101,101,47,102]]⟩]) (ca 213 [.sl 2 (([⟨[102],[[63,111],[98,101,101,47,102]]⟩]:List b6).map b6.D)])=true:=by decide+kernel
def ag3:fF (dZ [⟨[102],[[63,111],[99,111,119,47,102]]⟩]) (ca 213 [.sl 2 (([⟨[102],[[63,111],[99,111,119,47,102]]⟩]:List b6).map b6.D)])=true:=by decide+kernel
def abZ:fF (dZ [⟨[102],[[63,111],[100,111,103,47,102]]⟩]) (ca 213 [.sl 2 (([⟨[102],[[63,111],[100,111,103,47,102]]⟩]:List b6).map b6.D)])=true:=by decide+kernel
def ev213 {l:List b6}(h:jh l):ca 213 [.sl 2 (l.map b6.D)]=some (.bool (dZ l)):=by
 simp only[jh,BO,ofL,List.map_cons,List.map_nil,bF,cP,or_false]at h;rcases h with rfl|rfl|rfl|rfl|rfl|rfl|rfl|rfl|rfl|rfl|rfl
 .exact cu agU
 .exact cu agV
 .exact cu agW
 .exact cu agX
 .exact cu agY
 .exact cu agZ
 .exact cu ag0
 .exact cu ag1
 .exact cu ag2
 .exact cu ag3
 .exact cu abZ
def ahh:fF (dZ []) (ca 459 [.sl 2 (([]:List b6).map b6.D)])=true:=by decide+kernel
def ahi:fF (dZ [⟨[102],[]⟩]) (ca 459 [.sl 2 (([⟨[102],[]⟩]:List b6).map b6.D)])=true:=by decide+kernel
def ahj:fF (dZ [⟨[102],[[63,111]]⟩]) (ca 459 [.sl 2 (([⟨[102],[[63,111]]⟩]:List b6).map b6.D)])=true:=by decide+kernel
def ahk:fF (dZ [⟨[102],[[97,110,116,47,102]]⟩]) (ca 459 [.sl 2 (([⟨[102],[[97,110,116,47,102]]⟩]:List b6).map b6.D)])=true:=by decide+kernel
def ahl:fF (dZ [⟨[102],[[98,101,101,47,102]]⟩]) (ca 459 [.sl 2 (([⟨[102],[[98,101,101,47,102]]⟩]:List b6).map b6.D)])=true:=by decide+kernel
def ahm:fF (dZ [⟨[102],[[99,111,119,47,102]]⟩]) (ca 459 [.sl 2 (([⟨[102],[[99,111,119,47,102]]⟩]:List b6).map b6.D)])=true:=by decide+kernel
def ahn:fF (dZ [⟨[102],[[100,111,103,47,102]]⟩]) (ca 459 [.sl 2 (([⟨[102],[[100,111,103,47,102]]⟩]:List b6).map b6.D)])=true:=by decide+kernel
def aho:fF (dZ [⟨[102],[[63,111],[97,110,116,47,102]]⟩]) (ca 459 [.sl 2 (([⟨[102],[[63,111],[97,110,116,47,102]]⟩]:List b6).map b6.D)])=true:=by decide+kernel
def ahp:fF (dZ [⟨[102],[[63,111],[98,101,101,47,102]]⟩]) (ca 459 [.sl 2 (([⟨[102],[[63,111],[98,101,101,47,102]]⟩]:List b6).map b6.D)])=true:=by decide+kernel
def ahq:fF (dZ [⟨[102],[[63,111],[99,111,119,47,102]]⟩]) (ca 459 [.sl 2 (([⟨[102],[[63,111],[99,111,119,47,102]]⟩]:List b6).map b6.D)])=true:=by decide+kernel
def ab0:fF (dZ [⟨[102],[[63,111],[100,111,103,47,102]]⟩]) (ca 459 [.sl 2 (([⟨[102],[[63,111],[100,111,103,47,102]]⟩]:List b6).map b6.D)])=true:=by decide+kernel
def ev459 {l:List b6}(h:jh l):ca 459 [.sl 2 (l.map b6.D)]=some (.bool (dZ l)):=by
 simp only[jh,BO,ofL,List.map_cons,List.map_nil,bF,cP,or_false]at h;rcases h with rfl|rfl|rfl|rfl|rfl|rfl|rfl|rfl|rfl|rfl|rfl
 .exact cu ahh
 .exact cu ahi
 .exact cu ahj
 .exact cu ahk
 .exact cu ahl
 .exact cu ahm
 .exact cu ahn
 .exact cu aho
 .exact cu ahp
 .exact cu ahq
 .exact cu ab0
end Go.Abs
end
