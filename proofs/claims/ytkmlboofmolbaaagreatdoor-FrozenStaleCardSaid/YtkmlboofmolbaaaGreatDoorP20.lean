/- A part of the proofs. -/
import Derived.Test.YtkmlboofmolbaaaGreatDoorP09
set_option linter.all false
set_option maxRecDepth 60000
set_option maxHeartbeats 2000000
section
set_option maxRecDepth 10000
namespace Go.Abs
def ahx:jb (cr 212 [.str []])=true:=by decide+kernel
def ahy:jb (cr 212 [.str [111,115,32,61,32,108,105,110,117,120]])=true:=by decide+kernel
def ahz:jb (cr 212 [.str [111,115,32,33,61,32,108,105,110,117,120]])=true:=by decide+kernel
def ev212 {s:au}(h:oW s):cr 212 [.str s]=some (.bool (xy s)):=by
 simp only[oW,LV,bL,cY,or_false]at h;rcases h with rfl|rfl|rfl
 .exact dM aU ahx
 .exact dM aU ahy
 .exact dM aU ahz
def aif:jb (cr 670 [.str []])=true:=by decide+kernel
def aih:jb (cr 670 [.str [111,115,32,61,32,108,105,110,117,120]])=true:=by decide+kernel
def aii:jb (cr 670 [.str [111,115,32,33,61,32,108,105,110,117,120]])=true:=by decide+kernel
def ev670 {s:au}(h:oW s):cr 670 [.str s]=some (.bool (xy s)):=by
 simp only[oW,LV,bL,cY,or_false]at h;rcases h with rfl|rfl|rfl
 .exact dM aU aif
 .exact dM aU aih
 .exact dM aU aii
def ahS:rB (bP [63,111]) (cr 448 [.str [63,111]])=true:=by decide+kernel
def ahT:rB (bP [97,110,116,47,102]) (cr 448 [.str [97,110,116,47,102]])=true:=by decide+kernel
def ahU:rB (bP [98,101,101,47,102]) (cr 448 [.str [98,101,101,47,102]])=true:=by decide+kernel
def ahV:rB (bP [99,111,119,47,102]) (cr 448 [.str [99,111,119,47,102]])=true:=by decide+kernel
def ahW:rB (bP [100,111,103,47,102]) (cr 448 [.str [100,111,103,47,102]])=true:=by decide+kernel
def ev448 {s:au}(h:rC s):cr 448 [.str s]=some (.tup [.int .i64 (bP s).1,.str (bP s).2.1,.str (bP s).2.2]):=by
 simp only[rC,TR,bL,cY,or_false]at h;rcases h with rfl|rfl|rfl|rfl|rfl
 .exact jT ahS
 .exact jT ahT
 .exact jT ahU
 .exact jT ahV
 .exact jT ahW
def aij:rB (bP [63,111]) (cr 672 [.str [63,111]])=true:=by decide+kernel
def aik:rB (bP [97,110,116,47,102]) (cr 672 [.str [97,110,116,47,102]])=true:=by decide+kernel
def ail:rB (bP [98,101,101,47,102]) (cr 672 [.str [98,101,101,47,102]])=true:=by decide+kernel
def aim:rB (bP [99,111,119,47,102]) (cr 672 [.str [99,111,119,47,102]])=true:=by decide+kernel
def ain:rB (bP [100,111,103,47,102]) (cr 672 [.str [100,111,103,47,102]])=true:=by decide+kernel
def ev672 {s:au}(h:rC s):cr 672 [.str s]=some (.tup [.int .i64 (bP s).1,.str (bP s).2.1,.str (bP s).2.2]):=by
 simp only[rC,TR,bL,cY,or_false]at h;rcases h with rfl|rfl|rfl|rfl|rfl
 .exact jT aij
 .exact jT aik
 .exact jT ail
 .exact jT aim
 .exact jT ain
end Go.Abs
end
section
set_option maxRecDepth 10000
namespace Go.Abs
def ahK:jb (cr 444 [.str [42]])=true:=by decide+kernel
def ahL:jb (cr 444 [.str [94,49,46,48,46,48]])=true:=by decide+kernel
def ahM:jb (cr 444 [.str [61,49,46,50,46,48]])=true:=by decide+kernel
def ahN:jb (cr 444 [.str [62,61,49,46,50,46,48]])=true:=by decide+kernel
def ahO:jb (cr 444 [.str [60,50,46,48,46,48]])=true:=by decide+kernel
def ahP:jb (cr 444 [.str [94,50,46,48,46,48,45,97,46,49]])=true:=by decide+kernel
def ahQ:jb (cr 444 [.str [61,49,46,48,46,48,32,124,124,32,61,50,46,48,46,48]])=true:=by decide+kernel
def ahR:jb (cr 444 [.str [33,61,49,46,50,46,48]])=true:=by decide+kernel
def ev444 {s:au}(h:kA s):cr 444 [.str s]=some (.bool (qV s)):=by
 simp only[kA,kf,bL,cY,or_false]at h;rcases h with rfl|rfl|rfl|rfl|rfl|rfl|rfl|rfl
 .exact dM aU ahK
 .exact dM aU ahL
 .exact dM aU ahM
 .exact dM aU ahN
 .exact dM aU ahO
 .exact dM aU ahP
 .exact dM aU ahQ
 .exact dM aU ahR
end Go.Abs
end
section
set_option maxRecDepth 10000
namespace Go.Abs
def ah7:jb (cr 572 [.str [42]])=true:=by decide+kernel
def ah8:jb (cr 572 [.str [94,49,46,48,46,48]])=true:=by decide+kernel
def ah9:jb (cr 572 [.str [61,49,46,50,46,48]])=true:=by decide+kernel
def aia:jb (cr 572 [.str [62,61,49,46,50,46,48]])=true:=by decide+kernel
def aib:jb (cr 572 [.str [60,50,46,48,46,48]])=true:=by decide+kernel
def aic:jb (cr 572 [.str [94,50,46,48,46,48,45,97,46,49]])=true:=by decide+kernel
def aid:jb (cr 572 [.str [61,49,46,48,46,48,32,124,124,32,61,50,46,48,46,48]])=true:=by decide+kernel
def aie:jb (cr 572 [.str [33,61,49,46,50,46,48]])=true:=by decide+kernel
def ev572 {s:au}(h:kA s):cr 572 [.str s]=some (.bool (qV s)):=by
 simp only[kA,kf,bL,cY,or_false]at h;rcases h with rfl|rfl|rfl|rfl|rfl|rfl|rfl|rfl
 .exact dM aU ah7
 .exact dM aU ah8
 .exact dM aU ah9
 .exact dM aU aia
 .exact dM aU aib
 .exact dM aU aic
 .exact dM aU aid
 .exact dM aU aie
end Go.Abs
end
section
set_option maxRecDepth 10000
namespace Go.Abs
def ahA:fN (ek []) (cr 213 [.sl 2 (([]:List cn).map cn.D)])=true:=by decide+kernel
def ahB:fN (ek [⟨[102],[]⟩]) (cr 213 [.sl 2 (([⟨[102],[]⟩]:List cn).map cn.D)])=true:=by decide+kernel
def ahC:fN (ek [⟨[102],[[63,111]]⟩]) (cr 213 [.sl 2 (([⟨[102],[[63,111]]⟩]:List cn).map cn.D)])=true:=by decide+kernel
def ahD:fN (ek [⟨[102],[[97,110,116,47,102]]⟩]) (cr 213 [.sl 2 (([⟨[102],[[97,110,116,47,102]]⟩]:List cn).map cn.D)])=true:=by decide+kernel
def ahE:fN (ek [⟨[102],[[98,101,101,47,102]]⟩]) (cr 213 [.sl 2 (([⟨[102],[[98,101,101,47,102]]⟩]:List cn).map cn.D)])=true:=by decide+kernel
def ahF:fN (ek [⟨[102],[[99,111,119,47,102]]⟩]) (cr 213 [.sl 2 (([⟨[102],[[99,111,119,47,102]]⟩]:List cn).map cn.D)])=true:=by decide+kernel
def ahG:fN (ek [⟨[102],[[100,111,103,47,102]]⟩]) (cr 213 [.sl 2 (([⟨[102],[[100,111,103,47,102]]⟩]:List cn).map cn.D)])=true:=by decide+kernel
def ahH:fN (ek [⟨[102],[[63,111],[97,110,116,47,102]]⟩]) (cr 213 [.sl 2 (([⟨[102],[[63,111],[97,110,116,47,102]]⟩]:List cn).map cn.D)])=true:=by decide+kernel
def ahI:fN (ek [⟨[102],[[63,111],[98,101,101,47,102]]⟩]) (cr 213 [.sl 2 (([⟨[102],[[63,111],[98,101,101,47,102]]⟩]:List cn).map cn.D)])=true:=by decide+kernel
def ahJ:fN (ek [⟨[102],[[63,111],[99,111,119,47,102]]⟩]) (cr 213 [.sl 2 (([⟨[102],[[63,111],[99,111,119,47,102]]⟩]:List cn).map cn.D)])=true:=by decide+kernel
def acH:fN (ek [⟨[102],[[63,111],[100,111,103,47,102]]⟩]) (cr 213 [.sl 2 (([⟨[102],[[63,111],[100,111,103,47,102]]⟩]:List cn).map cn.D)])=true:=by decide+kernel
def ev213 {l:List cn}(h:ju l):cr 213 [.sl 2 (l.map cn.D)]=some (.bool (ek l)):=by
 simp only[ju,Ce,ofL,List.map_cons,List.map_nil,bL,cY,or_false]at h;rcases h with rfl|rfl|rfl|rfl|rfl|rfl|rfl|rfl|rfl|rfl|rfl
 .exact cD ahA
 .exact cD ahB
 .exact cD ahC
 .exact cD ahD
 .exact cD ahE
 .exact cD ahF
 .exact cD ahG
 .exact cD ahH
 .exact cD ahI
 .exact cD ahJ
 .exact cD acH
def ahX:fN (ek []) (cr 459 [.sl 2 (([]:List cn).map cn.D)])=true:=by decide+kernel
def ahY:fN (ek [⟨[102],[]⟩]) (cr 459 [.sl 2 (([⟨[102],[]⟩]:List cn).map cn.D)])=true:=by decide+kernel
def ahZ:fN (ek [⟨[102],[[63,111]]⟩]) (cr 459 [.sl 2 (([⟨[102],[[63,111]]⟩]:List cn).map cn.D)])=true:=by decide+kernel
def ah0:fN (ek [⟨[102],[[97,110,116,47,102]]⟩]) (cr 459 [.sl 2 (([⟨[102],[[97,110,116,47,102]]⟩]:List cn).map cn.D)])=true:=by decide+kernel
def ah1:fN (ek [⟨[102],[[98,101,101,47,102]]⟩]) (cr 459 [.sl 2 (([⟨[102],[[98,101,101,47,102]]⟩]:List cn).map cn.D)])=true:=by decide+kernel
def ah2:fN (ek [⟨[102],[[99,111,119,47,102]]⟩]) (cr 459 [.sl 2 (([⟨[102],[[99,111,119,47,102]]⟩]:List cn).map cn.D)])=true:=by decide+kernel
def ah3:fN (ek [⟨[102],[[100,111,103,47,102]]⟩]) (cr 459 [.sl 2 (([⟨[102],[[100,111,103,47,102]]⟩]:List cn).map cn.D)])=true:=by decide+kernel
def ah4:fN (ek [⟨[102],[[63,111],[97,110,116,47,102]]⟩]) (cr 459 [.sl 2 (([⟨[102],[[63,111],[97,110,116,47,102]]⟩]:List cn).map cn.D)])=true:=by decide+kernel
def ah5:fN (ek [⟨[102],[[63,111],[98,101,101,47,102]]⟩]) (cr 459 [.sl 2 (([⟨[102],[[63,111],[98,101,101,47,102]]⟩]:List cn).map cn.D)])=true:=by decide+kernel
def ah6:fN (ek [⟨[102],[[63,111],[99,111,119,47,102]]⟩]) (cr 459 [.sl 2 (([⟨[102],[[63,111],[99,111,119,47,102]]⟩]:List cn).map cn.D)])=true:=by decide+kernel
def acI:fN (ek [⟨[102],[[63,111],[100,111,103,47,102]]⟩]) (cr 459 [.sl 2 (([⟨[102],[[63,111],[100,111,103,47,102]]⟩]:List cn).map cn.D)])=true:=by decide+kernel
def ev459 {l:List cn}(h:ju l):cr 459 [.sl 2 (l.map cn.D)]=some (.bool (ek l)):=by
 simp only[ju,Ce,ofL,List.map_cons,List.map_nil,bL,cY,or_false]at h;rcases h with rfl|rfl|rfl|rfl|rfl|rfl|rfl|rfl|rfl|rfl|rfl
 .exact cD ahX
 .exact cD ahY
 .exact cD ahZ
 .exact cD ah0
 .exact cD ah1
 .exact cD ah2
 .exact cD ah3
 .exact cD ah4
 .exact cD ah5
 .exact cD ah6
 .exact cD acI
end Go.Abs
end
