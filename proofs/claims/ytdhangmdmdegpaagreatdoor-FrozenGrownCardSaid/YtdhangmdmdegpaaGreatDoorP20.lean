/- A part of the proofs. -/
import Derived.Test.YtdhangmdmdegpaaGreatDoorP09
set_option linter.all false
set_option maxRecDepth 60000
set_option maxHeartbeats 2000000
section
set_option maxRecDepth 10000
namespace Go.Abs
def ai1:jd (cn 212 [.str []])=true:=by decide+kernel
def ai2:jd (cn 212 [.str [111,115,32,61,32,108,105,110,117,120]])=true:=by decide+kernel
def ai3:jd (cn 212 [.str [111,115,32,33,61,32,108,105,110,117,120]])=true:=by decide+kernel
def ev212 {s:aw}(h:pD s):cn 212 [.str s]=some (.bool (xW s)):=by
 simp only[pD,MR,bH,cX,or_false]at h;rcases h with rfl|rfl|rfl
 .exact dU aX ai1
 .exact dU aX ai2
 .exact dU aX ai3
def ajJ:jd (cn 670 [.str []])=true:=by decide+kernel
def ajK:jd (cn 670 [.str [111,115,32,61,32,108,105,110,117,120]])=true:=by decide+kernel
def ajL:jd (cn 670 [.str [111,115,32,33,61,32,108,105,110,117,120]])=true:=by decide+kernel
def ev670 {s:aw}(h:pD s):cn 670 [.str s]=some (.bool (xW s)):=by
 simp only[pD,MR,bH,cX,or_false]at h;rcases h with rfl|rfl|rfl
 .exact dU aX ajJ
 .exact dU aX ajK
 .exact dU aX ajL
def ajm:rR (bN [63,111]) (cn 448 [.str [63,111]])=true:=by decide+kernel
def ajn:rR (bN [97,110,116,47,102]) (cn 448 [.str [97,110,116,47,102]])=true:=by decide+kernel
def ajo:rR (bN [98,101,101,47,102]) (cn 448 [.str [98,101,101,47,102]])=true:=by decide+kernel
def ajp:rR (bN [99,111,119,47,102]) (cn 448 [.str [99,111,119,47,102]])=true:=by decide+kernel
def ajq:rR (bN [100,111,103,47,102]) (cn 448 [.str [100,111,103,47,102]])=true:=by decide+kernel
def ev448 {s:aw}(h:rS s):cn 448 [.str s]=some (.tup [.int .i64 (bN s).1,.str (bN s).2.1,.str (bN s).2.2]):=by
 simp only[rS,Vc,bH,cX,or_false]at h;rcases h with rfl|rfl|rfl|rfl|rfl
 .exact jX ajm
 .exact jX ajn
 .exact jX ajo
 .exact jX ajp
 .exact jX ajq
def ajM:rR (bN [63,111]) (cn 672 [.str [63,111]])=true:=by decide+kernel
def ajN:rR (bN [97,110,116,47,102]) (cn 672 [.str [97,110,116,47,102]])=true:=by decide+kernel
def ajO:rR (bN [98,101,101,47,102]) (cn 672 [.str [98,101,101,47,102]])=true:=by decide+kernel
def ajP:rR (bN [99,111,119,47,102]) (cn 672 [.str [99,111,119,47,102]])=true:=by decide+kernel
def ajQ:rR (bN [100,111,103,47,102]) (cn 672 [.str [100,111,103,47,102]])=true:=by decide+kernel
def ev672 {s:aw}(h:rS s):cn 672 [.str s]=some (.tup [.int .i64 (bN s).1,.str (bN s).2.1,.str (bN s).2.2]):=by
 simp only[rS,Vc,bH,cX,or_false]at h;rcases h with rfl|rfl|rfl|rfl|rfl
 .exact jX ajM
 .exact jX ajN
 .exact jX ajO
 .exact jX ajP
 .exact jX ajQ
end Go.Abs
end
section
set_option maxRecDepth 10000
namespace Go.Abs
def aje:jd (cn 444 [.str [42]])=true:=by decide+kernel
def ajf:jd (cn 444 [.str [94,49,46,48,46,48]])=true:=by decide+kernel
def ajg:jd (cn 444 [.str [61,49,46,50,46,48]])=true:=by decide+kernel
def ajh:jd (cn 444 [.str [62,61,49,46,50,46,48]])=true:=by decide+kernel
def aji:jd (cn 444 [.str [60,50,46,48,46,48]])=true:=by decide+kernel
def ajj:jd (cn 444 [.str [94,50,46,48,46,48,45,97,46,49]])=true:=by decide+kernel
def ajk:jd (cn 444 [.str [61,49,46,48,46,48,32,124,124,32,61,50,46,48,46,48]])=true:=by decide+kernel
def ajl:jd (cn 444 [.str [33,61,49,46,50,46,48]])=true:=by decide+kernel
def ev444 {s:aw}(h:kI s):cn 444 [.str s]=some (.bool (rm s)):=by
 simp only[kI,kr,bH,cX,or_false]at h;rcases h with rfl|rfl|rfl|rfl|rfl|rfl|rfl|rfl
 .exact dU aX aje
 .exact dU aX ajf
 .exact dU aX ajg
 .exact dU aX ajh
 .exact dU aX aji
 .exact dU aX ajj
 .exact dU aX ajk
 .exact dU aX ajl
end Go.Abs
end
section
set_option maxRecDepth 10000
namespace Go.Abs
def ajB:jd (cn 572 [.str [42]])=true:=by decide+kernel
def ajC:jd (cn 572 [.str [94,49,46,48,46,48]])=true:=by decide+kernel
def ajD:jd (cn 572 [.str [61,49,46,50,46,48]])=true:=by decide+kernel
def ajE:jd (cn 572 [.str [62,61,49,46,50,46,48]])=true:=by decide+kernel
def ajF:jd (cn 572 [.str [60,50,46,48,46,48]])=true:=by decide+kernel
def ajG:jd (cn 572 [.str [94,50,46,48,46,48,45,97,46,49]])=true:=by decide+kernel
def ajH:jd (cn 572 [.str [61,49,46,48,46,48,32,124,124,32,61,50,46,48,46,48]])=true:=by decide+kernel
def ajI:jd (cn 572 [.str [33,61,49,46,50,46,48]])=true:=by decide+kernel
def ev572 {s:aw}(h:kI s):cn 572 [.str s]=some (.bool (rm s)):=by
 simp only[kI,kr,bH,cX,or_false]at h;rcases h with rfl|rfl|rfl|rfl|rfl|rfl|rfl|rfl
 .exact dU aX ajB
 .exact dU aX ajC
 .exact dU aX ajD
 .exact dU aX ajE
 .exact dU aX ajF
 .exact dU aX ajG
 .exact dU aX ajH
 .exact dU aX ajI
end Go.Abs
end
section
set_option maxRecDepth 10000
namespace Go.Abs
def ai4:fR (eC []) (cn 213 [.sl 2 (([]:γ).map b7.D)])=true:=by decide+kernel
def ai5:fR (eC [⟨[102],[]⟩]) (cn 213 [.sl 2 (([⟨[102],[]⟩]:γ).map b7.D)])=true:=by decide+kernel
def ai6:fR (eC [⟨[102],[[63,111]]⟩]) (cn 213 [.sl 2 (([⟨[102],[[63,111]]⟩]:γ).map b7.D)])=true:=by decide+kernel
def ai7:fR (eC [⟨[102],[[97,110,116,47,102]]⟩]) (cn 213 [.sl 2 (([⟨[102],[[97,110,116,47,102]]⟩]:γ).map b7.D)])=true:=by decide+kernel
def ai8:fR (eC [⟨[102],[[98,101,101,47,102]]⟩]) (cn 213 [.sl 2 (([⟨[102],[[98,101,101,47,102]]⟩]:γ).map b7.D)])=true:=by decide+kernel
def ai9:fR (eC [⟨[102],[[99,111,119,47,102]]⟩]) (cn 213 [.sl 2 (([⟨[102],[[99,111,119,47,102]]⟩]:γ).map b7.D)])=true:=by decide+kernel
def aja:fR (eC [⟨[102],[[100,111,103,47,102]]⟩]) (cn 213 [.sl 2 (([⟨[102],[[100,111,103,47,102]]⟩]:γ).map b7.D)])=true:=by decide+kernel
def ajb:fR (eC [⟨[102],[[63,111],[97,110,116,47,102]]⟩]) (cn 213 [.sl 2 (([⟨[102],[[63,111],[97,110,116,47,102]]⟩]:γ).map b7.D)])=true:=by decide+kernel
def ajc:fR (eC [⟨[102],[[63,111],[98,101,101,47,102]]⟩]) (cn 213 [.sl 2 (([⟨[102],[[63,111],[98,101,101,47,102]]⟩]:γ).map b7.D)])=true:=by decide+kernel
def ajd:fR (eC [⟨[102],[[63,111],[99,111,119,47,102]]⟩]) (cn 213 [.sl 2 (([⟨[102],[[63,111],[99,111,119,47,102]]⟩]:γ).map b7.D)])=true:=by decide+kernel
def ad2:fR (eC [⟨[102],[[63,111],[100,111,103,47,102]]⟩]) (cn 213 [.sl 2 (([⟨[102],[[63,111],[100,111,103,47,102]]⟩]:γ).map b7.D)])=true:=by decide+kernel
def ev213 {l:γ}(h:jz l):cn 213 [.sl 2 (l.map b7.D)]=some (.bool (eC l)):=by
 simp only[jz,CT,ofL,List.map_cons,List.map_nil,bH,cX,or_false]at h;rcases h with rfl|rfl|rfl|rfl|rfl|rfl|rfl|rfl|rfl|rfl|rfl
 .exact cB ai4
 .exact cB ai5
 .exact cB ai6
 .exact cB ai7
 .exact cB ai8
 .exact cB ai9
 .exact cB aja
 .exact cB ajb
 .exact cB ajc
 .exact cB ajd
 .exact cB ad2
def ajr:fR (eC []) (cn 459 [.sl 2 (([]:γ).map b7.D)])=true:=by decide+kernel
def ajs:fR (eC [⟨[102],[]⟩]) (cn 459 [.sl 2 (([⟨[102],[]⟩]:γ).map b7.D)])=true:=by decide+kernel
def ajt:fR (eC [⟨[102],[[63,111]]⟩]) (cn 459 [.sl 2 (([⟨[102],[[63,111]]⟩]:γ).map b7.D)])=true:=by decide+kernel
def aju:fR (eC [⟨[102],[[97,110,116,47,102]]⟩]) (cn 459 [.sl 2 (([⟨[102],[[97,110,116,47,102]]⟩]:γ).map b7.D)])=true:=by decide+kernel
def ajv:fR (eC [⟨[102],[[98,101,101,47,102]]⟩]) (cn 459 [.sl 2 (([⟨[102],[[98,101,101,47,102]]⟩]:γ).map b7.D)])=true:=by decide+kernel
def ajw:fR (eC [⟨[102],[[99,111,119,47,102]]⟩]) (cn 459 [.sl 2 (([⟨[102],[[99,111,119,47,102]]⟩]:γ).map b7.D)])=true:=by decide+kernel
def ajx:fR (eC [⟨[102],[[100,111,103,47,102]]⟩]) (cn 459 [.sl 2 (([⟨[102],[[100,111,103,47,102]]⟩]:γ).map b7.D)])=true:=by decide+kernel
def ajy:fR (eC [⟨[102],[[63,111],[97,110,116,47,102]]⟩]) (cn 459 [.sl 2 (([⟨[102],[[63,111],[97,110,116,47,102]]⟩]:γ).map b7.D)])=true:=by decide+kernel
def ajz:fR (eC [⟨[102],[[63,111],[98,101,101,47,102]]⟩]) (cn 459 [.sl 2 (([⟨[102],[[63,111],[98,101,101,47,102]]⟩]:γ).map b7.D)])=true:=by decide+kernel
def ajA:fR (eC [⟨[102],[[63,111],[99,111,119,47,102]]⟩]) (cn 459 [.sl 2 (([⟨[102],[[63,111],[99,111,119,47,102]]⟩]:γ).map b7.D)])=true:=by decide+kernel
def ad3:fR (eC [⟨[102],[[63,111],[100,111,103,47,102]]⟩]) (cn 459 [.sl 2 (([⟨[102],[[63,111],[100,111,103,47,102]]⟩]:γ).map b7.D)])=true:=by decide+kernel
def ev459 {l:γ}(h:jz l):cn 459 [.sl 2 (l.map b7.D)]=some (.bool (eC l)):=by
 simp only[jz,CT,ofL,List.map_cons,List.map_nil,bH,cX,or_false]at h;rcases h with rfl|rfl|rfl|rfl|rfl|rfl|rfl|rfl|rfl|rfl|rfl
 .exact cB ajr
 .exact cB ajs
 .exact cB ajt
 .exact cB aju
 .exact cB ajv
 .exact cB ajw
 .exact cB ajx
 .exact cB ajy
 .exact cB ajz
 .exact cB ajA
 .exact cB ad3
end Go.Abs
end
