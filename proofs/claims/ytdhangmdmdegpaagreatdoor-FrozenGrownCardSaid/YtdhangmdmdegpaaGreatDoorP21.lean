/- A part of the proofs. -/
import Derived.Test.YtdhangmdmdegpaaGreatDoorP09
set_option linter.all false
set_option maxRecDepth 60000
set_option maxHeartbeats 2000000
section
set_option maxRecDepth 10000
namespace Go.Abs
def ajR:E2 (eY [42]) (cn 908 [.str [42]])=true:=by decide+kernel
def ajS:E2 (eY [94,49,46,48,46,48]) (cn 908 [.str [94,49,46,48,46,48]])=true:=by decide+kernel
def ajT:E2 (eY [61,49,46,50,46,48]) (cn 908 [.str [61,49,46,50,46,48]])=true:=by decide+kernel
def ajU:E2 (eY [62,61,49,46,50,46,48]) (cn 908 [.str [62,61,49,46,50,46,48]])=true:=by decide+kernel
def ajV:E2 (eY [60,50,46,48,46,48]) (cn 908 [.str [60,50,46,48,46,48]])=true:=by decide+kernel
def ajW:E2 (eY [94,50,46,48,46,48,45,97,46,49]) (cn 908 [.str [94,50,46,48,46,48,45,97,46,49]])=true:=by decide+kernel
def ajX:E2 (eY [61,49,46,48,46,48,32,124,124,32,61,50,46,48,46,48]) (cn 908 [.str [61,49,46,48,46,48,32,124,124,32,61,50,46,48,46,48]])=true:=by decide+kernel
def ajY:E2 (eY [33,61,49,46,50,46,48]) (cn 908 [.str [33,61,49,46,50,46,48]])=true:=by decide+kernel
def adM:vsZ (eY [42]) (cn 1011 [.str [42]])=true:=by decide+kernel
def adN:vsZ (eY [94,49,46,48,46,48]) (cn 1011 [.str [94,49,46,48,46,48]])=true:=by decide+kernel
def adO:vsZ (eY [61,49,46,50,46,48]) (cn 1011 [.str [61,49,46,50,46,48]])=true:=by decide+kernel
def adP:vsZ (eY [62,61,49,46,50,46,48]) (cn 1011 [.str [62,61,49,46,50,46,48]])=true:=by decide+kernel
def adQ:vsZ (eY [60,50,46,48,46,48]) (cn 1011 [.str [60,50,46,48,46,48]])=true:=by decide+kernel
def adR:vsZ (eY [94,50,46,48,46,48,45,97,46,49]) (cn 1011 [.str [94,50,46,48,46,48,45,97,46,49]])=true:=by decide+kernel
def adS:vsZ (eY [61,49,46,48,46,48,32,124,124,32,61,50,46,48,46,48]) (cn 1011 [.str [61,49,46,48,46,48,32,124,124,32,61,50,46,48,46,48]])=true:=by decide+kernel
def adT:vsZ (eY [33,61,49,46,50,46,48]) (cn 1011 [.str [33,61,49,46,50,46,48]])=true:=by decide+kernel
def ev908 {s:aw}(h:kI s):cn 908 [.str s]=some (cy.D (eY s)):=by
 simp only[kI,kr,bH,cX,or_false]at h;rcases h with rfl|rfl|rfl|rfl|rfl|rfl|rfl|rfl
 .exact gD ajR
 .exact gD ajS
 .exact gD ajT
 .exact gD ajU
 .exact gD ajV
 .exact gD ajW
 .exact gD ajX
 .exact gD ajY
def aj1 {s:aw}(h:kI s):cn 1011 [.str s]=some (.tup [cy.D (eY s),.int .i64 0]):=by
 simp only[kI,kr,bH,cX,or_false]at h;rcases h with rfl|rfl|rfl|rfl|rfl|rfl|rfl|rfl
 .exact tm adM
 .exact tm adN
 .exact tm adO
 .exact tm adP
 .exact tm adQ
 .exact tm adR
 .exact tm adS
 .exact tm adT
end Go.Abs
end
