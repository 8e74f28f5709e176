/- A part of the proofs. -/
import Derived.Test.YtkmlboofmolbaaaGreatDoorP09
set_option linter.all false
set_option maxRecDepth 60000
set_option maxHeartbeats 2000000
section
set_option maxRecDepth 10000
namespace Go.Abs
def aiz:Ee (fe [42]) (cb 908 [.str [42]])=true:=by decide+kernel
def aiA:Ee (fe [94,49,46,48,46,48]) (cb 908 [.str [94,49,46,48,46,48]])=true:=by decide+kernel
def aiB:Ee (fe [61,49,46,50,46,48]) (cb 908 [.str [61,49,46,50,46,48]])=true:=by decide+kernel
def aiC:Ee (fe [62,61,49,46,50,46,48]) (cb 908 [.str [62,61,49,46,50,46,48]])=true:=by decide+kernel
def aiD:Ee (fe [60,50,46,48,46,48]) (cb 908 [.str [60,50,46,48,46,48]])=true:=by decide+kernel
def aiE:Ee (fe [94,50,46,48,46,48,45,97,46,49]) (cb 908 [.str [94,50,46,48,46,48,45,97,46,49]])=true:=by decide+kernel
def aiF:Ee (fe [61,49,46,48,46,48,32,124,124,32,61,50,46,48,46,48]) (cb 908 [.str [61,49,46,48,46,48,32,124,124,32,61,50,46,48,46,48]])=true:=by decide+kernel
def aiG:Ee (fe [33,61,49,46,50,46,48]) (cb 908 [.str [33,61,49,46,50,46,48]])=true:=by decide+kernel
def acE:vsZ (fe [42]) (cb 1011 [.str [42]])=true:=by decide+kernel
def acF:vsZ (fe [94,49,46,48,46,48]) (cb 1011 [.str [94,49,46,48,46,48]])=true:=by decide+kernel
def acG:vsZ (fe [61,49,46,50,46,48]) (cb 1011 [.str [61,49,46,50,46,48]])=true:=by decide+kernel
def acH:vsZ (fe [62,61,49,46,50,46,48]) (cb 1011 [.str [62,61,49,46,50,46,48]])=true:=by decide+kernel
def acI:vsZ (fe [60,50,46,48,46,48]) (cb 1011 [.str [60,50,46,48,46,48]])=true:=by decide+kernel
def acJ:vsZ (fe [94,50,46,48,46,48,45,97,46,49]) (cb 1011 [.str [94,50,46,48,46,48,45,97,46,49]])=true:=by decide+kernel
def acK:vsZ (fe [61,49,46,48,46,48,32,124,124,32,61,50,46,48,46,48]) (cb 1011 [.str [61,49,46,48,46,48,32,124,124,32,61,50,46,48,46,48]])=true:=by decide+kernel
def acL:vsZ (fe [33,61,49,46,50,46,48]) (cb 1011 [.str [33,61,49,46,50,46,48]])=true:=by decide+kernel
def ev908 {s:au}(h:jX s):cb 908 [.str s]=some (cx.D (fe s)):=by
 simp only[jX,kd,bG,cU,or_false]at h;rcases h with rfl|rfl|rfl|rfl|rfl|rfl|rfl|rfl
 .exact gw aiz
 .exact gw aiA
 .exact gw aiB
 .exact gw aiC
 .exact gw aiD
 .exact gw aiE
 .exact gw aiF
 .exact gw aiG
def aiJ {s:au}(h:jX s):cb 1011 [.str s]=some (.tup [cx.D (fe s),.int .i64 0]):=by
 simp only[jX,kd,bG,cU,or_false]at h;rcases h with rfl|rfl|rfl|rfl|rfl|rfl|rfl|rfl
 .exact sO acE
 .exact sO acF
 .exact sO acG
 .exact sO acH
 .exact sO acI
 .exact sO acJ
 .exact sO acK
 .exact sO acL
end Go.Abs
end
