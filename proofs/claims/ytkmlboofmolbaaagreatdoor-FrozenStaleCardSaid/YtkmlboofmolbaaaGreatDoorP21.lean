/- A part of the proofs. -/
import Derived.Test.YtkmlboofmolbaaaGreatDoorP09
set_option linter.all false
set_option maxRecDepth 60000
set_option maxHeartbeats 2000000
section
set_option maxRecDepth 10000
namespace Go.Abs
def aio:Ee (fg [42]) (cr 908 [.str [42]])=true:=by decide+kernel
def aip:Ee (fg [94,49,46,48,46,48]) (cr 908 [.str [94,49,46,48,46,48]])=true:=by decide+kernel
def aiq:Ee (fg [61,49,46,50,46,48]) (cr 908 [.str [61,49,46,50,46,48]])=true:=by decide+kernel
def air:Ee (fg [62,61,49,46,50,46,48]) (cr 908 [.str [62,61,49,46,50,46,48]])=true:=by decide+kernel
def ais:Ee (fg [60,50,46,48,46,48]) (cr 908 [.str [60,50,46,48,46,48]])=true:=by decide+kernel
def ait:Ee (fg [94,50,46,48,46,48,45,97,46,49]) (cr 908 [.str [94,50,46,48,46,48,45,97,46,49]])=true:=by decide+kernel
def aiu:Ee (fg [61,49,46,48,46,48,32,124,124,32,61,50,46,48,46,48]) (cr 908 [.str [61,49,46,48,46,48,32,124,124,32,61,50,46,48,46,48]])=true:=by decide+kernel
def aiv:Ee (fg [33,61,49,46,50,46,48]) (cr 908 [.str [33,61,49,46,50,46,48]])=true:=by decide+kernel
def acq:vsZ (fg [42]) (cr 1011 [.str [42]])=true:=by decide+kernel
def acr:vsZ (fg [94,49,46,48,46,48]) (cr 1011 [.str [94,49,46,48,46,48]])=true:=by decide+kernel
def acs:vsZ (fg [61,49,46,50,46,48]) (cr 1011 [.str [61,49,46,50,46,48]])=true:=by decide+kernel
def acu:vsZ (fg [62,61,49,46,50,46,48]) (cr 1011 [.str [62,61,49,46,50,46,48]])=true:=by decide+kernel
def acv:vsZ (fg [60,50,46,48,46,48]) (cr 1011 [.str [60,50,46,48,46,48]])=true:=by decide+kernel
def acw:vsZ (fg [94,50,46,48,46,48,45,97,46,49]) (cr 1011 [.str [94,50,46,48,46,48,45,97,46,49]])=true:=by decide+kernel
def acx:vsZ (fg [61,49,46,48,46,48,32,124,124,32,61,50,46,48,46,48]) (cr 1011 [.str [61,49,46,48,46,48,32,124,124,32,61,50,46,48,46,48]])=true:=by decide+kernel
def acy:vsZ (fg [33,61,49,46,50,46,48]) (cr 1011 [.str [33,61,49,46,50,46,48]])=true:=by decide+kernel
def ev908 {s:au}(h:kA s):cr 908 [.str s]=some (cA.D (fg s)):=by
 simp only[kA,kf,bL,cY,or_false]at h;rcases h with rfl|rfl|rfl|rfl|rfl|rfl|rfl|rfl
 .exact gD aio
 .exact gD aip
 .exact gD aiq
 .exact gD air
 .exact gD ais
 .exact gD ait
 .exact gD aiu
 .exact gD aiv
def aiy {s:au}(h:kA s):cr 1011 [.str s]=some (.tup [cA.D (fg s),.int .i64 0]):=by
 simp only[kA,kf,bL,cY,or_false]at h;rcases h with rfl|rfl|rfl|rfl|rfl|rfl|rfl|rfl
 .exact sW acq
 .exact sW acr
 .exact sW acs
 .exact sW acu
 .exact sW acv
 .exact sW acw
 .exact sW acx
 .exact sW acy
end Go.Abs
end
