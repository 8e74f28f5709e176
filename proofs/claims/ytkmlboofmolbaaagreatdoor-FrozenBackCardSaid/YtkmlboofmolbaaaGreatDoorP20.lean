/- A part of the proofs. -/
import Derived.Test.YtkmlboofmolbaaaGreatDoorP09
set_option linter.all false
set_option maxRecDepth 60000
set_option maxHeartbeats 2000000
section
set_option maxRecDepth 10000
namespace Go.Abs
def ahH:DM (eU [42]) (ca 908 [.str [42]])=true:=by decide+kernel
def ahI:DM (eU [94,49,46,48,46,48]) (ca 908 [.str [94,49,46,48,46,48]])=true:=by decide+kernel
def ahJ:DM (eU [61,49,46,50,46,48]) (ca 908 [.str [61,49,46,50,46,48]])=true:=by decide+kernel
def ahK:DM (eU [62,61,49,46,50,46,48]) (ca 908 [.str [62,61,49,46,50,46,48]])=true:=by decide+kernel
def ahL:DM (eU [60,50,46,48,46,48]) (ca 908 [.str [60,50,46,48,46,48]])=true:=by decide+kernel
def ahM:DM (eU [94,50,46,48,46,48,45,97,46,49]) (ca 908 [.str [94,50,46,48,46,48,45,97,46,49]])=true:=by decide+kernel
def ahN:DM (eU [61,49,46,48,46,48,32,124,124,32,61,50,46,48,46,48]) (ca 908 [.str [61,49,46,48,46,48,32,124,124,32,61,50,46,48,46,48]])=true:=by decide+kernel
def ahO:DM (eU [33,61,49,46,50,46,48]) (ca 908 [.str [33,61,49,46,50,46,48]])=true:=by decide+kernel
def abJ:vsZ (eU [42]) (ca 1011 [.str [42]])=true:=by decide+kernel
def abK:vsZ (eU [94,49,46,48,46,48]) (ca 1011 [.str [94,49,46,48,46,48]])=true:=by decide+kernel
def abL:vsZ (eU [61,49,46,50,46,48]) (ca 1011 [.str [61,49,46,50,46,48]])=true:=by decide+kernel
def abM:vsZ (eU [62,61,49,46,50,46,48]) (ca 1011 [.str [62,61,49,46,50,46,48]])=true:=by decide+kernel
def abN:vsZ (eU [60,50,46,48,46,48]) (ca 1011 [.str [60,50,46,48,46,48]])=true:=by decide+kernel
def abO:vsZ (eU [94,50,46,48,46,48,45,97,46,49]) (ca 1011 [.str [94,50,46,48,46,48,45,97,46,49]])=true:=by decide+kernel
def abP:vsZ (eU [61,49,46,48,46,48,32,124,124,32,61,50,46,48,46,48]) (ca 1011 [.str [61,49,46,48,46,48,32,124,124,32,61,50,46,48,46,48]])=true:=by decide+kernel
def abQ:vsZ (eU [33,61,49,46,50,46,48]) (ca 1011 [.str [33,61,49,46,50,46,48]])=true:=by decide+kernel
def ev908 {s:av}(h:j9 s):ca 908 [.str s]=some (cr.D (eU s)):=by
 simp only[j9,j0,bF,cP,or_false]at h;rcases h with rfl|rfl|rfl|rfl|rfl|rfl|rfl|rfl
 .exact fV ahH
 .exact fV ahI
 .exact fV ahJ
 .exact fV ahK
 .exact fV ahL
 .exact fV ahM
 .exact fV ahN
 .exact fV ahO
def ahR {s:av}(h:j9 s):ca 1011 [.str s]=some (.tup [cr.D (eU s),.int .i64 0]):=by
 simp only[j9,j0,bF,cP,or_false]at h;rcases h with rfl|rfl|rfl|rfl|rfl|rfl|rfl|rfl
 .exact sx abJ
 .exact sx abK
 .exact sx abL
 .exact sx abM
 .exact sx abN
 .exact sx abO
 .exact sx abP
 .exact sx abQ
end Go.Abs
end
