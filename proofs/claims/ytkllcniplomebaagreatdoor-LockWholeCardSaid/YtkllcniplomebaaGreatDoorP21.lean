/- A part of the proofs. -/
import Derived.Test.YtkllcniplomebaaGreatDoorP09
set_option linter.all false
set_option maxRecDepth 60000
set_option maxHeartbeats 2000000
section
set_option maxRecDepth 10000
namespace Go.Abs
def ai3:Ey (ff [42]) (b9 908 [.str [42]])=true:=by decide+kernel
def ai4:Ey (ff [94,49,46,48,46,48]) (b9 908 [.str [94,49,46,48,46,48]])=true:=by decide+kernel
def ai5:Ey (ff [61,49,46,50,46,48]) (b9 908 [.str [61,49,46,50,46,48]])=true:=by decide+kernel
def ai6:Ey (ff [62,61,49,46,50,46,48]) (b9 908 [.str [62,61,49,46,50,46,48]])=true:=by decide+kernel
def ai7:Ey (ff [60,50,46,48,46,48]) (b9 908 [.str [60,50,46,48,46,48]])=true:=by decide+kernel
def ai8:Ey (ff [94,50,46,48,46,48,45,97,46,49]) (b9 908 [.str [94,50,46,48,46,48,45,97,46,49]])=true:=by decide+kernel
def ai9:Ey (ff [61,49,46,48,46,48,32,124,124,32,61,50,46,48,46,48]) (b9 908 [.str [61,49,46,48,46,48,32,124,124,32,61,50,46,48,46,48]])=true:=by decide+kernel
def aja:Ey (ff [33,61,49,46,50,46,48]) (b9 908 [.str [33,61,49,46,50,46,48]])=true:=by decide+kernel
def acU:vsZ (ff [42]) (b9 1011 [.str [42]])=true:=by decide+kernel
def acV:vsZ (ff [94,49,46,48,46,48]) (b9 1011 [.str [94,49,46,48,46,48]])=true:=by decide+kernel
def acW:vsZ (ff [61,49,46,50,46,48]) (b9 1011 [.str [61,49,46,50,46,48]])=true:=by decide+kernel
def acX:vsZ (ff [62,61,49,46,50,46,48]) (b9 1011 [.str [62,61,49,46,50,46,48]])=true:=by decide+kernel
def acY:vsZ (ff [60,50,46,48,46,48]) (b9 1011 [.str [60,50,46,48,46,48]])=true:=by decide+kernel
def acZ:vsZ (ff [94,50,46,48,46,48,45,97,46,49]) (b9 1011 [.str [94,50,46,48,46,48,45,97,46,49]])=true:=by decide+kernel
def ac0:vsZ (ff [61,49,46,48,46,48,32,124,124,32,61,50,46,48,46,48]) (b9 1011 [.str [61,49,46,48,46,48,32,124,124,32,61,50,46,48,46,48]])=true:=by decide+kernel
def ac1:vsZ (ff [33,61,49,46,50,46,48]) (b9 1011 [.str [33,61,49,46,50,46,48]])=true:=by decide+kernel
def ev908 {s:av}(h:kj s):b9 908 [.str s]=some (cu.D (ff s)):=by
 simp only[kj,j4,bU,de,or_false]at h;rcases h with rfl|rfl|rfl|rfl|rfl|rfl|rfl|rfl
 .exact fY ai3
 .exact fY ai4
 .exact fY ai5
 .exact fY ai6
 .exact fY ai7
 .exact fY ai8
 .exact fY ai9
 .exact fY aja
def ajd {s:av}(h:kj s):b9 1011 [.str s]=some (.tup [cu.D (ff s),.int .i64 0]):=by
 simp only[kj,j4,bU,de,or_false]at h;rcases h with rfl|rfl|rfl|rfl|rfl|rfl|rfl|rfl
 .exact tc acU
 .exact tc acV
 .exact tc acW
 .exact tc acX
 .exact tc acY
 .exact tc acZ
 .exact tc ac0
 .exact tc ac1
end Go.Abs
end
