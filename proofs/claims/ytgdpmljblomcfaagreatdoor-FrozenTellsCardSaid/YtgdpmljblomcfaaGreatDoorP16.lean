/- A part of the proofs. -/
import Derived.Test.YtgdpmljblomcfaaGreatDoorP04
set_option linter.all false
set_option maxRecDepth 60000
set_option maxHeartbeats 2000000
section
set_option maxRecDepth 10000
namespace Go.Abs
def ahZ:Ec (eR [42]) (cn 908 [.str [42]])=true:=by decide+kernel
def ah0:Ec (eR [94,49,46,48,46,48]) (cn 908 [.str [94,49,46,48,46,48]])=true:=by decide+kernel
def ah1:Ec (eR [61,49,46,50,46,48]) (cn 908 [.str [61,49,46,50,46,48]])=true:=by decide+kernel
def ah2:Ec (eR [62,61,49,46,50,46,48]) (cn 908 [.str [62,61,49,46,50,46,48]])=true:=by decide+kernel
def ah3:Ec (eR [60,50,46,48,46,48]) (cn 908 [.str [60,50,46,48,46,48]])=true:=by decide+kernel
def ah4:Ec (eR [94,50,46,48,46,48,45,97,46,49]) (cn 908 [.str [94,50,46,48,46,48,45,97,46,49]])=true:=by decide+kernel
def ah5:Ec (eR [61,49,46,48,46,48,32,124,124,32,61,50,46,48,46,48]) (cn 908 [.str [61,49,46,48,46,48,32,124,124,32,61,50,46,48,46,48]])=true:=by decide+kernel
def ah6:Ec (eR [33,61,49,46,50,46,48]) (cn 908 [.str [33,61,49,46,50,46,48]])=true:=by decide+kernel
def abQ:vsZ (eR [42]) (cn 1011 [.str [42]])=true:=by decide+kernel
def abR:vsZ (eR [94,49,46,48,46,48]) (cn 1011 [.str [94,49,46,48,46,48]])=true:=by decide+kernel
def abS:vsZ (eR [61,49,46,50,46,48]) (cn 1011 [.str [61,49,46,50,46,48]])=true:=by decide+kernel
def abT:vsZ (eR [62,61,49,46,50,46,48]) (cn 1011 [.str [62,61,49,46,50,46,48]])=true:=by decide+kernel
def abU:vsZ (eR [60,50,46,48,46,48]) (cn 1011 [.str [60,50,46,48,46,48]])=true:=by decide+kernel
def abV:vsZ (eR [94,50,46,48,46,48,45,97,46,49]) (cn 1011 [.str [94,50,46,48,46,48,45,97,46,49]])=true:=by decide+kernel
def abW:vsZ (eR [61,49,46,48,46,48,32,124,124,32,61,50,46,48,46,48]) (cn 1011 [.str [61,49,46,48,46,48,32,124,124,32,61,50,46,48,46,48]])=true:=by decide+kernel
def abX:vsZ (eR [33,61,49,46,50,46,48]) (cn 1011 [.str [33,61,49,46,50,46,48]])=true:=by decide+kernel
def ev908 {s:av}(h:ki s):cn 908 [.str s]=some (cy.D (eR s)):=by
 simp only[ki,j2,b9,cV,or_false]at h;rcases h with rfl|rfl|rfl|rfl|rfl|rfl|rfl|rfl
 .exact gA ahZ
 .exact gA ah0
 .exact gA ah1
 .exact gA ah2
 .exact gA ah3
 .exact gA ah4
 .exact gA ah5
 .exact gA ah6
def ah9 {s:av}(h:ki s):cn 1011 [.str s]=some (.tup [cy.D (eR s),.int .i64 0]):=by
 simp only[ki,j2,b9,cV,or_false]at h;rcases h with rfl|rfl|rfl|rfl|rfl|rfl|rfl|rfl
 .exact sS abQ
 .exact sS abR
 .exact sS abS
 .exact sS abT
 .exact sS abU
 .exact sS abV
 .exact sS abW
 .exact sS abX
end Go.Abs
end
