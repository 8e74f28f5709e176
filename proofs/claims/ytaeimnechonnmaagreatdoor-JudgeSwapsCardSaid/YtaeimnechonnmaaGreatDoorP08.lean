/- A part of the proofs. -/
import Derived.Test.YtaeimnechonnmaaGreatDoorP07
set_option linter.all false
set_option maxRecDepth 4000
namespace Go.Abs
section
open Go.Proofs
def tk:Nat:=0
instance Pv:dc where
 tB:=1
 gd x:=x.I tk/\∀j,j<5->x.w.cell? ⟨tk,j,none⟩=some (Ky j)
 le x x' hI hk h:=⟨hI _ h.1,fun j hj=>gr (hk _ h.1) (h.2 j hj)⟩
 gz g:=g=tk
 gzr x g h hg j hj:=by subst hg;exact h.2 j hj
end
def hv (c:UInt8):Nat:=if cV c.toNat=true then c.toNat-48 else c.toNat-87
def kO (s:dk):Nat:=s.foldl (fun n c=>n*16+hv c) 0
def r8.wf (x:r8):Prop:=0<=x.sum/\x.sum<18446744073709551616
def x7.wf (l:x7):Prop:=∀x∈l.lines,x.wf
end Go.Abs
