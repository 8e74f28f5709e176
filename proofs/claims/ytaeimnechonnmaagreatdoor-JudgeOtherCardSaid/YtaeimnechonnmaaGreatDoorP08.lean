/- A part of the proofs. -/
import Derived.Test.YtaeimnechonnmaaGreatDoorP07
set_option linter.all false
set_option maxRecDepth 4000
namespace Go.Abs
section
open Go.Proofs
def uJ:Nat:=0
instance Sg:dq where
 tB:=1
 gd x:=x.I uJ/\∀j,j<5->x.w.cell? ⟨uJ,j,none⟩=some (MY j)
 le x x' hI hk h:=⟨hI _ h.1,fun j hj=>hJ (hk _ h.1) (h.2 j hj)⟩
 gz g:=g=uJ
 gzr x g h hg j hj:=by subst hg;exact h.2 j hj
end
def hv (c:UInt8):Nat:=if di c.toNat=true then c.toNat-48 else c.toNat-87
def lU (s:dy):Nat:=s.foldl (fun n c=>n*16+hv c) 0
def rv.wf (x:rv):Prop:=0<=x.sum/\x.sum<18446744073709551616
def zi.wf (l:zi):Prop:=∀x∈l.lines,x.wf
end Go.Abs
