/- A part of the proofs. -/
import Derived.Test.YtaeimnechonnmaaGreatDoorP07
set_option linter.all false
set_option maxRecDepth 4000
namespace Go.Abs
section
open Go.Proofs
def uL:Nat:=0
instance R0:dw where
 tB:=1
 gd x:=x.I uL/\∀j,j<5->x.w.cell? ⟨uL,j,none⟩=some (MT j)
 le x x' hI hk h:=⟨hI _ h.1,fun j hj=>gZ (hk _ h.1) (h.2 j hj)⟩
 gz g:=g=uL
 gzr x g h hg j hj:=by subst hg;exact h.2 j hj
end
def hv (c:UInt8):Nat:=if dj c.toNat=true then c.toNat-48 else c.toNat-87
def lN (s:dF):Nat:=s.foldl (fun n c=>n*16+hv c) 0
def rj.wf (x:rj):Prop:=0<=x.sum/\x.sum<18446744073709551616
def zi.wf (l:zi):Prop:=∀x∈l.lines,x.wf
end Go.Abs
