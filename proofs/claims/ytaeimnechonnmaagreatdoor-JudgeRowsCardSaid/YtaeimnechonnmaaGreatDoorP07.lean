/- A part of the proofs. -/
import Derived.Test.YtaeimnechonnmaaGreatDoorP06
set_option linter.all false
set_option maxRecDepth 4000
namespace Go.Abs
section
open Go.Proofs
def qY:Nat:=0
instance Lq:cP where
 tB:=1
 gd x:=x.I qY/\∀j,j<5->x.w.cell? ⟨qY,j,none⟩=some (GO j)
 le x x' hI hk h:=⟨hI _ h.1,fun j hj=>fu (hk _ h.1) (h.2 j hj)⟩
 gz g:=g=qY
 gzr x g h hg j hj:=by subst hg;exact h.2 j hj
end
def hv (c:UInt8):Nat:=if cH c.toNat=true then c.toNat-48 else c.toNat-87
def jI (s:cV):Nat:=s.foldl (fun n c=>n*16+hv c) 0
def qh.wf (x:qh):Prop:=0<=x.sum/\x.sum<18446744073709551616
def vb.wf (l:vb):Prop:=∀x∈l.lines,x.wf
end Go.Abs
