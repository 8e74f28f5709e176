/- A part of the proofs. -/
import Derived.Test.YtaeimnechonnmaaGreatDoorP07
set_option linter.all false
set_option maxRecDepth 4000
namespace Go.Abs
section
open Go.Proofs
def tG:Nat:=0
instance PQ:df where
 tB:=1
 gd x:=x.I tG/\∀j,j<5->x.w.cell? ⟨tG,j,none⟩=some (KM j)
 le x x' hI hk h:=⟨hI _ h.1,fun j hj=>gA (hk _ h.1) (h.2 j hj)⟩
 gz g:=g=tG
 gzr x g h hg j hj:=by subst hg;exact h.2 j hj
end
def hv (c:UInt8):Nat:=if cW c.toNat=true then c.toNat-48 else c.toNat-87
def kV (s:dn):Nat:=s.foldl (fun n c=>n*16+hv c) 0
def qt.wf (x:qt):Prop:=0<=x.sum/\x.sum<18446744073709551616
def yl.wf (l:yl):Prop:=∀x∈l.lines,x.wf
end Go.Abs
