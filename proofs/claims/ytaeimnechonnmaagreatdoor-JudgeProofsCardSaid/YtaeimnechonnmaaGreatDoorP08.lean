/- A part of the proofs. -/
import Derived.Test.YtaeimnechonnmaaGreatDoorP07
set_option linter.all false
set_option maxRecDepth 4000
namespace Go.Abs
section
open Go.Proofs
def uI:Nat:=0
instance RV:du where
 tB:=1
 gd x:=x.I uI/\∀j,j<5->x.w.cell? ⟨uI,j,none⟩=some (MH j)
 le x x' hI hk h:=⟨hI _ h.1,fun j hj=>gX (hk _ h.1) (h.2 j hj)⟩
 gz g:=g=uI
 gzr x g h hg j hj:=by subst hg;exact h.2 j hj
end
def hv (c:UInt8):Nat:=if dn c.toNat=true then c.toNat-48 else c.toNat-87
def lL (s:dG):Nat:=s.foldl (fun n c=>n*16+hv c) 0
def rl.wf (x:rl):Prop:=0<=x.sum/\x.sum<18446744073709551616
def zl.wf (l:zl):Prop:=∀x∈l.lines,x.wf
end Go.Abs
