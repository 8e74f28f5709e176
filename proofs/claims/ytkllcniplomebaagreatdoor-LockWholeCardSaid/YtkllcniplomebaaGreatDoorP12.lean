/- A part of the proofs. -/
import Derived.Test.YtkllcniplomebaaGreatDoorP09
set_option linter.all false
set_option maxRecDepth 60000
set_option maxHeartbeats 2000000
noncomputable section
namespace Go.Abs
variable {Y:Ctx}(hm:(Y.at 0).bN)
def Pu:aj:=bd 14
def w309 (hA:C220 Y)(hB:C254 Y)(hC:C491 Y)(hD:C499 Y)(hE:C545 Y)(hF:C546 Y)(hG:C547 Y):Ji (cn Y Pu):=λs hp0=>by
 refine B8 ?_;intro u0;refine oa ?_;refine aS (env':=[_,_,_,_,⟨_,(.bool _)⟩,_,_,_,_,_,_,_,_,_,_,_,_,_,_,_,_,_,_,_,_,_,_,_,_,_]) ?_;refine dT ?_ ?_<;>intro hc0
 .refine cF ?_;refine ax ?_;refine cq _ ?_;refine br _ ?_;refine aW ?_;refine aW ?_;refine aS (env':=[_,_,⟨_,(.int _ _)⟩,⟨_,(.int _ _)⟩,_,_,_,_,_,_,_,_,_,_,_,_,_,_,_,_,_,_,_,_,_,_,_,_,_,_]) ?_;refine kr ?_;refine dj (oT ?_ (ar (D.int .i64) ?_) (ar (D.int .i64) ?_));all_goals
   have hpp:gZ s=(qI,32,0):=by
    unfold gZ;rw[ak ae]
   first|(rw[hpp];done)|(rw[hpp];rfl)
 refine eB ?_;refine ax ?_;have hsl:s.length<=8192:=ae;refine aW ?_;refine aV (oY.D ⟨s,0,0⟩) ?_;refine p9 ?_;refine aW ?_;refine aS (env':=[_,_,_,_,_,⟨_,_⟩,_,_,_,_,_,_,_,_,_,_,_,_,_,_,_,_,_,_,_,_,_,_,_,_]) ?_;refine cF ?_;refine ax ?_;refine aW ?_;refine cN (hc:=hE ⟨s,0,0⟩ aF jH aF) ?_;refine aW ?_;refine gw (.str _) ?_;refine gw (.bool _) ?_;refine aW ?_;refine aW ?_;refine aS (env':=[_,_,_,_,_,_,⟨_,(.bool _)⟩,⟨_,(.str _)⟩,_,_,_,_,_,_,_,_,_,_,_,_,_,_,_,_,_,_,_,_,_,_]) ?_;generalize hr0:(⟨s,0,0⟩:oY)=r0;have hs0:r0.s=s:=by rw[<-hr0]
 have hle0:r0.at'<=r0.s.length:=by rw[<-hr0];simp
 have hn0:r0.n=0:=by rw[<-hr0]
 have hle1:=(oY.PM r0 hle0).1;have hs1:r0.aI.s=s:=hs0;have hn1:r0.aI.n=1:=by show r0.n+1=1;rw[hn0]
 refine cF ?_;refine ax ?_;refine aW ?_;refine sO ?_;refine aW ?_;refine aW ?_;refine ZL ?_;refine DI ?_;refine aS (env':=[_,_,_,_,_,_,_,_,⟨_,(.bool _)⟩,_,_,_,_,_,_,_,_,_,_,_,_,_,_,_,_,_,_,_,_,_]) ?_;refine aH (λhc1=>?_) (λhc1=>?_)
 .simp only[cW,cg,aX,b8,bne_iff_ne,ne_eq,Bool.not_eq_eq_eq_not,Bool.not_true]at hc1;refine cF ?_;refine bD 8 ?_;refine ax ?_;refine cq _ ?_;refine aW ?_;refine zt ?_;refine qa ?_;refine qT (v:=.int .i64 (r0.aI.n:Nat)) ?_;refine br _ ?_;refine aW ?_;refine aW ?_;refine aS (env':=[_,_,⟨_,(.int _ _)⟩,⟨_,(.int _ _)⟩,_,_,_,_,_,_,_,_,_,_,_,_,_,_,_,_,_,_,_,_,_,_,_,_,_,_]) ?_;refine kr ?_;refine dj (oT ?_ (ar (D.int .i64) ?_) (ar (D.int .i64) ?_));all_goals
   have hpp:gZ s=(qI,2,((r0.aI.n:Nat):Int)):=by
    rw[hn1];simp only[gZ,hr0];rw[ai ae];exact ak hc1
   first|(rw[hpp];done)|(rw[hpp];rfl)
 simp only[dX,cX,aX,b8,Decidable.not_not,Bool.not_eq_eq_eq_not,Bool.not_false]at hc1;refine eB ?_;refine ax ?_;refine aW ?_;refine cN (hc:=hE r0.aI hle1 (by rw[hs1];omega) ae) ?_;refine aW ?_;refine gw (.str _) ?_;refine gw (.bool _) ?_;refine aW ?_;refine aW ?_;refine aS (env':=[_,_,_,_,_,_,_,_,_,⟨_,(.str _)⟩,⟨_,(.bool _)⟩,_,_,_,_,_,_,_,_,_,_,_,_,_,_,_,_,_,_,_]) ?_;have hle2:=(oY.PM r0.aI hle1).1;have hs2:r0.aI.aI.s=s:=hs1;have hn2:r0.aI.aI.n=2:=by show r0.aI.n+1=2;rw[hn1]
 have htl:r0.aI.ln.1.length<=8192:=by
  have:=(sj (r0.aI.s.drop r0.aI.at') 10).1;rw[iQ]at this;have h9:r0.aI.ln.1.length<=r0.aI.s.length-r0.aI.at':=this;rw[hs1]at h9;omega
 refine ax ?_;refine aW ?_;refine aD (hc:=hF r0.aI.ln.1 htl) ?_;refine aW ?_;refine gw (Env.D _) ?_;refine gw (.bool _) ?_;refine p9 ?_;refine br _ ?_;refine aW ?_;refine aS (env':=[_,_,_,_,_,_,_,_,_,_,_,⟨_,(.bool _)⟩,_,⟨_,_⟩,_,_,_,_,_,_,_,_,_,_,_,_,_,_,_,_]) ?_;refine cF ?_;refine ax ?_;refine aW ?_;refine sO ?_;refine aW ?_;refine aW ?_;refine sO ?_;refine DI ?_;refine aS (env':=[_,_,_,_,_,_,_,_,_,_,_,_,⟨_,(.bool _)⟩,_,_,_,_,_,_,_,_,_,_,_,_,_,_,_,_,_]) ?_;refine aH (λhc2=>?_) (λhc2=>?_)
 .simp only[cW,cg,Bool.not_eq_eq_eq_not,Bool.not_true]at hc2;refine cF ?_;refine bD 8 ?_;refine ax ?_;refine cq _ ?_;refine aW ?_;refine zt ?_;refine qa ?_;refine qT (v:=.int .i64 (r0.aI.aI.n:Nat)) ?_;refine br _ ?_;refine aW ?_;refine aW ?_;refine aS (env':=[_,_,⟨_,(.int _ _)⟩,⟨_,(.int _ _)⟩,_,_,_,_,_,_,_,_,_,_,_,_,_,_,_,_,_,_,_,_,_,_,_,_,_,_]) ?_;refine kr ?_;refine dj (oT ?_ (ar (D.int .i64) ?_) (ar (D.int .i64) ?_));all_goals
   have hpp:gZ s=(qI,2,((r0.aI.aI.n:Nat):Int)):=by
    rw[hn2];simp only[gZ,hr0];rw[ai ae];rw[ai (λh=>h.elim (λh=>by rw[hc1.1]at h;cases h) (λh=>h hc1.2)),ak hc2];rfl
   first|(rw[hpp];done)|(rw[hpp];rfl)
 simp only[dX,cX,Bool.not_eq_eq_eq_not,Bool.not_false]at hc2;refine eB ?_;refine ax ?_;refine iF ?_;refine cq _ ?_;refine p9 ?_;refine br _ ?_;refine aS (env':=[_,_,_,_,_,_,_,_,_,_,_,_,_,_,_,_,_,_,_,_,_,_,_,_,_,⟨_,_⟩,_,_,_,_]) ?_;have hpx:gZ s=iO (Bd r0.aI.ln.1) (s.length+1) r0.aI.aI []:=by
  simp only[gZ,hr0];rw[ai ae,ai (λh=>h.elim (λh=>by rw[hc1.1]at h;cases h) (λh=>h hc1.2)),ai (λh=>h.elim (λh=>by rw[hc2.1]at h;cases h) (λh=>by rw[hc2.2]at h;cases h))]
 refine B5 hm (ι:=(Nat×oY×List ea)) (λp=>[⟨true,.str s⟩,⟨true,.ptr 0 4 0 0⟩,.un,.un,.un,⟨true,.ptr 8 3 0 0⟩,.un,.un,.un,.un,.un,.un,.un,.un,.un,.un,.un,.un,.un,.un,.un,.un,.un,.un,.un,⟨true,.ptr 46 4 0 0⟩,.un,.un,.un,.un]) (λp=>[(0,.buf 4 [.agg [.str [],.str [],.str [],.aR]]),(8,.buf 3 [oY.D p.2.1]),(46,.buf 4 [.agg [.str (Bd r0.aI.ln.1).e0,.str (Bd r0.aI.ln.1).e1,.str (Bd r0.aI.ln.1).e2,.own 1 9 0 p.2.2.length]]),(1,.buf 9 (p.2.2.map ea.D))]) 48 (λp=>p.2.1.s=s/\p.2.1.at'<=s.length/\p.2.1.n<=p.2.1.at'+3/\s.length+1<=p.1+p.2.1.at'/\p.2.2.length<=48/\gZ s=iO (Bd r0.aI.ln.1) p.1 p.2.1 p.2.2) (λp=>p.1) (s.length+1,r0.aI.aI,[]) ⟨hs2,by rw[hs2]at hle2;exact hle2,jH,jH,aF,hpx⟩ (aZ.to [(0,0),(8,8),(46,46)] ah ah UY (by refine aa9 ?_;refine aa9 ?_;refine bn.ni 46 ah ah (by exact⟨_,_,rfl,⟨_,rfl,⟨_,_,rfl,⟨rfl,rfl⟩,⟨_,_,rfl,⟨rfl,rfl⟩,⟨_,_,rfl,⟨rfl,rfl⟩,⟨_,_,rfl,Or.inr ⟨_,_,_,rfl⟩,rfl⟩⟩⟩⟩⟩,rfl⟩) ?_;refine bn.mt ah ah ah ah ?_;exact bn.nil)) ?_;rintro⟨fu,r,ls⟩ ⟨hs,hat,hn,hfu,hls,hr⟩;dsimp only at hs hat hn hfu hls hr⊢;obtain⟨f,rfl⟩:∃f,fu=f+1:=⟨fu-1,ae⟩
 have hnx:=oY.PM r (by rw[hs];exact hat);refine zK ?_ hm;refine ax ?_;refine aW ?_;refine P3 ?_;refine rM ?_;refine lz (v:=(.int _ _)) ?_;refine aW ?_;refine aS (env':=[_,_,_,_,_,_,_,_,_,_,_,_,_,_,_,_,_,_,_,_,_,_,_,⟨_,(.int _ _)⟩,_,_,_,_,_,_]) ?_;refine ax ?_;refine aW ?_;refine cN (hc:=hE r (by rw[hs];exact hat) (by rw[hs];omega) ae) ?_;refine aW ?_;refine gw (.str _) ?_;refine gw (.bool _) ?_;refine aW ?_;refine aW ?_;refine aS (env':=[_,_,_,_,_,_,_,_,_,_,_,_,_,_,⟨_,(.str _)⟩,_,⟨_,(.bool _)⟩,_,_,_,_,_,_,_,_,_,_,_,_,_]) ?_;have htl:r.ln.1.length<=8192:=by
  have:=(sj (r.s.drop r.at') 10).1;rw[iQ]at this;have h9:r.ln.1.length<=r.s.length-r.at':=this;rw[hs]at h9;omega
 have hnn:r.aI.n=r.n+1:=rfl;have hns:r.aI.s=s:=hs;have hcl:=Cs r.ln.1 j6;refine cF ?_;refine ax ?_;refine aW ?_;refine aD (hc:=hB r.ln.1 j6 ae (by simp[j6])) ?_;refine aW ?_;refine gw (.str _) ?_;refine gw (.bool _) ?_;refine aW ?_;refine aW ?_;refine aS (env':=[_,_,_,_,_,_,_,_,_,_,_,_,_,_,_,⟨_,(.bool _)⟩,_,⟨_,(.str _)⟩,_,_,_,_,_,_,_,_,_,_,_,_]) ?_;refine cF ?_;refine ax ?_;refine aW ?_;refine aW ?_;refine aW ?_;refine xK ?_;refine aW ?_;refine aW ?_;refine bX (hc:=λ_=>hC (dp r.ln.1 j6).1 32 ae) ?_;refine sO ?_;refine xK ?_;refine aS (env':=[_,_,_,_,_,_,_,_,_,_,_,_,_,_,_,_,_,_,⟨_,(.bool _)⟩,_,_,_,_,_,_,_,_,_,_,_]) ?_;refine aH (λhc3=>?_) (λhc3=>?_)
 .skip
  refine cF ?_;refine ax ?_;refine aW ?_;refine aD (hc:=hD (dp r.ln.1 j6).1) ?_;refine aW ?_;refine gw (.int _ _) ?_;refine gw (.bool _) ?_;refine aW ?_;refine aW ?_;refine aS (env':=[_,_,_,_,_,_,_,_,_,_,_,_,_,_,_,_,_,_,_,⟨_,(.bool _)⟩,_,_,⟨_,(.int _ _)⟩,_,_,_,_,_,_,_]) ?_;refine cF ?_;refine kq ?_ hm;refine ax ?_;refine aW ?_;refine sO ?_;refine aW ?_;refine aS (env':=[_,_,_,_,_,_,_,_,_,_,_,_,_,_,_,_,_,_,_,_,⟨_,(.bool _)⟩,_,_,_,_,_,_,_,_,_]) ?_;refine K5 ?_ ?_<;>intro hc4
  .refine bD 8 ?_;refine ax ?_;refine cq _ ?_;refine aW ?_;refine zt ?_;refine qa ?_;refine qT (v:=.int .i64 (r.aI.n:Nat)) ?_;refine br _ ?_;refine aW ?_;refine aW ?_;refine aS (env':=[_,_,⟨_,(.int _ _)⟩,⟨_,(.int _ _)⟩,_,_,_,_,_,_,_,_,_,_,_,_,_,_,_,_,_,_,_,_,_,_,_,_,_,_]) ?_;refine wp_ret ?_;refine BQ.ret ?_;refine E2.ret ?_;refine wv.ret ?_;refine dj (oT ?_ (ar (D.int .i64) ?_) (ar (D.int .i64) ?_));all_goals
    have hpp:gZ s=(qI,2,((r.aI.n:Nat):Int)):=by
     rw[hr];exact MP hc3 hc4
    first|(rw[hpp];done)|(rw[hpp];rfl)
  refine ax ?_;refine aW ?_;refine P3 ?_;refine rM ?_;refine lz (v:=(.int _ _)) ?_;refine aW ?_;refine DG λu1=>?_;specialize u1 rfl rfl
  refine DH ?_;refine aW ?_;refine aS (env':=[_,_,_,_,_,_,_,_,_,_,_,_,_,_,_,_,_,_,_,_,_,⟨_,(.bool _)⟩,_,_,_,_,_,_,_,_]) ?_;refine K5 ?_ ?_<;>intro hc5
  .refine bD 8 ?_;refine ax ?_;refine cq _ ?_;refine aW ?_;refine zt ?_;refine qa ?_;refine qT (v:=.int .i64 (r.aI.n:Nat)) ?_;refine kT ?_;refine br _ ?_;refine aW ?_;refine aW ?_;refine aS (env':=[_,_,⟨_,(.int _ _)⟩,⟨_,(.int _ _)⟩,_,_,_,_,_,_,_,_,_,_,_,_,_,_,_,_,_,_,_,_,_,_,_,_,_,_]) ?_;refine wp_ret ?_;refine BQ.ret ?_;refine E2.ret ?_;refine wv.ret ?_;refine dj (oT ?_ (ar (D.int .i64) ?_) (ar (D.int .i64) ?_));all_goals
    have hpp:gZ s=(qI,2,((r.aI.n:Nat):Int)+1):=by
     rw[hr];exact MQ hc3 hc4 (by rw[hs];omega)
    first|(rw[hpp];done)|(rw[hpp];rfl)
  refine ax ?_;refine aW ?_;refine aW ?_;refine aW ?_;refine M4 r.at' (hj:=λ_=>rfl) ?_;refine ZM ?_;refine aD (hc:=hA (s.take r.at')) (ha:=λ_=>ar (λd=>[d]) (lX (q:=λb:UInt8=>D.int .u8 b.toNat) (λ_=>rfl) ah)) (hp:=λ_=>⟨jT (q:=λb:UInt8=>D.int .u8 b.toNat) (λ_=>rfl) ah,trivial⟩) ?_;refine po ?_;refine aW ?_;refine aS (env':=[_,_,_,_,_,_,_,_,_,_,_,_,_,_,_,_,_,_,_,_,_,_,_,_,⟨_,(.bool _)⟩,_,_,_,_,_]) ?_;refine K5 ?_ ?_<;>intro hc6
  .refine ax ?_;refine cq _ ?_;refine br _ ?_;refine aW ?_;refine aW ?_;refine aS (env':=[_,_,⟨_,(.int _ _)⟩,⟨_,(.int _ _)⟩,_,_,_,_,_,_,_,_,_,_,_,_,_,_,_,_,_,_,_,_,_,_,_,_,_,_]) ?_;refine wp_ret ?_;refine BQ.ret ?_;refine E2.ret ?_;refine wv.ret ?_;refine dj (oT ?_ (ar (D.int .i64) ?_) (ar (D.int .i64) ?_));all_goals
    have hpp:gZ s=(qI,13,0):=by
     rw[hr];exact MR hc3 hc4 (by rw[hs];omega) (by rw[hs];exact hc6)
    first|(rw[hpp];done)|(rw[hpp];rfl)
  refine wp_skip ?_;refine BQ.normal ?_;refine cF ?_;refine bD 1 ?_;refine ax ?_;refine iF ?_;refine br _ ?_;refine aW ?_;refine aW ?_;refine aS (env':=[_,_,⟨_,(.int _ _)⟩,⟨_,(.int _ _)⟩,_,_,_,_,_,_,_,_,_,_,_,_,_,_,_,_,_,_,_,_,_,_,_,_,_,_]) ?_;refine kr ?_;refine E2.ret ?_;refine wv.ret ?_;refine dj (oT ?_ (ar (D.int .i64) ?_) (ar (D.int .i64) ?_));all_goals
   have hpp:gZ s=(⟨Bd r0.aI.ln.1,ls⟩,0,0):=by
    rw[hr];exact MS hc3 hc4 (by rw[hs];omega) (by rw[hs];exact hc6)
   first|(rw[hpp];done)|(rw[hpp];rfl)
 skip
 refine eB ?_;refine ax ?_;refine aW ?_;refine aD (hc:=hG r.ln.1 htl) ?_;refine aW ?_;refine gw (ea.D _) ?_;refine gw (.bool _) ?_;refine p9 ?_;refine br _ ?_;refine aW ?_;refine aS (env':=[_,_,_,_,_,_,_,_,_,_,_,_,_,_,_,_,_,_,_,_,_,_,_,_,_,_,⟨_,(.bool _)⟩,_,⟨_,_⟩,_]) ?_;refine cF ?_;refine ax ?_;refine rM ?_;first|refine lz (v:=.sl _ _) ?_|refine lz (v:=.own _ _ _ _) ?_|refine lz (v:=.aR) ?_
 refine P2 λu2=>?_;specialize u2 rfl rfl
 refine aW ?_;refine aS (env':=[_,_,_,_,_,_,_,_,_,_,_,_,_,_,_,_,_,_,_,_,_,_,_,_,_,_,_,⟨_,(.int _ _)⟩,_,_]) ?_;refine cF ?_;refine ax ?_;refine aW ?_;refine sO ?_;refine aW ?_;refine aW ?_;refine sO ?_;refine DI ?_;refine aW ?_;refine aW ?_;refine PY ?_;refine DI ?_;refine aW ?_;refine aW ?_;refine oa ?_;refine aW ?_;refine rM ?_;first|refine lz (v:=.sl _ _) ?_|refine lz (v:=.own _ _ _ _) ?_|refine lz (v:=.aR) ?_
 refine aW ?_;refine xN ?_;refine DC (ls.length-1) ?_;refine rM ?_;refine uZ (v:=(.str _)) ?_;refine rM ?_;refine lz (v:=(.str _)) ?_;refine ZD ?_;refine xK ?_;refine DI ?_;refine aS (env':=[_,_,_,_,_,_,_,_,_,_,_,_,_,_,_,_,_,_,_,_,_,_,_,_,_,_,_,_,_,⟨_,(.bool _)⟩]) ?_;refine aH (λhc7=>?_) (λhc7=>?_)
 .rw[N0]at hc7;refine cF ?_;refine bD 8 ?_;refine ax ?_;refine cq _ ?_;refine aW ?_;refine zt ?_;refine qa ?_;refine qT (v:=.int .i64 (r.aI.n:Nat)) ?_;refine br _ ?_;refine aW ?_;refine aW ?_;refine aS (env':=[_,_,⟨_,(.int _ _)⟩,⟨_,(.int _ _)⟩,_,_,_,_,_,_,_,_,_,_,_,_,_,_,_,_,_,_,_,_,_,_,_,_,_,_]) ?_;refine kr ?_;refine E2.ret ?_;refine wv.ret ?_;refine dj (oT ?_ (ar (D.int .i64) ?_) (ar (D.int .i64) ?_));all_goals
   have hpp:gZ s=(qI,2,((r.aI.n:Nat):Int)):=by
    rw[hr];exact MO hc3 hc7
   first|(rw[hpp];done)|(rw[hpp];rfl)
 rw[N0]at hc7;refine eB ?_;refine ou ?_;refine rM ?_;first|refine lz (v:=.sl _ _) ?_|refine lz (v:=.own _ _ _ _) ?_|refine lz (v:=.aR) ?_
 refine iF ?_;refine bj [(ea.D _)] ?_;refine cR ?_;refine rM ?_;refine br _ (he:=cE) ?_;refine lV (env':=[_,_,_,_,_,_,_,_,_,_,_,_,_,_,_,_,_,_,_,_,_,_,_,_,_,_,_,_,_,_]) ?_;refine E2.normal ?_;refine wv.normal ?_;have hnext:gZ s=iO (Bd r0.aI.ln.1) f r.aI (ls++[Fk r.ln.1]):=by
  rw[hr];exact MN hc3 hc7
 have hst:=N1 hc7;have hat2:=hnx.2 hst.1;have hl48:=hst.2.1;exact⟨(f,r.aI,ls++[Fk r.ln.1]),⟨hns,by rw[<-hns];exact hnx.1,k8,k8,zU,hnext⟩,k8,(aZ.to [(0,0),(8,8),(46,46),(118,1)] ah ah UY (by refine aa9 ?_;refine aa9 ?_;refine aa9 ?_;refine bn.nl 118 ah ah rfl (by exact cb (λ_=>rfl) _) ?_;exact bn.nil))⟩
def FE:aj:=bd 93
def w466 (hC:yB Y)(hD:C451 Y)(hE:TA Y)(hF:V4 Y)(hG:C675 Y):JK (cn Y FE):=λs hp0=>by
 show dk _ _ _ [⟨_,_⟩,_,_,_,_,_,_,_,_,_,_,_,_,_,_,_,_,_] _;have hb1:=oF s 43;have pF:=oF (jU s 43).2 45;generalize hA:jU s 43=A at hb1 pF;generalize hB:jU A.2 45=B at pF;have hsl:=og B.2 46;generalize hL:aQ B.2 46=L at hsl;have hq0:uL s=if L.length=3/\j0 L[0]! =true/\j0 L[1]! =true/\j0 L[2]! =true then(if fT ⟨gM L[0]!,gM L[1]!,gM L[2]!,B.1,A.1⟩=true/\oq ⟨gM L[0]!,gM L[1]!,gM L[2]!,B.1,A.1⟩=s then some ⟨gM L[0]!,gM L[1]!,gM L[2]!,B.1,A.1⟩else none)else none:=by subst hA;subst hB;subst hL;rfl
 refine ax ?_;refine EH ?_;refine aD (hc:=hG s 43) ?_;rw[hA];refine fw ?_;refine br (bO.D ⟨0,0,0,[],A.1⟩) (he:=cE) ?_;refine fw ?_;refine aD (hc:=hG A.2 45) ?_;rw[hB];refine fw ?_;refine br (bO.D ⟨0,0,0,B.1,A.1⟩) (he:=cE) ?_;refine fw ?_;refine aD (hc:=hE B.2 46 ae) ?_;rw[hL];refine zg ?_;intro u0;refine dT ?_ ?_<;>intro hc0
 .refine cU ?_;refine aV (bO.D By) ?_;refine br _ ?_;refine zg ?_;refine dj (ba ?_ (ar (D.int .i64) ?_));all_goals
   have hq:uL s=none:=by rw[hq0,ai (λh=>by have:=h.1;omega)]
   simp only[QS,hq];rfl
 refine zg ?_;intro u1;refine zf hm (λi=>[.e (.str s),.p 0 5,.u 2,.p 2 5,.u 2,.i i,.i L.length,.u 1,.m 1 L D.str,.u 5,.p 27 3,.u 1]) (λi=>[(0,.buf 5 [bO.D By]),(2,.buf 5 [bO.D ⟨0,0,0,B.1,A.1⟩]),(27,.buf 3 [nArr L i])]) 31 (λi=>i<=3/\∀j,j<i->j0 L[j]! =true) (λi=>3-i) ⟨ae,λj hj=>ae⟩ [(0,0),(2,2),(27,27)] ?_;rintro i ⟨hi,hr⟩;refine zc ?_ ?_<;>intro hc1
 .refine zg ?_;refine aH (λhc2=>?_) (λhc2=>?_)
  .simp only[cg]at hc2;refine cU ?_;refine aV (bO.D By) ?_;refine br _ ?_;refine zg ?_;refine dj (ba ?_ (ar (D.int .i64) ?_));all_goals
    have hq:uL s=none:=by
     rw[hq0,ai];rintro⟨_,h1,h2,h3⟩;rcases(show i=0\/i=1\/i=2 by omega)with rfl|rfl|rfl
     .rw[h1]at hc2;cases hc2
     .rw[h2]at hc2;cases hc2
     .rw[h3]at hc2;cases hc2
    simp only[QS,hq];rfl
  simp only[cX]at hc2;refine fw ?_;refine DE i ?_;refine br (nArr L (i+1)) (he:=YF L i ae) ?_;refine zg ?_;have hr2:∀j,j<i+1->j0 L[j]! =true:=by
   intro j hj;rcases Nat.eq_or_lt_of_le (Nat.lt_succ_iff.1 hj)with rfl|h
   .exact hc2
   .exact hr j h
  refine fM (i+1) [(0,0),(2,2),(27,27)] ?_;exact hr2
 refine cU ?_;refine bD 27 ?_;refine zg ?_;have h3:i=3:=ae;subst h3;refine PZ 0 ?_;refine ZG (v:=.int .i64 (gM L[0]!)) ?_;refine PZ 1 ?_;refine qT (v:=.int .i64 (gM L[1]!)) ?_;refine PZ 2 ?_;refine qT (v:=.int .i64 (gM L[2]!)) ?_;refine cY ?_;refine br (bO.D ⟨gM L[0]!,0,0,B.1,A.1⟩) (he:=cE) ?_;refine cY ?_;refine br (bO.D ⟨gM L[0]!,gM L[1]!,0,B.1,A.1⟩) (he:=cE) ?_;refine cY ?_;refine br (bO.D ⟨gM L[0]!,gM L[1]!,gM L[2]!,B.1,A.1⟩) (he:=cE) ?_;refine dt ?_;have hsm:bO.sm ⟨gM L[0]!,gM L[1]!,gM L[2]!,B.1,A.1⟩:=⟨jH,jH⟩;generalize hV:(⟨gM L[0]!,gM L[1]!,gM L[2]!,B.1,A.1⟩:bO)=V at hsm hq0⊢;refine k9 ?_;refine bX (hc:=λ_=>hD V hsm) ?_;refine zg ?_;refine aH (λhc3=>?_) (λhc3=>?_)
 .simp only[cW,cg,b8]at hc3;refine cU ?_;refine aV (bO.D By) ?_;refine br _ ?_;refine zg ?_;refine dj (ba ?_ (ar (D.int .i64) ?_));all_goals
   have hq:uL s=none:=by
    rw[hq0];split
    .rw[ai];rintro⟨h1,h2⟩;rcases hc3 with h|h
     .rw[h1]at h;cases h
     .exact h h2
    .rfl
   simp only[QS,hq];rfl
 simp only[dX,cX,aX]at hc3;refine dt ?_;refine br _ ?_;refine zg ?_;refine dj (ba ?_ (ar (D.int .i64) ?_));all_goals
  have hq:uL s=some V:=by
   rw[hq0,ak ⟨ae,hr 0 ae,hr 1 ae,hr 2 ae⟩,ak hc3]
  simp only[QS,hq];rfl
def Fm:aj:=bd 45
def w546 (hA:C124 Y)(hB:C138 Y)(hC:C733 Y):JW (cn Y Fm):=λs hp0=>by
 show dk _ _ _ [⟨_,_⟩,_,_,_,_,_,_,_,_,_,_,_,_] _;have hsl:=og s 32;generalize hL:aQ s 32=L at hsl;have hP:LL s=(decide (L.length=4)&&decide (L[0]! =[112,108,97,116,102,111,114,109])&&bI (λi=>!decide (L[i+1]! =[])) 0 3):=by subst hL;rfl
 have hX:envX s=⟨gA L[1]!,gA L[2]!,gA L[3]!⟩:=by subst hL;rfl
 refine ax ?_;refine pz ?_;refine aD (hc:=hA s 32 ae) ?_;rw[show((32:UInt8).toNat:Int)=32 from rfl,hL];refine B8 ?_;intro u0;refine cC 0 (hb:=λh=>by simp at h;omega) ?_;refine zg ?_;refine aH (λhc0=>?_) (λhc0=>?_)
 .simp only[cW,cg,b8]at hc0;refine cU ?_;refine aV (Env.D Xk) ?_;refine br _ ?_;refine zg ?_;refine dj (ba ?_ (ar D.bool ?_));all_goals
   have hq:LL s=false:=by
    rw[hP];rcases hc0 with h|h
    .rw[bB (by omega:¬L.length=4)];rfl
    .rw[bB h];simp
   simp only[Bd,LK,hq];rfl
 simp only[dX,cX,aX]at hc0;refine fw ?_;refine DJ 1 (hi:=λ_=>rfl) ?_;refine zg ?_;intro u1;have h4:L.length=4:=ae;have hdl:(L.drop 1).length=3:=eJ;have hP0:LL s=bI (λi=>!decide (L[i+1]! =[])) 0 3:=by rw[hP,bg h4,bg hc0.2];rfl
 refine zf hm (λi=>[.u 1,.p 0 3,.u 3,.i i,.i ((L.drop 1).length:Nat),.u 1,.m 1 (L.drop 1) D.str,.u 3,.p 2 3]) (λi=>[(0,.buf 3 [Env.D Xk]),(2,.buf 3 [Xg L i])]) 19 (λi=>i<=3/\LL s=bI (λi=>!decide (L[i+1]! =[])) i 3) (λi=>3-i) ⟨ae,hP0⟩ [(0,0),(2,2)] ?_;rintro i ⟨hi,hr⟩;refine zc ?_ ?_<;>intro hc1
 .refine dt ?_;have hdg:(L.drop 1)[i]! =L[i+1]! :=W6 L i ae;refine pz ?_;rw[hdg];refine zc ?_ ?_<;>intro hc2
  .refine cU ?_;refine aV (Env.D Xk) ?_;refine br _ ?_;refine zg ?_;refine dj (ba ?_ (ar D.bool ?_));all_goals
    have hq:LL s=false:=by rw[hr,ay ae,bg hc2];rfl
    simp only[Bd,LK,hq];rfl
  refine jX ?_;refine DE i ?_;refine br (Xg L (i+1)) (he:=Xh L i ae) ?_;refine fM (i+1) [(0,0),(2,2)] ?_;rw[hr,ay ae,bB hc2];rfl
 refine dt ?_;have h3:i=3:=ae;subst h3;rw[show Xg L 3=Env.D (envX s)by rw[hX];rfl];refine dt ?_;refine br _ ?_;refine zg ?_;refine dj (ba ?_ (ar D.bool ?_));all_goals
  have hq:LL s=true:=by rw[hr,bA ae]
  simp only[Bd,LK,hq];rfl
def Oh:aj:=bd 121
def w441 (hA:C442 Y)(hB:TA Y)(hC:V4 Y)(hD:C659 Y):Jz (cn Y Oh):=λs hp0=>by
 refine zg ?_;refine aH (λhc0=>?_) (λhc0=>?_)
 .simp only[cg]at hc0;refine zr ?_;symm;simp only[sY]at hc0⊢;rw[ew]at hc0⊢;rcases hc0 with h|h
  .exact Or.inl h
  .right;rw[Bool.eq_false_iff]at h⊢;intro h2;apply h;rw[bG]at h2⊢;intro j a b;have:=h2 j a b;simp only[ji,aK]at this⊢;exact⟨this.1,rfl⟩
 simp only[cX]at hc0;refine zg ?_;intro u0;have hT:=hc0;simp only[sY,aK,aX]at hT;obtain⟨hT4,hTa⟩:=hT;rw[bG]at hTa;have hP:sY s true=bI (λi=>ji true (aQ s 46)[i]!) 0 (aQ s 46).length:=by
  simp only[sY];rw[bg hT4];rfl
 refine zf hm (λi=>[.u 3,.i i,.i ((aQ s 46).length:Nat),.u 1,.m 1 (aQ s 46) D.str,.u 3]) (λi=>[]) 8 (λi=>i<=(aQ s 46).length/\sY s true=bI (λi=>ji true (aQ s 46)[i]!) i (aQ s 46).length) (λi=>(aQ s 46).length-i) ⟨ae,hP⟩ [] ?_;rintro i ⟨hi,hr⟩;refine zc ?_ ?_<;>intro hc1
 .refine zg ?_;refine wp_cond (λhc2=>?_) (λhc2=>?_)
  .skip
   refine zr ?_;have hz:ji true (aQ s 46)[i]! =false:=by
    simp only[ji];revert hc2;generalize wm (aQ s 46)[i]! =c;generalize cO (aQ s 46)[i]! =a;generalize j0 (aQ s 46)[i]! =b;cases a<;>cases b<;>cases c<;>simp
   rw[hr,ay ae,hz];rfl
  skip
  refine zg ?_;have hz:ji true (aQ s 46)[i]! =true:=by
   have:=hTa i ae ae;simp only[ji,Bool.false_and,Bool.not_false,fR]at this;simp only[ji,this];revert hc2;generalize cO (aQ s 46)[i]! =a;generalize j0 (aQ s 46)[i]! =b;cases a<;>cases b<;>simp
  refine fM (i+1) [] ?_;rw[hr,ay ae,hz];rfl
 refine zr ?_;rw[hr,bA ae]
def Og:aj:=bd 73
def w209 (hm:(Y.at 0).bN)(hA:C440 Y)(hB:C441 Y)(hC:C442 Y):tV (cn Y Og):=λv hp0=>by
 refine IY ?_;refine qp ?_;refine bX (hc:=λhf=>hB v.pre hp0.1) ?_;refine B8 ?_;refine bX (hc:=λhf=>hC v.build hp0.2) ?_;exact mQ
def HC:aj:=bd 134
def w665 (hm:(Y.at 0).bN)(hA:C336 Y):oU (cn Y HC):=λn hp0=>by
 exact mQ
def FF:aj:=bd 84
def w451 (hm:(Y.at 0).bN)(hA:yB Y)(hB:C665 Y):ug (cn Y FF):=λv hp0=>by
 show dk _ _ _ [⟨_,_⟩,_,_,_,_,_,_] _;obtain⟨hs1,hs2⟩:=hp0;have hp0:v.sm:=⟨hs1,hs2⟩;refine ax ?_;refine zg ?_;refine aH (λhc0=>?_) (λhc0=>?_)
 .simp only[cg]at hc0;refine zr ?_;simp[oq,hc0]
 simp only[cX]at hc0;refine cU ?_;have hv:=hc0;simp only[fT,aK]at hv;obtain⟨⟨⟨⟨hv1,hv2⟩,hv3⟩,_⟩,_⟩:=hv;have hq1:=hv1;have hq2:=hv2;have hq3:=hv3;simp only[CL,aK,aX]at hq1 hq2 hq3;have hl1:=gT 4 v.major.toNat ae ae;have hl2:=gT 4 v.minor.toNat ae ae;have hl3:=gT 4 v.patch.toNat ae ae;refine zc ?_ ?_<;>intro hc1
 .refine zc ?_ ?_<;>intro hc2
  .refine zr ?_;simp[oq,FD,hc0,hc1,hc2]
  refine zr ?_;simp[oq,FD,hc0,hc1,hc2]
 refine zc ?_ ?_<;>intro hc2
 .refine zr ?_;simp[oq,FD,hc0,hc1,hc2]
 refine zr ?_;simp[oq,FD,hc0,hc1,hc2]
def qN:aj:=bd 87
def w463 (hm:(Y.at 0).bN):JI (cn Y qN):=λh k hp0=>by
 show dk _ _ _ [⟨_,_⟩,⟨_,_⟩,_,_] _;subst hp0;refine ax ?_;refine fw ?_;refine m5 13 (hb:=λ_=>by rw[IntKind.wrap_u64];rfl) ?_;refine vV 13 (hb:=λ_=>by rw[IntKind.wrap_u64];rfl) ?_;refine k9 ?_;refine AE (GC h 13) (hb:=λ_=>by rw[show min (Int.toNat (13:Int)) (IntKind.bits .u64)=13 by simp[IntKind.bits]];rfl) ?_;refine cU ?_;refine vW 51 (hb:=λ_=>by rw[IntKind.wrap_u64];rfl) ?_;refine Gq (vw h 51) (hb:=λ_=>by rw[show min (Int.toNat (51:Int)) (IntKind.bits .u64)=51 by simp[IntKind.bits]];rfl) ?_;refine SD (rot h 13) (hb:=λ_=>rfl) ?_;refine zg ?_;refine dj (ar (D.int .u64) ?_);rfl
def OZ:aj:=bd 43
def w220 (hA:C463 Y):tY (cn Y OZ):=λs=>by
 refine zg ?_;intro u0;refine zf hm (λi=>[.u 2,.i i,.i s.length,.u 1,.e (.sl 1 (s.map λb=>D.int .u8 b.toNat)),.e (.int .u64 (zG (s.take i))),.u 1]) (λi=>[]) 5 (λi=>i<=s.length) (λi=>s.length-i) ae [] ?_;intro i hi;refine zc ?_ ?_<;>intro hc0
 .refine fw ?_;refine dm (v:=.int .u8 (at8 s i)) (hv:=λ_=>ld8 s i) ?_;refine k9 ?_;refine m5 (at8 s i) (hb:=λ_=>by have:=yF s i;rw[IntKind.wrap_u64];omega) ?_;refine Ia (Te (zG (s.take i)) (at8 s i)) (hb:=λ_=>rfl) ?_;refine cY ?_;refine ZK (zG (s.take (i+1))) (hb:=λ_=>by rw[GO s i ae];rfl) ?_;exact ir (i+1) []
 refine dt ?_;have ht:s.take i=s:=fE ae;rw[ht];refine cU ?_;refine Gq (vw (zG s) 29) (hb:=λ_=>rfl) ?_;refine Ia (En s) (hb:=λ_=>rfl) ?_;refine zg ?_;refine dj (ar (D.int .u64) ?_);rfl
def VJ:aj:=bd 31
def w175 (hA:yB Y)(hB:V0 Y)(hC:C408 Y)(hD:C409 Y):tS (cn Y VJ):=λw hp0=>by
 refine zk21 ?_;intro u0;refine cC (0) (hj:=λhf=>ct) (hb:=λhf=>ct) ?_;refine ru ?_;refine cC (0) (hj:=λhf=>ct) (hb:=λhf=>ct) ?_;refine ru ?_;refine cC (0) (hj:=λhf=>ct) (hb:=λhf=>ct) ?_;refine zc ?_ ?_<;>intro hc0
 .refine zr ?_;unfold hR Al;grind
 refine zg ?_;intro u1;refine zf hm (λi=>[.u 2,.p 0 1,.i w.us.length,.u 1,.i i,.i w.us.length,.u 1,.m 3 w.us dz.D,.u 10]) (λi=>[(0,.buf 1 [cA.D w])]) 41 (λi=>i<=w.us.length/\w.us.length<=48/\hR w=bI (mE w.us) i w.us.length) (λi=>w.us.length-i) ⟨ae,ae,by unfold hR Al;grind⟩ [(0,0)] ?_;rintro i ⟨hi,h48,hr⟩;refine zc ?_ ?_<;>intro hc1
 .refine pz ?_;refine br _ ?_;refine dt ?_;have ho:=UQ w.us[i-1]! w.us[i]!;have hku:=hp0 _ (aq (show i<w.us.length by omega));refine jb ?_;refine cY ?_;refine cC ((i-1)) (hj:=λhf=>ct) (hb:=λhf=>ct) ?_;refine jX ?_;refine cC ((i-1)) (hj:=λhf=>ct) (hb:=λhf=>ct) ?_;refine cU ?_;refine aV (Key.D (⟨w.us[i-1]!.name,w.us[i-1]!.feat⟩:Key)) ?_;refine fw ?_;refine aV (Key.D (⟨w.us[i]!.name,w.us[i]!.feat⟩:Key)) ?_;refine zc ?_ ?_<;>intro hc2
  .refine zr ?_;rw[hr,ay ae];unfold mE;grind
  refine zg ?_;intro u2;refine zfL hm (λk=>[.u 2,.p 0 1,.i w.us.length,.u 1,.i i,.i w.us.length,.u 1,.m 3 w.us dz.D,.i i,.p 1 3,.u 1,.i k,.i (w.us[i]!.cands.length:Nat),.u 1,.m 8 (w.us[i]!.cands) fj.D,.u 3]) (λk=>[(0,.buf 1 [cA.D w]),(1,.buf 3 [dz.D (w.us[i]!)])]) 93 (λk=>k<=w.us[i]!.cands.length/\bI (nN w.us.length w.us[i]!.cands) 0 w.us[i]!.cands.length=bI (nN w.us.length w.us[i]!.cands) k w.us[i]!.cands.length) (λk=>w.us[i]!.cands.length-k) ⟨ae,rfl⟩ [(0,0),(45,1)] ?_;rintro k ⟨hk,hr2⟩;refine zg ?_;refine dT ?_ ?_<;>intro hc3
  .refine eB ?_;refine kq ?_ hm;refine ax ?_;refine aW ?_;refine cC (k) (hj:=λhf=>ct) (hb:=λhf=>ct) ?_;refine dm (v:=fj.D ((w.us[i]!.cands)[k]!)) (hi:=λhf=>ct) ?_;refine p9 ?_;refine aW ?_;refine br _ ?_;refine aS (env':=[_,_,_,_,_,_,_,_,_,_,_,_,_,_,_,_,⟨_,_⟩,⟨_,(.int _ _)⟩,_]) ?_;refine ax ?_;refine rM ?_;refine lz (v:=(bO.D _)) ?_;refine aD (hc:=hA _ ?_) ?_;rotate_left;first|assumption|omega|exact⟨hku.2 _ (aq ae),hku.2 _ (aq ae)⟩|exact(hku.2 _ (aq ae)).1|exact hku.2 _ (aq ae)|exact⟨(hku.2 _ (aq ae)).1,(hku.2 _ (aq ae)).1⟩
   refine sO ?_;refine aW ?_;refine aW ?_;refine oa ?_;refine aW ?_;refine rM ?_;refine lz (v:=.sl 8 ((w.us[i]!.cands).map fj.D)) ?_;refine aW ?_;refine xN (hb:=λhf=>ct) ?_;refine cC ((k-1)) (hj:=λhf=>ct) (hb:=λhf=>ct) ?_;refine qa ?_;refine dm (v:=bO.D ((w.us[i]!.cands)[(k-1)]!.v)) (hi:=λhf=>ct) ?_;refine rM ?_;refine lz (v:=(bO.D _)) ?_;refine bX (hc:=λhf=>hB ((w.us[i]!.cands)[(k-1)]!.v) _ ?_) ?_;rotate_left;first|assumption|omega|exact⟨hku.2 _ (aq ae),hku.2 _ (aq ae)⟩|exact(hku.2 _ (aq ae)).1|exact hku.2 _ (aq ae)|exact⟨(hku.2 _ (aq ae)).1,(hku.2 _ (aq ae)).1⟩
   refine PY ?_;refine xK ?_;refine DI ?_;refine aW ?_;refine iF ?_;refine aW ?_;refine bX (hc:=λhf=>hD _ _ ?_) ?_;rotate_left;first|assumption|omega|exact⟨hku.2 _ (aq ae),hku.2 _ (aq ae)⟩|exact(hku.2 _ (aq ae)).1|exact hku.2 _ (aq ae)|exact⟨(hku.2 _ (aq ae)).1,(hku.2 _ (aq ae)).1⟩
   refine sO ?_;refine DI ?_;refine aS (env':=[_,_,_,_,_,_,_,_,_,_,_,_,_,_,_,_,_,_,⟨_,(.bool _)⟩]) ?_;refine K5 ?_ ?_<;>intro hc4
   .refine zr ?_;rw[hr,ay (i:=i) ae];unfold mE;rw[hr2,ay (i:=k) ae];simp only[nN];grind
   refine fM (k+1) [(0,0),(1,1)] ?_;rw[hr2,ay ae];simp only[nN];grind
  refine zl (i+1) [(0,0)] ?_;exact⟨ae,h48,by rw[hr,ay ae];unfold mE;rw[hr2,bA (i:=k) ae];grind⟩
 refine zr ?_;rw[hr,bA ae]
def vX:aj:=bd 218
def w909 (hm:(Y.at 3).bN)(y:cx)(ns:List av)(nm:av)(hA:C627 (Y.at 3))(hB:afk (Y.at 3))(hC:afl (Y.at 3))(hD:afm (Y.at 3))(hE:afn (Y.at 3))(hp0:pG y):dk (Y.at 3) vX.body (wD vX (Lg y ns (uK (dI y nm))):Ex->List aY->St->Prop) (fP vX [cx.D y (.ptr 0 2 0 0),.str nm]) ⟨3,[(0,.buf 2 [eN 1 2 ns.length]),(1,.buf 1 (ns.map D.str)),(2,.buf 1 (df y ns))]⟩:=by
 show dk _ _ _ [⟨true,cx.D y (.ptr 0 2 0 0)⟩,⟨true,.str nm⟩,.un,.un,.un,.un,.un,.un,.un,.un,.un,.un,.un,.un,.un] ⟨3,[(0,.buf 2 [eN 1 2 ns.length]),(1,.buf 1 (ns.map D.str)),(2,.buf 1 (df y ns))]⟩;refine ax ?_;refine pz ?_;refine aD (hc:=hB (y.l) (nm) Rm) ?_;refine zc ?_ ?_<;>intro hc0
 .refine cU ?_;obtain⟨j,hj,hjl⟩:=(qS y.l nm).resolve_left ae;refine jX ?_;refine aV (uG.D ⟨y.l[j]!.r,-1⟩) ?_;refine bj [uG.D ⟨y.l[j]!.r,-1⟩] ?_;refine cU ?_;refine bD 19 ?_;refine zg ?_;refine gP trivial lO (dY ah (?_)) ah ⟨by first|(rw[Ys hj];done)|(rw[Ys hj];exact rfl),1,2,⟨ae,ae,ae⟩,tj⟩;rfl
 refine ru ?_;refine aD (hc:=hC (y.shop) (y.pins) (nm) Rm) ?_;refine EH ?_;refine aD (hc:=hD (y.l) (nm) Rm) ?_;refine fw ?_;refine br _ ?_;refine zg ?_;refine zf hm (λi=>[.u 1,.e (.str nm),.u 1,.p 3 8,.u 2,.i i,.m 1 (cH y.shop y.pins nm).2.1 (D.int .i64),.i ((cH y.shop y.pins nm).2.2),.u 1,.i ((cH y.shop y.pins nm).1),.u 1,.p 4 2,.u 1,.o 5 10 (iS y nm (cH y.shop y.pins nm).1.toNat ((cH y.shop y.pins nm).2.1.take i)).length]) (λi=>[(0,.buf 2 [eN 1 2 ns.length]),(1,.buf 1 (ns.map D.str)),(2,.buf 1 (df y ns)),(3,.buf 8 [cx.D y (.ptr 0 2 0 0)]),(4,.buf 2 [cu.D (kL y.l nm)]),(5,.buf 10 ((iS y nm (cH y.shop y.pins nm).1.toNat ((cH y.shop y.pins nm).2.1.take i)).map uG.D))]) 20 (λi=>i<=(cH y.shop y.pins nm).2.1.length) (λi=>(cH y.shop y.pins nm).2.1.length-i) ae [(3,3),(32,4)] ?_;intro i hi;have hll:=(pX (y:=y) (nm:=nm) (a:=(cH y.shop y.pins nm).1.toNat) ((cH y.shop y.pins nm).2.1.take i)).1;have hl64:=ad0 y nm;rw[ey]at hll;refine zg ?_;intro u0;refine dT ?_ ?_<;>intro hc1
 .refine dt ?_;obtain⟨j,hj,hjl,t,ht,htl,hxs⟩:=aj4 hp0 (nm:=nm) (i:=i) hc1.2 ae;refine EI ?_;refine br _ ?_;refine B8 ?_;refine bX (hc:=λhf=>hE y ns y.shop[j]!.es[t]!.r ⟨hp0.2.2.1,hxs⟩) (ha:=λ_=>by exact afe y ns ⟨rfl,rfl,rfl⟩) (hp:=λ_=>by exact aa3 y ns ⟨rfl,rfl,rfl⟩ lO) ?_;refine jX ?_;refine bX (hc:=λhf=>hA (kL y.l nm) y.shop[j]!.es[t]!.r.v ⟨XS _ _,hxs⟩) ?_;refine zc ?_ ?_<;>intro hc2
  .refine k9 ?_;refine aV (uG.D ⟨y.shop[j]!.es[t]!.r,(cH y.shop y.pins nm).1⟩) ?_;refine bj [uG.D ⟨y.shop[j]!.es[t]!.r,(cH y.shop y.pins nm).1⟩] ?_;refine cR (q:=uG.D) (xs:=(iS y nm (cH y.shop y.pins nm).1.toNat ((cH y.shop y.pins nm).2.1.take i))) (e:=⟨y.shop[j]!.es[t]!.r,(cH y.shop y.pins nm).1⟩) (hb:=ae) ?_;refine zg ?_;rw[adZ hj ae ht hc2];exact ir (i+1) [(3,3),(4,4),(64,5)]
  refine zg ?_;rw[adY hj ae ht hc2];exact ir (i+1) [(3,3),(4,4),(5,5)]
 refine cU ?_;rw[aj1 ae hi hc1];refine bD 5 ?_ (he:=abc) (hm:=abc);refine zg ?_;refine gP trivial lO (dY ah (?_)) ah ⟨cE,1,2,⟨ae,ae,ae⟩,tj⟩;rfl
def Qb:aj:=bd 294
def w1084 (hA:V2 Y)(hB:Tz Y):EU (cn Y Qb):=λs nm hp0=>by
 refine zc ?_ ?_<;>intro hc0
 .refine zr ?_;rw[show kg s nm=[]from ak hc0];rfl
 refine zg ?_;refine zf hm (λi=>[.u 1,.e (.str nm),.u 1,.p 1 2,.u 1,.i i,.u 3,.o 0 1 ((eF s.es nm i)).length,.u 1]) (λi=>[(0,.buf 1 (((eF s.es nm i)).map (D.int .i64))),(1,.buf 2 [cj.D s])]) 7 (λi=>i<=s.es.length) (λi=>s.es.length-i) ae [(0,1)] ?_;intro i hi;have hlt:=xf s.es nm i;refine zg ?_;intro u0;refine dT ?_ ?_<;>intro hc1
 .refine fw ?_;have h64:=SW hc0;refine zg ?_;refine aH (λhc2=>?_) (λhc2=>?_)
  .simp only[gL]at hc2;refine zg ?_;rw[adU hc2];exact ir (i+1) [(0,0),(1,1)]
  try simp only[gL]at hc2
  refine cY ?_;refine bD 0 ?_;refine zg ?_;refine zf hm (λk=>[.u 1,.e (.str nm),.u 1,.p 0 2,.u 1,.i i,.u 2,.i k,.m 1 (eF s.es nm i) (D.int .i64),.u 1]) (λk=>[(0,.buf 2 [cj.D s])]) 22 (λk=>k<=(eF s.es nm i).length/\Bj s.es (eF s.es nm i) i 0=Bj s.es (eF s.es nm i) i k) (λk=>(eF s.es nm i).length-k) ⟨ae,rfl⟩ [(1,0)] ?_;rintro k ⟨hk,hr⟩;refine EI ?_;refine cC ((eF s.es nm i)[k]!).toNat (hj:=λhf=>by
    have hkl:k<(eF s.es nm i).length:=by simp at hf;omega
    have hkr:=hlt.2 _ (aq hkl);omega) (hb:=λhf=>by
    have hkl:k<(eF s.es nm i).length:=by simp at hf;omega
    have hkr:=hlt.2 _ (aq hkl);omega) ?_
  refine cU ?_;refine dm (v:=bO.D s.es[((eF s.es nm i)[k]!).toNat]!.r.v) (hi:=λhf=>by
    have hkl:k<(eF s.es nm i).length:=by simp at hf;omega
    have hkr:=hlt.2 _ (aq hkl);omega) ?_
  refine ru ?_;refine bX (hc:=λhf=>hB s.es[((eF s.es nm i)[k]!).toNat]!.r.v s.es[i]!.r.v (by
    have hkl:k<(eF s.es nm i).length:=by simp at hf;omega
    have hkr:=hlt.2 _ (aq hkl);exact⟨(hp0 _ (aq ae)).1.2,(hp0 _ (aq ae)).1.2⟩)) ?_
  refine zc ?_ ?_<;>intro hc3
  .refine fM (k+1) [(0,0)] ?_;rw[hr,Ug ae hc3.2]
  refine dt ?_;have hk2:Bj s.es (eF s.es nm i) i 0=k:=by rw[hr];exact Uh (λh=>by rcases hc3 with h1|h1;omega;exact h1)
  refine dt ?_;refine BZ (he:=nk.sl) (n:=((eF s.es nm i).take k).length) (hn:=aF) (hb:=zW) ?_;refine cY ?_;refine bj [.int .i64 ((i:Nat):Int)] ?_;refine cR (q:=D.int .i64) (xs:=(eF s.es nm i).take k) (e:=((i:Nat):Int)) (hb:=zW) ?_;refine dt ?_;refine pn (q:=D.int .i64) (xs:=(eF s.es nm i).take k++[((i:Nat):Int)]) (ys:=(eF s.es nm i).drop k) (he:=nk.sl) (hb:=Rg) ?_;refine zg ?_;rw[adJ hk2,adV hc2];exact ir (i+1) [(57,0),(0,1)]
 refine cU ?_;obtain rfl:i=s.es.length:=ae;rw[adT hc0];refine bD 0 ?_;exact mQ
def Qi:aj:=bd 66
def w360 (hA:VY Y)(hB:C581 Y):Jr (cn Y Qi):=λl hp0=>by
 refine cY ?_;have hya:=yt hp0;refine aW ?_;refine aW ?_;refine aS (env':=[_,⟨_,.aR⟩,⟨_,(.int _ _)⟩,_,_,_,_,_,_,_,_,_,_]) ?_;refine cF ?_;refine ax ?_;refine aW ?_;refine aD (hc:=hA (l) (by first|assumption|omega)) ?_;refine aW ?_;refine gw (.int _ _) ?_;refine gw (.int _ _) ?_;refine aW ?_;refine aW ?_;refine aS (env':=[_,_,_,⟨_,(.int _ _)⟩,_,_,_,_,_,_,_,_,_]) ?_;refine cF ?_;refine ax ?_;refine aW ?_;refine po ?_;refine aS (env':=[_,_,_,_,⟨_,(.bool _)⟩,_,_,_,_,_,_,_,_]) ?_;refine dT ?_ ?_<;>intro hc0
 .exact absurd trivial hc0
 refine dt ?_;refine aS (env':=[_,_,_,_,_,_,_,_,_,⟨_,.aR⟩,_,_,_]) ?_;refine hY (aZ.nz _ [_,_,_,_,_,_,_,_,_,⟨true,.sl 2 []⟩,_,_,_] _ _ _ ⟨⟨rfl,.refl _⟩,⟨rfl,.refl _⟩,⟨rfl,.refl _⟩,⟨rfl,.refl _⟩,⟨rfl,.refl _⟩,⟨rfl,.refl _⟩,⟨rfl,.refl _⟩,⟨rfl,.refl _⟩,⟨rfl,.refl _⟩,⟨rfl,.nil 2⟩,⟨rfl,.refl _⟩,⟨rfl,.refl _⟩,⟨rfl,.refl _⟩,trivial⟩ Rt.nil) ?_;refine dt ?_;refine aS (env':=[_,_,_,_,_,⟨_,(.int _ _)⟩,_,_,_,_,_,_,_]) ?_;refine zf hm (λi=>[.m 11 l gI.D,.u 4,.i i,.u 3,.m 2 ((gu l).take (if i=0 then 0 else(gu l).length)) iH.D,.u 3]) (λi=>[]) 13 (λi=>i<=l.length) (λi=>l.length-i) ae [] ?_;intro i hi;refine zg ?_;intro u0;refine dT ?_ ?_<;>intro hc1
 .refine dt ?_;obtain rfl:i=0:=by have:=hya.1;omega
  obtain⟨hyp1,hyp2,hyp3,hyp4⟩:=tP hp0 (i:=0) ae;rw[ak rfl];refine zg ?_;refine zfL hm (λk=>[.m 11 l gI.D,.u 4,.i 0,.u 1,.i k,.u 1,.m 2 ((gu l).take k) iH.D,.u 3]) (λk=>[]) 18 (λk=>k<=(gu l).length) (λk=>(gu l).length-k) ae [] ?_;intro k hk;refine ru ?_;refine dm (v:=.sl 2 ((gu l).map iH.D)) (hi:=λ_=>ae) ?_;refine zg ?_;intro u1;refine dT ?_ ?_<;>intro hc2
  .refine dt ?_;have hk0:k=0:=by have:(gu l).length<=1:=hyp3;omega
   have hpp:=Zi hk0 (l:=gu l) ae;refine k9 ?_;refine dm (v:=.sl 2 ((gu l).map iH.D)) (hi:=λ_=>ae) ?_;refine zc ?_ ?_<;>intro hc3
   .exfalso;rw[hpp]at hc3;exact absurd hc3 aF
   refine zg ?_;rw[hpp];exact ir (k+1) []
  refine zg ?_;obtain rfl:k=(gu l).length:=ae;exact ir (0+1) []
 refine zr ?_;rw[ai (by have:=hya.1;omega),List.take_length];rfl
def sQ:aj:=bd 273
def w450 (hm:(Y.at 3).bN)(ws:List av)(t:av)(m0:List (Nat×bm))(hA:VZ (Y.at 3))(hB:C489 (Y.at 3))(hC:C664 (Y.at 3))(hp0:uO m0 0 t)(hp1:look m0 1=some (.buf 1 (ws.map D.str)))(hp2:Hb ws t):dk (Y.at 3) sQ.body (wD sQ (λd m=>d=.tup []/\look m 0=some (.bld (some 9) (t++cr ws).length true)/\look m 9=some (.row (t++cr ws))):Ex->List aY->St->Prop) (fP sQ [.ptr 0 2 0 0,.own 1 1 0 ws.length]) ⟨3,m0⟩:=by
 show dk _ _ _ [⟨true,.ptr 0 2 0 0⟩,⟨true,.own 1 1 0 ws.length⟩] ⟨3,m0⟩;obtain⟨⟨q1,q2⟩,q3,q4⟩:=hp2;have hlt:t++cr ws=t++b6 [32] ws++[10]:=by unfold cr;simp
 refine ax ?_;refine cU ?_;refine aD (hc:=hA ws [32] q2 a7 q3) (ha:=λ_=>ar (λd=>[d,D.str [32]]) (lX (q:=D.str) (λ_=>rfl) hp1)) (hp:=λ_=>⟨jT (q:=D.str) (λ_=>rfl) hp1,rfl,trivial⟩) ?_;refine dS (nx':=4) (v:=.any) (m':=se m0 0 6 (t++b6 [32] ws)) (hc:=λK' hK=>hB _ _ K' ⟨_,0,t,rfl,hp0,jj (by decide:0<3) (Nat.le_add_right _ _),q1,ae,hK⟩) (hn:=a7) ?_;refine dt ?_;refine dS (nx':=9) (v:=.any) (m':=se (se m0 0 6 (t++b6 [32] ws)) 0 9 (t++b6 [32] ws++[10])) (hc:=λK' hK=>hC _ _ K' ⟨10,0,t++b6 [32] ws,rfl,acA a7,jj (by decide:0<8) (Nat.le_add_right _ _),aF,by rw[bV];exact q4,hK⟩) (hn:=a7) ?_;refine zg ?_

 refine gP trivial lO (dY ah (?_)) ah ⟨rfl,by rw[hlt];exact(y3 a7).1,by rw[hlt];exact(y3 a7).2⟩;rfl
def Nl:aj:=bd 23
def w136 (hm:(Y.at 0).bN)(hA:C71 Y)(hB:C344 Y)(hC:C345 Y):I1 (cn Y Nl):=λm hp0=>by
 refine B8 ?_;refine aD (hc:=hA m.r hp0.1) ?_;refine zg ?_;refine aH (λhc0=>?_) (λhc0=>?_)
 .simp only[gL]at hc0;refine zg ?_;refine dj (ba (ar (D.int .i64) ?_) (ar (D.int .i64) ?_));all_goals rw[WX hc0]
 simp only[gL]at hc0;have q0:¬¬(cV m.r).1=0:=λh=>h hc0
 refine zg ?_;intro u0;refine aH (λhc1=>?_) (λhc1=>?_)
 .simp only[gL]at hc1;have hz:=WV q0 ae;refine zg ?_;refine dj (ba (ar (D.int .i64) ?_) (ar (D.int .i64) ?_));all_goals rw[hz]
 simp only[gL]at hc1;have q1:¬(8<m.ps.length\/8<m.hs.length):=ae;refine zg ?_;refine aH (λhc2=>?_) (λhc2=>?_)
 .simp only[gL]at hc2;have hz:=WW q0 q1 rfl hc2;refine zg ?_;refine dj (ba (ar (D.int .i64) ?_) (ar (D.int .i64) ?_));all_goals rw[hz]
 simp only[gL]at hc2;have hz:=WU q0 q1 hc2 rfl;refine fw ?_;refine aD (hc:=hC m.hs hp0.2) ?_;refine zg ?_;refine dj (ba (ar (D.int .i64) ?_) (ar (D.int .i64) ?_));all_goals rw[hz]
def PB:aj:=bd 27
def w114:I0 (cn Y PB):=λw hp0=>by
 refine zg ?_;refine zf hm (λi=>[.u 2,.i i,.p 0 1,.i (vQ w.us i:Nat),.u 2]) (λi=>[(0,.buf 1 [cA.D w])]) 4 (λi=>(i<=w.us.length/\vQ w.us i<=20000000)/\zj w.us=MY w.us (w.us.length-i) i (vQ w.us i)) (λi=>w.us.length-i) ⟨⟨ae,show 1<=20000000 by decide⟩,rfl⟩ [(0,0)] ?_;rintro i ⟨⟨hi,hsz⟩,hr⟩;refine zg ?_;intro u0;refine dT ?_ ?_<;>intro hc0
 .refine dt ?_;have hu16:=(hp0 _ (aq (show i<w.us.length by omega))).1;have hs2:=aeu (us:=w.us) (i:=i) hu16 ae;refine zc ?_ ?_<;>intro hc1
  .refine cY ?_;have hcast:=akM (us:=w.us) (i:=i) hc1;refine B8 ?_;intro u1;refine qU (hb:=by rw[hcast];omega) ?_;refine zg ?_;rw[hcast];refine zl (i+1) [(0,0)] ?_;exact⟨⟨ae,hs2⟩,by rw[hr,SA ae ae];rfl⟩
  refine zg ?_;rw[akL hc1];refine zl (i+1) [(0,0)] ?_;exact⟨⟨ae,hs2⟩,by rw[hr,SA ae ae];rfl⟩
 refine zr ?_;rw[hr,Zl ae]
def Qe:aj:=bd 258
def w1013 (hm:(Y.at 0).bN)(hA:afr Y)(hC:afs Y):EN (cn Y Qe):=λshop ps nm hp0=>by
 refine zc ?_ ?_<;>intro hc0
 .refine zr ?_;rw[show(cH shop ps nm)=(0,[],(fU shop ps nm).2)from ak hc0];rfl
 refine cU ?_;obtain⟨hB,j,hj,hjl⟩:=pR (by simpa using hc0:(fU shop ps nm).2=0);refine jX ?_;refine aD (hc:=hC shop[j]! nm (hp0 _ (aq hjl))) ?_;refine zr ?_;rw[show(cH shop ps nm)=((fU shop ps nm).1,kg shop[(fU shop ps nm).1.toNat]! nm,0)from ai (by simpa using hc0),hj,Int.toNat_natCast];rfl
def Yw:aj:=bd 7
def w29 (hm:(Y.at 0).bN)(hA:C25 Y):Q0 (cn Y Yw):=λn=>by
 refine zg ?_;have hpl:=kQ n 3 ae;refine bj (LM.map D.str) ?_;refine zg ?_;rw[cL];refine uZ (v:=.str LM[(kP n 3).toNat]!) (hi:=λ_=>by simp[LM];omega) ?_;refine cY ?_;refine DE 0 ?_;refine fw ?_;refine br _ ?_;exact mQ
end Go.Abs
end
