/- A part of the proofs of the statements: G5, RGen2, G6, RGen3, RGen4, RGen5, RGen6, RGen8, RGen9, W2, W3, Y5, RSpec22, X6, Z1, X1, X2, G9, K0, K1, KB. -/
import Derived.KernelRfl
import Derived.Shelf.Strings.Builder2
import Derived.Test.YtpdlhpamcaocgaaGreatDoorProg
import Derived.Test.YtpdlhpamcaocgaaGreatDoorP08
set_option linter.all false
set_option maxRecDepth 4000
section
namespace Go.Abs
open Go
def vr:aB:=⟨3,18,[⟨3,none⟩],[[.sl 2 [.a,.sl 1 [.a]]]],(sq (rg [gb 9 s2,gm (.c (.ar))] [(10,0),(3,1)]) (sq (r1 [gm (.c (.ar))] 17 0) (sq (r1 [gn (.build [.str [],.str [],.str [],.str []] [(0,1,(cs [100,101,102,97,117,108,116])),(1,1,(cs [120])),(2,1,(cs [121])),(3,1,(cs [122]))]),gb 4 (.c (.agg [.str [],.str [],.str [],.str []])),gt 4 l1 l0] 8 1) (sq (sq (r1 [gm bH] 4 0) (.block 0 (.loop (sq (sq (r1 [gm s4,aX l0 vc] 5 1) (iw s5 0)) (sq (.block 1 (sq (r1 [gm s0,gm s1,gm s4,au l1 l2,gx 479 [l0,l3] [[.sl 1 [.a]],[.a]],gm l4] 6 5) (sq (sq (r1 [gm s6,gx 478 [l0,kG] jd,aF l1 bH] 7 2) (.cond s7 (.exit 1) .skip)) (sq (r1 [gm s4,gn (.iaP 4 1 s8 l0),gd l1,gn (.build [.str [],.ar] [(0,1,l2)]),gb 2 (.c (.agg [.str [],.ar])),gt 2 l4 l3] 14 4) (sq (sq (r1 [gm bH] 9 0) (.block 2 (.loop (sq (sq (r1 [gm s9,gf 6 lf,gd l1,gl l2,aX l0 l3,gm l4,gmt 5 s9,cw 5 (pC l6 kR),fk l5 l7] 11 8) (iw n7 2)) (sq (.block 3 (sq (r1 [gf 6 lf,gd l0,gm s9,ga 3 l1 l2,gk 3 true l3,gb 3 (.c (.agg [.ar,.str [],.str []])),gt 3 l5 l4] 12 5) (sq (sq (r1 [gf 2 mi,gd l0,b7 l1 cse,gm l2,gmt 3 s6,gmt 3 s9,cw 3 (BH kG l5),cw 3 (.cvi .u64 l6),cw 3 (.bin .shr l4 l7),cw 3 (EF l8 ca),cw 3 (cR l9 ca),fk l3 l10] 13 11) (.cond uL (rg [gf 1 td,gd l0,gf 2 mi,gd l2,au (cs [63]) l3,gx 483 [l1,l4] [[.sl 1 [.a]],[.a]],gf 1 td,gt 1 l6 l5] []) .skip)) (sq (r1 [gf 0 mi,gd l0,gl l1,aF l2 ca,gm l3,gmt 4 s6,gmt 4 s9,cw 4 (BH BW l6),cw 4 (.cvi .u64 l7),cw 4 (.bin .shr l5 l8),cw 4 (EF l9 ca),cw 4 (cR l10 ca),fk l4 jx] 15 12) (.cond wD (rt [gf 1 td,gd l0,gf 0 mi,gd l2,ga 4 l3 bH,gf 0 l4,gd l5,au l6 (cs [47]),au l7 (cs [120]),gx 483 [l1,l8] [[.sl 1 [.a]],[.a]],gf 1 td,gt 1 l10 l9] []) .skip))))) (r1 [gm s9,au l0 ca,gm l1] 9 2)))))) (sq (sq (r1 [gm s4,aX l0 kG,gm l1,gmt 2 s6,cw 2 (.bin .shr l3 (iu 7)),cw 2 (EF l4 ca),cw 2 (cR l5 ca),fk l2 l6,gm l7,gmt 8 s0,gmt 8 s1,gmt 8 s4,cw 8 (BH l10 jx),cw 8 (BH kT ca),cw 8 (.call 479 [l9,mw] [[.sl 1 [.a]],[.a]]),cw 8 (.call 478 [nJ,kG] jd),cw 8 (fo ot bH),fk l8 qk] 16 17) (.cond Co (rt [gf 1 td,gd l0,gm s4,au l2 ca,gn (.iaP 4 1 s8 l3),gd l4,gx 483 [l1,l5] [[.sl 1 [.a]],[.a]],gf 1 td,gt 1 l7 l6] []) .skip)) (r1 [gm ym,gk 2 true td,gn (.bsl 2 (.agg [.str [],.ar]) 1 [(0,l1)]),gn (.app 2 l0 l2),gm l3] 17 4))))))) (r1 [gm s4,au l0 ca,gm l1] 4 2)))))) (sq (r1 [gm ym,gm l0] 3 1) .ret)))))⟩
def w232 {Γ:Ctx}(hm:(Γ.at 0).bj)(h478:Ep Γ)(h479:Hb Γ)(h483:Mx Γ)(l:List Int)(i:Int)(r:Rec)  (hp0:0≤i∧i≤2000000)(hp1:∀j:Nat,j<r.needs.length→r.needs[j]!.option.length≤100∧(r.needs[j]!.any.length=1→r.needs[j]!.any[0]!.name.length≤100)):dK Γ vr (.sl 2 ((fh l i r).map aU.D)) [.sl 1 (l.map (D.int .i64)),.int .i64 i,Rec.D r]:=by
 show bB _ _ _ [⟨_,_⟩,⟨_,_⟩,⟨_,_⟩,_,_,_,_,_,_,_,_,_,_,_,_,_,_,_] _;refine ak ?_;refine bc ?_;refine eZ (jq.map D.str) ?_;refine ay ?_;refine aJ (.agg (jq.map D.str)) (he:=by exact rfl) ?_;refine aQ ?_;refine bq hm (ι:=(Nat×List aU)) (fun p=>[⟨true,.sl 1 (l.map (D.int .i64))⟩,⟨true,.int .i64 i⟩,.un,.un,⟨true,.int .i64 (p.1:Nat)⟩,.un,.un,.un,⟨true,.ptr 4 4 0 0⟩,.un,⟨true,.ptr 0 9 0 0⟩,.un,.un,.un,.un,.un,.un,⟨true,.own 1 2 0 p.2.length⟩]) (fun p=>[(0,.buf 9 [Rec.D r]),(4,.buf 4 [.agg (jq.map D.str)]),(1,.buf 2 (p.2.map aU.D))]) 30 (fun p=>p.1≤4∧p.2=E6 l i r p.1) (fun p=>4-p.1) (0,[]) ⟨by dsimp only;omega,rfl⟩ (aP.to [(0,0),(4,4)] ae ae (by repeat(first|exact c7.nil|refine c7.un ?_|refine c7.eq ae ?_|refine c7.ni (Or.inr ⟨_,_,_,rfl⟩) ?_)) (by refine aC.de ae ae bY ?_;refine aC.de ae ae bY ?_;refine aC.mt ae ae ae ae ?_;exact aC.nil)) ?_;rintro⟨k,fs⟩ ⟨hk,hf⟩;dsimp only at hk hf⊢;have hfl:fs.length≤k:=by
  rw[hf];unfold E6;exact Nat.le_trans (List.length_filterMap_le _ _) (by simp)
 refine aQ ?_;refine aq (fun hc0=>?_) (fun hc0=>?_)
 ·try simp only[iB]at hc0
  refine bc ?_;refine aj (hc:=h479 l (i+(k:Nat))) ?_;refine aQ ?_;refine aj (hc:=h478 _ 3 (by decide)) ?_;refine ax ?_;refine cG (fun hc1=>?_) fun hc1=>?_
  ·refine b8 ?_;exact⟨(k+1,fs),⟨by dsimp only;omega,by dsimp only;rw[hf,Kv hc1]⟩,by dsimp only;omega,(aP.to [(0,0),(4,4),(1,1)] ae ae lN (by refine aC.de ae ae bY ?_;refine aC.de ae ae bY ?_;refine aC.de ae ae bY ?_;exact aC.nil))⟩
  refine az ?_;refine xW k (hb:=fun _=>by omega) ?_;refine cu (v:=.str jq[k]!) (hv:=fun _=>AX jq (by show _<4;omega) rfl) (ho:=by omega) ?_;refine bA (.agg [.str jq[k]!,.ar]) ?_;refine ay ?_;refine aJ (.agg [.str jq[k]!,.ar]) (he:=by exact rfl) ?_;refine ay ?_;refine lY [(0,.buf 9 [Rec.D r]),(4,.buf 4 [.agg (jq.map D.str)]),(1,.buf 2 (fs.map aU.D)),(45,.buf 2 [(.agg [.str jq[k]!,.sl 1 ((([]:List ah)).map D.str)])])] (.id ae (.id ae (.id ae (.bf ae (.cons (.ag (.cons (.refl _) (.cons (.nil 1) .nil))) .nil) .nil)))) ?_;refine aA ?_;refine bq hm (ι:=(Nat×List ah)) (fun p=>[⟨true,.sl 1 (l.map (D.int .i64))⟩,⟨true,.int .i64 i⟩,.un,.un,⟨true,.int .i64 (k:Nat)⟩,.un,⟨true,.int .i64 (fZ l (i+(k:Nat)))⟩,.un,⟨true,.ptr 4 4 0 0⟩,⟨true,.int .i64 (p.1:Nat)⟩,⟨true,.ptr 0 9 0 0⟩,.un,.un,.un,⟨true,.ptr 2 2 0 0⟩,.un,.un,⟨true,.own 1 2 0 fs.length⟩]) (fun p=>[(0,.buf 9 [Rec.D r]),(4,.buf 4 [.agg (jq.map D.str)]),(1,.buf 2 (fs.map aU.D)),(2,.buf 2 [.agg [.str jq[k]!,.sl 1 (p.2.map D.str)]])]) 60 (fun p=>p.1≤min r.needs.length 2∧p.2=lU r (fZ l (i+(k:Nat))) p.1) (fun p=>2-p.1) (0,[]) ⟨by dsimp only;omega,rfl⟩ (aP.to [(0,0),(4,4),(1,1),(45,2)] ae ae lN (by refine aC.de ae ae bY ?_;refine aC.de ae ae bY ?_;refine aC.de ae ae bY ?_;refine aC.nl 45 ae ae rfl ae ?_;exact aC.nil)) ?_;rintro⟨j,of⟩ ⟨hj,ho⟩;dsimp only at hj ho⊢;have hol:of.length≤4:=by
   have:=xy r (fZ l (i+(k:Nat))) j;rw[ho];omega
  refine aA ?_;refine cu (v:=.sl 3 (r.needs.map aR.D)) ?_;refine ay ?_;intro u0;refine aO ?_;refine aq (fun hc2=>?_) (fun hc2=>?_)
  ·simp only[Bool.and_eq_true,decide_eq_true_eq]at hc2;obtain⟨hpo,hpn⟩:=hp1 j (by omega);refine aA ?_;refine cu (v:=.sl 3 (r.needs.map aR.D)) ?_;refine ay ?_;refine cK j (hb:=fun _=>by omega) ?_;refine bQ (v:=aR.D r.needs[j]!) (hi:=fun _=>by omega) ?_;refine ay ?_;refine aJ (aR.D r.needs[j]!) (he:=by exact rfl) ?_;refine jj ?_;refine rU (3+(j:Nat)) (hb:=fun _=>by rw[IntKind.wrap_u64];omega) ?_;refine Cg _ (hb:=fun _=>rfl) ?_;refine xT (Ax (fZ l (i+(k:Nat))) (3+(j:Nat))) (hb:=fun _=>rfl) ?_;refine az ?_;refine cG (fun hc3=>?_) fun hc3=>?_
   ·refine ax ?_;refine cu (v:=.sl 1 (of.map D.str)) ?_;refine ay ?_;refine cu (v:=.str r.needs[j]!.option) ?_;refine c9 (hb:=fun _=>by simp only[List.length_cons,List.length_nil];omega) ?_;refine aj (hc:=h483 of ([63]++r.needs[j]!.option) (by omega)) ?_;refine ay ?_;refine aJ (.agg [.str jq[k]!,.sl 1 ((dN of ([63]++r.needs[j]!.option)).map D.str)]) (he:=by exact rfl) ?_;refine aQ ?_;intro u1;refine aQ ?_;refine rU (5+(j:Nat)) (hb:=fun _=>by rw[IntKind.wrap_u64];omega) ?_;refine Cg _ (hb:=fun _=>rfl) ?_;refine xT (Ax (fZ l (i+(k:Nat))) (5+(j:Nat))) (hb:=fun _=>rfl) ?_;refine az ?_;refine gw (fun hc4=>?_) fun hc4=>?_
    ·refine ay ?_;have hpl:=m8 of ([63]++r.needs[j]!.option);refine ay ?_;refine cu (v:=.sl 1 (((dN of ([63]++r.needs[j]!.option))).map D.str)) ?_;refine ay ?_;refine cu (v:=.sl 4 (r.needs[j]!.any.map aT.D)) ?_;refine cK 0 (hb:=fun _=>by omega) ?_;refine ay ?_;refine bQ (v:=.str r.needs[j]!.any[0]!.name) (hi:=fun _=>by omega) ?_;refine c9 (hb:=fun _=>by have:=hpn (by omega);simp only[List.length_cons,List.length_nil];omega) ?_;refine c9 (hb:=fun _=>by have:=hpn (by omega);simp only[List.length_append,List.length_cons,List.length_nil];omega) ?_;refine aj (hc:=h483 (dN of ([63]++r.needs[j]!.option)) (r.needs[j]!.any[0]!.name++[47]++[120]) (by omega)) ?_;refine ay ?_;refine aJ (.agg [.str jq[k]!,.sl 1 ((dN (dN of ([63]++r.needs[j]!.option)) (r.needs[j]!.any[0]!.name++[47]++[120])).map D.str)]) (he:=by exact rfl) ?_;refine b8 ?_;have hA:E5 r (fZ l (i+(k:Nat))) of j=dN of ([63]++r.needs[j]!.option):=if_pos hc3;have hB:Jk r (fZ l (i+(k:Nat))) (dN of ([63]++r.needs[j]!.option)) j=dN (dN of ([63]++r.needs[j]!.option)) (r.needs[j]!.any[0]!.name++[47]++[120]):=if_pos ⟨by omega,hc4.2⟩;have hJ:lU r (fZ l (i+(k:Nat))) (j+1)=(dN (dN of ([63]++r.needs[j]!.option)) (r.needs[j]!.any[0]!.name++[47]++[120])):=by rw[kN,Jl,←ho,hA,hB]
     exact⟨(j+1,(dN (dN of ([63]++r.needs[j]!.option)) (r.needs[j]!.any[0]!.name++[47]++[120]))),⟨by dsimp only;omega,hJ.symm⟩,by dsimp only;omega,(aP.to [(0,0),(4,4),(1,1),(2,2)] ae ae lN (by refine aC.de ae ae bY ?_;refine aC.de ae ae bY ?_;refine aC.de ae ae bY ?_;refine aC.de ae ae bY ?_;exact aC.nil))⟩
    refine b8 ?_;have hA:E5 r (fZ l (i+(k:Nat))) of j=dN of ([63]++r.needs[j]!.option):=if_pos hc3;have hB:Jk r (fZ l (i+(k:Nat))) (dN of ([63]++r.needs[j]!.option)) j=(dN of ([63]++r.needs[j]!.option)):=if_neg (by rintro⟨h1,h2⟩;rcases hc4 with h|h;omega;exact h h2);have hJ:lU r (fZ l (i+(k:Nat))) (j+1)=(dN of ([63]++r.needs[j]!.option)):=by rw[kN,Jl,←ho,hA,hB]
    exact⟨(j+1,(dN of ([63]++r.needs[j]!.option))),⟨by dsimp only;omega,hJ.symm⟩,by dsimp only;omega,(aP.to [(0,0),(4,4),(1,1),(2,2)] ae ae lN (by refine aC.de ae ae bY ?_;refine aC.de ae ae bY ?_;refine aC.de ae ae bY ?_;refine aC.de ae ae bY ?_;exact aC.nil))⟩
   refine aQ ?_;intro u1;refine aQ ?_;refine rU (5+(j:Nat)) (hb:=fun _=>by rw[IntKind.wrap_u64];omega) ?_;refine Cg _ (hb:=fun _=>rfl) ?_;refine xT (Ax (fZ l (i+(k:Nat))) (5+(j:Nat))) (hb:=fun _=>rfl) ?_;refine az ?_;refine gw (fun hc4=>?_) fun hc4=>?_
   ·refine ay ?_;have hpl:=m8 of ([63]++r.needs[j]!.option);refine ay ?_;refine cu (v:=.sl 1 ((of).map D.str)) ?_;refine ay ?_;refine cu (v:=.sl 4 (r.needs[j]!.any.map aT.D)) ?_;refine cK 0 (hb:=fun _=>by omega) ?_;refine ay ?_;refine bQ (v:=.str r.needs[j]!.any[0]!.name) (hi:=fun _=>by omega) ?_;refine c9 (hb:=fun _=>by have:=hpn (by omega);simp only[List.length_cons,List.length_nil];omega) ?_;refine c9 (hb:=fun _=>by have:=hpn (by omega);simp only[List.length_append,List.length_cons,List.length_nil];omega) ?_;refine aj (hc:=h483 of (r.needs[j]!.any[0]!.name++[47]++[120]) (by omega)) ?_;refine ay ?_;refine aJ (.agg [.str jq[k]!,.sl 1 ((dN of (r.needs[j]!.any[0]!.name++[47]++[120])).map D.str)]) (he:=by exact rfl) ?_;refine b8 ?_;have hA:E5 r (fZ l (i+(k:Nat))) of j=of:=if_neg (by rintro⟨h1,h2⟩;rcases hc3 with h|h;exact h1 h;exact h h2);have hB:Jk r (fZ l (i+(k:Nat))) of j=dN of (r.needs[j]!.any[0]!.name++[47]++[120]):=if_pos ⟨by omega,hc4.2⟩;have hJ:lU r (fZ l (i+(k:Nat))) (j+1)=(dN of (r.needs[j]!.any[0]!.name++[47]++[120])):=by rw[kN,Jl,←ho,hA,hB]
    exact⟨(j+1,(dN of (r.needs[j]!.any[0]!.name++[47]++[120]))),⟨by dsimp only;omega,hJ.symm⟩,by dsimp only;omega,(aP.to [(0,0),(4,4),(1,1),(2,2)] ae ae lN (by refine aC.de ae ae bY ?_;refine aC.de ae ae bY ?_;refine aC.de ae ae bY ?_;refine aC.de ae ae bY ?_;exact aC.nil))⟩
   refine b8 ?_;have hA:E5 r (fZ l (i+(k:Nat))) of j=of:=if_neg (by rintro⟨h1,h2⟩;rcases hc3 with h|h;exact h1 h;exact h h2);have hB:Jk r (fZ l (i+(k:Nat))) of j=of:=if_neg (by rintro⟨h1,h2⟩;rcases hc4 with h|h;omega;exact h h2);have hJ:lU r (fZ l (i+(k:Nat))) (j+1)=of:=by rw[kN,Jl,←ho,hA,hB]
   exact⟨(j+1,of),⟨by dsimp only;omega,hJ.symm⟩,by dsimp only;omega,(aP.to [(0,0),(4,4),(1,1),(2,2)] ae ae lN (by refine aC.de ae ae bY ?_;refine aC.de ae ae bY ?_;refine aC.de ae ae bY ?_;refine aC.de ae ae bY ?_;exact aC.nil))⟩
  simp only[Bool.and_eq_false_iff,decide_eq_false_iff_not]at hc2;obtain rfl:j=min r.needs.length 2:=by omega
  subst ho;refine b8 ?_;refine Cg _ (hb:=fun _=>rfl) ?_;refine xT (Ax (fZ l (i+(k:Nat))) 7) (hb:=fun _=>rfl) ?_;refine b8 ?_;refine eF (hc:=fun hf=>h479 l (i+(k:Nat)+1)) ?_;refine eF (hc:=fun hf=>h478 _ 3 (by decide)) ?_;refine az ?_;refine cG (fun hc5=>?_) fun hc5=>?_
  ·refine ax ?_;refine cu (v:=.sl 1 ((lU r (fZ l (i+(k:Nat))) (min r.needs.length 2)).map D.str)) ?_;refine ax ?_;refine xW (k+1) (hb:=fun _=>by omega) ?_;refine cu (v:=.str jq[k+1]!) (hv:=fun _=>AX jq (by show _<4;omega) rfl) (ho:=by omega) ?_;refine aj (hc:=h483 (lU r (fZ l (i+(k:Nat))) (min r.needs.length 2)) jq[k+1]! (by omega)) ?_;refine ay ?_;refine aJ (.agg [.str jq[k]!,.sl 1 ((dN (lU r (fZ l (i+(k:Nat))) (min r.needs.length 2)) jq[k+1]!).map D.str)]) (he:=by exact rfl) ?_;refine az ?_;refine cE (d:=aU.D ⟨jq[k]!,dN (lU r (fZ l (i+(k:Nat))) (min r.needs.length 2)) jq[k+1]!⟩) ?_;refine cz [aU.D ⟨jq[k]!,dN (lU r (fZ l (i+(k:Nat))) (min r.needs.length 2)) jq[k+1]!⟩] ?_;refine iX (q:=aU.D) (xs:=fs) (e:=⟨jq[k]!,dN (lU r (fZ l (i+(k:Nat))) (min r.needs.length 2)) jq[k+1]!⟩) ?_;refine dA ?_;have hC:HJ l i (fZ l (i+(k:Nat))) k (lU r (fZ l (i+(k:Nat))) (min r.needs.length 2))=dN (lU r (fZ l (i+(k:Nat))) (min r.needs.length 2)) jq[k+1]! :=if_pos ⟨⟨by omega,hc5.1.2⟩,by rw[show i+(k:Nat)+1=i+(k:Int)+1 by omega];exact hc5.2⟩;exact⟨(k+1,fs++[⟨jq[k]!,dN (lU r (fZ l (i+(k:Nat))) (min r.needs.length 2)) jq[k+1]!⟩]),⟨by dsimp only;omega,by dsimp only;rw[hf];exact(BS hc1 hC).symm⟩,by dsimp only;omega,(aP.to [(0,0),(4,4),(99,1)] ae ae (by repeat(first|exact c7.nil|refine c7.un ?_|refine c7.eq ae ?_|refine c7.ni (Or.inr ⟨_,_,_,rfl⟩) ?_)) (by refine aC.de ae ae bY ?_;refine aC.de ae ae bY ?_;refine aC.nl 99 ae ae rfl (bt (fun _=>rfl) _) ?_;exact aC.nil))⟩
  refine az ?_;refine cE (d:=aU.D ⟨jq[k]!,(lU r (fZ l (i+(k:Nat))) (min r.needs.length 2))⟩) ?_;refine cz [aU.D ⟨jq[k]!,(lU r (fZ l (i+(k:Nat))) (min r.needs.length 2))⟩] ?_;refine iX (q:=aU.D) (xs:=fs) (e:=⟨jq[k]!,(lU r (fZ l (i+(k:Nat))) (min r.needs.length 2))⟩) ?_;refine dA ?_;have hC:HJ l i (fZ l (i+(k:Nat))) k (lU r (fZ l (i+(k:Nat))) (min r.needs.length 2))=(lU r (fZ l (i+(k:Nat))) (min r.needs.length 2)):=if_neg (by rintro⟨⟨h1,h2⟩,h3⟩;rcases hc5 with(h|h)|h;omega;exact h h2;exact h3 h);exact⟨(k+1,fs++[⟨jq[k]!,(lU r (fZ l (i+(k:Nat))) (min r.needs.length 2))⟩]),⟨by dsimp only;omega,by dsimp only;rw[hf];exact(BS hc1 hC).symm⟩,by dsimp only;omega,(aP.to [(0,0),(4,4),(90,1)] ae ae (by repeat(first|exact c7.nil|refine c7.un ?_|refine c7.eq ae ?_|refine c7.ni (Or.inr ⟨_,_,_,rfl⟩) ?_)) (by refine aC.de ae ae bY ?_;refine aC.de ae ae bY ?_;refine aC.nl 90 ae ae rfl (bt (fun _=>rfl) _) ?_;exact aC.nil))⟩
 simp only[decide_eq_false_iff_not]at hc0;obtain rfl:k=4:=by omega
 refine aO ?_;refine ey 1 ?_;refine ay ?_;refine cj (?_);rw[hf];rfl
def L6 (Γ:Ctx):Prop:=∀(l:List Int)(i:Int)(r:Rec),(0≤i∧i≤2000000)→(∀j:Nat,j<r.needs.length→r.needs[j]!.option.length≤100∧(r.needs[j]!.any.length=1→r.needs[j]!.any[0]!.name.length≤100))→Γ.pre 232 [.sl 1 (l.map (D.int .i64)),.int .i64 i,Rec.D r]∧Γ.val 232 [.sl 1 (l.map (D.int .i64)),.int .i64 i,Rec.D r]=.sl 2 ((fh l i r).map aU.D)
end Go.Abs
end
namespace Go.Abs
def Gw:ah:=[114,99,46,49]
def oP (l:List Int)(i:Int):ah:=if dd l (i+2) 9=1 then Gw else []
def qK (l:List Int)(i:Int):ah:=if dd l (i+2) 9=2 then [55]else []
def Dd (l:List Int)(i:Int):df:=⟨dd l i 3,dd l (i+1) 2,0,oP l i,qK l i⟩
def gK (l:List Int)(i:Int):Nat:=(dd l (i+3) 4%3).toNat
def NF (l:List Int)(i:Int):(dd l (i+3) 4).tmod 3=(gK l i:Int):=by
 have h:=cx l (i+3) 4 (by decide);rw[Int.tmod_eq_emod_of_nonneg h.1];unfold gK;omega
def Jm (l:List Int)(i:Int):gK l i≤2:=by unfold gK;omega
def yV (l:List Int)(i own:Int)(n:Nat):List aR:=(List.range n).map fun(q:Nat)=>dS l (i+4+20*((gK l i-q:Nat):Int) -20) own
def Fa {l:List Int}{i own:Int}{k:Nat}(hk:k≤gK l i)(h0:0<k):yV l i own (gK l i-(k-1))=yV l i own (gK l i-k)++[dS l (i+4+20*(k:Int) -20) own]:=by
 rw[show gK l i-(k-1)=(gK l i-k)+1 by omega];unfold yV;rw[List.range_succ,List.map_append,List.map_singleton,show gK l i-(gK l i-k)=k by omega]
def mU (l:List Int)(i own:Int):List aR:=yV l i own (gK l i)
def tS (l:List Int)(i own:Int):ee:=⟨cJ (own+1+dd l (i+46) 4),mS l (i+47),gR l (i+50)⟩
def mR (l:List Int)(i own:Int):List ee:=if dd l (i+45) 5=1 then [tS l i own]else []
def kP (l:List Int)(i own:Int):Rec:=⟨cJ own,Dd l i,mU l i own,mR l i own,[]⟩
def gh (l:List Int)(i own:Int):Rec:={kP l i own with feats:=fh l (i+52) (kP l i own)}
def C7 {l:List Int}{i own:Int}{k:Nat}{w:aT}(h:w∈oO l i own k):w.name.length≤3:=by
 obtain⟨q,_,rfl⟩:=List.mem_map.1 h;exact jt _
def qL (l:List Int)(i own:Int):(dS l i own).option.length≤3:=by
 show(if _ then _ else _:ah).length≤3;split
 ·exact qO _
 ·simp
def Dc (l:List Int)(i own:Int):∀j:Nat,j<(kP l i own).needs.length→(kP l i own).needs[j]!.option.length≤100∧((kP l i own).needs[j]!.any.length=1→(kP l i own).needs[j]!.any[0]!.name.length≤100):=by
 intro j hj;have hm:=bL hj;obtain⟨q,_,hq⟩:=List.mem_map.1 hm;rw[←hq];generalize i+4+20*((gK l i-q:Nat):Int) -20=x;refine⟨Nat.le_trans (qL _ _ _) (by decide),fun h=>?_⟩;have h2:=bL (l:=(dS l x own).any) (i:=0) (by omega);exact Nat.le_trans (C7 (k:=dm l x) h2) (by decide)
end Go.Abs
section
namespace Go.Abs
open Go
def zb:aB:=⟨3,10,[⟨3,some (9,true)⟩],[[.a,.a,.a,.a,.a,.a,.sl 3 [.sl 4 [.a,.a,.sl 1 [.a],.a],.a,.a],.sl 3 [.a,.a,.a],.sl 2 [.a,.sl 1 [.a]]]],(sq (r1 [gb 9 (.c (.agg [.str [],.int .i64 0,.int .i64 0,.int .i64 0,.str [],.str [],.ar,.ar,.ar]))] 3 0) (sq (r1 [gm s2,gx 227 [l0] cq,gm s0,gm s1,gx 228 [l2,l3,kG] [[.sl 1 [.a]],[.a],[.a]],gm s0,gm s1,au l6 ca,gx 228 [l5,l7,kR] [[.sl 1 [.a]],[.a],[.a]],gn (.build [.int .i64 0,.int .i64 0,.int .i64 0,.str [],.str []] [(0,1,l4),(1,1,l8)]),gn (.build [.str [],.int .i64 0,.int .i64 0,.int .i64 0,.str [],.str [],.ar,.ar,.ar] [(0,1,l1),(1,5,l9)]),gb 9 (.c (.agg [.str [],.int .i64 0,.int .i64 0,.int .i64 0,.str [],.str [],.ar,.ar,.ar])),gt 9 jx l10] 5 11) (sq (sq (r1 [gm s0,gm s1,au l1 kR,gx 228 [l0,l2,BX] [[.sl 1 [.a]],[.a],[.a]],aF l3 ca] 4 4) (.cond s4 (rg [gf 1 s5,gf 3 l0,gt 1 l1 (cs [114,99,46,49])] []) .skip)) (sq (sq (r1 [gm s0,gm s1,au l1 kR,gx 228 [l0,l2,BX] [[.sl 1 [.a]],[.a],[.a]],aF l3 kR] 6 4) (.cond s6 (rg [gf 1 s5,gf 4 l0,gt 1 l1 (cs [55])] []) .skip)) (sq (sq (r1 [gm s0,gm s1,au l1 kG,gx 228 [l0,l2,vc] [[.sl 1 [.a]],[.a],[.a]],gn (.bin .rem l3 kG),gm l4] 7 5) (.block 0 (.loop (sq (sq (r1 [gm s7,dH l0 bH] 8 1) (iw s8 0)) (sq (.block 1 (rt [gf 6 s5,gd l0,gm s0,gm s1,au l3 vc,gm s7,gn (.bin .mul (i6 20) l5),au l4 l6,fH l7 (i6 20),gm s2,gx 229 [l2,l8,l9] [[.sl 1 [.a]],[.a],[.a]],gn (.bsl 3 (.agg [.ar,.str [],.str []]) 1 [(0,l10)]),gn (.app 3 l1 jx),gf 6 s5,gt 1 mw kT] [])) (r1 [gm s7,fH l0 ca,gm l1] 7 2)))))) (sq (sq (r1 [gm s0,gm s1,au l1 (i6 45),gx 228 [l0,l2,BW] [[.sl 1 [.a]],[.a],[.a]],aF l3 ca] 9 4) (.cond s9 (rt [gf 7 s5,gd l0,gm s2,au l2 ca,gm s0,gm s1,au l5 (i6 46),gx 228 [l4,l6,vc] [[.sl 1 [.a]],[.a],[.a]],au l3 l7,gx 227 [l8] cq,gm s0,gm s1,au jx (i6 47),gx 230 [l10,kT] [[.sl 1 [.a]],[.a]],gm s0,gm s1,au ot (i6 50),gx 231 [nJ,qk] [[.sl 1 [.a]],[.a]],gn (.build [.str [],.str [],.str []] [(0,1,l9),(1,1,mw),(2,1,ve)]),gn (.bsl 3 (.agg [.str [],.str [],.str []]) 1 [(0,we)]),gn (.app 3 l1 za),gf 7 s5,gt 1 B0 AS] []) .skip)) (sq (rg [gm s0,gm s1,au l1 (i6 52),gk 9 true s5,gx 232 [l0,l2,l3] [[.sl 1 [.a]],[.a],[.a,.a,.a,.a,.a,.a,.sl 3 [.sl 4 [.a,.a,.sl 1 [.a],.a],.a,.a],.sl 3 [.a,.a,.a],.sl 2 [.a,.sl 1 [.a]]]],gf 8 s5,gt 1 l5 l4] []) (sq (rg [gk 9 true s5,gt 9 s3 l0] []) .ret))))))))⟩
def w79 {Γ:Ctx}(hm:(Γ.at 0).bj)(h227:JK Γ)(h228:CE Γ)(h229:L5 Γ)(h230:JL Γ)(h231:JM Γ)(h232:L6 Γ)(l:List Int)(i:Int)(own:Int)  (hp0:0≤i∧i≤1000000)(hp1:0≤own∧own≤100000):dK Γ zb (Rec.D (gh l i own)) [.sl 1 (l.map (D.int .i64)),.int .i64 i,.int .i64 own]:=by
 show bB _ _ _ [⟨_,_⟩,⟨_,_⟩,⟨_,_⟩,_,_,_,_,_,_,_] _;refine ak ?_;refine aA ?_;refine aj (hc:=h227 own) ?_;refine ax ?_;refine aj (hc:=h228 l (i) 3 (by decide)) ?_;refine az ?_;refine aj (hc:=h228 l (i+1) 2 (by decide)) ?_;refine bA (df.D ⟨dd l i 3,dd l (i+1) 2,0,[],[]⟩) ?_;refine bA (.agg [.str (cJ own),.int .i64 (dd l i 3),.int .i64 (dd l (i+1) 2),.int .i64 0,.str [],.str [],.ar,.ar,.ar]) ?_;refine ay ?_;refine aJ (.agg [.str (cJ own),.int .i64 (dd l i 3),.int .i64 (dd l (i+1) 2),.int .i64 0,.str [],.str [],.ar,.ar,.ar]) (he:=by exact rfl) ?_;refine aO ?_;refine aj (hc:=h228 l (i+2) 9 (by decide)) ?_;refine ax ?_;refine py hm (ι:=Unit) (fun _=>[⟨true,.sl 1 (l.map (D.int .i64))⟩,⟨true,.int .i64 i⟩,⟨true,.int .i64 own⟩,⟨true,.ptr 0 9 0 0⟩,.un,⟨true,.ptr 12 9 0 0⟩,.un,.un,.un,.un]) (fun _=>[(0,.buf 9 [cZ]),(12,.buf 9 [(.agg [.str (cJ own),.int .i64 (dd l i 3),.int .i64 (dd l (i+1) 2),.int .i64 0,.str (oP l i),.str [],.ar,.ar,.ar])])]) 30 (fun _=>True) ?_ ?_
 ·refine gw (fun hc0=>?_) fun hc0=>?_
  ·refine az ?_;refine aJ (.agg [.str (cJ own),.int .i64 (dd l i 3),.int .i64 (dd l (i+1) 2),.int .i64 0,.str Gw,.str [],.ar,.ar,.ar]) (he:=by exact rfl) ?_;refine ax ?_;have hp:oP l i=Gw:=if_pos hc0;rw[hp];exact⟨(),trivial,(aP.to [(0,0),(12,12)] ae ae lN (by repeat(first|exact aC.nil|refine aC.de ae ae bY ?_|refine aC.mr ae ae ae ?_)))⟩
  refine ax ?_;have hp:oP l i=[]:=if_neg hc0;rw[hp];exact⟨(),trivial,(aP.to [(0,0),(12,12)] ae ae lN (by repeat(first|exact aC.nil|refine aC.de ae ae bY ?_|refine aC.mr ae ae ae ?_)))⟩
 ·rintro _-
  refine aQ ?_;refine aj (hc:=h228 l (i+2) 9 (by decide)) ?_;refine ax ?_;refine py hm (ι:=Unit) (fun _=>[⟨true,.sl 1 (l.map (D.int .i64))⟩,⟨true,.int .i64 i⟩,⟨true,.int .i64 own⟩,⟨true,.ptr 0 9 0 0⟩,.un,⟨true,.ptr 12 9 0 0⟩,.un,.un,.un,.un]) (fun _=>[(0,.buf 9 [cZ]),(12,.buf 9 [(.agg [.str (cJ own),.int .i64 (dd l i 3),.int .i64 (dd l (i+1) 2),.int .i64 0,.str (oP l i),.str (qK l i),.ar,.ar,.ar])])]) 40 (fun _=>True) ?_ ?_
  ·refine gw (fun hc1=>?_) fun hc1=>?_
   ·refine az ?_;refine aJ (.agg [.str (cJ own),.int .i64 (dd l i 3),.int .i64 (dd l (i+1) 2),.int .i64 0,.str (oP l i),.str [55],.ar,.ar,.ar]) (he:=by exact rfl) ?_;refine ax ?_;have hp:qK l i=[55]:=if_pos hc1;rw[hp];exact⟨(),trivial,(aP.to [(0,0),(12,12)] ae ae lN (by repeat(first|exact aC.nil|refine aC.de ae ae bY ?_|refine aC.mr ae ae ae ?_)))⟩
   refine ax ?_;have hp:qK l i=[]:=if_neg hc1;rw[hp];exact⟨(),trivial,(aP.to [(0,0),(12,12)] ae ae lN (by repeat(first|exact aC.nil|refine aC.de ae ae bY ?_|refine aC.mr ae ae ae ?_)))⟩
  ·rintro _-
   have hK:=Jm l i;refine aQ ?_;refine aj (hc:=h228 l (i+3) 4 (by decide)) ?_;refine Cf ((gK l i:Nat):Int) (hn:=by intro _;omega) (hb:=fun _=>NF l i) ?_;refine ax ?_;refine bq hm (ι:=(Nat×List aR)) (fun p=>[⟨true,.sl 1 (l.map (D.int .i64))⟩,⟨true,.int .i64 i⟩,⟨true,.int .i64 own⟩,⟨true,.ptr 0 9 0 0⟩,.un,⟨true,.ptr 12 9 0 0⟩,.un,⟨true,.int .i64 (p.1:Nat)⟩,.un,.un]) (fun p=>[(0,.buf 9 [cZ]),(12,.buf 9 [(.agg [.str (cJ own),.int .i64 (dd l i 3),.int .i64 (dd l (i+1) 2),.int .i64 0,.str (oP l i),.str (qK l i),.own 1 3 0 p.2.length,.ar,.ar])]),(1,.buf 3 (p.2.map aR.D))]) 60 (fun p=>p.1≤gK l i∧p.2=yV l i own (gK l i-p.1)) (fun p=>p.1) (gK l i,[]) ⟨Nat.le_refl _,by dsimp only;rw[Nat.sub_self];rfl⟩ (aP.to [(0,0),(12,12)] ae ae lN (by refine aC.de ae ae bY ?_;refine aC.ni 12 ae ae (by exact⟨_,_,rfl,⟨_,rfl,⟨_,_,rfl,⟨rfl,rfl⟩,⟨_,_,rfl,⟨rfl,rfl⟩,⟨_,_,rfl,⟨rfl,rfl⟩,⟨_,_,rfl,⟨rfl,rfl⟩,⟨_,_,rfl,⟨rfl,rfl⟩,⟨_,_,rfl,⟨rfl,rfl⟩,⟨_,_,rfl,Or.inr ⟨_,_,_,rfl⟩,⟨_,_,rfl,Or.inl rfl,⟨_,_,rfl,Or.inl rfl,rfl⟩⟩⟩⟩⟩⟩⟩⟩⟩⟩,rfl⟩) ?_;refine aC.mt ae ae ae ae ?_;exact aC.nil)) ?_;rintro⟨k,ns⟩ ⟨hk,hn⟩;dsimp only at hk hn⊢;have hnl:ns.length≤3:=by rw[hn];simp[yV];omega
   refine aQ ?_;refine aq (fun hc2=>?_) (fun hc2=>?_)
   ·try simp only[iB]at hc2
    refine dA ?_;refine tc ?_;refine az ?_;refine aj (hc:=h229 l (i+4+20*(k:Int) -20) own (by omega) (by omega)) ?_;refine cz [aR.D (dS l (i+4+20*(k:Int) -20) own)] ?_;refine iX (q:=aR.D) (xs:=ns) (e:=dS l (i+4+20*(k:Int) -20) own) ?_;refine ay ?_;refine aJ (.agg [.str (cJ own),.int .i64 (dd l i 3),.int .i64 (dd l (i+1) 2),.int .i64 0,.str (oP l i),.str (qK l i),.own 74 3 0 (ns++[dS l (i+4+20*(k:Int) -20) own]).length,.ar,.ar]) (he:=by exact rfl) ?_;refine b8 ?_;exact⟨(k-1,ns++[dS l (i+4+20*(k:Int) -20) own]),⟨by dsimp only;omega,by dsimp only;rw[Fa hk (by omega),hn]⟩,by dsimp only;omega,(aP.to [(0,0),(12,12),(74,1)] ae ae (by repeat(first|exact c7.nil|refine c7.un ?_|refine c7.eq ae ?_|refine c7.nl (congrArg (D.int .i64) (show((k-1:Nat):Int)=(k:Int) -1 by omega)) ae ?_)) (by refine aC.de ae ae bY ?_;refine aC.mr ae ae ae ?_;refine aC.nl 74 ae ae rfl (bt (fun _=>rfl) _) ?_;exact aC.nil))⟩
   simp only[decide_eq_false_iff_not]at hc2;obtain rfl:k=0:=by omega
   obtain rfl:ns=mU l i own:=by rw[hn];rfl
   refine az ?_;refine ey 1 ?_;refine aA ?_;refine aj (hc:=h228 l (i+45) 5 (by decide)) ?_;refine ax ?_;refine py hm (ι:=Unit) (fun _=>[⟨true,.sl 1 (l.map (D.int .i64))⟩,⟨true,.int .i64 i⟩,⟨true,.int .i64 own⟩,⟨true,.ptr 0 9 0 0⟩,.un,⟨true,.ptr 12 9 0 0⟩,.un,.un,.un,.un]) (fun _=>[(0,.buf 9 [cZ]),(12,.buf 9 [(.agg [.str (cJ own),.int .i64 (dd l i 3),.int .i64 (dd l (i+1) 2),.int .i64 0,.str (oP l i),.str (qK l i),(.sl 3 ((mU l i own).map aR.D)),(.own 2 3 0 (mR l i own).length),.ar])]),(2,.buf 3 ((mR l i own).map ee.D))]) 100 (fun _=>True) ?_ ?_
   ·refine gw (fun hc3=>?_) fun hc3=>?_
    ·refine ay ?_;have hr46:=cx l (i+46) 4 (by decide);refine ay ?_;refine cu (v:=.ar) ?_;refine aQ ?_;refine aj (hc:=h228 l (i+46) 4 (by decide)) ?_;refine ay ?_;refine aj (hc:=h227 (own+1+dd l (i+46) 4)) ?_;refine az ?_;refine aj (hc:=h230 l (i+47) (by omega)) ?_;refine az ?_;refine aj (hc:=h231 l (i+50) (by omega)) ?_;refine bA (ee.D (tS l i own)) ?_;refine cz [ee.D (tS l i own)] ?_;refine K2 (n:=1) (ys:=[ee.D (tS l i own)]) (he:=sa.all ae rfl) (hn:=rfl) ?_;refine ay ?_;refine aJ (.agg [.str (cJ own),.int .i64 (dd l i 3),.int .i64 (dd l (i+1) 2),.int .i64 0,.str (oP l i),.str (qK l i),(.sl 3 ((mU l i own).map aR.D)),(.own 87 3 0 1),.ar]) (he:=by exact rfl) ?_;refine ax ?_;have hb:mR l i own=[tS l i own]:=if_pos hc3;rw[hb];exact⟨(),trivial,(aP.to [(0,0),(12,12),(87,2)] ae ae lN (by refine aC.de ae ae bY ?_;refine aC.mr ae ae ae ?_;refine aC.nl 87 ae ae ae ae ?_;exact aC.nil))⟩
    refine ax ?_;have hb:mR l i own=[]:=if_neg hc3;rw[hb];exact⟨(),trivial,(aP.to [(0,0),(12,12)] ae ae lN (by refine aC.de ae ae bY ?_;refine aC.ni 12 ae ae (by exact⟨_,_,rfl,⟨_,rfl,⟨_,_,rfl,⟨rfl,rfl⟩,⟨_,_,rfl,⟨rfl,rfl⟩,⟨_,_,rfl,⟨rfl,rfl⟩,⟨_,_,rfl,⟨rfl,rfl⟩,⟨_,_,rfl,⟨rfl,rfl⟩,⟨_,_,rfl,⟨rfl,rfl⟩,⟨_,_,rfl,⟨rfl,rfl⟩,⟨_,_,rfl,Or.inr ⟨_,_,_,rfl⟩,⟨_,_,rfl,Or.inl rfl,rfl⟩⟩⟩⟩⟩⟩⟩⟩⟩⟩,rfl⟩) ?_;refine aC.mt ae ae ae ae ?_;exact aC.nil))⟩
   ·rintro _-
    refine ey 2 ?_;refine lY [(0,.buf 9 [cZ]),(12,.buf 9 [Rec.D (kP l i own)])] (.id ae (.bf ae (.cons (.ag (.cons (.refl _) (.cons (.refl _) (.cons (.refl _) (.cons (.refl _) (.cons (.refl _) (.cons (.refl _) (.cons (.refl _) (.cons (.refl _) (.cons (.nil 2) .nil)))))))))) .nil) .nil)) ?_;refine aA ?_;refine cE (d:=Rec.D (kP l i own)) ?_;refine aj (hc:=h232 l (i+52) (kP l i own) (by omega) (Dc l i own)) ?_;refine ay ?_;refine aJ (Rec.D (gh l i own)) (he:=by exact rfl) ?_;refine ax ?_;refine cE (d:=Rec.D (gh l i own)) ?_;refine aJ (Rec.D (gh l i own)) (he:=by exact rfl) ?_;refine ax ?_;refine cj (?_);rfl
def C79 (Γ:Ctx):Prop:=∀(l:List Int)(i:Int)(own:Int),(0≤i∧i≤1000000)→(0≤own∧own≤100000)→Γ.pre 79 [.sl 1 (l.map (D.int .i64)),.int .i64 i,.int .i64 own]∧Γ.val 79 [.sl 1 (l.map (D.int .i64)),.int .i64 i,.int .i64 own]=Rec.D (gh l i own)
end Go.Abs
end
namespace Go.Abs
def ze:∀a b:ah,Op.bytesLess a b=false→a≠b→Op.bytesLess b a=true
 |[],[],_,h=>absurd rfl h
 |[],_::_,h,_=>by simp[Op.bytesLess]at h
 |_::_,[],_,_=>by simp[Op.bytesLess]
 |x::a,y::b,h,hn=>by
  simp only[Op.bytesLess,Bool.or_eq_false_iff,decide_eq_false_iff_not,Bool.and_eq_false_iff,beq_eq_false_iff_ne]at h;simp only[Op.bytesLess,Bool.or_eq_true,decide_eq_true_eq,Bool.and_eq_true,beq_iff_eq];obtain⟨h1,h2⟩:=h;by_cases e:x=y
  ·subst e;refine .inr ⟨rfl,ze a b (h2.resolve_left fun h=>h rfl) fun e=>hn (by rw[e])⟩
  ·left;have h3:¬x.toNat<y.toNat:=fun h=>h1 (UInt8.lt_iff_toNat_lt.2 h)
   have h4:x.toNat≠y.toNat:=fun h=>e (UInt8.toNat_inj.1 h)
   exact UInt8.lt_iff_toNat_lt.2 (by omega)
def uC {l:List ah}{s t:ah}(h:t∈dN l s):t∈l∨t=s:=by
 unfold dN at h;split at h
 ·exact .inl h
 ·simp only[List.mem_append,List.mem_singleton]at h;rcases h with(h|h)|h
  ·exact .inl (List.mem_of_mem_take h)
  ·exact .inr h
  ·exact .inl (List.mem_of_mem_drop h)
def Bl (l:List ah):rising l=true↔∀i,1≤i→i<l.length→Op.bytesLess l[i-1]! l[i]! =true:=by
 unfold rising;rw[dh]
def m9 {l:List ah}{s:ah}(h:rising l=true):rising (dN l s)=true:=by
 unfold dN;split
 ·exact h
 ·rename_i hn;rw[Bl]at h⊢;have hl:=xR s l;have hlt:=xS s l;have hst:=ra s l;generalize ij s l=k at hn hl hlt hst⊢;have hlen:(l.take k++[s]++l.drop k).length=l.length+1:=by
   simp only[List.length_append,List.length_take,List.length_drop,List.length_cons,List.length_nil];omega
  have g1:∀j,j<k→(l.take k++[s]++l.drop k)[j]! =l[j]! :=fun j hj=>by
   have a:j<(l.take k).length:=by rw[List.length_take];omega
   have b:j<l.length:=by omega
   rw[List.append_assoc,getElem!_pos _ _ (by rw[List.length_append];omega),List.getElem_append_left a,List.getElem_take,getElem!_pos l j b]
  have g2:(l.take k++[s]++l.drop k)[k]! =s:=by
   have a:(l.take k).length=k:=by rw[List.length_take];omega
   rw[List.append_assoc,getElem!_pos _ _ (by simp only[List.length_append,a,List.length_cons];omega),List.getElem_append_right (by omega)];simp[a]
  have g3:∀j,k<j→j<l.length+1→(l.take k++[s]++l.drop k)[j]! =l[j-1]! :=fun j hj hj2=>by
   have a:(l.take k).length=k:=by rw[List.length_take];omega
   have b:(l.take k++[s]).length=k+1:=by rw[List.length_append,a];rfl
   rw[getElem!_pos _ _ (by rw[hlen];omega),List.getElem_append_right (by omega),List.getElem_drop,getElem!_pos l (j-1) (by omega)];congr 1;omega
  intro i h1 h2;rw[hlen]at h2;rcases Nat.lt_trichotomy i k with hik|hik|hik
  ·rw[g1 i hik,g1 (i-1) (by omega)];exact h i h1 (by omega)
  ·subst hik;rw[g2,g1 (i-1) (by omega)];exact hlt _ (by omega)
  ·rw[g3 i hik h2];by_cases he:i=k+1
   ·subst he;rw[show k+1-1=k from rfl,g2];exact ze _ _ (hst (by omega)) fun e=>hn ⟨by omega,e⟩
   ·rw[g3 (i-1) (by omega) (by omega)];exact h (i-1) (by omega) (by omega)
def A6:∀k,k<5→ea FG[k]! =true∧FG[k]!.length≤3∧cb (FG[k]! ++[47]++[120])=((3:Int),FG[k]!,([120]:ah)):=by decide+kernel
def KQ:∀a,a<5→∀b,b<5→a≠b→FG[a]! ≠FG[b]! :=by decide+kernel
def Lz:∀k,k<4→bI I1[k]! =true∧cb (([63]:ah)++I1[k]!)=((2:Int),I1[k]!,([]:ah)):=by decide+kernel
def Ks (k a b:Nat):ah:=if Bb[k]! =9 then [42]else cV ⟨Bb[k]!,3,⟨(a:Nat),(b:Nat),0,[],[]⟩⟩
def IL (s:ah):Prop:=nO s=true∧s.length≤8∧s≠[]∧(∀c∈s,c≠10)
instance (s:ah):Decidable (IL s):=by unfold IL;infer_instance
def zj (s:ah):Prop:=lJ s=true∧s.length≤16∧(∀c∈s,c≠10)
instance (s:ah):Decidable (zj s):=by unfold zj;infer_instance
def HB:∀k,k<6→∀a,a<3→∀b,b<2→IL (Ks k a b):=by decide+kernel
def GR:∀k,k<3→∀a,a<2→∀b,b<4→zj (v8[k]! ++CW[a]! ++I1[b]!):=by decide+kernel
def kO (n:Int):(n%5).toNat<5∧cJ n=FG[(n%5).toNat]! :=by
 have:=jz n 5 (by decide);exact⟨by omega,rfl⟩
def mT (n:Int):ea (cJ n)=true∧(cJ n).length≤3:=⟨(A6 _ (kO n).1).1,(A6 _ (kO n).1).2.1⟩
def yU (own d:Int)(h0:0≤d)(h1:d<4):cJ (own+1+d)≠cJ own:=by
 have a:=kO (own+1+d);have b:=kO own;rw[a.2,b.2];exact KQ _ a.1 _ b.1 (by omega)
def yW (n:Int):(n%4).toNat<4∧gT n=I1[(n%4).toNat]! :=by
 have:=jz n 4 (by decide);exact⟨by omega,rfl⟩
def mV (n:Int):bI (gT n)=true∧cb (([63]:ah)++gT n)=((2:Int),gT n,([]:ah)):=Lz _ (yW n).1
def lF (l:List Int)(i:Int):IL (mS l i):=by
 have a:=cx l i 6 (by decide);have b:=cx l (i+1) 3 (by decide);have c:=cx l (i+2) 2 (by decide);have:=HB (dd l i 6).toNat (by omega) (dd l (i+1) 3).toNat (by omega) (dd l (i+2) 2).toNat (by omega);have e:Ks (dd l i 6).toNat (dd l (i+1) 3).toNat (dd l (i+2) 2).toNat=mS l i:=by
  unfold Ks mS sg;simp only[show((dd l (i+1) 3).toNat:Int)=dd l (i+1) 3 by omega,show((dd l (i+2) 2).toNat:Int)=dd l (i+2) 2 by omega]
 rwa [e]at this
def DB:zj []:=by decide+kernel
def jK (l:List Int)(i:Int):zj (gR l i):=by
 unfold gR;split
 ·exact DB
 ·rename_i h;have a:=cx l i 6 (by decide);have b:=cx l (i+1) 2 (by decide);have c:=yW (1+dd l (i+1) 3);rw[c.2];exact GR _ (by omega) _ (by omega) _ c.1
def rJ {f:Nat→Int}{n:Nat}(h:∀j,j<n→f j=0):gy f 0 n=0:=by
 have:∀k i,i+k=n→gy f i n=0:=by
  intro k;induction k with
  |zero=>intro i e;exact qH (by omega)
  |succ k ih=>intro i e;rw[qI (by omega) (h i (by omega))];exact ih (i+1) (by omega)
 exact this n 0 (by omega)
def mO {f:Nat→Int}{n:Nat}(h:∀j,j<n→f j=0):fg f 0 n=(0,0):=by
 have:∀k i,i+k=n→fg f i n=(0,0):=by
  intro k;induction k with
  |zero=>intro i e;exact nG (by omega)
  |succ k ih=>intro i e;rw[nH (by omega) (h i (by omega))];exact ih (i+1) (by omega)
 exact this n 0 (by omega)
def wW {r:Rec}{nm rg:ah}(h1:ea nm=true)(h2:nm≠r.name)(h3:nO rg=true):iP r nm rg=0:=by
 unfold iP;rw[if_neg (by simp[h1]),if_neg h2,if_neg (by simp[h3])]
def GX:∀n,kl (va.take n) true=true
 |0=>by decide
 |1=>by decide
 |n+2=>by
  have:va.take (n+2)=va:=List.take_of_length_le (by simp[va]);rw[this];decide
def De (l:List Int)(i:Int)(al:Bool):kl (kr l i al) al=true:=by
 unfold kr;split
 ·rename_i h;rw[h.1];exact GX _
 ·cases al<;>decide
def D8 {r:Rec}{own:Int}(hr:r.name=cJ own)(l:List Int)(i:Int)(al:Bool):jX r (gS l i own al) al=0:=by
 have h:=cx l i 4 (by decide);have h1:=wW (r:=r) (mT (own+1+dd l i 4)).1 (by rw[hr];exact yU own _ h.1 h.2) (lF l (i+1)).1;unfold jX;show(if iP r (cJ (own+1+dd l i 4)) (mS l (i+1))≠0 then _ else if kl (kr l i al) al=false then _ else _)=_;rw[h1,if_neg (by simp),De,if_neg (by simp)]
def yT (l:List Int)(i own:Int)(k:Nat):(oO l i own k).length=k:=by simp[oO]
def yS {l:List Int}{i own:Int}{k j:Nat}(h:j<k):(oO l i own k)[j]! =gS l (i+1+6*(j:Nat)) own (decide ((dm l i:Int)=1)):=by
 unfold oO;rw[getElem!_pos _ _ (by simpa using h)];simp
def vV (l:List Int)(i:Int):1≤dm l i:=by unfold dm;split<;>omega
def xz (l:List Int)(i own:Int):(dS l i own).option=[]∨∃n,(dS l i own).option=gT n:=by
 show(if _ then _ else _:ah)=[]∨_;split
 ·rename_i h;exact .inr ⟨fZ l (i+17),if_pos h⟩
 ·exact .inl rfl
def DC {r:Rec}{own:Int}(hr:r.name=cJ own)(l:List Int)(i:Int):jf r (dS l i own)=0:=by
 have hl:(dS l i own).any.length=dm l i:=yT _ _ _ _;have h1:=vV l i;have h2:=tV l i;unfold jf;rw[if_neg (by rw[hl];omega),if_neg (by rw[hl];omega)];have hw:lQ r (dS l i own).any=0:=by
  unfold lQ;refine rJ fun j hj=>?_
  rw[hl]at hj⊢;show jX r (oO l i own (dm l i))[j]! _=0;rw[yS hj];exact D8 hr l _ _
 rw[hw,if_neg (by simp),if_neg (by rw[show(dS l i own).when'=gR l (i+14)from rfl,(jK l (i+14)).1];simp)];rcases xz l i own with h|⟨n,h⟩
 ·rw[if_neg (by rw[h];simp)]
 ·rw[if_neg (by rw[h,(mV n).1];simp)]
def HK (l:List Int)(i own:Int)(n:Nat):(yV l i own n).length=n:=by simp[yV]
def pU {l:List Int}{i own:Int}{n:Nat}{x:aR}(h:x∈yV l i own n):∃k:Int,x=dS l k own:=by
 obtain⟨q,_,rfl⟩:=List.mem_map.1 h;exact⟨_,rfl⟩
def A5 {r:Rec}{l:List Int}{i own:Int}(hr:r.name=cJ own)(hn:r.needs=mU l i own):jP r=(0,0):=by
 unfold jP;refine mO fun j hj=>?_
 obtain⟨k,hk⟩:=pU (show r.needs[j]! ∈yV l i own (gK l i)by rw[show yV l i own (gK l i)=r.needs from hn.symm];exact bL hj);rw[hk];exact DC hr l k
def EG {r:Rec}{own:Int}(hr:r.name=cJ own)(l:List Int)(i:Int):tu r (tS l i own)=0:=by
 have h:=cx l (i+46) 4 (by decide);have h1:=wW (r:=r) (mT (own+1+dd l (i+46) 4)).1 (by rw[hr];exact yU own _ h.1 h.2) (lF l (i+47)).1;unfold tu;show(if iP r (cJ (own+1+dd l (i+46) 4)) (mS l (i+47))≠0 then _ else if lJ (gR l (i+50))=false then _ else _)=_;rw[h1,if_neg (by simp),(jK l (i+50)).1,if_neg (by simp)]
def vU {l:List Int}{i own:Int}{b:ee}(h:b∈mR l i own):b=tS l i own:=by
 unfold mR at h;split at h
 ·simpa using h
 ·cases h
def LC (l:List Int)(i:Int)(r:Rec)(t:ah):Prop:=(∃m∈r.needs,m.option≠[]∧t=[63]++m.option)∨(∃m∈r.needs,m.any.length=1∧t=m.any[0]!.name++[47]++[120])∨∃k,k<3∧¬fZ l (i+(k:Nat)+1)%3=0∧t=jq[k+1]!
def E7 (l:List Int)(i:Int)(r:Rec)(n:Int):∀j,j≤r.needs.length→rising (lU r n j)=true∧∀t∈lU r n j,LC l i r t
 |0,_=>⟨rfl,fun t ht=>by simp[lU]at ht⟩
 |j+1,hj=>by
  obtain⟨h1,h2⟩:=E7 l i r n j (by omega);have hm:r.needs[j]! ∈r.needs:=bL (by omega);have hA:rising (E5 r n (lU r n j) j)=true∧∀t∈E5 r n (lU r n j) j,LC l i r t:=by
   unfold E5;split
   ·rename_i h;refine⟨m9 h1,fun t ht=>?_⟩;rcases uC ht with ht|rfl
    ·exact h2 t ht
    ·exact .inl ⟨_,hm,h.1,rfl⟩
   ·exact⟨h1,h2⟩
  obtain⟨h3,h4⟩:=hA;rw[kN,Jl];unfold Jk;split
  ·rename_i h;refine⟨m9 h3,fun t ht=>?_⟩;rcases uC ht with ht|rfl
   ·exact h4 t ht
   ·exact .inr (.inl ⟨_,hm,h.1,rfl⟩)
  ·exact⟨h3,h4⟩
def Kt (l:List Int)(i:Int)(r:Rec)(n:Int)(k j:Nat)(hj:j≤r.needs.length):rising (HJ l i n k (lU r n j))=true∧(∀t∈HJ l i n k (lU r n j),LC l i r t)∧(HJ l i n k (lU r n j)).length≤2*j+1:=by
 obtain⟨h1,h2⟩:=E7 l i r n j hj;have h3:=xy r n j;unfold HJ;split
 ·rename_i h;refine⟨m9 h1,fun t ht=>?_,Nat.le_trans (m8 _ _) (by omega)⟩;rcases uC ht with ht|rfl
  ·exact h2 t ht
  ·exact .inr (.inr ⟨k,h.1.1,h.2,rfl⟩)
 ·exact⟨h1,h2,by omega⟩
def lE {l:List Int}{i:Int}{r:Rec}{f:aU}(h:f∈fh l i r):∃k,k<4∧f.name=jq[k]! ∧¬fZ l (i+(k:Nat))%3=0∧rising f.of=true∧(∀t∈f.of,LC l i r t)∧f.of.length≤5:=by
 obtain⟨k,hk,he⟩:=List.mem_filterMap.1 h;rw[List.mem_range]at hk;unfold Ku at he;split at he
 ·cases he
 ·rename_i hn;obtain rfl:=Option.some.inj he;obtain⟨a,b,c⟩:=Kt l i r (fZ l (i+(k:Nat))) k (min r.needs.length 2) (by omega);exact⟨k,hk,rfl,hn,a,b,by dsimp only;omega⟩
def AL {l:List Int}{i:Int}{r:Rec}{k:Nat}(hk:k<4)(h:¬fZ l (i+(k:Nat))%3=0):∃f∈fh l i r,f.name=jq[k]! :=by
 have e:Ku l i r k=some ⟨jq[k]!,HJ l i (fZ l (i+(k:Nat))) k (lU r (fZ l (i+(k:Nat))) (min r.needs.length 2))⟩:=if_neg h;exact⟨_,List.mem_filterMap.2 ⟨k,List.mem_range.2 hk,e⟩,rfl⟩
def C4 {fs:List aU}{nm:ah}(h:∃f∈fs,f.name=nm):0≤findF fs nm 0:=by
 unfold findF;rw[List.drop_zero];cases e:fs.findIdx? (fun x=>decide (x.name=nm))with
 |some k=>simp
 |none=>
  rw[List.findIdx?_eq_none_iff]at e;obtain⟨f,hf,hn⟩:=h;have:=e f hf;simp[hn]at this
def zl:∀k,k<4→cb jq[k]! =((1:Int),jq[k]!,([]:ah))∧bI jq[k]! =true:=by decide+kernel
def FH:∀a,a<4→∀b,b<4→a<b→Op.bytesLess jq[a]! jq[b]! =true:=by decide+kernel
def Da (l:List Int)(i:Int)(r:Rec):(fh l i r).Pairwise fun a b=>Op.bytesLess a.name b.name=true:=by
 unfold fh E6;refine List.Pairwise.filterMap _ (R:=fun a b=>a<b∧b<4) ?_ (by decide);intro a b hab x hx y hy;have e:∀{k:Nat} {z:aU},Ku l i r k=some z→z.name=jq[k]! :=fun {k z} h=>by
  unfold Ku at h;split at h
  ·cases h
  ·rw[←Option.some.inj h]
 rw[e hx,e hy];exact FH a (by omega) b hab.2 hab.1
def tT (l:List Int)(i:Int)(r:Rec):(fh l i r).length≤4:=by
 unfold fh E6;exact Nat.le_trans (List.length_filterMap_le _ _) (by simp)
def NdG (r:Rec):Prop:=∀m∈r.needs,(m.option=[]∨∃n,m.option=gT n)∧(m.any.length=1→∃n,m.any[0]!.name=cJ n)
def y6 {l:List Int}{i:Int}{r r2:Rec}{t:ah}(h:LC l i r t)(hr:NdG r)(hn:r2.needs=r.needs)(hf:r2.feats=fh l i r):iR r2.feats t=true∧je r2 t=0∧t.length≤7:=by
 rcases h with⟨m,hm,h1,rfl⟩|⟨m,hm,h1,rfl⟩|⟨k,hk,h1,rfl⟩
 ·obtain⟨n,e⟩:=(hr m hm).1.resolve_left h1;have hx:=(mV n).2;have hl:=qO n;rw[e];refine⟨by unfold iR;rw[hx];rfl, ?_,by simp only[List.length_append,List.length_cons,List.length_nil];omega⟩;unfold je;rw[hx];have:Ir r2.needs (gT n)=true:=by
   unfold Ir;rw[List.any_eq_true];exact⟨m,by rw[hn];exact hm,by simp[e]⟩
  simp[this]
 ·obtain⟨n,e⟩:=(hr m hm).2 h1;have hx:=(A6 _ (kO n).1).2.2;have hl:=jt n;rw[←(kO n).2]at hx;rw[e];generalize cJ n=w at e hx hl;refine⟨by unfold iR;rw[hx];rfl, ?_,by simp only[List.length_append,List.length_cons,List.length_nil];omega⟩;have:Cb r2.needs w=true:=by
   unfold Cb;rw[List.any_eq_true];exact⟨m,by rw[hn];exact hm,by rw[e,h1];simp⟩
  unfold je;rw[hx,if_neg (by simp),if_neg (by rw[this];simp)]
 ·have hx:=(zl (k+1) (by omega)).1;have hl:∀k,k<4→jq[k]!.length≤7:=by decide
  refine⟨?_,by unfold je;rw[hx];simp,hl _ (by omega)⟩;have:LJ r2.feats jq[k+1]! =true:=by
   unfold LJ;rw[hf,Bool.or_eq_true];right;rw[decide_eq_true_eq];exact C4 (AL (k:=k+1) (by omega) (by rw[show i+((k+1:Nat):Int)=i+(k:Nat)+1 by omega];exact h1))
  unfold iR;rw[hx];dsimp only;rw[this];rfl
def K1 {α:Type} [Inhabited α]{R:α→α→Prop}{l:List α}(h:l.Pairwise R){i:Nat}(h0:0<i)(hi:i<l.length):R l[i-1]! l[i]! :=by
 rw[getElem!_pos l _ (by omega),getElem!_pos l _ hi];exact List.pairwise_iff_getElem.1 h _ _ (by omega) hi (by omega)
def C2 {l:List Int}{i:Int}{r r2:Rec}(hr:NdG r)(hn:r2.needs=r.needs)(hf:r2.feats=fh l i r):fF r2.feats=true∧qG r2=(0,0):=by
 have hit:∀f∈r2.feats,∀t∈f.of,iR r2.feats t=true∧je r2 t=0∧t.length≤7:=fun f hf' t ht=>by
  obtain⟨k,_,_,_,_,h,_⟩:=lE (show f∈fh l i r by rw[←hf];exact hf');exact y6 (h t ht) hr hn hf
 constructor
 ·have hlen:=tT l i r;unfold fF;rw[Bool.and_eq_true,decide_eq_true_eq,dh];refine⟨by rw[hf];omega,fun j _ hj=>?_⟩;have hm:r2.feats[j]! ∈r2.feats:=bL hj;obtain⟨k,hk,e1,e2,e3,e4,e5⟩:=lE (show r2.feats[j]! ∈fh l i r by rw[←hf];exact hm);unfold kp;rw[e1,(zl k hk).2,Bool.true_and,Bool.and_eq_true];constructor
  ·by_cases h0:0<j
   ·have:=K1 (Da l i r) h0 (by rw[←hf];exact hj);rw[←hf,e1]at this;rw[this];simp
   ·simp[h0]
  ·unfold ub;rw[Bool.and_eq_true,Bool.and_eq_true,decide_eq_true_eq,dh];exact⟨⟨by omega,e3⟩,fun q _ hq=>(hit _ hm _ (bL hq)).1⟩
 ·unfold qG;refine mO fun j hj=>?_
  unfold oQ;exact rJ fun q hq=>(hit _ (bL hj) _ (bL hq)).2.1
def kM {α:Type}{f:α→ah}{B:Nat}:∀{l:List α},(∀x∈l,(f x).length≤B)→((l.map f).flatten).length≤l.length*B
 |[],_=>by simp
 |a::r,h=>by
  have h1:=h a (.head _);have h2:=kM (l:=r) fun x hx=>h x (.tail _ hx)
  simp only[List.map_cons,List.flatten_cons,List.length_append,List.length_cons,Nat.succ_mul];omega
def jy {l:List ah}{B n:Nat}(h:∀t∈l,t.length≤B)(hn:l.length≤n):(bz l).length≤n*(B+1)+1:=by
 have h1:=ju 32 B l h;have h2:=Nat.mul_le_mul_right (B+1) hn;simp only[bz,List.length_append,List.length_cons,List.length_nil];omega
def Cx (w:aT):Prop:=w.name.length≤3∧w.range.length≤8∧(w.feats=[]∨w.feats=va.take 1∨w.feats=va)
def Ef (n:Nat):va.take n=[]∨va.take n=va.take 1∨va.take n=va:=by
 match n with
 |0=>exact .inl rfl
 |1=>exact .inr (.inl rfl)
 |n+2=>exact .inr (.inr (List.take_of_length_le (by simp[va])))
def qN (l:List Int)(i own:Int)(al:Bool):Cx (gS l i own al):=by
 refine⟨jt _,(lF l (i+1)).2.1, ?_⟩;show kr l i al=[]∨kr l i al=va.take 1∨kr l i al=va;unfold kr;split
 ·exact Ef _
 ·exact .inl rfl
def D9 {w:aT}(h:Cx w):(bz (fX w)).length≤46:=by
 refine jy (B:=8) (n:=5) (fun t ht=>?_) (by simp[fX]);simp only[fX,List.mem_cons,List.not_mem_nil,or_false]at ht;rcases ht with rfl|rfl|rfl|rfl|rfl
 ·decide
 ·have:=h.1;omega
 ·rcases h.2.2 with e|e|e<;>rw[e]<;>decide
 ·split<;>decide
 ·exact h.2.1
def wT {s:ah}(h:s.length≤16):(fW s).length≤35:=by
 unfold fW;split
 ·simp
 ·exact jy (B:=16) (n:=2) (fun t ht=>by
   simp only[List.mem_cons,List.not_mem_nil,or_false]at ht;rcases ht with rfl|rfl
   ·decide
   ·exact h) (by simp)
def FX {s:ah}(h:s.length≤6):(sA s).length≤15:=by
 unfold sA;split
 ·simp
 ·exact jy (B:=6) (n:=2) (fun t ht=>by
   simp only[List.mem_cons,List.not_mem_nil,or_false]at ht;rcases ht with rfl|rfl
   ·decide
   ·exact h) (by simp)
def Db (l:List Int)(i own:Int):(kU (dS l i own)).length≤160:=by
 have h1:=kM (f:=fun w=>bz (fX w)) (B:=46) (l:=(dS l i own).any) fun w hw=>by
  obtain⟨q,_,rfl⟩:=List.mem_map.1 (show w∈oO l i own (dm l i)from hw);exact D9 (qN _ _ _ _)
 have h2:(dS l i own).any.length≤2:=by rw[show(dS l i own).any.length=dm l i from yT _ _ _ _];exact tV l i
 have h3:=wT (jK l (i+14)).2.1;have h4:=FX (s:=(dS l i own).option) (Nat.le_trans (qL l i own) (by decide));have h5:(bz [ed]).length≤6:=by decide
 unfold kU;simp only[List.length_append];show _+(((dS l i own).any.map fun w=>bz (fX w)).flatten).length+(fW (gR l (i+14))).length+_≤_;omega
def EH {b:ee}(h:b.name.length≤3∧b.range.length≤8∧b.when'.length≤16):(qv b).length≤63:=by
 have h1:=jy (B:=8) (n:=3) (l:=[eQ,b.name,b.range]) (fun t ht=>by
  simp only[List.mem_cons,List.not_mem_nil,or_false]at ht;rcases ht with rfl|rfl|rfl
  ·decide
  ·omega
  ·exact h.2.1) (by simp)
 have h2:=wT h.2.2;unfold qv;rw[List.length_append];omega
def E9 (l:List Int)(i own:Int):(tS l i own).name.length≤3∧(tS l i own).range.length≤8∧(tS l i own).when'.length≤16:=⟨jt _,(lF l (i+47)).2.1,(jK l (i+50)).2.1⟩
def CZ {f:aU}(h:f.name.length≤7∧f.of.length≤5∧∀t∈f.of,t.length≤7):(om f).length≤57:=by
 refine jy (B:=7) (n:=7) (fun t ht=>?_) (by simp;omega);simp only[List.mem_append,List.mem_cons,List.not_mem_nil,or_false]at ht;rcases ht with(rfl|rfl)|ht
 ·decide
 ·exact h.1
 ·exact h.2.2 t ht
structure tn (l:List Int)(i own:Int)(r:Rec):Prop where
 nm:r.name=cJ own
 ns:r.needs=mU l i own
 v:en r.v=true∧r.v.pre.length≤4∧r.v.build.length≤1
 bl:r.bars.length≤2
 b:∀b∈r.bars,tu r b=0∧b.name.length≤3∧b.range.length≤8∧b.when'.length≤16
 fs:fF r.feats=true∧qG r=(0,0)
 fl:r.feats.length≤4
 f:∀f∈r.feats,f.name.length≤7∧f.of.length≤5∧∀t∈f.of,t.length≤7
def tW (l:List Int)(i own:Int):(mU l i own).length≤2:=by rw[mU,HK];exact Jm l i
def tn.good {l:List Int}{i own:Int}{r:Rec}(h:tn l i own r):tY r:=by
 have h1:=tW l i own;have h2:=h.bl;refine⟨⟨by rw[h.nm];exact(mT own).1,h.v.1⟩,⟨by rw[h.ns];omega,by omega⟩,ux (A5 h.nm h.ns) ?_ h.fs.1 h.fs.2⟩;unfold rA;exact mO fun j hj=>(h.b _ (bL hj)).1
def tn.sm {l:List Int}{i own:Int}{r:Rec}(h:tn l i own r):kg r:=by
 refine⟨⟨by rw[h.nm];exact Nat.le_trans (jt own) (by decide),Nat.le_trans h.v.2.1 (by decide),Nat.le_trans h.v.2.2 (by decide)⟩,fun n hn=>?_,fun b hb=>?_,fun f hf=>?_⟩
 ·obtain⟨k,rfl⟩:=pU (show n∈yV l i own (gK l i)by rw[show yV l i own (gK l i)=r.needs from h.ns.symm];exact hn);refine⟨fun w hw=>?_,Nat.le_trans (jK l (k+14)).2.1 (by decide),Nat.le_trans (qL l k own) (by decide)⟩;obtain⟨q,_,rfl⟩:=List.mem_map.1 (show w∈oO l k own (dm l k)from hw);obtain⟨a,b,c⟩:=qN l (k+1+6*(q:Nat)) own (decide ((dm l k:Int)=1));refine⟨⟨Nat.le_trans a (by decide),Nat.le_trans b (by decide)⟩,fun t ht=>?_⟩;have hx:∀t∈va,t.length≤1048576:=by decide
  rcases c with e|e|e<;>rw[e]at ht
  ·cases ht
  ·exact hx t (List.mem_of_mem_take ht)
  ·exact hx t ht
 ·obtain⟨_,a,b,c⟩:=h.b b hb;exact⟨Nat.le_trans a (by decide),Nat.le_trans b (by decide),Nat.le_trans c (by decide)⟩
 ·obtain⟨a,b,c⟩:=h.f f hf;exact⟨Nat.le_trans a (by decide),Nat.le_trans b (by decide),fun t ht=>Nat.le_trans (c t ht) (by decide)⟩
def GP {v:df}(h:en v=true∧v.pre.length≤4∧v.build.length≤1):(iN v).length≤30:=by
 obtain⟨h1,h2,h3⟩:=h;have hv:=h1;simp only[en,pR,Bool.and_eq_true,decide_eq_true_eq]at h1;have a:=dD 4 v.major.toNat (by omega) (by omega);have b:=dD 4 v.minor.toNat (by omega) (by omega);have c:=dD 4 v.patch.toNat (by omega) (by omega);unfold iN;rw[if_pos hv,rr];have d:(coreS v).length≤14:=by
  unfold coreS;simp only[List.length_append,List.length_cons,List.length_nil];omega
 simp only[List.length_append];split<;>split<;>simp only[List.length_cons,List.length_nil]<;>omega
def tn.len {l:List Int}{i own:Int}{r:Rec}(h:tn l i own r):(dJ r).length≤800:=by
 have h1:(mX r).length≤94:=jy (B:=30) (n:=3) (fun t ht=>by
  simp only[List.mem_cons,List.not_mem_nil,or_false]at ht;rcases ht with rfl|rfl|rfl
  ·decide
  ·rw[h.nm];exact Nat.le_trans (jt own) (by decide)
  ·exact GP h.v) (by simp)
 have h2:=kM (f:=kU) (B:=160) (l:=r.needs) fun n hn=>by
  obtain⟨k,rfl⟩:=pU (show n∈yV l i own (gK l i)by rw[show yV l i own (gK l i)=r.needs from h.ns.symm];exact hn);exact Db l k own
 have h3:=kM (f:=qv) (B:=63) (l:=r.bars) fun b hb=>EH (h.b b hb).2
 have h4:=kM (f:=om) (B:=57) (l:=r.feats) fun f hf=>CZ (h.f f hf)
 have h5:=tW l i own;have h6:=h.bl;have h7:=h.fl;rw[h.ns]at h2;unfold dJ;rw[h.ns];simp only[List.length_append];omega
def tn.check {l:List Int}{i own:Int}{r:Rec}(h:tn l i own r):cg r=(0,0):=by
 obtain⟨⟨a,b⟩,⟨c,d⟩,e⟩:=h.good;rw[tE a b (by omega) (by omega) e,if_neg (by have:=h.len;omega)]
def tn.print {l:List Int}{i own:Int}{r:Rec}(h:tn l i own r):jS r=(dJ r,0):=by
 unfold jS;rw[h.check,if_neg (by simp)]
def BU (l:List Int)(i:Int):en (Dd l i)=true∧(Dd l i).pre.length≤4∧(Dd l i).build.length≤1:=by
 have a:=cx l i 3 (by decide);have b:=cx l (i+1) 2 (by decide);have key:∀x,x<3→∀y,y<2→∀p∈[([]:ah),Gw],∀q∈[([]:ah),[55]],en ⟨(x:Nat),(y:Nat),0,p,q⟩=true:=by decide+kernel
 have hp:oP l i∈[([]:ah),Gw]:=by unfold oP;split<;>simp
 have hq:qK l i∈[([]:ah),[55]]:=by unfold qK;split<;>simp
 have h:=key (dd l i 3).toNat (by omega) (dd l (i+1) 2).toNat (by omega) _ hp _ hq;have e:(⟨((dd l i 3).toNat:Int),((dd l (i+1) 2).toNat:Int),0,oP l i,qK l i⟩:df)=Dd l i:=by
  unfold Dd;simp only[show((dd l i 3).toNat:Int)=dd l i 3 by omega,show((dd l (i+1) 2).toNat:Int)=dd l (i+1) 2 by omega]
 rw[e]at h;refine⟨h, ?_, ?_⟩
 ·show(oP l i).length≤4;unfold oP;split<;>decide
 ·show(qK l i).length≤1;unfold qK;split<;>decide
def qM (l:List Int)(i own:Int):NdG (kP l i own):=by
 intro m hm;obtain⟨k,rfl⟩:=pU (show m∈yV l i own (gK l i)from hm);refine⟨xz l k own,fun h=>?_⟩;have h1:0<dm l k:=by have:=vV l k;omega
 have:=yS (l:=l) (i:=k) (own:=own) h1;exact⟨_,congrArg aT.name this⟩
def C9 (l:List Int)(i own:Int):(mR l i own).length≤1:=by unfold mR;split<;>simp
def Ik:∀k,k<4→jq[k]!.length≤7:=by decide
def tX (l:List Int)(i own:Int):tn l i own (gh l i own):=by
 have hf:=C2 (r:=kP l i own) (r2:=gh l i own) (l:=l) (i:=i+52) (qM l i own) rfl rfl;refine⟨rfl,rfl,BU l i,Nat.le_trans (C9 l i own) (by decide),fun b hb=>?_,hf,tT _ _ _,fun f hf2=>?_⟩
 ·obtain rfl:=vU (show b∈mR l i own from hb);exact⟨EG rfl l i,E9 l i own⟩
 ·obtain⟨k,hk,e,_,_,hi,hl⟩:=lE (show f∈fh l (i+52) (kP l i own)from hf2);refine⟨by rw[e];exact Ik k hk,hl,fun t ht=>?_⟩;exact(y6 (r2:=gh l i own) (hi t ht) (qM l i own) rfl rfl).2.2
end Go.Abs
section
namespace Go.Abs
def bn (w:ah):Prop:=w≠[]∧∀c∈w,c≠32∧c≠10
def jG (w:ah):Prop:=∀c∈w,c≠10
def dc (l:List ah):ah:=aG [32] l
def n32 {w:ah}(h:bn w):∀c∈w,(c.toNat:Int)≠32:=fun c hc e=>(h.2 c hc).1 (UInt8.toNat_inj.1 (by have:(32:UInt8).toNat=32:=rfl;omega))
def r0 {l:List ah}(hl:l≠[])(h:∀w∈l,bn w):ai (dc l) 32=l:=
 fT (x:=32) rfl hl fun w hw=>n32 (h w hw)
def wM {p:List ah}{t:ah}(h:∀w∈p,bn w):ai (dc (p++[t])) 32=p++ai t 32:=by
 induction p with
 |nil=>rfl
 |cons a r ih=>
  have ha:=n32 (h a (.head _));have hr:=ih fun w hw=>h w (.tail _ hw)
  have e:dc (a::(r++[t]))=a++32::dc (r++[t]):=by
   unfold dc;rw[dG [32] a (r++[t]) (by simp)];simp
  rw[List.cons_append,e];have:=po (b:=32) (x:=32) rfl (dc (r++[t])) (w:=a) (cur:=[]) ha;unfold ai at hr⊢;rw[this,hr];rfl
def fw (t:ah):ah:=(ai t 32)[0]!
def tQ {w:ah}{l:List ah}(hw:bn w)(hl:∀x∈l,bn x):fw (dc (w::l))=w:=by
 unfold fw;rw[r0 (by simp) (fun x hx=>by rcases List.mem_cons.1 hx with rfl|hx;exact hw;exact hl x hx)];rfl
def E8 {w:ah}{p:List ah}{t:ah}(hw:bn w)(hp:∀x∈p,bn x):fw (dc (w::(p++[t])))=w:=by
 unfold fw;rw[←List.cons_append,wM (p:=w::p) (fun x hx=>by rcases List.mem_cons.1 hx with rfl|hx;exact hw;exact hp x hx)];rfl
def I4 {n:Nat}{op:Bool}{t:ah}(h:2≤n∨op=false):(cl n op t)[0]! =fw t:=by
 unfold cl fw;split
 ·rename_i ho;have hn:=h.resolve_right (by rw[ho];simp);unfold mG;split
  ·rfl
  ·rename_i hl;have a:0<((ai t 32).take (n-1)).length:=by rw[List.length_take];omega
   rw[getElem!_pos _ _ (by rw[List.length_append];omega),List.getElem_append_left a,List.getElem_take,getElem!_pos _ _ (by omega)]
 ·rfl
def hd (R:List ah):Option ah:=R.head?.map fw
def m3 {w:ah}{n:Nat}{op:Bool}{R:List ah}(h:2≤n∨op=false)(hn:hd R≠some w):bg w n op R=none:=by
 match R,hn with
 |[],_=>rfl
 |t::r,hn=>
  have:eE w n op t=none:=by
   unfold eE;rw[if_neg];rintro⟨h1,_⟩;rw[I4 h]at h1;exact hn (by simp[hd,h1])
  simp only[bg,this]
def lM {w:ah}{l:List ah}{n:Nat}{R:List ah}(hw:bn w)(hl:∀x∈l,bn x)(hn:n=0∨l.length+1=n):bg w n false (dc (w::l)::R)=some (w::l,R):=by
 have hc:∀x∈w::l,bn x:=fun x hx=>by rcases List.mem_cons.1 hx with rfl|hx;exact hw;exact hl x hx
 have e:cl n false (dc (w::l))=w::l:=by
  unfold cl;rw[if_neg (by simp),r0 (by simp) hc]
 have:eE w n false (dc (w::l))=some (w::l):=by
  unfold eE;rw[e,if_pos ⟨rfl,hn,fun h=>(hc _ h).1 rfl⟩]
 simp only[bg,this]
def qV {w:ah}{p:List ah}{t:ah}{n:Nat}{R:List ah}(hw:bn w)(hp:∀x∈p,bn x)(ht:t≠[])(hn:p.length+2=n):bg w n true (dc (w::(p++[t]))::R)=some (w::(p++[t]),R):=by
 have hc:∀x∈w::p,bn x:=fun x hx=>by rcases List.mem_cons.1 hx with rfl|hx;exact hw;exact hp x hx
 have hs:=wM (t:=t) hc;have hj:=iG (b:=32) (x:=32) rfl t;have h1:1≤(ai t 32).length:=eP 32 t [];have e:cl n true (dc (w::(p++[t])))=w::(p++[t]):=by
  unfold cl;rw[if_pos rfl,←List.cons_append,hs];unfold mG;have hl:(w::p++ai t 32).length=p.length+1+(ai t 32).length:=by simp;omega
  split
  ·have:(ai t 32).length=1:=by omega
   obtain⟨x,hx⟩:=List.length_eq_one_iff.1 this;rw[hx]at hj⊢;simp only[aG]at hj;rw[hj]
  ·have a:n-1=(w::p).length:=by simp;omega
   rw[a,List.take_left,List.drop_left,hj]
 have:eE w n true (dc (w::(p++[t])))=some (w::(p++[t])):=by
  unfold eE;rw[e,if_pos ⟨rfl,.inr (by simp;omega),fun h=>by
   rw[←List.cons_append,List.mem_append,List.mem_singleton]at h;rcases h with h|h
   ·exact(hc _ h).1 rfl
   ·exact ht h.symm⟩]
 simp only[bg,this]
def gY (s:ah):List ah:=if s=[]then []else [dc [fe,s]]
def jR (s:ah):List ah:=if s=[]then []else [dc [cM,s]]
def ir (l:List aT):List ah:=l.map fun w=>dc (fX w)
def uj (n:aR):List ah:=dc [ed]::(ir n.any++(gY n.when'++jR n.option))
def yA (b:ee):List ah:=dc [eQ,b.name,b.range]::gY b.when'
def hO (f:aU):ah:=dc ([bD,f.name]++f.of)
structure yr (w:aT):Prop where
 nm:bn w.name
 rg:w.range≠[]∧jG w.range
 fs:∀t∈w.feats,bn t∧∀c∈t,c≠44
 ne:aG [44] w.feats≠[45]
def oF:bn fe:=by unfold bn;decide
def qz:bn cM:=by unfold bn;decide
def oE:bn ed:=by unfold bn;decide
def qy:bn eQ:=by unfold bn;decide
def oD:bn bD:=by unfold bn;decide
def vN:bn gO:=by unfold bn;decide
def tF:bn cT:=by unfold bn;decide
def FZ {s:ah}{R:List ah}(hs:s=[]∨bn s)(hR:s=[]→hd R≠some cM):oV (jR s++R)=(s,R):=by
 unfold jR oV;by_cases h:s=[]
 ·rw[if_pos h,List.nil_append,m3 (.inl (by omega)) (hR h)];rw[h]
 ·rw[if_neg h,List.singleton_append,lM (n:=2) qz (l:=[s]) (fun x hx=>by rw[List.mem_singleton.1 hx];exact hs.resolve_left h) (.inr rfl)];rfl
def wU {s:ah}{R:List ah}(hR:s=[]→hd R≠some fe):bp (gY s++R)=(s,R):=by
 unfold gY bp;by_cases h:s=[]
 ·rw[if_pos h,List.nil_append,m3 (.inl (by omega)) (hR h)];rw[h]
 ·rw[if_neg h,List.singleton_append];have:=qV (n:=2) (w:=fe) (p:=[]) (t:=s) (R:=R) oF (fun x hx=>by cases hx) h rfl;rw[List.nil_append]at this;rw[this];rfl
def Fo {l:List ah}(h:∀t∈l,bn t∧∀c∈t,c≠44)(hl:l≠[]):bn (aG [44] l)∧ai (aG [44] l) 44=l:=by
 refine⟨⟨?_,fun c hc=>?_⟩,fT (x:=44) rfl hl fun w hw c hc e=>(h w hw).2 c hc (UInt8.toNat_inj.1 (by have:(44:UInt8).toNat=44:=rfl;omega))⟩
 ·match l,hl with
  |[a],_=>exact(h a (.head _)).1.1
  |a::b::r,_=>simp[aG]
 ·rcases jv 44 l c hc with rfl|⟨w,hw,hc⟩
  ·decide
  ·exact(h w hw).1.2 c hc
def uX {w:aT}(h:yr w):∀x∈[w.name,if w.feats.length=0 then [45]else aG [44] w.feats,if w.bare=true then ew else gX],bn x:=by
 intro x hx;simp only[List.mem_cons,List.not_mem_nil,or_false]at hx;rcases hx with rfl|rfl|rfl
 ·exact h.nm
 ·split
  ·unfold bn;decide
  ·rename_i hn;exact(Fo h.fs (fun e=>hn (by rw[e];rfl))).1
 ·split<;>(unfold bn;decide)
def Ac (w:aT):fX w=gO::([w.name,if w.feats.length=0 then [45]else aG [44] w.feats,if w.bare=true then ew else gX]++[w.range]):=rfl
def I2 {w:aT}(h:yr w):eR (fX w)=w∧pV (fX w)=true:=by
 obtain⟨nm,rg,fs,b⟩:=w;have hb:ew≠gX:=by decide
 constructor
 ·show(⟨nm,rg,(if(if fs.length=0 then [45]else aG [44] fs)=[45]then []else ai (if fs.length=0 then [45]else aG [44] fs) 44),decide ((if b=true then ew else gX)=ew)⟩:aT)=_;have h1:(if(if fs.length=0 then [45]else aG [44] fs)=[45]then []else ai (if fs.length=0 then [45]else aG [44] fs) 44)=fs:=by
   by_cases hn:fs.length=0
   ·rw[if_pos hn,if_pos rfl];exact(List.length_eq_zero_iff.1 hn).symm
   ·rw[if_neg hn,if_neg h.ne];exact(Fo h.fs (fun e=>hn (by rw[show fs=[]from e];rfl))).2
  rw[h1];cases b<;>simp[hb,Ne.symm hb]
 ·show(decide ((if b=true then ew else gX)=ew) ||decide ((if b=true then ew else gX)=gX))=true;cases b<;>simp
def r8 {R:List ah}(hR:hd R≠some gO):∀{l:List aT},(∀w∈l,yr w)→bP (ir l++R)=(l,R)
 |[],_=>qf (m3 (.inl (by omega)) hR)
 |w::r,h=>by
  have ih:=r8 hR (l:=r) fun x hx=>h x (.tail _ hx)
  have hw:=h w (.head _);have hn:bg gO 5 true (dc (fX w)::(ir r++R))=some (fX w,ir r++R):=by
   have:=qV (n:=5) (w:=gO) (t:=w.range) (R:=ir r++R) vN (uX hw) hw.rg.1 rfl;rw[Ac];exact this
  obtain⟨h1,h2⟩:=I2 hw;have:=r7 hn h2;show bP (dc (fX w)::(ir r++R))=_;rw[this,ih,h1]
structure BC (n:aR):Prop where
 a:∀w∈n.any,yr w
 w:jG n.when'
 o:n.option=[]∨bn n.option
def HS {s:ah}{R:List ah}:hd (gY s++R)=if s=[]then hd R else some fe:=by
 unfold gY;split
 ·rfl
 ·show some (fw (dc (fe::([]++[s]))))=_;rw[E8 oF (fun x hx=>by cases hx)]
def KB {s:ah}{R:List ah}(hs:s=[]∨bn s):hd (jR s++R)=if s=[]then hd R else some cM:=by
 unfold jR;split
 ·rfl
 ·rename_i h;show some (fw (dc (cM::[s])))=_;rw[tQ qz (fun x hx=>by rw[List.mem_singleton.1 hx];exact hs.resolve_left h)]
def FL (R:List ah):Prop:=hd R≠some gO∧hd R≠some fe∧hd R≠some cM
def DH {n:aR}{R:List ah}(h:BC n)(hR:FL R):cX ((ir n.any++(gY n.when'++jR n.option))++R)=(n,R):=by
 have e1:(ir n.any++(gY n.when'++jR n.option))++R=ir n.any++(gY n.when'++(jR n.option++R)):=by simp only[List.append_assoc]
 have ho:=FZ (s:=n.option) (R:=R) h.o fun _=>hR.2.2
 have hh:=KB (R:=R) h.o;have hw:=wU (s:=n.when') (R:=jR n.option++R) fun _=>by
  rw[hh];split
  ·exact hR.2.1
  ·decide
 have ha:=r8 (R:=gY n.when'++(jR n.option++R)) (l:=n.any) (by
  rw[HS];split
  ·rw[hh];split
   ·exact hR.1
   ·decide
  ·decide) h.a
 unfold cX;rw[e1,ha,hw,ho]
def kA (l:List aR):List ah:=(l.map uj).flatten
def uk {R:List ah}(hR:FL R)(hN:hd R≠some ed):∀{l:List aR},(∀n∈l,BC n)→ez (kA l++R)=(l,R)
 |[],_=>rO (m3 (.inr rfl) hN)
 |n::r,h=>by
  have ih:=uk hR hN (l:=r) fun x hx=>h x (.tail _ hx)
  have hok:FL (kA r++R):=by
   match r with
   |[]=>exact hR
   |m::q=>
    have:hd (kA (m::q)++R)=some ed:=by
     show some (fw (dc (ed::[])))=_;rw[tQ oE (fun x hx=>by cases hx)]
    unfold FL;rw[this];decide
  have hr:=DH (h n (.head _)) hok;have hn:bg ed 1 false (kA (n::r)++R)=some ([ed],(ir n.any++(gY n.when'++jR n.option))++(kA r++R)):=by
   have:=lM (n:=1) (w:=ed) (l:=[]) (R:=(ir n.any++(gY n.when'++jR n.option))++(kA r++R)) oE (fun x hx=>by cases hx) (.inr rfl);rw[←this];simp[kA,uj]
  rw[rQ hn,hr,ih]
structure G6 (b:ee):Prop where
 nm:bn b.name
 rg:b.range≠[]∧jG b.range
 w:jG b.when'
def j5 (l:List ee):List ah:=(l.map yA).flatten
def BI {R:List ah}{l:List ee}(h:∀b∈l,G6 b):hd (j5 l++R)=if l=[]then hd R else some eQ:=by
 match l with
 |[]=>rfl
 |b::r=>
  rw[if_neg (by simp)];show some (fw (dc (eQ::([b.name]++[b.range]))))=_;rw[E8 qy (fun x hx=>by rw[List.mem_singleton.1 hx];exact(h b (.head _)).nm)]
def vI {R:List ah}(hR:hd R≠some fe∧hd R≠some eQ):∀{l:List ee},(∀b∈l,G6 b)→jF (j5 l++R)=(l,R)
 |[],_=>tw (m3 (.inl (by omega)) hR.2)
 |b::r,h=>by
  have ih:=vI hR (l:=r) fun x hx=>h x (.tail _ hx)
  have hb:=h b (.head _);have hw:=wU (s:=b.when') (R:=j5 r++R) fun _=>by
   rw[BI fun x hx=>h x (.tail _ hx)];split
   ·exact hR.1
   ·decide
  have hn:bg eQ 3 true (j5 (b::r)++R)=some ([eQ,b.name,b.range],gY b.when'++(j5 r++R)):=by
   have:=qV (n:=3) (w:=eQ) (p:=[b.name]) (t:=b.range) (R:=gY b.when'++(j5 r++R)) qy (fun x hx=>by rw[List.mem_singleton.1 hx];exact hb.nm) hb.rg.1 rfl;rw[show [eQ,b.name,b.range]=eQ::([b.name]++[b.range])from rfl,←this];simp[j5,yA]
  rw[tx hn,hw,ih];rfl
structure Ew (f:aU):Prop where
 nm:bn f.name
 o:∀t∈f.of,bn t
def tI:∀{l:List aU},(∀f∈l,Ew f)→dk (l.map hO)=(l,[])
 |[],_=>rfl
 |f::r,h=>by
  have ih:=tI (l:=r) fun x hx=>h x (.tail _ hx)
  have hf:=h f (.head _);have hn:=lM (n:=0) (w:=bD) (l:=f.name::f.of) (R:=r.map hO) oD (fun x hx=>by
   rcases List.mem_cons.1 hx with rfl|hx
   ·exact hf.nm
   ·exact hf.o x hx) (.inl rfl)
  have hl:eE bD 0 false (hO f)=some (bD::f.name::f.of):=by
   simp only[bg]at hn;show eE bD 0 false (dc (bD::f.name::f.of))=_;cases e:eE bD 0 false (dc (bD::f.name::f.of))with
   |none=>rw[e]at hn;cases hn
   |some q=>rw[e]at hn;simp only[Option.some.injEq,Prod.mk.injEq]at hn;rw[hn.1]
  simp only[List.map_cons,dk,hl];rw[if_pos (by simp),ih];rfl
end Go.Abs
namespace Go.Abs
structure Hm (r:Rec):Prop where
 nm:bn r.name
 v:en r.v=true
 n:∀n∈r.needs,BC n
 b:∀b∈r.bars,G6 b
 f:∀f∈r.feats,Ew f
def pe (r:Rec):List ah:=kA r.needs++(j5 r.bars++r.feats.map hO)
def lI (r:Rec):List ah:=dc [cT,r.name,iN r.v]::pe r
def j0 (l:List ah):ah:=(l.map fun t=>t++[10]).flatten
def mL (a b:List ah):j0 (a++b)=j0 a++j0 b:=by simp[j0]
def qF {α:Type}(f:α→List ah):∀l:List α,j0 ((l.map f).flatten)=(l.map fun x=>j0 (f x)).flatten
 |[]=>rfl
 |a::r=>by simp only[List.map_cons,List.flatten_cons,mL,qF f r]
def p0 (l:List ah):bz l=dc l++[10]:=rfl
def EU (t:ah):j0 [t]=t++[10]:=by simp[j0]
def wV (s:ah):j0 (gY s)=fW s:=by
 unfold gY fW;split
 ·rfl
 ·rw[EU,p0]
def F0 (s:ah):j0 (jR s)=sA s:=by
 unfold jR sA;split
 ·rfl
 ·rw[EU,p0]
def Ad (l:List aT):j0 (ir l)=(l.map fun w=>bz (fX w)).flatten:=by
 unfold ir j0;rw[List.map_map];rfl
def nB (t:ah)(l:List ah):j0 (t::l)=t++[10]++j0 l:=by simp[j0]
def DI (n:aR):j0 (uj n)=kU n:=by
 unfold uj kU;rw[nB,mL,mL,Ad,wV,F0,p0];simp only[List.append_assoc]
def EJ (b:ee):j0 (yA b)=qv b:=by
 unfold yA qv;rw[nB,wV,p0]
def AH (l:List aU):j0 (l.map hO)=(l.map om).flatten:=by
 unfold j0;rw[List.map_map];rfl
def Bs (r:Rec):dJ r=j0 (lI r):=by
 unfold lI pe dJ mX;rw[nB,mL,mL,AH];unfold kA j5;rw[qF,qF,p0];simp only[DI,EJ,List.append_assoc]
def y9:∀ls:List ah,aG [10] (ls++[[]])=j0 ls
 |[]=>rfl
 |a::r=>by
  rw[List.cons_append,dG _ _ _ (by simp),y9 r,nB]
def eI {l:List ah}(h:∀w∈l,jG w):jG (dc l):=by
 intro c hc;rcases jv 32 l c hc with rfl|⟨w,hw,hc⟩
 ·decide
 ·exact h w hw c hc
def BD {w:ah}(h:bn w):jG w:=fun c hc=>(h.2 c hc).2
def wR {v:df}(h:en v=true):bn (iN v):=by
 have e:iN v=sG v:=by unfold iN;rw[if_pos h]
 rw[e];refine⟨?_,fun c hc=>?_⟩
 ·unfold sG;have:=sO v.major.toNat;cases hd:bS v.major.toNat with
  |nil=>exact absurd hd this
  |cons a b=>simp
 ·have:=I0 h hc;exact⟨fun e=>this.1 (by rw[e];rfl),fun e=>this.2 (by rw[e];rfl)⟩
def zf {r:Rec}(h:Hm r):∀t∈lI r,jG t:=by
 have hwhen:∀s,jG s→∀t∈gY s,jG t:=fun s hs t ht=>by
  unfold gY at ht;split at ht
  ·cases ht
  ·obtain rfl:=List.mem_singleton.1 ht;refine eI fun w hw=>?_
   simp only[List.mem_cons,List.not_mem_nil,or_false]at hw;rcases hw with rfl|rfl
   ·exact BD oF
   ·exact hs
 intro t ht;unfold lI pe kA j5 at ht;simp only[List.mem_cons,List.mem_append,List.mem_flatten,List.mem_map]at ht;rcases ht with rfl|⟨_,⟨n,hn,rfl⟩,ht⟩|⟨_,⟨b,hb,rfl⟩,ht⟩|⟨f,hf,rfl⟩
 ·refine eI fun w hw=>?_
  simp only[List.mem_cons,List.not_mem_nil,or_false]at hw;rcases hw with rfl|rfl|rfl
  ·exact BD tF
  ·exact BD h.nm
  ·exact BD (wR h.v)
 ·have hw:=h.n n hn;unfold uj at ht;simp only[List.mem_cons,List.mem_append]at ht;rcases ht with rfl|ht|ht|ht
  ·exact eI fun w hw=>by rw[List.mem_singleton.1 hw];exact BD oE
  ·obtain⟨w,hw2,rfl⟩:=List.mem_map.1 ht;have hww:=hw.a w hw2;rw[Ac];refine eI fun x hx=>?_
   rcases List.mem_cons.1 hx with rfl|hx
   ·exact BD vN
   ·rcases List.mem_append.1 hx with hx|hx
    ·exact BD (uX hww x hx)
    ·rw[List.mem_singleton.1 hx];exact hww.rg.2
  ·exact hwhen _ hw.w t ht
  ·unfold jR at ht;split at ht
   ·cases ht
   ·rename_i hne;obtain rfl:=List.mem_singleton.1 ht;refine eI fun x hx=>?_
    simp only[List.mem_cons,List.not_mem_nil,or_false]at hx;rcases hx with rfl|rfl
    ·exact BD qz
    ·exact BD (hw.o.resolve_left hne)
 ·have hw:=h.b b hb;unfold yA at ht;rcases List.mem_cons.1 ht with rfl|ht
  ·refine eI fun x hx=>?_
   simp only[List.mem_cons,List.not_mem_nil,or_false]at hx;rcases hx with rfl|rfl|rfl
   ·exact BD qy
   ·exact BD hw.nm
   ·exact hw.rg.2
  ·exact hwhen _ hw.w t ht
 ·have hw:=h.f f hf;refine eI fun x hx=>?_
  simp only[List.mem_append,List.mem_cons,List.not_mem_nil,or_false]at hx;rcases hx with(rfl|rfl)|hx
  ·exact BD oD
  ·exact BD hw.nm
  ·exact BD (hw.o x hx)
def zS {ls:List ah}(h:∀t∈ls,jG t):ai (j0 ls) 10=ls++[[]]:=by
 rw[←y9];refine fT (x:=10) rfl (by simp) fun w hw c hc e=>?_
 rcases List.mem_append.1 hw with hw|hw
 ·exact h w hw c hc (UInt8.toNat_inj.1 (by have:(10:UInt8).toNat=10:=rfl;omega))
 ·rw[List.mem_singleton.1 hw]at hc;cases hc
def EY {l:List aU}(h:∀f∈l,Ew f):hd (l.map hO)=none∨hd (l.map hO)=some bD:=by
 match l with
 |[]=>exact .inl rfl
 |f::r=>
  right;have hf:=h f (.head _);show some (fw (dc (bD::(f.name::f.of))))=_;rw[tQ oD (fun x hx=>by
   rcases List.mem_cons.1 hx with rfl|hx
   ·exact hf.nm
   ·exact hf.o x hx)]
def zz {r:Rec}(h:Hm r):pc (lI r)=some (r,[]):=by
 have hf:=tI h.f;have hfh:=EY h.f;have hb:=vI (R:=r.feats.map hO) (by rcases hfh with e|e<;>rw[e]<;>decide) h.b;have hbh:=BI (R:=r.feats.map hO) h.b;have h1:hd (j5 r.bars++r.feats.map hO)=none∨hd (j5 r.bars++r.feats.map hO)=some bD∨hd (j5 r.bars++r.feats.map hO)=some eQ:=by
  rw[hbh];split
  ·rcases hfh with e|e<;>rw[e]<;>simp
  ·exact .inr (.inr rfl)
 have hn:=uk (R:=j5 r.bars++r.feats.map hO) (by unfold FL;rcases h1 with e|e|e<;>rw[e]<;>decide) (by rcases h1 with e|e|e<;>rw[e]<;>decide) h.n;have hp:=lM (n:=3) (w:=cT) (l:=[r.name,iN r.v]) (R:=pe r) tF (fun x hx=>by
  simp only[List.mem_cons,List.not_mem_nil,or_false]at hx;rcases hx with rfl|rfl
  ·exact h.nm
  ·exact wR h.v) (.inr rfl)
 unfold pc lI;rw[hp];show(match kE (iN r.v)with|some v=>some (od r.name v (pe r))|none=>none)=_;rw[Ly h.v];show some (od r.name r.v (pe r))=_;unfold od pe;rw[hn,hb,hf]
def DU {r:Rec}(h:Hm r)(hc:cg r=(0,0)):e8 (dJ r)=(r,0,0):=by
 have hl:¬4096<(dJ r).length:=by
  intro hl;unfold cg at hc;repeat' split at hc
  all_goals first|cases hc|(rename_i a;exact absurd hl a)|skip
  all_goals (rename_i a b;exact absurd (congrArg Prod.fst hc) (by assumption))
 have hs:ai (dJ r) 10=lI r++[[]]:=by rw[Bs];exact zS (zf h)
 have ht:(ai (dJ r) 10).take ((ai (dJ r) 10).length-1)=lI r:=by
  rw[hs];simp
 have hz:(ai (dJ r) 10)[(ai (dJ r) 10).length-1]! =[]:=by
  rw[hs];simp
 have hv:et (lI r)=(r,[]):=by unfold et;rw[zz h]
 unfold e8;rw[if_neg hl];dsimp only;rw[ht,hz,hv,zz h,if_neg (by simp),if_neg (by rw[hc];simp)]
end Go.Abs
end
namespace Go.Abs
def FB {w:ah}(h:∀c∈w,c.toNat≠32∧c.toNat≠10):∀c∈w,c≠32∧c≠10:=fun c hc=>⟨fun e=>(h c hc).1 (by rw[e];rfl),fun e=>(h c hc).2 (by rw[e];rfl)⟩
def sT (n:Int):bn (cJ n):=⟨(B5 (mT n).1).1,FB (B5 (mT n).1).2.2⟩
def BV (n:Int):bn (gT n):=⟨I3 (mV n).1,FB fun c hc=>⟨(Cz (mV n).1 hc).1,(Cz (mV n).1 hc).2.1⟩⟩
def CB:(∀t∈va,bn t∧∀c∈t,c≠44)∧aG [44] va≠[45]∧aG [44] (va.take 1)≠[45]:=by unfold bn;decide
def HM (l:List Int)(i own:Int)(al:Bool):yr (gS l i own al):=by
 have hf:=lF l (i+1);obtain⟨_,_,c⟩:=qN l i own al;refine⟨sT _,⟨hf.2.2.1,hf.2.2.2⟩,fun t ht=>?_, ?_⟩
 ·rcases c with e|e|e<;>rw[e]at ht
  ·cases ht
  ·exact CB.1 t (List.mem_of_mem_take ht)
  ·exact CB.1 t ht
 ·rcases c with e|e|e<;>rw[e]
  ·decide
  ·exact CB.2.2
  ·exact CB.2.1
def HL (l:List Int)(i own:Int):BC (dS l i own):=by
 refine⟨fun w hw=>?_,(jK l (i+14)).2.2, ?_⟩
 ·obtain⟨q,_,rfl⟩:=List.mem_map.1 (show w∈oO l i own (dm l i)from hw);exact HM _ _ _ _
 ·rcases xz l i own with e|⟨n,e⟩
  ·exact .inl e
  ·exact .inr (by rw[e];exact BV n)
def Kx (l:List Int)(i own:Int):G6 (tS l i own):=⟨sT _,⟨(lF l (i+47)).2.2.1,(lF l (i+47)).2.2.2⟩,(jK l (i+50)).2.2⟩
def Ju:∀k,k<4→bn jq[k]! :=by unfold bn;decide
def qx {a b:ah}(ha:bn a)(hb:∀c∈b,c≠32∧c≠10):bn (a++b):=⟨fun e=>ha.1 (List.append_eq_nil_iff.1 e).1,fun c hc=>(List.mem_append.1 hc).elim (ha.2 c) (hb c)⟩
def NM {l:List Int}{i:Int}{r:Rec}{t:ah}(h:LC l i r t)(hr:NdG r):bn t:=by
 rcases h with⟨m,hm,h1,rfl⟩|⟨m,hm,h1,rfl⟩|⟨k,hk,_,rfl⟩
 ·obtain⟨n,e⟩:=(hr m hm).1.resolve_left h1;rw[e];exact qx (by unfold bn;decide) (BV n).2
 ·obtain⟨n,e⟩:=(hr m hm).2 h1;rw[e];exact qx (qx (sT n) (by decide)) (by decide)
 ·exact Ju _ (by omega)
def Ky (l:List Int)(i own:Int):Hm (gh l i own):=by
 refine⟨sT own,(BU l i).1,fun n hn=>?_,fun b hb=>?_,fun f hf=>?_⟩
 ·obtain⟨k,rfl⟩:=pU (show n∈yV l i own (gK l i)from hn);exact HL l k own
 ·obtain rfl:=vU (show b∈mR l i own from hb);exact Kx l i own
 ·obtain⟨k,hk,e,_,_,hi,_⟩:=lE (show f∈fh l (i+52) (kP l i own)from hf);exact⟨by rw[e];exact Ju k hk,fun t ht=>NM (hi t ht) (qM l i own)⟩
def vW (l:List Int)(i own:Int):e8 (dJ (gh l i own))=(gh l i own,0,0):=DU (Ky l i own) (tX l i own).check
def Fb {l m:List Int}{i j o p:Int}(h:dJ (gh l i o)=dJ (gh m j p)):gh l i o=gh m j p:=by
 have h1:=vW l i o;rw[h,vW]at h1;exact(congrArg Prod.fst h1).symm
end Go.Abs
section
namespace Go.Abs
open Go
end Go.Abs
end
section
namespace Go.Abs
open Go
end Go.Abs
end
section
namespace Go.Abs
open Go
end Go.Abs
end
section
namespace Go.Abs
def awT:ah:=[112,97,99,107,97,103,101,32,97,112,112,32,49,46,48,46,48,10,110,101,101,100,10,97,110,121,32,98,32,120,32,102,117,108,108,32,94,49,10,119,104,101,110,32,111,115,32,61,32,120,10,98,97,114,32,99,32,42,10,102,101,97,116,117,114,101,32,121,32,98,47,122,10]
def Hq:ah:=[112,97,99,107,97,103,101,32,97,112,112,32,49,46,48,46,48,10,97,110,121,32,98,32,45,32,102,117,108,108,32,42,10]
def Eg:Rec:=⟨[97,112,112],⟨1,0,0,[],[]⟩,[⟨[⟨[98],[94,49],[[120]],false⟩],[111,115,32,61,32,120],[]⟩],[⟨[99],[42],[]⟩],[⟨[121],[[98,47,122]]⟩]⟩
set_option maxRecDepth 100000 in
theorem aw1:e8 awT=(Eg,0,0):=by decide+kernel
set_option maxRecDepth 100000 in
theorem aw3:jS Eg=(awT,0):=by decide+kernel
set_option maxRecDepth 100000 in
theorem aw2:(e8 Hq).2=(2,2):=by decide+kernel
def Kl:kg Eg:=by
 refine⟨⟨by decide,by decide,by decide⟩,fun n hn=>?_,fun b hb=>?_,fun f hf=>?_⟩
 ·simp only[Eg,List.mem_singleton]at hn;subst hn;refine⟨fun w hw=>?_,by decide,by decide⟩;simp only[List.mem_singleton]at hw;subst hw;exact⟨⟨by decide,by decide⟩,fun t ht=>by simp only[List.mem_singleton]at ht;subst ht;decide⟩
 ·simp only[Eg,List.mem_singleton]at hb;subst hb;exact⟨by decide,by decide,by decide⟩
 ·simp only[Eg,List.mem_singleton]at hf;subst hf;exact⟨by decide,by decide,fun t ht=>by simp only[List.mem_singleton]at ht;subst ht;decide⟩
end Go.Abs
end
section
namespace Go.Abs
open Go
def x6:aB:=⟨1,6,[⟨1,none⟩,⟨2,none⟩],jd,(sq (rg [gb 9 s0,gm cse,gm bH] [(3,0),(1,1),(2,2)]) (sq (sq (r1 [gk 9 true s3,gx 70 [l0] [[.a,.a,.a,.a,.a,.a,.sl 3 [.sl 4 [.a,.a,.sl 1 [.a],.a],.a,.a],.sl 3 [.a,.a,.a],.sl 2 [.a,.sl 1 [.a]]]],gm l1,ge l2 0,ge l2 1,gm l3,gm l4] 4 5) (sq (r1 [gm s4,b7 l0 bH] 5 1) (.cond s5 (sq (rg [gm s4,gm cse,gm l0] [(1,1),(2,2)]) .ret) .skip))) (sq (rg [gk 9 true s3,gx 215 [l0] [[.a,.a,.a,.a,.a,.a,.sl 3 [.sl 4 [.a,.a,.sl 1 [.a],.a],.a,.a],.sl 3 [.a,.a,.a],.sl 2 [.a,.sl 1 [.a]]]],gm l1,gm bH] [(1,2),(2,3)]) .ret)))⟩
def w72 {Γ:Ctx}(hm:(Γ.at 0).bj)(h70:C70 Γ)(h215:JJ Γ)(r:Rec)  (hp0:kg r):dK Γ x6 (.tup [.str (jS r).1,.int .i64 (jS r).2]) [Rec.D r]:=by
 show bB _ _ _ [⟨_,_⟩,_,_,_,_,_] _;refine ak ?_;refine bc ?_;refine aj (hc:=h70 r hp0) ?_;refine gI ?_;refine cG (fun hc0=>?_) fun hc0=>?_
 ·refine bc ?_;refine cj (aV (congrArg D.str ?_) (congrArg (D.int .i64) ?_));all_goals
   simp[jS,hc0]
 refine ax ?_;have hgd:=yE hc0;refine ay ?_;refine aj (hc:=h215 r ⟨hgd,hp0⟩) ?_;refine aA ?_;refine cj (aV (congrArg D.str ?_) (congrArg (D.int .i64) ?_));all_goals
  simp[jS,hc0]
def C72 (Γ:Ctx):Prop:=∀(r:Rec),(kg r)→Γ.pre 72 [Rec.D r]∧Γ.val 72 [Rec.D r]=.tup [.str (jS r).1,.int .i64 (jS r).2]
end Go.Abs
end
section
namespace Go.Abs
open Go
def zc:aB:=⟨0,8,[⟨0,none⟩],cq,(sq (r1 [gm cU] 0 0) (sq (rg [gx 76 [(cs [112,97,99,107,97,103,101,32,97,112,112,32,49,46,48,46,48,10,110,101,101,100,10,97,110,121,32,98,32,120,32,102,117,108,108,32,94,49,10,119,104,101,110,32,111,115,32,61,32,120,10,98,97,114,32,99,32,42,10,102,101,97,116,117,114,101,32,121,32,98,47,122,10])] cq,gm l0,ge l1 0,ge l1 1,ge l1 2,gb 9 (.c (.agg [.str [],.int .i64 0,.int .i64 0,.int .i64 0,.str [],.str [],.ar,.ar,.ar])),gt 9 l5 l2,gm l3,gm l4] [(1,5),(2,7),(4,8)]) (sq (rg [gk 9 true s1,gx 72 [l0] [[.a,.a,.a,.a,.a,.a,.sl 3 [.sl 4 [.a,.a,.sl 1 [.a],.a],.a,.a],.sl 3 [.a,.a,.a],.sl 2 [.a,.sl 1 [.a]]]],gm l1,ge l2 0,ge l2 1,gm l3,gm l4] [(5,5),(3,6)]) (sq (rg [gx 76 [(cs [112,97,99,107,97,103,101,32,97,112,112,32,49,46,48,46,48,10,97,110,121,32,98,32,45,32,102,117,108,108,32,42,10])] cq,gm l0,ge l1 0,ge l1 1,ge l1 2,gb 9 (.c (.agg [.str [],.int .i64 0,.int .i64 0,.int .i64 0,.str [],.str [],.ar,.ar,.ar])),gt 9 l5 l2,gm l3,gm l4] [(6,7),(7,8)]) (sq (r1 [gm s2,aF l0 bH,gm l1,gmt 2 s3,cw 2 (cR l3 bH),fk l2 l4,gm l5,gmt 6 s4,cw 6 (cR l7 bH),fk l6 l8,gm l9,kd 10 6 s1,jZ 10 jx,cw 10 (.len kT),cw 10 (cR mw ca),fk l10 nJ,gm ot,kd 16 7 s1,jZ 16 ve,cw 16 (.len we),cw 16 (cR za ca),fk qk AS,gm B0,gmt 22 s5,cw 22 (.lenS H7),cw 22 (cR H8 (i6 73)),fk Ej H9,gm KH,gmt 27 s6,cw 27 (cR LL kR),fk LK LM,gm NN,gmt 31 s7,cw 31 (cR l32 kR),fk l31 l33,gm l34] 0 35) .ret)))))⟩
def w69 {Γ:Ctx}(hm:(Γ.at 0).bj)(h72:C72 Γ)(h76:C76 Γ)    :dK Γ zc (.bool true) []:=by
 show bB _ _ _ [_,_,_,_,_,_,_,_] _;refine ak ?_;refine az ?_;refine aj (v:=.tup [Rec.D Eg,.int .i64 0,.int .i64 0]) (hc:=by have:=h76 awT;rw[aw1]at this;exact this) ?_;refine ay ?_;refine fS (Rec.D _) ?_;refine az ?_;refine aJ (Rec.D Eg) (he:=by exact rfl) ?_;refine aA ?_;refine cE (d:=Rec.D Eg) ?_;refine aj (v:=.tup [.str awT,.int .i64 0]) (hc:=by have:=h72 Eg Kl;rw[aw3]at this;exact this) ?_;refine bc ?_;refine aj (v:=.tup [Rec.D (e8 Hq).1,.int .i64 2,.int .i64 2]) (hc:=by have:=h76 Hq;rw[aw2]at this;exact this) ?_;refine ay ?_;refine fS (Rec.D _) ?_;refine az ?_;refine aJ (Rec.D (e8 Hq).1) (he:=by exact rfl) ?_;refine xf ?_;refine cu (v:=.sl 3 (Eg.needs.map aR.D)) ?_;refine n9 ?_;refine aA ?_;refine cu (v:=.sl 3 (Eg.bars.map ee.D)) ?_;refine n9 ?_;refine aA ?_;refine n9 ?_;refine lZ ?_;refine bx ?_;decide
def C69 (Γ:Ctx):Prop:=Γ.pre 69 []∧Γ.val 69 []=.bool true
end Go.Abs
end
section
namespace Go.Abs
open Go
def sE:aB:=⟨2,5,[⟨2,none⟩],cq,(sq (rg [gb 4 s0,gb 4 s1,gm cU] [(3,0),(4,1),(2,2)]) (sq (r1 [gf 0 s3,gd l0,gf 0 s4,gd l2,aF l1 l3,gm l4,kd 5 1 s3,jZ 5 l6,kd 5 1 s4,jZ 5 l8,cw 5 (cR l7 l9),fk l5 l10,gm jx,kd 12 3 s3,jZ 12 mw,kd 12 3 s4,jZ 12 ot,cw 12 (.eqA false false [.b] nJ qk),fk kT ve,gm we,kd 19 2 s3,jZ 19 AS,kd 19 2 s4,jZ 19 Ej,cw 19 (.call 486 [B0,H7] [[.sl 1 [.a]],[.sl 1 [.a]]]),fk za H8,gm H9] 2 26) .ret))⟩
def w485 {Γ:Ctx}(hm:(Γ.at 0).bj)(h486:JU Γ)(a:aT)(b:aT)   :dK Γ sE (.bool (decide (a=b))) [aT.D a,aT.D b]:=by
 show bB _ _ _ [⟨_,_⟩,⟨_,_⟩,_,_,_] _;refine ak ?_;refine JE ?_;refine Gl (hb:=ND _ _) ?_;refine aO ?_;refine aj (hc:=h486 _ _) ?_;refine aA ?_;refine bx ?_;rw[aT.zN a b]
def Mz (Γ:Ctx):Prop:=∀(a:aT)(b:aT),Γ.pre 485 [aT.D a,aT.D b]∧Γ.val 485 [aT.D a,aT.D b]=.bool (decide (a=b))
def mn:aB:=⟨3,13,[⟨3,none⟩],cq,(sq (r1 [gm cU] 3 0) (sq (sq (r1 [gm s0,gl l0,gm s1,gl l2,b7 l1 l3] 4 4) (.cond s4 (sq (r1 [gm cU] 3 0) .ret) .skip)) (sq (sq (rg [gm s0,gl l0,gm bH] [(8,0),(6,1),(5,2)]) (.block 0 (.loop (sq (r1 [aX s5 s6] 7 0) (sq (iw s7 0) (sq (.block 1 (sq (rg [gm s5,ga 4 s8 s5,gk 4 true l1,gb 4 (.c (.agg [.str [],.str [],.ar,.bool false])),gm l0,gt 4 l3 l2] [(10,3),(9,4)]) (sq (r1 [gm s1,gm s9,ga 4 l0 l1,gk 4 true l2,gb 4 (.c (.agg [.str [],.str [],.ar,.bool false])),gt 4 l4 l3] 11 4) (sq (r1 [gm s2,gk 4 true lf,gk 4 true n7,gn (.callv l0 [l1,l2] [[.a,.a,.sl 1 [.a],.a],[.a,.a,.sl 1 [.a],.a]]),n4 l3] 12 4) (.cond mi (sq (r1 [gm cU] 3 0) .ret) .skip))))) (r1 [au s5 ca,gm l0] 5 1))))))) (sq (r1 [gm rC] 3 0) .ret))))⟩
def w484 {Γ:Ctx}(hm:(Γ.at 0).bj)(h485:Mz Γ)(a:List aT)(b:List aT)   :dK Γ mn (.bool (decide (a=b))) [.sl 4 (a.map aT.D),.sl 4 (b.map aT.D),.fn 485 []]:=by
 show bB _ _ _ [⟨_,_⟩,⟨_,_⟩,⟨_,_⟩,_,_,_,_,_,_,_,_,_,_] _;refine ak ?_;refine aO ?_;intro u0;refine ax ?_;intro u1;refine ax ?_;refine cG (fun hc0=>?_) fun hc0=>?_
 ·refine aQ ?_;refine bx ?_;symm;rw[decide_eq_false_iff_not];rintro rfl;simp at hc0
 refine aQ ?_;intro u2;refine ax ?_;have hb:=lg (show a.length=b.length by omega);refine bq hm (ι:=Nat) (fun i=>[.un,⟨true,.sl 4 (b.map aT.D)⟩,⟨true,.fn 485 []⟩,.un,.un,⟨true,.int .i64 (i:Nat)⟩,⟨true,.int .i64 (a.length:Nat)⟩,.un,⟨true,.sl 4 (a.map aT.D)⟩,.un,.un,.un,.un]) (fun i=>[]) 9 (fun i=>i≤a.length∧decide (a=b)=cd (fun i=>decide (a[i]! =b[i]!)) i a.length) (fun i=>a.length-i) 0 ⟨by omega,hb⟩ (dT []) ?_;rintro i ⟨hi,hr⟩;refine az ?_;refine cG (fun hc1=>?_) fun hc1=>?_
 ·refine aQ ?_;first|refine bQ (v:=(aT.D _)) ?_|refine ec (v:=(aT.D _)) ?_
  refine b8 ?_;first|refine bQ (v:=(aT.D _)) ?_|refine ec (v:=(aT.D _)) ?_
  refine bc ?_;refine xU (hc:=fun _=>h485 a[i]! b[i]!) ?_;refine ax ?_;refine wp_cond (fun hc2=>?_) (fun hc2=>?_)
  ·simp only[Bool.not_eq_true',decide_eq_false_iff_not]at hc2;refine aO ?_;refine bx ?_;rw[hr,aD (by omega),decide_eq_false hc2];rfl
  simp only[Bool.not_eq_false',decide_eq_true_eq]at hc2;refine bc ?_;exact⟨i+1,⟨by omega,by rw[hr,aD (by omega),decide_eq_true hc2];rfl⟩,by omega,(dT [])⟩
 refine aO ?_;refine bx ?_;rw[hr,bK (by omega)]
def My (Γ:Ctx):Prop:=∀(a:List aT)(b:List aT),Γ.pre 484 [.sl 4 (a.map aT.D),.sl 4 (b.map aT.D),.fn 485 []]∧Γ.val 484 [.sl 4 (a.map aT.D),.sl 4 (b.map aT.D),.fn 485 []]=.bool (decide (a=b))
def sD:aB:=⟨2,5,[⟨2,none⟩],cq,(sq (rg [gb 3 s0,gb 3 s1,gm cU] [(3,0),(4,1),(2,2)]) (sq (r1 [gf 1 s3,gd l0,gf 1 s4,gd l2,aF l1 l3,gm l4,kd 5 2 s3,jZ 5 l6,kd 5 2 s4,jZ 5 l8,cw 5 (cR l7 l9),fk l5 l10,gm jx,kd 12 0 s3,jZ 12 mw,kd 12 0 s4,jZ 12 ot,cw 12 (.call 484 [nJ,qk,(.c (.fn 485 []))] [[.sl 4 [.a,.a,.sl 1 [.a],.a]],[.sl 4 [.a,.a,.sl 1 [.a],.a]],[.a]]),fk kT ve,gm we] 2 19) .ret))⟩
def w234 {Γ:Ctx}(hm:(Γ.at 0).bj)(h484:My Γ)(a:aR)(b:aR)   :dK Γ sD (.bool (decide (a=b))) [aR.D a,aR.D b]:=by
 show bB _ _ _ [⟨_,_⟩,⟨_,_⟩,_,_,_] _;refine ak ?_;refine JE ?_;refine aj (hc:=h484 a.any b.any) ?_;refine aA ?_;refine bx ?_;rw[aR.zN a b]
def L8 (Γ:Ctx):Prop:=∀(a:aR)(b:aR),Γ.pre 234 [aR.D a,aR.D b]∧Γ.val 234 [aR.D a,aR.D b]=.bool (decide (a=b))
def pd:aB:=⟨2,5,[⟨2,none⟩],cq,(sq (rg [gb 2 s0,gb 2 s1,gm cU] [(3,0),(4,1),(2,2)]) (sq (r1 [gf 0 s3,gd l0,gf 0 s4,gd l2,aF l1 l3,gm l4,kd 5 1 s3,jZ 5 l6,kd 5 1 s4,jZ 5 l8,cw 5 (.call 486 [l7,l9] [[.sl 1 [.a]],[.sl 1 [.a]]]),fk l5 l10,gm jx] 2 12) .ret))⟩
def w237 {Γ:Ctx}(hm:(Γ.at 0).bj)(h486:JU Γ)(a:aU)(b:aU)   :dK Γ pd (.bool (decide (a=b))) [aU.D a,aU.D b]:=by
 show bB _ _ _ [⟨_,_⟩,⟨_,_⟩,_,_,_] _;refine ak ?_;refine xe ?_;refine aj (hc:=h486 _ _) ?_;refine aA ?_;refine bx ?_;obtain⟨a1,a2⟩:=a;obtain⟨b1,b2⟩:=b;simp only[aU.mk.injEq,Bool.decide_and]
def Mb (Γ:Ctx):Prop:=∀(a:aU)(b:aU),Γ.pre 237 [aU.D a,aU.D b]∧Γ.val 237 [aU.D a,aU.D b]=.bool (decide (a=b))
def ml:aB:=⟨3,13,[⟨3,none⟩],cq,(sq (r1 [gm cU] 3 0) (sq (sq (r1 [gm s0,gl l0,gm s1,gl l2,b7 l1 l3] 4 4) (.cond s4 (sq (r1 [gm cU] 3 0) .ret) .skip)) (sq (sq (rg [gm s0,gl l0,gm bH] [(8,0),(6,1),(5,2)]) (.block 0 (.loop (sq (r1 [aX s5 s6] 7 0) (sq (iw s7 0) (sq (.block 1 (sq (rg [gm s5,ga 3 s8 s5,gk 3 true l1,gb 3 (.c (.agg [.ar,.str [],.str []])),gm l0,gt 3 l3 l2] [(10,3),(9,4)]) (sq (r1 [gm s1,gm s9,ga 3 l0 l1,gk 3 true l2,gb 3 (.c (.agg [.ar,.str [],.str []])),gt 3 l4 l3] 11 4) (sq (r1 [gm s2,gk 3 true lf,gk 3 true n7,gn (.callv l0 [l1,l2] [[.sl 4 [.a,.a,.sl 1 [.a],.a],.a,.a],[.sl 4 [.a,.a,.sl 1 [.a],.a],.a,.a]]),n4 l3] 12 4) (.cond mi (sq (r1 [gm cU] 3 0) .ret) .skip))))) (r1 [au s5 ca,gm l0] 5 1))))))) (sq (r1 [gm rC] 3 0) .ret))))⟩
def w233 {Γ:Ctx}(hm:(Γ.at 0).bj)(h234:L8 Γ)(a:List aR)(b:List aR)   :dK Γ ml (.bool (decide (a=b))) [.sl 3 (a.map aR.D),.sl 3 (b.map aR.D),.fn 234 []]:=by
 show bB _ _ _ [⟨_,_⟩,⟨_,_⟩,⟨_,_⟩,_,_,_,_,_,_,_,_,_,_] _;refine ak ?_;refine aO ?_;intro u0;refine ax ?_;intro u1;refine ax ?_;refine cG (fun hc0=>?_) fun hc0=>?_
 ·refine aQ ?_;refine bx ?_;symm;rw[decide_eq_false_iff_not];rintro rfl;simp at hc0
 refine aQ ?_;intro u2;refine ax ?_;have hb:=lg (show a.length=b.length by omega);refine bq hm (ι:=Nat) (fun i=>[.un,⟨true,.sl 3 (b.map aR.D)⟩,⟨true,.fn 234 []⟩,.un,.un,⟨true,.int .i64 (i:Nat)⟩,⟨true,.int .i64 (a.length:Nat)⟩,.un,⟨true,.sl 3 (a.map aR.D)⟩,.un,.un,.un,.un]) (fun i=>[]) 9 (fun i=>i≤a.length∧decide (a=b)=cd (fun i=>decide (a[i]! =b[i]!)) i a.length) (fun i=>a.length-i) 0 ⟨by omega,hb⟩ (dT []) ?_;rintro i ⟨hi,hr⟩;refine az ?_;refine cG (fun hc1=>?_) fun hc1=>?_
 ·refine aQ ?_;first|refine bQ (v:=(aR.D _)) ?_|refine ec (v:=(aR.D _)) ?_
  refine b8 ?_;first|refine bQ (v:=(aR.D _)) ?_|refine ec (v:=(aR.D _)) ?_
  refine bc ?_;refine xU (hc:=fun _=>h234 a[i]! b[i]!) ?_;refine ax ?_;refine wp_cond (fun hc2=>?_) (fun hc2=>?_)
  ·simp only[Bool.not_eq_true',decide_eq_false_iff_not]at hc2;refine aO ?_;refine bx ?_;rw[hr,aD (by omega),decide_eq_false hc2];rfl
  simp only[Bool.not_eq_false',decide_eq_true_eq]at hc2;refine bc ?_;exact⟨i+1,⟨by omega,by rw[hr,aD (by omega),decide_eq_true hc2];rfl⟩,by omega,(dT [])⟩
 refine aO ?_;refine bx ?_;rw[hr,bK (by omega)]
def L7 (Γ:Ctx):Prop:=∀(a:List aR)(b:List aR),Γ.pre 233 [.sl 3 (a.map aR.D),.sl 3 (b.map aR.D),.fn 234 []]∧Γ.val 233 [.sl 3 (a.map aR.D),.sl 3 (b.map aR.D),.fn 234 []]=.bool (decide (a=b))
def mj:aB:=⟨3,13,[⟨3,none⟩],cq,(sq (r1 [gm cU] 3 0) (sq (sq (r1 [gm s0,gl l0,gm s1,gl l2,b7 l1 l3] 4 4) (.cond s4 (sq (r1 [gm cU] 3 0) .ret) .skip)) (sq (sq (rg [gm s0,gl l0,gm bH] [(8,0),(6,1),(5,2)]) (.block 0 (.loop (sq (r1 [aX s5 s6] 7 0) (sq (iw s7 0) (sq (.block 1 (sq (rg [gm s5,ga 2 s8 s5,gk 2 true l1,gb 2 (.c (.agg [.str [],.ar])),gm l0,gt 2 l3 l2] [(10,3),(9,4)]) (sq (r1 [gm s1,gm s9,ga 2 l0 l1,gk 2 true l2,gb 2 (.c (.agg [.str [],.ar])),gt 2 l4 l3] 11 4) (sq (r1 [gm s2,gk 2 true lf,gk 2 true n7,gn (.callv l0 [l1,l2] [[.a,.sl 1 [.a]],[.a,.sl 1 [.a]]]),n4 l3] 12 4) (.cond mi (sq (r1 [gm cU] 3 0) .ret) .skip))))) (r1 [au s5 ca,gm l0] 5 1))))))) (sq (r1 [gm rC] 3 0) .ret))))⟩
def w236 {Γ:Ctx}(hm:(Γ.at 0).bj)(h237:Mb Γ)(a:List aU)(b:List aU)   :dK Γ mj (.bool (decide (a=b))) [.sl 2 (a.map aU.D),.sl 2 (b.map aU.D),.fn 237 []]:=by
 show bB _ _ _ [⟨_,_⟩,⟨_,_⟩,⟨_,_⟩,_,_,_,_,_,_,_,_,_,_] _;refine ak ?_;refine aO ?_;intro u0;refine ax ?_;intro u1;refine ax ?_;refine cG (fun hc0=>?_) fun hc0=>?_
 ·refine aQ ?_;refine bx ?_;symm;rw[decide_eq_false_iff_not];rintro rfl;simp at hc0
 refine aQ ?_;intro u2;refine ax ?_;have hb:=lg (show a.length=b.length by omega);refine bq hm (ι:=Nat) (fun i=>[.un,⟨true,.sl 2 (b.map aU.D)⟩,⟨true,.fn 237 []⟩,.un,.un,⟨true,.int .i64 (i:Nat)⟩,⟨true,.int .i64 (a.length:Nat)⟩,.un,⟨true,.sl 2 (a.map aU.D)⟩,.un,.un,.un,.un]) (fun i=>[]) 9 (fun i=>i≤a.length∧decide (a=b)=cd (fun i=>decide (a[i]! =b[i]!)) i a.length) (fun i=>a.length-i) 0 ⟨by omega,hb⟩ (dT []) ?_;rintro i ⟨hi,hr⟩;refine az ?_;refine cG (fun hc1=>?_) fun hc1=>?_
 ·refine aQ ?_;first|refine bQ (v:=(aU.D _)) ?_|refine ec (v:=(aU.D _)) ?_
  refine b8 ?_;first|refine bQ (v:=(aU.D _)) ?_|refine ec (v:=(aU.D _)) ?_
  refine bc ?_;refine xU (hc:=fun _=>h237 a[i]! b[i]!) ?_;refine ax ?_;refine wp_cond (fun hc2=>?_) (fun hc2=>?_)
  ·simp only[Bool.not_eq_true',decide_eq_false_iff_not]at hc2;refine aO ?_;refine bx ?_;rw[hr,aD (by omega),decide_eq_false hc2];rfl
  simp only[Bool.not_eq_false',decide_eq_true_eq]at hc2;refine bc ?_;exact⟨i+1,⟨by omega,by rw[hr,aD (by omega),decide_eq_true hc2];rfl⟩,by omega,(dT [])⟩
 refine aO ?_;refine bx ?_;rw[hr,bK (by omega)]
def Ma (Γ:Ctx):Prop:=∀(a:List aU)(b:List aU),Γ.pre 236 [.sl 2 (a.map aU.D),.sl 2 (b.map aU.D),.fn 237 []]∧Γ.val 236 [.sl 2 (a.map aU.D),.sl 2 (b.map aU.D),.fn 237 []]=.bool (decide (a=b))
def rj:aB:=⟨2,9,[⟨2,none⟩],cq,(sq (r1 [gm cU] 2 0) (sq (sq (r1 [gm s0,gl l0,gm s1,gl l2,b7 l1 l3] 3 4) (.cond s3 (sq (r1 [gm cU] 2 0) .ret) .skip)) (sq (sq (rg [gm s0,gl l0,gm bH] [(5,1),(4,2)]) (.block 0 (.loop (sq (r1 [aX s4 s5] 6 0) (sq (iw s6 0) (sq (.block 1 (sq (r1 [gm s4,gm l0] 7 1) (sq (r2 [gm s0,gm s7,ga 3 l0 l1,gk 3 true l2,gm s1,gm s7,ga 3 l4 l5,gk 3 true l6,gn (.eqA true true [.s,.s,.s] l3 l7)] 8 8) (.cond s8 (sq (r1 [gm cU] 2 0) .ret) .skip)))) (r1 [au s4 ca,gm l0] 4 1))))))) (sq (r1 [gm rC] 2 0) .ret))))⟩
def w235 {Γ:Ctx}(hm:(Γ.at 0).bj)  (a:List ee)(b:List ee)   :dK Γ rj (.bool (decide (a=b))) [.sl 3 (a.map ee.D),.sl 3 (b.map ee.D)]:=by
 show bB _ _ _ [⟨_,_⟩,⟨_,_⟩,_,_,_,_,_,_,_] _;refine ak ?_;refine aO ?_;intro u0;refine ax ?_;intro u1;refine ax ?_;refine cG (fun hc0=>?_) fun hc0=>?_
 ·refine aQ ?_;refine bx ?_;symm;rw[decide_eq_false_iff_not];rintro rfl;simp at hc0
 refine aQ ?_;intro u2;refine ax ?_;have hb:=lg (show a.length=b.length by omega);refine bq hm (ι:=Nat) (fun i=>[⟨true,.sl 3 (a.map ee.D)⟩,⟨true,.sl 3 (b.map ee.D)⟩,.un,.un,⟨true,.int .i64 (i:Nat)⟩,⟨true,.int .i64 (a.length:Nat)⟩,.un,.un,.un]) (fun i=>[]) 9 (fun i=>i≤a.length∧decide (a=b)=cd (fun i=>decide (a[i]! =b[i]!)) i a.length) (fun i=>a.length-i) 0 ⟨by omega,hb⟩ (dT []) ?_;rintro i ⟨hi,hr⟩;refine az ?_;refine cG (fun hc1=>?_) fun hc1=>?_
 ·refine jj ?_;first|refine bQ (v:=(ee.D _)) ?_|refine ec (v:=(ee.D _)) ?_
  refine az ?_;first|refine bQ (v:=(ee.D _)) ?_|refine ec (v:=(ee.D _)) ?_
  refine NV (hb:=ee.eq _ _) ?_;refine ay ?_;refine wp_cond (fun hc2=>?_) (fun hc2=>?_)
  ·simp only[Bool.not_eq_true',decide_eq_false_iff_not]at hc2;refine aO ?_;refine bx ?_;rw[hr,aD (by omega),decide_eq_false hc2];rfl
  simp only[Bool.not_eq_false',decide_eq_true_eq]at hc2;refine bc ?_;exact⟨i+1,⟨by omega,by rw[hr,aD (by omega),decide_eq_true hc2];rfl⟩,by omega,(dT [])⟩
 refine aO ?_;refine bx ?_;rw[hr,bK (by omega)]
def L9 (Γ:Ctx):Prop:=∀(a:List ee)(b:List ee),Γ.pre 235 [.sl 3 (a.map ee.D),.sl 3 (b.map ee.D)]∧Γ.val 235 [.sl 3 (a.map ee.D),.sl 3 (b.map ee.D)]=.bool (decide (a=b))
def zA:aB:=⟨2,5,[⟨2,none⟩],cq,(sq (rg [gb 9 s0,gb 9 s1,gm cU] [(3,0),(4,1),(2,2)]) (sq (r1 [gf 0 s3,gd l0,gf 0 s4,gd l2,aF l1 l3,gm l4,kd 5 1 s3,cw 5 (.ld 5 true l6),kd 5 1 s4,cw 5 (.ld 5 true l8),cw 5 (.eqA false true [.i .i64,.i .i64,.i .i64,.s,.s] l7 l9),fk l5 l10,gm jx,kd 12 6 s3,jZ 12 mw,kd 12 6 s4,jZ 12 ot,cw 12 (.call 233 [nJ,qk,(.c (.fn 234 []))] [[.sl 3 [.sl 4 [.a,.a,.sl 1 [.a],.a],.a,.a]],[.sl 3 [.sl 4 [.a,.a,.sl 1 [.a],.a],.a,.a]],[.a]]),fk kT ve,gm we,kd 19 7 s3,jZ 19 AS,kd 19 7 s4,jZ 19 Ej,cw 19 (.call 235 [B0,H7] [[.sl 3 [.a,.a,.a]],[.sl 3 [.a,.a,.a]]]),fk za H8,gm H9,kd 26 8 s3,jZ 26 LK,kd 26 8 s4,jZ 26 LM,cw 26 (.call 236 [LL,NN,(.c (.fn 237 []))] [[.sl 2 [.a,.sl 1 [.a]]],[.sl 2 [.a,.sl 1 [.a]]],[.a]]),fk KH l31,gm l32] 2 33) .ret))⟩
def w80 {Γ:Ctx}(hm:(Γ.at 0).bj)(h233:L7 Γ)(h235:L9 Γ)(h236:Ma Γ)(a:Rec)(b:Rec)   :dK Γ zA (.bool (decide (a=b))) [Rec.D a,Rec.D b]:=by
 show bB _ _ _ [⟨_,_⟩,⟨_,_⟩,_,_,_] _;refine ak ?_;refine gJ ?_;refine cu (v:=(df.D _)) ?_;refine ay ?_;refine cu (v:=(df.D _)) ?_;refine Gl (hb:=df.eq _ _) ?_;refine aO ?_;refine aj (hc:=h233 a.needs b.needs) ?_;refine aO ?_;refine aj (hc:=h235 _ _) ?_;refine aO ?_;refine aj (hc:=h236 a.feats b.feats) ?_;refine aA ?_;refine bx ?_;rw[Rec.zN a b]
def C80 (Γ:Ctx):Prop:=∀(a:Rec)(b:Rec),Γ.pre 80 [Rec.D a,Rec.D b]∧Γ.val 80 [Rec.D a,Rec.D b]=.bool (decide (a=b))
end Go.Abs
end
section
namespace Go.Abs
open Go
end Go.Abs
end
section
namespace Go.Abs
open Go
def oT:aB:=⟨2,9,[⟨2,none⟩],cq,(sq (r1 [gm cU] 2 0) (sq (rg [gm s0,gx 79 [l0,bH,bH] [[.sl 1 [.a]],[.a],[.a]],gm s1,gx 79 [l2,bH,bH] [[.sl 1 [.a]],[.a],[.a]],gb 9 (.c (.agg [.str [],.int .i64 0,.int .i64 0,.int .i64 0,.str [],.str [],.ar,.ar,.ar])),gb 9 (.c (.agg [.str [],.int .i64 0,.int .i64 0,.int .i64 0,.str [],.str [],.ar,.ar,.ar])),gt 9 l4 l1,gt 9 l5 l3] [(3,4),(4,5)]) (sq (rg [gk 9 true s3,gx 72 [l0] [[.a,.a,.a,.a,.a,.a,.sl 3 [.sl 4 [.a,.a,.sl 1 [.a],.a],.a,.a],.sl 3 [.a,.a,.a],.sl 2 [.a,.sl 1 [.a]]]],gm l1,ge l2 0,ge l2 1,gm l3,gm l4] [(7,5),(5,6)]) (sq (rg [gk 9 true s4,gx 72 [l0] [[.a,.a,.a,.a,.a,.a,.sl 3 [.sl 4 [.a,.a,.sl 1 [.a],.a],.a,.a],.sl 3 [.a,.a,.a],.sl 2 [.a,.sl 1 [.a]]]],gm l1,ge l2 0,ge l2 1,gm l3,gm l4] [(8,5),(6,6)]) (sq (r1 [gx 69 [] [],gm l0,gmt 1 s5,cw 1 (cR l2 bH),fk l1 l3,gm l4,gmt 5 s6,cw 5 (cR l6 bH),fk l5 l7,gm l8,gmt 9 s7,gmt 9 s8,cw 9 (cR l10 jx),cw 9 (.ld 9 true s3),cw 9 (.ld 9 true s4),cw 9 (.call 80 [mw,nJ] [[.a,.a,.a,.a,.a,.a,.sl 3 [.sl 4 [.a,.a,.sl 1 [.a],.a],.a,.a],.sl 3 [.a,.a,.a],.sl 2 [.a,.sl 1 [.a]]],[.a,.a,.a,.a,.a,.a,.sl 3 [.sl 4 [.a,.a,.sl 1 [.a],.a],.a,.a],.sl 3 [.a,.a,.a],.sl 2 [.a,.sl 1 [.a]]]]),cw 9 (.eqA false false [.b] kT ot),fk l9 qk,gm ve] 2 18) .ret)))))⟩
def w13 {Γ:Ctx}(hm:(Γ.at 0).bj)(h69:C69 Γ)(h72:C72 Γ)(h79:C79 Γ)(h80:C80 Γ)(l:List Int)(m:List Int)   :dK Γ oT (.bool true) [.sl 1 (l.map (D.int .i64)),.sl 1 (m.map (D.int .i64))]:=by
 show bB _ _ _ [⟨_,_⟩,⟨_,_⟩,_,_,_,_,_,_,_] _;refine ak ?_;refine aA ?_;refine aj (hc:=h79 l 0 0 (by decide) (by decide)) ?_;refine ay ?_;refine aj (hc:=h79 m 0 0 (by decide) (by decide)) ?_;refine ax ?_;refine aJ (Rec.D (gh l 0 0)) (he:=by exact rfl) ?_;refine aJ (Rec.D (gh m 0 0)) (he:=by exact rfl) ?_;refine ay ?_;have hg:=tX l 0 0;have hg2:=tX m 0 0;refine ay ?_;refine cE (d:=Rec.D (gh l 0 0)) ?_;refine aj (v:=.tup [.str (dJ (gh l 0 0)),.int .i64 0]) (hc:=by have:=h72 _ hg.sm;rw[hg.print]at this;exact this) ?_;refine bc ?_;refine cE (d:=Rec.D (gh m 0 0)) ?_;refine aj (v:=.tup [.str (dJ (gh m 0 0)),.int .i64 0]) (hc:=by have:=h72 _ hg2.sm;rw[hg2.print]at this;exact this) ?_;refine bc ?_;refine aj (hc:=h69) ?_;refine gJ ?_;refine cE (d:=Rec.D (gh l 0 0)) ?_;refine cE (d:=Rec.D (gh m 0 0)) ?_;refine eF (hc:=fun hf=>h80 (gh l 0 0) (gh m 0 0)) ?_;refine Gl (hb:=ND _ _) ?_;refine aA ?_;refine bx ?_;have e:decide (dJ (gh l 0 0)=dJ (gh m 0 0))=decide (gh l 0 0=gh m 0 0):=decide_eq_decide.2 ⟨Fb,fun h=>by rw[h]⟩;simp[e]
end Go.Abs
end
section
namespace Go.Abs
def Kn:List D→Nat
 |_::.int _ (.ofNat 4)::_=>3
 |_=>1
def A13 (T:RT):Prop:=∀(l:List Int)(m:List Int),T [.sl 1 (l.map (D.int .i64)),.sl 1 (m.map (D.int .i64))] (.bool true)
def D13:M0 (xJ A13):=bC
def A69 (T:RT):Prop:=T [] (.bool true)
def A70 (T:RT):Prop:=∀(r:Rec),(kg r)→T [Rec.D r] (.tup [.int .i64 (cg r).1,.int .i64 (cg r).2])
def A72 (T:RT):Prop:=∀(r:Rec),(kg r)→T [Rec.D r] (.tup [.str (jS r).1,.int .i64 (jS r).2])
def A76 (T:RT):Prop:=∀(s:ah),T [.str s] (.tup [Rec.D (e8 s).1,.int .i64 (e8 s).2.1,.int .i64 (e8 s).2.2])
def A79 (T:RT):Prop:=∀(l:List Int)(i:Int)(own:Int),(0≤i∧i≤1000000)→(0≤own∧own≤100000)→T [.sl 1 (l.map (D.int .i64)),.int .i64 i,.int .i64 own] (Rec.D (gh l i own))
def A80 (T:RT):Prop:=∀(a:Rec)(b:Rec),T [Rec.D a,Rec.D b] (.bool (decide (a=b)))
def LU (T:RT):Prop:=∀(s:ah)(b:UInt8),(s.length≤1048576)→T [.str s,.str [b]] (.sl 1 ((ai s b.toNat).map D.str))
def LV (T:RT):Prop:=∀(s:ah),(s.length≤1048576)→T [.str s,.str [124,124]] (.sl 1 ((aN s []).map D.str))
def A124 (T:RT):Prop:=LU T∧LV T
def A208 (T:RT):Prop:=∀(s:ah),T [.str s] (.bool (ea s))
def A209 (T:RT):Prop:=∀(v:df),(v.sm)→T [df.D v] (.bool (en v))
def A210 (T:RT):Prop:=∀(r:Rec)(n:aR),(n.sm)→T [Rec.D r,aR.D n] (.int .i64 (jf r n))
def A211 (T:RT):Prop:=∀(r:Rec)(name:ah)(rng:ah),(rng.length≤1048576)→T [Rec.D r,.str name,.str rng] (.int .i64 (iP r name rng))
def A212 (T:RT):Prop:=∀(s:ah),T [.str s] (.bool (lJ s))
def A213 (T:RT):Prop:=∀(l:List aU),(sR l)→T [.sl 2 (l.map aU.D)] (.bool (fF l))
def A214 (T:RT):Prop:=∀(r:Rec)(s:ah),(s.length≤1048576)→T [Rec.D r,.str s] (.int .i64 (je r s))
def A215 (T:RT):Prop:=∀(r:Rec),(tY r∧kg r)→T [Rec.D r] (.str (dJ r))
def A217 (T:RT):Prop:=∀(v:df),(v.sm)→T [df.D v] (.bool (en v))
def LW (T:FT):Prop:=∀(r:Ld),(r.sm)→T (Ld.D r) [] (.tup [Rec.D (et r.rest).1,.bool (pc r.rest).isSome]) (Ld.D (r.to (et r.rest).2))
def MW:tm (ku LW):=Hx
def A227 (T:RT):Prop:=∀(n:Int),T [.int .i64 n] (.str (cJ n))
def A228 (T:RT):Prop:=∀(l:List Int)(i:Int)(n:Int),(0<n∧n≤9223372036854775807)→T [.sl 1 (l.map (D.int .i64)),.int .i64 i,.int .i64 n] (.int .i64 (dd l i n))
def A229 (T:RT):Prop:=∀(l:List Int)(i:Int)(own:Int),(0≤i∧i≤2000000)→(0≤own∧own≤1000000)→T [.sl 1 (l.map (D.int .i64)),.int .i64 i,.int .i64 own] (aR.D (dS l i own))
def A230 (T:RT):Prop:=∀(l:List Int)(i:Int),(0≤i∧i≤4000000)→T [.sl 1 (l.map (D.int .i64)),.int .i64 i] (.str (mS l i))
def A231 (T:RT):Prop:=∀(l:List Int)(i:Int),(0≤i∧i≤4000000)→T [.sl 1 (l.map (D.int .i64)),.int .i64 i] (.str (gR l i))
def A232 (T:RT):Prop:=∀(l:List Int)(i:Int)(r:Rec),(0≤i∧i≤2000000)→(∀j:Nat,j<r.needs.length→r.needs[j]!.option.length≤100∧(r.needs[j]!.any.length=1→r.needs[j]!.any[0]!.name.length≤100))→T [.sl 1 (l.map (D.int .i64)),.int .i64 i,Rec.D r] (.sl 2 ((fh l i r).map aU.D))
def A233 (T:RT):Prop:=∀(a:List aR)(b:List aR),T [.sl 3 (a.map aR.D),.sl 3 (b.map aR.D),.fn 234 []] (.bool (decide (a=b)))
def A234 (T:RT):Prop:=∀(a:aR)(b:aR),T [aR.D a,aR.D b] (.bool (decide (a=b)))
def A235 (T:RT):Prop:=∀(a:List ee)(b:List ee),T [.sl 3 (a.map ee.D),.sl 3 (b.map ee.D)] (.bool (decide (a=b)))
def A236 (T:RT):Prop:=∀(a:List aU)(b:List aU),T [.sl 2 (a.map aU.D),.sl 2 (b.map aU.D),.fn 237 []] (.bool (decide (a=b)))
def A237 (T:RT):Prop:=∀(a:aU)(b:aU),T [aU.D a,aU.D b] (.bool (decide (a=b)))
def A242 (T:RT):Prop:=∀(l:List ah)(sep:ah),(l.length≤1048600)→(sep.length≤4)→(∀t∈l,t.length≤2097200)→T [.sl 1 (l.map D.str),.str sep] (.str (aG sep l))
def A245 (T:RT):Prop:=∀(s:ah)(n:Int),(s.length≤1048576)→(n=-1∨(1≤n∧n≤1000))→T [.str s,.str [32],.int .i64 n] (.sl 1 ((gH n s).map D.str))
def A246 (T:RT):Prop:=∀(l:List ah)(x:ah),T [.sl 1 (l.map D.str),.str x] (.bool (decide (x∈l)))
def A249 (T:RT):Prop:=∀(l:List ah)(x:UInt8),((aG [x] l).length≤1099511627776)→T [.sl 1 (l.map D.str),.int .u8 (x.toNat:Nat)] (.str (aG [x] l))
def A254 (T:RT):Prop:=∀(s:ah)(p:ah),(s.length≤1048576)→(p.length≤1048576)→T [.str s,.str p] (.tup [.str (cY s p).1,.bool (cY s p).2])
def A336 (T:RT):Prop:=∀(n:Int),(0≤n∧n≤9999)→T [.int .i64 n] (.str (bS n.toNat))
def A349 (T:RT):Prop:=∀(s:ah),T [.str s] (.bool (bI s))
def A440 (T:RT):Prop:=∀(n:Int),T [.int .i64 n] (.bool (pR n))
def A441 (T:RT):Prop:=∀(s:ah),(s.length≤1048576)→T [.str s] (.bool (jh s true))
def A442 (T:RT):Prop:=∀(s:ah),(s.length≤1048576)→T [.str s] (.bool (jh s false))
def A443 (T:RT):Prop:=∀(r:Rec)(w:aT)(al:Bool),(w.sm)→T [Rec.D r,aT.D w,.bool al] (.int .i64 (jX r w al))
def A444 (T:RT):Prop:=∀(s:ah),(s.length≤1048576)→T [.str s] (.bool (nO s))
def A445 (T:RT):Prop:=∀(s:ah),T [.str s] (.tup [j3 (lK s).1,.int .i64 (lK s).2])
def A446 (T:RT):Prop:=∀(m:Jc),T [j3 m] (.str (LO m))
def A447 (T:RT):Prop:=∀(l:List ah),T [.sl 1 (l.map D.str)] (.bool (rising l))
def A448 (T:RT):Prop:=∀(s:ah),(s.length≤1048576)→T [.str s] (.tup [.int .i64 (cb s).1,.str (cb s).2.1,.str (cb s).2.2])
def A449 (T:RT):Prop:=∀(l:List aU)(nm:ah),T [.sl 2 (l.map aU.D),.str nm] (.bool (LJ l nm))
def A451 (T:RT):Prop:=∀(v:df),(v.sm)→T [df.D v] (.str (iN v))
def A454 (T:RT):Prop:=∀(c:Int),T [.int .u8 c] (.bool (aH c))
def A455 (T:RT):Prop:=∀(n:Int),T [.int .i64 n] (.bool (pR n))
def A456 (T:RT):Prop:=∀(s:ah)(p:Bool),(s.length≤1048576)→T [.str s,.bool p] (.bool (lX s p))
def LX (T:FT):Prop:=∀(r:Ld)(w:ah)(n:Nat)(op:Bool),(r.sm)→(n≤1000)→(op=true→1≤n)→T (Ld.D r) [.str w,.int .i64 (n:Nat),.bool op] (.tup [vw (bg w n op r.rest),.bool (bg w n op r.rest).isSome]) (Ld.D (r.after (bg w n op r.rest)))
def MX:tm (ku LX):=Hx
def A466 (T:RT):Prop:=∀(s:ah),(s.length≤1048576)→T [.str s] (.tup [df.D ((kE s).getD ja),.int .i64 (uV s)])
def LY (T:FT):Prop:=∀(r:Ld),(r.sm)→T (Ld.D r) [] (aR.D (cX r.rest).1) (Ld.D (r.to (cX r.rest).2))
def MY:tm (ku LY):=Hx
def LZ (T:FT):Prop:=∀(r:Ld),(r.sm)→T (Ld.D r) [] (.str (bp r.rest).1) (Ld.D (r.to (bp r.rest).2))
def MZ:tm (ku LZ):=Hx
def A469 (T:RT):Prop:=∀(l:List ah),(l.length≤1048600)→T [.sl 1 (l.map D.str)] (.sl 1 (l.map D.str))
def A470 (T:RT):Prop:=∀(s:ah)(b:Int),(s.length≤1048576)→T [.str s,.int .u8 b] (.sl 1 ((ai s b).map D.str))
def A478 (T:RT):Prop:=∀(v:Int)(n:Int),(0<n∧n≤9223372036854775807)→T [.int .i64 v,.int .i64 n] (.int .i64 (v%n))
def A479 (T:RT):Prop:=∀(l:List Int)(i:Int),T [.sl 1 (l.map (D.int .i64)),.int .i64 i] (.int .i64 (fZ l i))
def A480 (T:RT):Prop:=∀(l:List Int)(i:Int)(own:Int)(alone:Bool),(0≤i∧i≤3000000)→(0≤own∧own≤1000000)→T [.sl 1 (l.map (D.int .i64)),.int .i64 i,.int .i64 own,.bool alone] (aT.D (gS l i own alone))
def A481 (T:RT):Prop:=∀(n:Int),T [.int .i64 n] (.str (gT n))
def A482 (T:RT):Prop:=∀(c:b6),(c.v.sm)→T [b6.D c] (.str (cV c))
def A483 (T:RT):Prop:=∀(l:List ah)(s:ah),(l.length≤1000)→T [.sl 1 (l.map D.str),.str s] (.sl 1 ((dN l s).map D.str))
def A484 (T:RT):Prop:=∀(a:List aT)(b:List aT),T [.sl 4 (a.map aT.D),.sl 4 (b.map aT.D),.fn 485 []] (.bool (decide (a=b)))
def A485 (T:RT):Prop:=∀(a:aT)(b:aT),T [aT.D a,aT.D b] (.bool (decide (a=b)))
def A486 (T:RT):Prop:=∀(a:List ah)(b:List ah),T [.sl 1 (a.map D.str),.sl 1 (b.map D.str)] (.bool (decide (a=b)))
def A487 (T:RT):Prop:=∀(s:ah)(b:UInt8),(s.length≤1048576)→T [.str s,.str [b]] (.tup [.str (dY s b).1,.str (dY s b).2.1,.bool (dY s b).2.2])
def A494 (T:RT):Prop:=∀(l:List ah)(x:ah),T [.sl 1 (l.map D.str),.str x] (.int .i64 (pW l x 0))
def A495 (T:RT):Prop:=∀(s:ah),(s.length≤1048576)→T [.str s] (.tup [im (iY s).1,.int .i64 (iY s).2])
def A496 (T:RT):Prop:=∀(r:xi),(nn r)→T [im r] (.str (wC r))
def A533 (T:RT):Prop:=∀(s:ah)(b:Int),(s.length≤1048576)→T [.str s,.int .u8 b] (.sl 1 ((ai s b).map D.str))
def A658 (T:RT):Prop:=∀(s:ah),T [.str s] (.tup [.int .i64 (cW s),.bool (dL s)])
def A659 (T:RT):Prop:=∀(t:ah),T [.str t] (.bool (dp t))
def A661 (T:RT):Prop:=∀(m:Jc),T [j3 m] (.bool (vu m))
def A662 (T:RT):Prop:=∀(l:List Nd),(fG l∧l.length≤15)→T [.sl 5 (l.map Nd.D)] (.str (px l))
def A663 (T:RT):Prop:=∀(l:List aU)(nm:ah),T [.sl 2 (l.map aU.D),.str nm] (.int .i64 (findF l nm 0))
def A665 (T:RT):Prop:=∀(n:Int),(0≤n∧n≤9999)→T [.int .i64 n] (.str (bS n.toNat))
def A666 (T:RT):Prop:=∀(t:ah),T [.str t] (.bool (mq t))
def A667 (T:RT):Prop:=∀(s:ah),T [.str s] (.tup [.int .i64 (cW s),.bool (dL s)])
def A668 (T:RT):Prop:=∀(t:ah),T [.str t] (.bool (dp t))
def A675 (T:RT):Prop:=∀(s:ah)(b:Int),T [.str s,.int .u8 b] (.tup [.str (cL s b).1,.str (cL s b).2])
def A676 (T:RT):Prop:=∀(c:b6),(c.v.sm)→T [b6.D c] (.bool (iQ c))
def A678 (T:RT):Prop:=∀(op:Int),T [.int .i64 op] (.str (bR op))
def A682 (T:RT):Prop:=∀(s:ah),(s.length≤1048575)→T [.str s] (.tup [b6.D ((gQ s).getD dx),.int .i64 (if(gQ s).isSome=true then 0 else 6)])
def A683 (T:RT):Prop:=∀(s:ah)(b:UInt8),(b=32)→(s.length≤1048576)→T [.str s,.str [b]] (.str (ep s))
def A684 (T:RT):Prop:=∀(r:xi),(nn r)→T [im r] (.tup [.str (if kq r=true then DZ r else []),.bool (kq r)])
def A685 (T:RT):Prop:=∀(r:xi),(nn r)→T [im r] (.bool (qT r))
def A734 (T:RT):Prop:=∀(n:Int),(0≤n∧n≤9999)→T [.int .i64 n] (.str (bS n.toNat))
def A810 (T:RT):Prop:=∀(l:List Nd),T [.sl 5 (l.map Nd.D)] (.bool (decide (l.length≤15)&&nt l))
def A811 (T:RT):Prop:=∀(l:List Nd)(i:Int),(fG l∧l.length≤15∧0≤i∧i<l.length)→T [.sl 5 (l.map Nd.D),.int .i64 i] (.str (kD l i))
def u811:List D→Nat:=fun ds=>2*(match ds.getD 1 .any with| .int _ i=>i.toNat|_=>0)
def A819 (T:RT):Prop:=∀(s:ah),(s.length≤1048576)→T [.str s] (.tup [b6.D ((dI s).getD dx),.bool (dI s).isSome])
def A827 (T:RT):Prop:=∀(c:b6),(c.v.sm)→T [b6.D c] (.bool (iQ c))
def A828 (T:RT):Prop:=∀(c:b6),(c.v.sm)→T [b6.D c] (.str (cV c))
def A882 (T:RT):Prop:=∀(n:Nat),(n≤9999)→T [.int .u64 (n:Nat)] (.str (bS n))
def A946 (T:RT):Prop:=∀(w:List ah)(es:List D)(b:Bool),T [.ref 3 [eo w (.sl 5 es) b] 0 0] (.str (bM w))
def A950 (T:RT):Prop:=T [] (.sl 1 (lW.map D.str))
def A951 (T:RT):Prop:=∀(l:List Nd)(i:Int)(b:Bool),(fG l∧l.length≤15∧0≤i∧i<l.length)→T [.sl 5 (l.map Nd.D),.int .i64 i,.bool b] (.str (jY (kD l i) b))
def u951:List D→Nat:=fun ds=>2*(match ds.getD 1 .any with| .int _ i=>i.toNat|_=>0)+1
def A956 (T:RT):Prop:=∀(s:ah)(w:ah),T [.str s,.str w] (.bool (qw s w))
def A957 (T:RT):Prop:=∀(op:Int),T [.int .i64 op] (.str (bR op))
def a8:List (Nat×nW):=[(13,rP 17 A13),(69,rP 16 A69),(70,rP 14 A70),(72,rP 15 A72),(76,rP 15 A76),(79,rP 10 A79),(80,rP 6 A80),(124,rP 1 A124),(208,rP 1 A208),(209,rP 4 A209),(210,rP 13 A210),(211,rP 11 A211),(212,rP 6 A212),(213,rP 3 A213),(214,rP 3 A214),(215,rP 6 A215),(217,rP 4 A217),(222,rF 7 LW),(227,rP 2 A227),(228,rP 2 A228),(229,rP 9 A229),(230,rP 7 A230),(231,rP 3 A231),(232,rP 2 A232),(233,rP 5 A233),(234,rP 4 A234),(235,rP 1 A235),(236,rP 3 A236),(237,rP 2 A237),(242,rP 1 A242),(245,rP 1 A245),(246,rP 2 A246),(249,rP 1 A249),(254,rP 1 A254),(336,rP 1 A336),(349,rP 1 A349),(440,rP 1 A440),(441,rP 3 A441),(442,rP 2 A442),(443,rP 12 A443),(444,rP 10 A444),(445,rP 5 A445),(446,rP 5 A446),(447,rP 1 A447),(448,rP 2 A448),(449,rP 2 A449),(450,rG 2 JP),(451,rP 5 A451),(452,rG 1 JR),(454,rP 1 A454),(455,rP 1 A455),(456,rP 3 A456),(465,rFG 3 LX BA),(466,rP 6 A466),(467,rF 5 LY),(468,rF 4 LZ),(469,rP 1 A469),(470,rP 1 A470),(478,rP 1 A478),(479,rP 1 A479),(480,rP 8 A480),(481,rP 2 A481),(482,rP 6 A482),(483,rP 1 A483),(484,rP 3 A484),(485,rP 2 A485),(486,rP 1 A486),(487,rP 1 A487),(489,rG 1 JV),(494,rP 1 A494),(495,rP 9 A495),(496,rP 8 A496),(533,rP 1 A533),(658,rP 1 A658),(659,rP 1 A659),(660,rG 4 JW (Fz fun _=>4)),(661,rP 4 A661),(662,rP 3 A662),(663,rP 1 A663),(664,rG 1 JZ),(665,rP 2 A665),(666,rP 1 A666),(667,rP 2 A667),(668,rP 1 A668),(675,rP 1 A675),(676,rP 5 A676),(677,rG 3 J1),(678,rP 1 A678),(682,rP 8 A682),(683,rP 1 A683),(684,rP 7 A684),(685,rP 8 A685),(734,rP 2 A734),(808,rG 4 C808 (Fz Kn)),(809,rG 4 C809 (Fz fun _=>2)),(810,rP 2 A810),(811,rP 2 A811 u811),(819,rP 7 A819),(827,rP 5 A827),(828,rP 6 A828),(882,rP 1 A882),(946,rP 1 A946),(947,rG 2 CF),(948,rG 1 Eu),(949,rG 4 C949 (Fz fun _=>0)),(950,rP 1 A950),(951,rP 2 A951 u951),(956,rP 1 A956),(957,rP 1 A957),(1031,rG 3 Em)]
variable {k u v:Nat}
def G69 (hk:16<k:=by decide):C69 (under a8 k u):=dq bC (.inl hk) fun T hT=>hT
def G70 (hk:14<k:=by decide):C70 (under a8 k u):=fun r hp0=>dq bC (.inl hk) fun T hT=>hT r hp0
def G72 (hk:15<k:=by decide):C72 (under a8 k u):=fun r hp0=>dq bC (.inl hk) fun T hT=>hT r hp0
def G76 (hk:15<k:=by decide):C76 (under a8 k u):=fun s=>dq bC (.inl hk) fun T hT=>hT s
def G79 (hk:10<k:=by decide):C79 (under a8 k u):=fun l i own hp0 hp1=>dq bC (.inl hk) fun T hT=>hT l i own hp0 hp1
def G80 (hk:6<k:=by decide):C80 (under a8 k u):=fun a b=>dq bC (.inl hk) fun T hT=>hT a b
def Hf (hk:1<k:=by decide):En (under a8 k u):=fun s b hp=>dq bC (.inl hk) fun T h=>h.1 s b hp
def Ns (hk:1<k:=by decide):I6 (under a8 k u):=fun s hp=>dq bC (.inl hk) fun T h=>h.2 s hp
def J6 (hk:1<k:=by decide):G7 (under a8 k u):=fun s=>dq bC (.inl hk) fun T hT=>hT s
def Hg (hk:4<k:=by decide):Eo (under a8 k u):=fun v hp0=>dq bC (.inl hk) fun T hT=>hT v hp0
def G210 (hk:13<k:=by decide):L0 (under a8 k u):=fun r n hp0=>dq bC (.inl hk) fun T hT=>hT r n hp0
def M3 (hk:11<k:=by decide):JH (under a8 k u):=fun r name rng hp0=>dq bC (.inl hk) fun T hT=>hT r name rng hp0
def M4 (hk:6<k:=by decide):JI (under a8 k u):=fun s=>dq bC (.inl hk) fun T hT=>hT s
def G213 (hk:3<k:=by decide):L1 (under a8 k u):=fun l hp0=>dq bC (.inl hk) fun T hT=>hT l hp0
def G214 (hk:3<k:=by decide):L2 (under a8 k u):=fun r s hp0=>dq bC (.inl hk) fun T hT=>hT r s hp0
def M5 (hk:6<k:=by decide):JJ (under a8 k u):=fun r hp0=>dq bC (.inl hk) fun T hT=>hT r hp0
def G217 (hk:4<k:=by decide):L3 (under a8 k u):=fun v hp0=>dq bC (.inl hk) fun T hT=>hT v hp0
def G222 (hk:7<k:=by decide):L4 (under a8 k u):=fun r hp0=>okf MW hk fun T h=>h r hp0
def M6 (hk:2<k:=by decide):JK (under a8 k u):=fun n=>dq bC (.inl hk) fun T hT=>hT n
def Ey (hk:2<k:=by decide):CE (under a8 k u):=fun l i n hp0=>dq bC (.inl hk) fun T hT=>hT l i n hp0
def G229 (hk:9<k:=by decide):L5 (under a8 k u):=fun l i own hp0 hp1=>dq bC (.inl hk) fun T hT=>hT l i own hp0 hp1
def M7 (hk:7<k:=by decide):JL (under a8 k u):=fun l i hp0=>dq bC (.inl hk) fun T hT=>hT l i hp0
def M8 (hk:3<k:=by decide):JM (under a8 k u):=fun l i hp0=>dq bC (.inl hk) fun T hT=>hT l i hp0
def G232 (hk:2<k:=by decide):L6 (under a8 k u):=fun l i r hp0 hp1=>dq bC (.inl hk) fun T hT=>hT l i r hp0 hp1
def G233 (hk:5<k:=by decide):L7 (under a8 k u):=fun a b=>dq bC (.inl hk) fun T hT=>hT a b
def G234 (hk:4<k:=by decide):L8 (under a8 k u):=fun a b=>dq bC (.inl hk) fun T hT=>hT a b
def G235 (hk:1<k:=by decide):L9 (under a8 k u):=fun a b=>dq bC (.inl hk) fun T hT=>hT a b
def G236 (hk:3<k:=by decide):Ma (under a8 k u):=fun a b=>dq bC (.inl hk) fun T hT=>hT a b
def G237 (hk:2<k:=by decide):Mb (under a8 k u):=fun a b=>dq bC (.inl hk) fun T hT=>hT a b
def J7 (hk:1<k:=by decide):G8 (under a8 k u):=fun l sep hp0 hp1 hp2=>dq bC (.inl hk) fun T hT=>hT l sep hp0 hp1 hp2
def M9 (hk:1<k:=by decide):Mc (under a8 k u):=fun s n hp0 hp1=>dq bC (.inl hk) fun T hT=>hT s n hp0 hp1
def Na (hk:2<k:=by decide):Md (under a8 k u):=fun l x=>dq bC (.inl hk) fun T hT=>hT l x
def G249 (hk:1<k:=by decide):Me (under a8 k u):=fun l x hp0=>dq bC (.inl hk) fun T hT=>hT l x hp0
def G254 (hk:1<k:=by decide):Mf (under a8 k u):=fun s p hp0 hp1=>dq bC (.inl hk) fun T hT=>hT s p hp0 hp1
def G336 (hk:1<k:=by decide):Mg (under a8 k u):=fun n hp0=>dq bC (.inl hk) fun T hT=>hT n hp0
def CH (hk:1<k:=by decide):Al (under a8 k u):=fun s=>dq bC (.inl hk) fun T hT=>hT s
def G440 (hk:1<k:=by decide):Mh (under a8 k u):=fun n=>dq bC (.inl hk) fun T hT=>hT n
def G441 (hk:3<k:=by decide):Mi (under a8 k u):=fun s hp0=>dq bC (.inl hk) fun T hT=>hT s hp0
def Nb (hk:2<k:=by decide):JN (under a8 k u):=fun s hp0=>dq bC (.inl hk) fun T hT=>hT s hp0
def G443 (hk:12<k:=by decide):Mj (under a8 k u):=fun r w al hp0=>dq bC (.inl hk) fun T hT=>hT r w al hp0
def G444 (hk:10<k:=by decide):Mk (under a8 k u):=fun s hp0=>dq bC (.inl hk) fun T hT=>hT s hp0
def G445 (hk:5<k:=by decide):Ml (under a8 k u):=fun s=>dq bC (.inl hk) fun T hT=>hT s
def G446 (hk:5<k:=by decide):Mm (under a8 k u):=fun m=>dq bC (.inl hk) fun T hT=>hT m
def G447 (hk:1<k:=by decide):Mn (under a8 k u):=fun l=>dq bC (.inl hk) fun T hT=>hT l
def Nc (hk:2<k:=by decide):JO (under a8 k u):=fun s hp0=>dq bC (.inl hk) fun T hT=>hT s hp0
def G449 (hk:2<k:=by decide):Mo (under a8 k u):=fun l nm=>dq bC (.inl hk) fun T hT=>hT l nm
def G450 (hk:2<k:=by decide):JP (under a8 k u):=fun ws t l lw nx m K h1 h2 h3 h4 h5 hK=>A8 (.inl hk) fun T _ h=>h ws t l lw nx m K h1 h2 h3 h4 h5 hK
def Nf (hk:5<k:=by decide):JQ (under a8 k u):=fun v hp0=>dq bC (.inl hk) fun T hT=>hT v hp0
def G452 (hk:1<k:=by decide):JR (under a8 k u):=fun ds st K h1=>A8 (.inl hk) fun T _ h=>h ds st K h1
def G454 (hk:1<k:=by decide):Mp (under a8 k u):=fun c=>dq bC (.inl hk) fun T hT=>hT c
def G455 (hk:1<k:=by decide):Mq (under a8 k u):=fun n=>dq bC (.inl hk) fun T hT=>hT n
def G456 (hk:3<k:=by decide):Mr (under a8 k u):=fun s p hp0=>dq bC (.inl hk) fun T hT=>hT s p hp0
def Ng (hk:3<k:=by decide):G9 (under a8 k u):=fun r w n op hp0 hp1 hp2=>okf MX hk fun T h=>h r w n op hp0 hp1 hp2
def Nt (hk:3<k:=by decide):BA (under a8 k u):=fun r w n op l nx m K h1 h2 h3 h4 hK=>A8 (.inl hk) fun T _ h=>h r w n op l nx m K h1 h2 h3 h4 hK
def G466 (hk:6<k:=by decide):Ms (under a8 k u):=fun s hp0=>dq bC (.inl hk) fun T hT=>hT s hp0
def G467 (hk:5<k:=by decide):JS (under a8 k u):=fun r hp0=>okf MY hk fun T h=>h r hp0
def Nh (hk:4<k:=by decide):Ha (under a8 k u):=fun r hp0=>okf MZ hk fun T h=>h r hp0
def G469 (hk:1<k:=by decide):Mt (under a8 k u):=fun l hp0=>dq bC (.inl hk) fun T hT=>hT l hp0
def G470 (hk:1<k:=by decide):Mu (under a8 k u):=fun s b hp0=>dq bC (.inl hk) fun T hT=>hT s b hp0
def Hh (hk:1<k:=by decide):Ep (under a8 k u):=fun v n hp0=>dq bC (.inl hk) fun T hT=>hT v n hp0
def J8 (hk:1<k:=by decide):Hb (under a8 k u):=fun l i=>dq bC (.inl hk) fun T hT=>hT l i
def G480 (hk:8<k:=by decide):Mv (under a8 k u):=fun l i own alone hp0 hp1=>dq bC (.inl hk) fun T hT=>hT l i own alone hp0 hp1
def Ni (hk:2<k:=by decide):JT (under a8 k u):=fun n=>dq bC (.inl hk) fun T hT=>hT n
def G482 (hk:6<k:=by decide):Mw (under a8 k u):=fun c hp0=>dq bC (.inl hk) fun T hT=>hT c hp0
def G483 (hk:1<k:=by decide):Mx (under a8 k u):=fun l s hp0=>dq bC (.inl hk) fun T hT=>hT l s hp0
def G484 (hk:3<k:=by decide):My (under a8 k u):=fun a b=>dq bC (.inl hk) fun T hT=>hT a b
def G485 (hk:2<k:=by decide):Mz (under a8 k u):=fun a b=>dq bC (.inl hk) fun T hT=>hT a b
def Nj (hk:1<k:=by decide):JU (under a8 k u):=fun a b=>dq bC (.inl hk) fun T hT=>hT a b
def G487 (hk:1<k:=by decide):MA (under a8 k u):=fun s b hp0=>dq bC (.inl hk) fun T hT=>hT s b hp0
def G489 (hk:1<k:=by decide):JV (under a8 k u):=fun ds st K h1=>A8 (.inl hk) fun T _ h=>h ds st K h1
def G494 (hk:1<k:=by decide):MB (under a8 k u):=fun l x=>dq bC (.inl hk) fun T hT=>hT l x
def G495 (hk:9<k:=by decide):MC (under a8 k u):=fun s hp0=>dq bC (.inl hk) fun T hT=>hT s hp0
def G496 (hk:8<k:=by decide):MD (under a8 k u):=fun r hp0=>dq bC (.inl hk) fun T hT=>hT r hp0
def Hi (hk:1<k:=by decide):Er (under a8 k u):=fun s b hp0=>dq bC (.inl hk) fun T hT=>hT s b hp0
def J9 (hk:1<k:=by decide):Hc (under a8 k u):=fun s=>dq bC (.inl hk) fun T hT=>hT s
def G659 (hk:1<k:=by decide):ME (under a8 k u):=fun t=>dq bC (.inl hk) fun T hT=>hT t
def G660 (hk:4<k:=by decide):JW (under a8 k u):=fun w nd hp0 nx lp ln m K h1 h2 h3 h4 hK=>A8 (.inl hk) fun T _ h=>h w nd hp0 nx lp ln m K h1 h2 h3 h4 hK
def Nk (hv:v≤u):I5 (under a8 4 u) v:=fun w nd hp0 hu nx lp ln m K h1 h2 h3 h4 hK=>A8 (.inr ⟨rfl,by rw[show(lk a8 660 jT).muE=Fz fun _=>4 from rfl,jO h1];exact Nat.lt_of_lt_of_le hu hv⟩) fun T _ h=>h w nd hp0 nx lp ln m K h1 h2 h3 h4 hK
def Nl (hk:4<k:=by decide):JX (under a8 k u):=fun m=>dq bC (.inl hk) fun T hT=>hT m
def Nn (hk:3<k:=by decide):JY (under a8 k u):=fun l hp0=>dq bC (.inl hk) fun T hT=>hT l hp0
def G663 (hk:1<k:=by decide):MF (under a8 k u):=fun l nm=>dq bC (.inl hk) fun T hT=>hT l nm
def G664 (hk:1<k:=by decide):JZ (under a8 k u):=fun ds st K h1=>A8 (.inl hk) fun T _ h=>h ds st K h1
def Np (hk:2<k:=by decide):J0 (under a8 k u):=fun n hp0=>dq bC (.inl hk) fun T hT=>hT n hp0
def G666 (hk:1<k:=by decide):MG (under a8 k u):=fun t=>dq bC (.inl hk) fun T hT=>hT t
def G667 (hk:2<k:=by decide):MH (under a8 k u):=fun s=>dq bC (.inl hk) fun T hT=>hT s
def G668 (hk:1<k:=by decide):MI (under a8 k u):=fun t=>dq bC (.inl hk) fun T hT=>hT t
def G675 (hk:1<k:=by decide):MJ (under a8 k u):=fun s b=>dq bC (.inl hk) fun T hT=>hT s b
def G676 (hk:5<k:=by decide):MK (under a8 k u):=fun c hp0=>dq bC (.inl hk) fun T hT=>hT c hp0
def G677 (hk:3<k:=by decide):J1 (under a8 k u):=fun c hp0 nx m K hK=>A8 (.inl hk) fun T _ h=>h c hp0 nx m K hK
def G678 (hk:1<k:=by decide):ML (under a8 k u):=fun op=>dq bC (.inl hk) fun T hT=>hT op
def G682 (hk:8<k:=by decide):MM (under a8 k u):=fun s hp0=>dq bC (.inl hk) fun T hT=>hT s hp0
def G683 (hk:1<k:=by decide):MN (under a8 k u):=fun s b hp0 hp1=>dq bC (.inl hk) fun T hT=>hT s b hp0 hp1
def Ka (hk:7<k:=by decide):Hd (under a8 k u):=fun r hp0=>dq bC (.inl hk) fun T hT=>hT r hp0
def G685 (hk:8<k:=by decide):MO (under a8 k u):=fun r hp0=>dq bC (.inl hk) fun T hT=>hT r hp0
def G734 (hk:2<k:=by decide):MP (under a8 k u):=fun n hp0=>dq bC (.inl hk) fun T hT=>hT n hp0
def I9 (hv:v≤u):Es (under a8 4 u) v:=⟨fun w nd hp0 hu nx lp ln m K h1 h2 h3 h4 hK=>A8 (.inr ⟨rfl,by rw[show(lk a8 808 jT).muE=Fz Kn from rfl,jO h1];exact Nat.lt_of_lt_of_le hu hv⟩) fun T _ h=>h.1 w nd hp0 nx lp ln m K h1 h2 h3 h4 hK,fun w nd hp0 hu nx lp ln m K h1 h2 h3 h4 hK=>A8 (.inr ⟨rfl,by rw[show(lk a8 808 jT).muE=Fz Kn from rfl,jO h1];exact Nat.lt_of_lt_of_le hu hv⟩) fun T _ h=>h.2 w nd hp0 nx lp ln m K h1 h2 h3 h4 hK⟩
def Nq (hv:v≤u):MQ (under a8 4 u) v:=fun w nd hp0 hu nx lp ln m K h1 h2 h3 h4 hK=>A8 (.inr ⟨rfl,by rw[show(lk a8 809 jT).muE=Fz fun _=>2 from rfl,jO h1];exact Nat.lt_of_lt_of_le hu hv⟩) fun T _ h=>h w nd hp0 nx lp ln m K h1 h2 h3 h4 hK
def G810 (hk:2<k:=by decide):MR (under a8 k u):=fun l=>dq bC (.inl hk) fun T hT=>hT l
def G811 (hk:2<k:=by decide):MS (under a8 k u):=fun l i hp0=>dq bC (.inl hk) fun T hT=>hT l i hp0
def Ja (hv:v≤u):Et (under a8 2 u) v:=fun l i hp0 hu=>dq bC (.inr ⟨rfl,Nat.lt_of_lt_of_le hu hv⟩) fun T hT=>hT l i hp0
def G819 (hk:7<k:=by decide):MT (under a8 k u):=fun s hp0=>dq bC (.inl hk) fun T hT=>hT s hp0
def Kb (hk:5<k:=by decide):He (under a8 k u):=fun c hp0=>dq bC (.inl hk) fun T hT=>hT c hp0
def Nr (hk:6<k:=by decide):J2 (under a8 k u):=fun c hp0=>dq bC (.inl hk) fun T hT=>hT c hp0
def G882 (hk:1<k:=by decide):MU (under a8 k u):=fun n hp0=>dq bC (.inl hk) fun T hT=>hT n hp0
def Kc (hk:1<k:=by decide):J3 (under a8 k u):=fun w es b=>dq bC (.inl hk) fun T hT=>hT w es b
def Hj (hk:2<k:=by decide):CF (under a8 k u):=fun w nd b nx lp ln m K h1 h2 h3 h4 hK=>A8 (.inl hk) fun T _ h=>h w nd b nx lp ln m K h1 h2 h3 h4 hK
def Hk (hk:1<k:=by decide):Eu (under a8 k u):=fun x w nd b hp0 nx lp ln m K h1 h2 h3 h4 hK=>A8 (.inl hk) fun T _ h=>h x w nd b hp0 nx lp ln m K h1 h2 h3 h4 hK
def Jb (hv:v≤u):I7 (under a8 4 u) v:=fun w nd hp0 hu nx lp ln m K h1 h2 h3 h4 hK=>A8 (.inr ⟨rfl,by rw[show(lk a8 949 jT).muE=Fz fun _=>0 from rfl,jO h1];exact Nat.lt_of_lt_of_le hu hv⟩) fun T _ h=>h w nd hp0 nx lp ln m K h1 h2 h3 h4 hK
def Nu (hk:1<k:=by decide):J4 (under a8 k u):=dq bC (.inl hk) fun T hT=>hT
def Nv (hv:v≤u):I8 (under a8 2 u) v:=fun l i b hp0 hu=>dq bC (.inr ⟨rfl,Nat.lt_of_lt_of_le hu hv⟩) fun T hT=>hT l i b hp0
def G956 (hk:1<k:=by decide):MV (under a8 k u):=fun s w=>dq bC (.inl hk) fun T hT=>hT s w
def Nw (hk:1<k:=by decide):J5 (under a8 k u):=fun op=>dq bC (.inl hk) fun T hT=>hT op
def M1 (hk:3<k:=by decide):Em (under a8 k u):=fun k w nd b hp0 nx lp ln m K h1 h2 h3 h4 hK=>A8 (.inl hk) fun T _ h=>h k w nd b hp0 nx lp ln m K h1 h2 h3 h4 hK
end Go.Abs
end
namespace Go.Abs
def sz:List (Nat×Nat):=[(11,13),(12,69),(13,76),(17,79),(18,478),(19,228),(20,70),(21,72),(27,80),(28,124),(29,222),(35,227),(36,229),(37,230),(38,231),(39,232),(40,479),(41,208),(42,209),(43,210),(44,211),(45,212),(46,213),(47,214),(48,215),(51,217),(55,233),(56,234),(57,235),(58,236),(59,237),(61,465),(62,466),(63,467),(64,468),(65,469),(66,470),(77,249),(78,480),(79,481),(80,482),(81,483),(82,440),(83,441),(84,442),(85,443),(86,349),(87,444),(88,445),(89,446),(90,447),(91,448),(92,449),(93,450),(94,451),(95,242),(96,452),(98,454),(99,455),(100,456),(106,484),(107,485),(108,486),(112,245),(113,246),(114,675),(115,533),(116,658),(119,676),(120,677),(121,678),(122,659),(123,495),(124,496),(125,660),(126,661),(127,662),(128,254),(129,487),(130,663),(131,489),(132,664),(133,665),(135,666),(136,667),(137,668),(150,494),(153,734),(154,682),(155,683),(156,684),(157,685),(158,808),(159,809),(160,810),(161,811),(165,336),(179,882),(180,819),(188,827),(189,828),(190,946),(191,947),(192,948),(193,949),(194,950),(195,951),(212,956),(213,957),(217,1031)]
def ET:List Nat:=[219,1091,1354,1894,1896,1616,1320,1618,1898,2062,2066,2282,2068,2252,2194,2064,1904,900,931,937,935,445,978,1328,904,942,944,946,952,448,1000000133]
def bw:(Go.Proofs.Tryz.prog).follows .mixedOrders=true:=by kernel_rfl
abbrev Ow [bW](f n:Nat):Prop:=LD Go.Proofs.Tryz.prog sz ET a8 f n
abbrev Cp (f:Nat)(a:aB):Prop:=Ev Go.Proofs.Tryz.prog sz ET f a
def ck {f:Nat}{a:aB}(h:((Go.Proofs.Tryz.prog).funcs[f]?).map (fun f=>(compile Go.Proofs.Tryz.prog sz ET f,f.name== "runtime.NumGoroutine"))=some (some a,false):=by kernel_rfl):Cp f a:=h
end Go.Abs
section
namespace Go.Proofs
open Go.Shelf
def Tryz.Ht:Go.Shelf.Ren:=⟨fun|166=>131|167=>132|169=>96|240=>164|276=>197|n=>n,fun|70=>131|9=>9|0=>0|72=>133|37=>53|3=>3|5=>5|4=>4|20=>20|75=>172|80=>99|164=>215|127=>177|n=>n,fun|n=>n⟩
def Tryz.BJ:Go.Proofs.Lays.n166 Tryz.prog Tryz.Ht:={
 mixed:=by kernel_rfl
 f166:=Tryz.func131.trans (congrArg some (by kernel_rfl))
 f240:=Tryz.func164.trans (congrArg some (by kernel_rfl))
 f276:=Tryz.func197.trans (congrArg some (by kernel_rfl))
 t0:=Tryz.underlying0
 a0:=Tryz.isAgg0
 z0:=Tryz.sizeOf0
 v0:=Tryz.zeroValue0
 t3:=Tryz.underlying3
 a3:=Tryz.isAgg3
 z3:=Tryz.sizeOf3
 v3:=Tryz.zeroValue3
 t4:=Tryz.underlying4
 a4:=Tryz.isAgg4
 z4:=Tryz.sizeOf4
 v4:=Tryz.zeroValue4
 t9:=Tryz.underlying9
 a9:=Tryz.isAgg9
 z9:=Tryz.sizeOf9
 v9:=Tryz.zeroValue9
 t20:=Tryz.underlying20
 a20:=Tryz.isAgg20
 z20:=Tryz.sizeOf20
 v20:=Tryz.zeroValue20
 t37:=Tryz.underlying53
 a37:=Tryz.isAgg53
 z37:=Tryz.sizeOf53
 v37:=Tryz.zeroValue53
 t70:=Tryz.underlying131
 a70:=Tryz.isAgg131
 z70:=Tryz.sizeOf131
 v70:=Tryz.zeroValue131
 t72:=Tryz.underlying133
 a72:=Tryz.isAgg133
 z72:=Tryz.sizeOf133
 v72:=Tryz.zeroValue133
 t75:=Tryz.underlying172
 a75:=Tryz.isAgg172
 z75:=Tryz.sizeOf172
 v75:=Tryz.zeroValue172
 t164:=Tryz.underlying215
 a164:=Tryz.isAgg215
 z164:=Tryz.sizeOf215
 v164:=Tryz.zeroValue215}
def Tryz.BK:Go.Proofs.Lays.n167 Tryz.prog Tryz.Ht:={
 mixed:=by kernel_rfl
 f167:=Tryz.func132.trans (congrArg some (by kernel_rfl))
 f240:=Tryz.func164.trans (congrArg some (by kernel_rfl))
 f276:=Tryz.func197.trans (congrArg some (by kernel_rfl))
 t0:=Tryz.underlying0
 a0:=Tryz.isAgg0
 z0:=Tryz.sizeOf0
 v0:=Tryz.zeroValue0
 t4:=Tryz.underlying4
 a4:=Tryz.isAgg4
 z4:=Tryz.sizeOf4
 v4:=Tryz.zeroValue4
 t5:=Tryz.underlying5
 a5:=Tryz.isAgg5
 z5:=Tryz.sizeOf5
 v5:=Tryz.zeroValue5
 t9:=Tryz.underlying9
 a9:=Tryz.isAgg9
 z9:=Tryz.sizeOf9
 v9:=Tryz.zeroValue9
 t20:=Tryz.underlying20
 a20:=Tryz.isAgg20
 z20:=Tryz.sizeOf20
 v20:=Tryz.zeroValue20
 t37:=Tryz.underlying53
 a37:=Tryz.isAgg53
 z37:=Tryz.sizeOf53
 v37:=Tryz.zeroValue53
 t70:=Tryz.underlying131
 a70:=Tryz.isAgg131
 z70:=Tryz.sizeOf131
 v70:=Tryz.zeroValue131
 t72:=Tryz.underlying133
 a72:=Tryz.isAgg133
 z72:=Tryz.sizeOf133
 v72:=Tryz.zeroValue133
 t75:=Tryz.underlying172
 a75:=Tryz.isAgg172
 z75:=Tryz.sizeOf172
 v75:=Tryz.zeroValue172
 t164:=Tryz.underlying215
 a164:=Tryz.isAgg215
 z164:=Tryz.sizeOf215
 v164:=Tryz.zeroValue215}
def Tryz.BL:Go.Proofs.Lays.n169 Tryz.prog Tryz.Ht:={
 mixed:=by kernel_rfl
 f169:=Tryz.func96.trans (congrArg some (by kernel_rfl))
 t0:=Tryz.underlying0
 a0:=Tryz.isAgg0
 z0:=Tryz.sizeOf0
 v0:=Tryz.zeroValue0
 t3:=Tryz.underlying3
 a3:=Tryz.isAgg3
 z3:=Tryz.sizeOf3
 v3:=Tryz.zeroValue3
 t9:=Tryz.underlying9
 a9:=Tryz.isAgg9
 z9:=Tryz.sizeOf9
 v9:=Tryz.zeroValue9
 t37:=Tryz.underlying53
 a37:=Tryz.isAgg53
 z37:=Tryz.sizeOf53
 v37:=Tryz.zeroValue53
 t70:=Tryz.underlying131
 a70:=Tryz.isAgg131
 z70:=Tryz.sizeOf131
 v70:=Tryz.zeroValue131
 t72:=Tryz.underlying133
 a72:=Tryz.isAgg133
 z72:=Tryz.sizeOf133
 v72:=Tryz.zeroValue133
 t127:=Tryz.underlying177
 a127:=Tryz.isAgg177
 z127:=Tryz.sizeOf177
 v127:=Tryz.zeroValue177}
def Tryz.Km:Builder.Extra Tryz.prog Tryz.Ht:={
 sizeBuilder:=by kernel_rfl
 liesBuilder:=by kernel_rfl
 t5:=Tryz.underlying5
 a5:=Tryz.isAgg5
 z5:=Tryz.sizeOf5
 v5:=Tryz.zeroValue5
 infoByte:=by kernel_rfl
 cellsByte:=by kernel_rfl
 sizeByte:=by kernel_rfl
 neB5:=by decide}
end Go.Proofs
end
