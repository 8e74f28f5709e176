/- A part of the proofs of the statements: G5, RGen2, G6, RGen3, RGen4, RGen5, RGen6, RGen8, RGen9, W2, W3, Y5, RSpec22, X6, Z1, X1, X2, G9, B0, B1, BB. -/
import Derived.KernelRfl
import Derived.Shelf.Strings.Builder2
import Derived.Test.YtpdlhpamcaocgaaGreatDoorProg
import Derived.Test.YtpdlhpamcaocgaaGreatDoorP08
set_option linter.all false
set_option maxRecDepth 4000
section
namespace Go.Abs
open Go
def vk:aB:=⟨3,18,[⟨3,none⟩],[[.sl 2 [.a,.sl 1 [.a]]]],(sq (rg [gb 9 s2,gm (.c (.av))] [(10,0),(3,1)]) (sq (r1 [gm (.c (.av))] 17 0) (sq (r1 [gn (.build [.str [],.str [],.str [],.str []] [(0,1,(cs [100,101,102,97,117,108,116])),(1,1,(cs [120])),(2,1,(cs [121])),(3,1,(cs [122]))]),gb 4 (.c (.agg [.str [],.str [],.str [],.str []])),gt 4 l1 l0] 8 1) (sq (sq (r1 [gm bF] 4 0) (.block 0 (.loop (sq (sq (r1 [gm s4,aV l0 uU] 5 1) (ir s5 0)) (sq (.block 1 (sq (r1 [gm s0,gm s1,gm s4,ar l1 l2,gx 479 [l0,l3] [[.sl 1 [.a]],[.a]],gm l4] 6 5) (sq (sq (r1 [gm s6,gx 478 [l0,kI] je,aF l1 bF] 7 2) (.cond s7 (.exit 1) .skip)) (sq (r1 [gm s4,gn (.iaP 4 1 s8 l0),gd l1,gn (.build [.str [],.av] [(0,1,l2)]),gb 2 (.c (.agg [.str [],.av])),gt 2 l4 l3] 14 4) (sq (sq (r1 [gm bF] 9 0) (.block 2 (.loop (sq (sq (r1 [gm s9,gf 6 lP,gd l1,gl l2,aV l0 l3,gm l4,gmt 5 s9,cG 5 (ph l6 kS),fR l5 l7] 11 8) (ir oS 2)) (sq (.block 3 (sq (r1 [gf 6 lP,gd l0,gm s9,ga 3 l1 l2,gk 3 true l3,gb 3 (.c (.agg [.av,.str [],.str []])),gt 3 l5 l4] 12 5) (sq (sq (r1 [gf 2 lu,gd l0,b8 l1 cse,gm l2,gmt 3 s6,gmt 3 s9,cG 3 (BC kI l5),cG 3 (.cvi .u64 l6),cG 3 (.bin .shr l4 l7),cG 3 (Ev l8 cd),cG 3 (cM l9 cd),fR l3 l10] 13 11) (.cond sQ (rg [gf 1 sk,gd l0,gf 2 lu,gd l2,ar (cs [63]) l3,gx 483 [l1,l4] [[.sl 1 [.a]],[.a]],gf 1 sk,gt 1 l6 l5] []) .skip)) (sq (r1 [gf 0 lu,gd l0,gl l1,aF l2 cd,gm l3,gmt 4 s6,gmt 4 s9,cG 4 (BC AJ l6),cG 4 (.cvi .u64 l7),cG 4 (.bin .shr l5 l8),cG 4 (Ev l9 cd),cG 4 (cM l10 cd),fR l4 jx] 15 12) (.cond wz (rt [gf 1 sk,gd l0,gf 0 lu,gd l2,ga 4 l3 bF,gf 0 l4,gd l5,ar l6 (cs [47]),ar l7 (cs [120]),gx 483 [l1,l8] [[.sl 1 [.a]],[.a]],gf 1 sk,gt 1 l10 l9] []) .skip))))) (r1 [gm s9,ar l0 cd,gm l1] 9 2)))))) (sq (sq (r1 [gm s4,aV l0 kI,gm l1,gmt 2 s6,cG 2 (.bin .shr l3 (iu 7)),cG 2 (Ev l4 cd),cG 2 (cM l5 cd),fR l2 l6,gm l7,gmt 8 s0,gmt 8 s1,gmt 8 s4,cG 8 (BC l10 jx),cG 8 (BC kJ cd),cG 8 (.call 479 [l9,me] [[.sl 1 [.a]],[.a]]),cG 8 (.call 478 [mV,kI] je),cG 8 (dY nV bF),fR l8 pP] 16 17) (.cond Ch (rt [gf 1 sk,gd l0,gm s4,ar l2 cd,gn (.iaP 4 1 s8 l3),gd l4,gx 483 [l1,l5] [[.sl 1 [.a]],[.a]],gf 1 sk,gt 1 l7 l6] []) .skip)) (r1 [gm yf,gk 2 true sk,gn (.bsl 2 (.agg [.str [],.av]) 1 [(0,l1)]),gn (.app 2 l0 l2),gm l3] 17 4))))))) (r1 [gm s4,ar l0 cd,gm l1] 4 2)))))) (sq (r1 [gm yf,gm l0] 3 1) .ret)))))⟩
def w232 {Γ:Ctx}(hm:(Γ.at 0).bq)(h478:Eh Γ)(h479:G5 Γ)(h483:Mo Γ)(l:List Int)(i:Int)(r:Rec)  (hp0:0≤i∧i≤2000000)(hp1:∀j:Nat,j<r.needs.length→r.needs[j]!.option.length≤100∧(r.needs[j]!.any.length=1→r.needs[j]!.any[0]!.name.length≤100)):dX Γ vk (.sl 2 ((fh l i r).map bj.D)) [.sl 1 (l.map (D.int .i64)),.int .i64 i,Rec.D r]:=by
 show bB _ _ _ [⟨_,_⟩,⟨_,_⟩,⟨_,_⟩,_,_,_,_,_,_,_,_,_,_,_,_,_,_,_] _;refine ak ?_;refine bd ?_;refine eX (jq.map D.str) ?_;refine ay ?_;refine aJ (.agg (jq.map D.str)) (he:=by exact rfl) ?_;refine aQ ?_;refine bp hm (ι:=(Nat×List bj)) (fun p=>[⟨true,.sl 1 (l.map (D.int .i64))⟩,⟨true,.int .i64 i⟩,.un,.un,⟨true,.int .i64 (p.1:Nat)⟩,.un,.un,.un,⟨true,.ptr 4 4 0 0⟩,.un,⟨true,.ptr 0 9 0 0⟩,.un,.un,.un,.un,.un,.un,⟨true,.own 1 2 0 p.2.length⟩]) (fun p=>[(0,.buf 9 [Rec.D r]),(4,.buf 4 [.agg (jq.map D.str)]),(1,.buf 2 (p.2.map bj.D))]) 30 (fun p=>p.1≤4∧p.2=EX l i r p.1) (fun p=>4-p.1) (0,[]) ⟨by dsimp only;omega,rfl⟩ (aN.to [(0,0),(4,4)] ae ae (by repeat(first|exact c7.nil|refine c7.un ?_|refine c7.eq ae ?_|refine c7.ni (Or.inr ⟨_,_,_,rfl⟩) ?_)) (by refine aC.de ae ae bY ?_;refine aC.de ae ae bY ?_;refine aC.mt ae ae ae ae ?_;exact aC.nil)) ?_;rintro⟨k,fs⟩ ⟨hk,hf⟩;dsimp only at hk hf⊢;have hfl:fs.length≤k:=by
  rw[hf];unfold EX;exact Nat.le_trans (List.length_filterMap_le _ _) (by simp)
 refine aQ ?_;refine aq (fun hc0=>?_) (fun hc0=>?_)
 ·try simp only[iA]at hc0
  refine bd ?_;refine aj (hc:=h479 l (i+(k:Nat))) ?_;refine aQ ?_;refine aj (hc:=h478 _ 3 (by decide)) ?_;refine ax ?_;refine cH (fun hc1=>?_) fun hc1=>?_
  ·refine bT ?_;exact⟨(k+1,fs),⟨by dsimp only;omega,by dsimp only;rw[hf,Kq hc1]⟩,by dsimp only;omega,(aN.to [(0,0),(4,4),(1,1)] ae ae lO (by refine aC.de ae ae bY ?_;refine aC.de ae ae bY ?_;refine aC.de ae ae bY ?_;exact aC.nil))⟩
  refine az ?_;refine xP k (hb:=fun _=>by omega) ?_;refine cu (v:=.str jq[k]!) (hv:=fun _=>AQ jq (by show _<4;omega) rfl) (ho:=by omega) ?_;refine bx (.agg [.str jq[k]!,.av]) ?_;refine ay ?_;refine aJ (.agg [.str jq[k]!,.av]) (he:=by exact rfl) ?_;refine ay ?_;refine ma [(0,.buf 9 [Rec.D r]),(4,.buf 4 [.agg (jq.map D.str)]),(1,.buf 2 (fs.map bj.D)),(45,.buf 2 [(.agg [.str jq[k]!,.sl 1 ((([]:List ah)).map D.str)])])] (.id ae (.id ae (.id ae (.bf ae (.cons (.ag (.cons (.refl _) (.cons (.nil 1) .nil))) .nil) .nil)))) ?_;refine aA ?_;refine bp hm (ι:=(Nat×List ah)) (fun p=>[⟨true,.sl 1 (l.map (D.int .i64))⟩,⟨true,.int .i64 i⟩,.un,.un,⟨true,.int .i64 (k:Nat)⟩,.un,⟨true,.int .i64 (gh l (i+(k:Nat)))⟩,.un,⟨true,.ptr 4 4 0 0⟩,⟨true,.int .i64 (p.1:Nat)⟩,⟨true,.ptr 0 9 0 0⟩,.un,.un,.un,⟨true,.ptr 2 2 0 0⟩,.un,.un,⟨true,.own 1 2 0 fs.length⟩]) (fun p=>[(0,.buf 9 [Rec.D r]),(4,.buf 4 [.agg (jq.map D.str)]),(1,.buf 2 (fs.map bj.D)),(2,.buf 2 [.agg [.str jq[k]!,.sl 1 (p.2.map D.str)]])]) 60 (fun p=>p.1≤min r.needs.length 2∧p.2=lW r (gh l (i+(k:Nat))) p.1) (fun p=>2-p.1) (0,[]) ⟨by dsimp only;omega,rfl⟩ (aN.to [(0,0),(4,4),(1,1),(45,2)] ae ae lO (by refine aC.de ae ae bY ?_;refine aC.de ae ae bY ?_;refine aC.de ae ae bY ?_;refine aC.nl 45 ae ae rfl ae ?_;exact aC.nil)) ?_;rintro⟨j,of⟩ ⟨hj,ho⟩;dsimp only at hj ho⊢;have hol:of.length≤4:=by
   have:=xr r (gh l (i+(k:Nat))) j;rw[ho];omega
  refine aA ?_;refine cu (v:=.sl 3 (r.needs.map aT.D)) ?_;refine ay ?_;intro u0;refine aP ?_;refine aq (fun hc2=>?_) (fun hc2=>?_)
  ·simp only[Bool.and_eq_true,decide_eq_true_eq]at hc2;obtain⟨hpo,hpn⟩:=hp1 j (by omega);refine aA ?_;refine cu (v:=.sl 3 (r.needs.map aT.D)) ?_;refine ay ?_;refine cJ j (hb:=fun _=>by omega) ?_;refine bV (v:=aT.D r.needs[j]!) (hi:=fun _=>by omega) ?_;refine ay ?_;refine aJ (aT.D r.needs[j]!) (he:=by exact rfl) ?_;refine jZ ?_;refine rM (3+(j:Nat)) (hb:=fun _=>by rw[IntKind.wrap_u64];omega) ?_;refine B9 _ (hb:=fun _=>rfl) ?_;refine xO (Ar (gh l (i+(k:Nat))) (3+(j:Nat))) (hb:=fun _=>rfl) ?_;refine az ?_;refine cH (fun hc3=>?_) fun hc3=>?_
   ·refine ax ?_;refine cu (v:=.sl 1 (of.map D.str)) ?_;refine ay ?_;refine cu (v:=.str r.needs[j]!.option) ?_;refine dc (hb:=fun _=>by simp only[List.length_cons,List.length_nil];omega) ?_;refine aj (hc:=h483 of ([63]++r.needs[j]!.option) (by omega)) ?_;refine ay ?_;refine aJ (.agg [.str jq[k]!,.sl 1 ((dL of ([63]++r.needs[j]!.option)).map D.str)]) (he:=by exact rfl) ?_;refine aQ ?_;intro u1;refine aQ ?_;refine rM (5+(j:Nat)) (hb:=fun _=>by rw[IntKind.wrap_u64];omega) ?_;refine B9 _ (hb:=fun _=>rfl) ?_;refine xO (Ar (gh l (i+(k:Nat))) (5+(j:Nat))) (hb:=fun _=>rfl) ?_;refine az ?_;refine gv (fun hc4=>?_) fun hc4=>?_
    ·refine ay ?_;have hpl:=m4 of ([63]++r.needs[j]!.option);refine ay ?_;refine cu (v:=.sl 1 (((dL of ([63]++r.needs[j]!.option))).map D.str)) ?_;refine ay ?_;refine cu (v:=.sl 4 (r.needs[j]!.any.map aX.D)) ?_;refine cJ 0 (hb:=fun _=>by omega) ?_;refine ay ?_;refine bV (v:=.str r.needs[j]!.any[0]!.name) (hi:=fun _=>by omega) ?_;refine dc (hb:=fun _=>by have:=hpn (by omega);simp only[List.length_cons,List.length_nil];omega) ?_;refine dc (hb:=fun _=>by have:=hpn (by omega);simp only[List.length_append,List.length_cons,List.length_nil];omega) ?_;refine aj (hc:=h483 (dL of ([63]++r.needs[j]!.option)) (r.needs[j]!.any[0]!.name++[47]++[120]) (by omega)) ?_;refine ay ?_;refine aJ (.agg [.str jq[k]!,.sl 1 ((dL (dL of ([63]++r.needs[j]!.option)) (r.needs[j]!.any[0]!.name++[47]++[120])).map D.str)]) (he:=by exact rfl) ?_;refine bT ?_;have hA:EW r (gh l (i+(k:Nat))) of j=dL of ([63]++r.needs[j]!.option):=if_pos hc3;have hB:Jd r (gh l (i+(k:Nat))) (dL of ([63]++r.needs[j]!.option)) j=dL (dL of ([63]++r.needs[j]!.option)) (r.needs[j]!.any[0]!.name++[47]++[120]):=if_pos ⟨by omega,hc4.2⟩;have hJ:lW r (gh l (i+(k:Nat))) (j+1)=(dL (dL of ([63]++r.needs[j]!.option)) (r.needs[j]!.any[0]!.name++[47]++[120])):=by rw[kP,Je,←ho,hA,hB]
     exact⟨(j+1,(dL (dL of ([63]++r.needs[j]!.option)) (r.needs[j]!.any[0]!.name++[47]++[120]))),⟨by dsimp only;omega,hJ.symm⟩,by dsimp only;omega,(aN.to [(0,0),(4,4),(1,1),(2,2)] ae ae lO (by refine aC.de ae ae bY ?_;refine aC.de ae ae bY ?_;refine aC.de ae ae bY ?_;refine aC.de ae ae bY ?_;exact aC.nil))⟩
    refine bT ?_;have hA:EW r (gh l (i+(k:Nat))) of j=dL of ([63]++r.needs[j]!.option):=if_pos hc3;have hB:Jd r (gh l (i+(k:Nat))) (dL of ([63]++r.needs[j]!.option)) j=(dL of ([63]++r.needs[j]!.option)):=if_neg (by rintro⟨h1,h2⟩;rcases hc4 with h|h;omega;exact h h2);have hJ:lW r (gh l (i+(k:Nat))) (j+1)=(dL of ([63]++r.needs[j]!.option)):=by rw[kP,Je,←ho,hA,hB]
    exact⟨(j+1,(dL of ([63]++r.needs[j]!.option))),⟨by dsimp only;omega,hJ.symm⟩,by dsimp only;omega,(aN.to [(0,0),(4,4),(1,1),(2,2)] ae ae lO (by refine aC.de ae ae bY ?_;refine aC.de ae ae bY ?_;refine aC.de ae ae bY ?_;refine aC.de ae ae bY ?_;exact aC.nil))⟩
   refine aQ ?_;intro u1;refine aQ ?_;refine rM (5+(j:Nat)) (hb:=fun _=>by rw[IntKind.wrap_u64];omega) ?_;refine B9 _ (hb:=fun _=>rfl) ?_;refine xO (Ar (gh l (i+(k:Nat))) (5+(j:Nat))) (hb:=fun _=>rfl) ?_;refine az ?_;refine gv (fun hc4=>?_) fun hc4=>?_
   ·refine ay ?_;have hpl:=m4 of ([63]++r.needs[j]!.option);refine ay ?_;refine cu (v:=.sl 1 ((of).map D.str)) ?_;refine ay ?_;refine cu (v:=.sl 4 (r.needs[j]!.any.map aX.D)) ?_;refine cJ 0 (hb:=fun _=>by omega) ?_;refine ay ?_;refine bV (v:=.str r.needs[j]!.any[0]!.name) (hi:=fun _=>by omega) ?_;refine dc (hb:=fun _=>by have:=hpn (by omega);simp only[List.length_cons,List.length_nil];omega) ?_;refine dc (hb:=fun _=>by have:=hpn (by omega);simp only[List.length_append,List.length_cons,List.length_nil];omega) ?_;refine aj (hc:=h483 of (r.needs[j]!.any[0]!.name++[47]++[120]) (by omega)) ?_;refine ay ?_;refine aJ (.agg [.str jq[k]!,.sl 1 ((dL of (r.needs[j]!.any[0]!.name++[47]++[120])).map D.str)]) (he:=by exact rfl) ?_;refine bT ?_;have hA:EW r (gh l (i+(k:Nat))) of j=of:=if_neg (by rintro⟨h1,h2⟩;rcases hc3 with h|h;exact h1 h;exact h h2);have hB:Jd r (gh l (i+(k:Nat))) of j=dL of (r.needs[j]!.any[0]!.name++[47]++[120]):=if_pos ⟨by omega,hc4.2⟩;have hJ:lW r (gh l (i+(k:Nat))) (j+1)=(dL of (r.needs[j]!.any[0]!.name++[47]++[120])):=by rw[kP,Je,←ho,hA,hB]
    exact⟨(j+1,(dL of (r.needs[j]!.any[0]!.name++[47]++[120]))),⟨by dsimp only;omega,hJ.symm⟩,by dsimp only;omega,(aN.to [(0,0),(4,4),(1,1),(2,2)] ae ae lO (by refine aC.de ae ae bY ?_;refine aC.de ae ae bY ?_;refine aC.de ae ae bY ?_;refine aC.de ae ae bY ?_;exact aC.nil))⟩
   refine bT ?_;have hA:EW r (gh l (i+(k:Nat))) of j=of:=if_neg (by rintro⟨h1,h2⟩;rcases hc3 with h|h;exact h1 h;exact h h2);have hB:Jd r (gh l (i+(k:Nat))) of j=of:=if_neg (by rintro⟨h1,h2⟩;rcases hc4 with h|h;omega;exact h h2);have hJ:lW r (gh l (i+(k:Nat))) (j+1)=of:=by rw[kP,Je,←ho,hA,hB]
   exact⟨(j+1,of),⟨by dsimp only;omega,hJ.symm⟩,by dsimp only;omega,(aN.to [(0,0),(4,4),(1,1),(2,2)] ae ae lO (by refine aC.de ae ae bY ?_;refine aC.de ae ae bY ?_;refine aC.de ae ae bY ?_;refine aC.de ae ae bY ?_;exact aC.nil))⟩
  simp only[Bool.and_eq_false_iff,decide_eq_false_iff_not]at hc2;obtain rfl:j=min r.needs.length 2:=by omega
  subst ho;refine bT ?_;refine B9 _ (hb:=fun _=>rfl) ?_;refine xO (Ar (gh l (i+(k:Nat))) 7) (hb:=fun _=>rfl) ?_;refine bT ?_;refine eB (hc:=fun hf=>h479 l (i+(k:Nat)+1)) ?_;refine eB (hc:=fun hf=>h478 _ 3 (by decide)) ?_;refine az ?_;refine cH (fun hc5=>?_) fun hc5=>?_
  ·refine ax ?_;refine cu (v:=.sl 1 ((lW r (gh l (i+(k:Nat))) (min r.needs.length 2)).map D.str)) ?_;refine ax ?_;refine xP (k+1) (hb:=fun _=>by omega) ?_;refine cu (v:=.str jq[k+1]!) (hv:=fun _=>AQ jq (by show _<4;omega) rfl) (ho:=by omega) ?_;refine aj (hc:=h483 (lW r (gh l (i+(k:Nat))) (min r.needs.length 2)) jq[k+1]! (by omega)) ?_;refine ay ?_;refine aJ (.agg [.str jq[k]!,.sl 1 ((dL (lW r (gh l (i+(k:Nat))) (min r.needs.length 2)) jq[k+1]!).map D.str)]) (he:=by exact rfl) ?_;refine az ?_;refine cD (d:=bj.D ⟨jq[k]!,dL (lW r (gh l (i+(k:Nat))) (min r.needs.length 2)) jq[k+1]!⟩) ?_;refine cy [bj.D ⟨jq[k]!,dL (lW r (gh l (i+(k:Nat))) (min r.needs.length 2)) jq[k+1]!⟩] ?_;refine iY (q:=bj.D) (xs:=fs) (e:=⟨jq[k]!,dL (lW r (gh l (i+(k:Nat))) (min r.needs.length 2)) jq[k+1]!⟩) ?_;refine dz ?_;have hC:HD l i (gh l (i+(k:Nat))) k (lW r (gh l (i+(k:Nat))) (min r.needs.length 2))=dL (lW r (gh l (i+(k:Nat))) (min r.needs.length 2)) jq[k+1]! :=if_pos ⟨⟨by omega,hc5.1.2⟩,by rw[show i+(k:Nat)+1=i+(k:Int)+1 by omega];exact hc5.2⟩;exact⟨(k+1,fs++[⟨jq[k]!,dL (lW r (gh l (i+(k:Nat))) (min r.needs.length 2)) jq[k+1]!⟩]),⟨by dsimp only;omega,by dsimp only;rw[hf];exact(BM hc1 hC).symm⟩,by dsimp only;omega,(aN.to [(0,0),(4,4),(99,1)] ae ae (by repeat(first|exact c7.nil|refine c7.un ?_|refine c7.eq ae ?_|refine c7.ni (Or.inr ⟨_,_,_,rfl⟩) ?_)) (by refine aC.de ae ae bY ?_;refine aC.de ae ae bY ?_;refine aC.nl 99 ae ae rfl (bt (fun _=>rfl) _) ?_;exact aC.nil))⟩
  refine az ?_;refine cD (d:=bj.D ⟨jq[k]!,(lW r (gh l (i+(k:Nat))) (min r.needs.length 2))⟩) ?_;refine cy [bj.D ⟨jq[k]!,(lW r (gh l (i+(k:Nat))) (min r.needs.length 2))⟩] ?_;refine iY (q:=bj.D) (xs:=fs) (e:=⟨jq[k]!,(lW r (gh l (i+(k:Nat))) (min r.needs.length 2))⟩) ?_;refine dz ?_;have hC:HD l i (gh l (i+(k:Nat))) k (lW r (gh l (i+(k:Nat))) (min r.needs.length 2))=(lW r (gh l (i+(k:Nat))) (min r.needs.length 2)):=if_neg (by rintro⟨⟨h1,h2⟩,h3⟩;rcases hc5 with(h|h)|h;omega;exact h h2;exact h3 h);exact⟨(k+1,fs++[⟨jq[k]!,(lW r (gh l (i+(k:Nat))) (min r.needs.length 2))⟩]),⟨by dsimp only;omega,by dsimp only;rw[hf];exact(BM hc1 hC).symm⟩,by dsimp only;omega,(aN.to [(0,0),(4,4),(90,1)] ae ae (by repeat(first|exact c7.nil|refine c7.un ?_|refine c7.eq ae ?_|refine c7.ni (Or.inr ⟨_,_,_,rfl⟩) ?_)) (by refine aC.de ae ae bY ?_;refine aC.de ae ae bY ?_;refine aC.nl 90 ae ae rfl (bt (fun _=>rfl) _) ?_;exact aC.nil))⟩
 simp only[decide_eq_false_iff_not]at hc0;obtain rfl:k=4:=by omega
 refine aP ?_;refine eu 1 ?_;refine ay ?_;refine cl (?_);rw[hf];rfl
def L1 (Γ:Ctx):Prop:=∀(l:List Int)(i:Int)(r:Rec),(0≤i∧i≤2000000)→(∀j:Nat,j<r.needs.length→r.needs[j]!.option.length≤100∧(r.needs[j]!.any.length=1→r.needs[j]!.any[0]!.name.length≤100))→Γ.pre 232 [.sl 1 (l.map (D.int .i64)),.int .i64 i,Rec.D r]∧Γ.val 232 [.sl 1 (l.map (D.int .i64)),.int .i64 i,Rec.D r]=.sl 2 ((fh l i r).map bj.D)
end Go.Abs
end
namespace Go.Abs
def Gn:ah:=[114,99,46,49]
def oG (l:List Int)(i:Int):ah:=if cP l (i+2) 9=1 then Gn else []
def qD (l:List Int)(i:Int):ah:=if cP l (i+2) 9=2 then [55]else []
def C6 (l:List Int)(i:Int):df:=⟨cP l i 3,cP l (i+1) 2,0,oG l i,qD l i⟩
def gK (l:List Int)(i:Int):Nat:=(cP l (i+3) 4%3).toNat
def Nu (l:List Int)(i:Int):(cP l (i+3) 4).tmod 3=(gK l i:Int):=by
 have h:=cr l (i+3) 4 (by decide);rw[Int.tmod_eq_emod_of_nonneg h.1];unfold gK;omega
def Jf (l:List Int)(i:Int):gK l i≤2:=by unfold gK;omega
def yO (l:List Int)(i own:Int)(n:Nat):List aT:=(List.range n).map fun(q:Nat)=>dQ l (i+4+20*((gK l i-q:Nat):Int) -20) own
def E1 {l:List Int}{i own:Int}{k:Nat}(hk:k≤gK l i)(h0:0<k):yO l i own (gK l i-(k-1))=yO l i own (gK l i-k)++[dQ l (i+4+20*(k:Int) -20) own]:=by
 rw[show gK l i-(k-1)=(gK l i-k)+1 by omega];unfold yO;rw[List.range_succ,List.map_append,List.map_singleton,show gK l i-(gK l i-k)=k by omega]
def mP (l:List Int)(i own:Int):List aT:=yO l i own (gK l i)
def tG (l:List Int)(i own:Int):fE:=⟨cI (own+1+cP l (i+46) 4),mN l (i+47),gP l (i+50)⟩
def mM (l:List Int)(i own:Int):List fE:=if cP l (i+45) 5=1 then [tG l i own]else []
def kR (l:List Int)(i own:Int):Rec:=⟨cI own,C6 l i,mP l i own,mM l i own,[]⟩
def jK (l:List Int)(i own:Int):Rec:={kR l i own with feats:=fh l (i+52) (kR l i own)}
def CZ {l:List Int}{i own:Int}{k:Nat}{w:aX}(h:w∈oF l i own k):w.name.length≤3:=by
 obtain⟨q,_,rfl⟩:=List.mem_map.1 h;exact jt _
def qE (l:List Int)(i own:Int):(dQ l i own).option.length≤3:=by
 show(if _ then _ else _:ah).length≤3;split
 ·exact qH _
 ·simp
def C4 (l:List Int)(i own:Int):∀j:Nat,j<(kR l i own).needs.length→(kR l i own).needs[j]!.option.length≤100∧((kR l i own).needs[j]!.any.length=1→(kR l i own).needs[j]!.any[0]!.name.length≤100):=by
 intro j hj;have hm:=bL hj;obtain⟨q,_,hq⟩:=List.mem_map.1 hm;rw[←hq];generalize i+4+20*((gK l i-q:Nat):Int) -20=x;refine⟨Nat.le_trans (qE _ _ _) (by decide),fun h=>?_⟩;have h2:=bL (l:=(dQ l x own).any) (i:=0) (by omega);exact Nat.le_trans (CZ (k:=dm l x) h2) (by decide)
end Go.Abs
section
namespace Go.Abs
open Go
def y0:aB:=⟨3,10,[⟨3,some (9,true)⟩],[[.a,.a,.a,.a,.a,.a,.sl 3 [.sl 4 [.a,.a,.sl 1 [.a],.a],.a,.a],.sl 3 [.a,.a,.a],.sl 2 [.a,.sl 1 [.a]]]],(sq (r1 [gb 9 (.c (.agg [.str [],.int .i64 0,.int .i64 0,.int .i64 0,.str [],.str [],.av,.av,.av]))] 3 0) (sq (r1 [gm s2,gx 227 [l0] cv,gm s0,gm s1,gx 228 [l2,l3,kI] [[.sl 1 [.a]],[.a],[.a]],gm s0,gm s1,ar l6 cd,gx 228 [l5,l7,kS] [[.sl 1 [.a]],[.a],[.a]],gn (.build [.int .i64 0,.int .i64 0,.int .i64 0,.str [],.str []] [(0,1,l4),(1,1,l8)]),gn (.build [.str [],.int .i64 0,.int .i64 0,.int .i64 0,.str [],.str [],.av,.av,.av] [(0,1,l1),(1,5,l9)]),gb 9 (.c (.agg [.str [],.int .i64 0,.int .i64 0,.int .i64 0,.str [],.str [],.av,.av,.av])),gt 9 jx l10] 5 11) (sq (sq (r1 [gm s0,gm s1,ar l1 kS,gx 228 [l0,l2,BR] [[.sl 1 [.a]],[.a],[.a]],aF l3 cd] 4 4) (.cond s4 (rg [gf 1 s5,gf 3 l0,gt 1 l1 (cs [114,99,46,49])] []) .skip)) (sq (sq (r1 [gm s0,gm s1,ar l1 kS,gx 228 [l0,l2,BR] [[.sl 1 [.a]],[.a],[.a]],aF l3 kS] 6 4) (.cond s6 (rg [gf 1 s5,gf 4 l0,gt 1 l1 (cs [55])] []) .skip)) (sq (sq (r1 [gm s0,gm s1,ar l1 kI,gx 228 [l0,l2,uU] [[.sl 1 [.a]],[.a],[.a]],gn (.bin .rem l3 kI),gm l4] 7 5) (.block 0 (.loop (sq (sq (r1 [gm s7,dH l0 bF] 8 1) (ir s8 0)) (sq (.block 1 (rt [gf 6 s5,gd l0,gm s0,gm s1,ar l3 uU,gm s7,gn (.bin .mul (i6 20) l5),ar l4 l6,fI l7 (i6 20),gm s2,gx 229 [l2,l8,l9] [[.sl 1 [.a]],[.a],[.a]],gn (.bsl 3 (.agg [.av,.str [],.str []]) 1 [(0,l10)]),gn (.app 3 l1 jx),gf 6 s5,gt 1 me kJ] [])) (r1 [gm s7,fI l0 cd,gm l1] 7 2)))))) (sq (sq (r1 [gm s0,gm s1,ar l1 (i6 45),gx 228 [l0,l2,AJ] [[.sl 1 [.a]],[.a],[.a]],aF l3 cd] 9 4) (.cond s9 (rt [gf 7 s5,gd l0,gm s2,ar l2 cd,gm s0,gm s1,ar l5 (i6 46),gx 228 [l4,l6,uU] [[.sl 1 [.a]],[.a],[.a]],ar l3 l7,gx 227 [l8] cv,gm s0,gm s1,ar jx (i6 47),gx 230 [l10,kJ] [[.sl 1 [.a]],[.a]],gm s0,gm s1,ar nV (i6 50),gx 231 [mV,pP] [[.sl 1 [.a]],[.a]],gn (.build [.str [],.str [],.str []] [(0,1,l9),(1,1,me),(2,1,tP)]),gn (.bsl 3 (.agg [.str [],.str [],.str []]) 1 [(0,uV)]),gn (.app 3 l1 vZ),gf 7 s5,gt 1 Ab yZ] []) .skip)) (sq (rg [gm s0,gm s1,ar l1 (i6 52),gk 9 true s5,gx 232 [l0,l2,l3] [[.sl 1 [.a]],[.a],[.a,.a,.a,.a,.a,.a,.sl 3 [.sl 4 [.a,.a,.sl 1 [.a],.a],.a,.a],.sl 3 [.a,.a,.a],.sl 2 [.a,.sl 1 [.a]]]],gf 8 s5,gt 1 l5 l4] []) (sq (rg [gk 9 true s5,gt 9 s3 l0] []) .ret))))))))⟩
def w79 {Γ:Ctx}(hm:(Γ.at 0).bq)(h227:JG Γ)(h228:Ae Γ)(h229:L0 Γ)(h230:JH Γ)(h231:JI Γ)(h232:L1 Γ)(l:List Int)(i:Int)(own:Int)  (hp0:0≤i∧i≤1000000)(hp1:0≤own∧own≤100000):dX Γ y0 (Rec.D (jK l i own)) [.sl 1 (l.map (D.int .i64)),.int .i64 i,.int .i64 own]:=by
 show bB _ _ _ [⟨_,_⟩,⟨_,_⟩,⟨_,_⟩,_,_,_,_,_,_,_] _;refine ak ?_;refine aA ?_;refine aj (hc:=h227 own) ?_;refine ax ?_;refine aj (hc:=h228 l (i) 3 (by decide)) ?_;refine az ?_;refine aj (hc:=h228 l (i+1) 2 (by decide)) ?_;refine bx (df.D ⟨cP l i 3,cP l (i+1) 2,0,[],[]⟩) ?_;refine bx (.agg [.str (cI own),.int .i64 (cP l i 3),.int .i64 (cP l (i+1) 2),.int .i64 0,.str [],.str [],.av,.av,.av]) ?_;refine ay ?_;refine aJ (.agg [.str (cI own),.int .i64 (cP l i 3),.int .i64 (cP l (i+1) 2),.int .i64 0,.str [],.str [],.av,.av,.av]) (he:=by exact rfl) ?_;refine aP ?_;refine aj (hc:=h228 l (i+2) 9 (by decide)) ?_;refine ax ?_;refine o9 hm (ι:=Unit) (fun _=>[⟨true,.sl 1 (l.map (D.int .i64))⟩,⟨true,.int .i64 i⟩,⟨true,.int .i64 own⟩,⟨true,.ptr 0 9 0 0⟩,.un,⟨true,.ptr 12 9 0 0⟩,.un,.un,.un,.un]) (fun _=>[(0,.buf 9 [cZ]),(12,.buf 9 [(.agg [.str (cI own),.int .i64 (cP l i 3),.int .i64 (cP l (i+1) 2),.int .i64 0,.str (oG l i),.str [],.av,.av,.av])])]) 30 (fun _=>True) ?_ ?_
 ·refine gv (fun hc0=>?_) fun hc0=>?_
  ·refine az ?_;refine aJ (.agg [.str (cI own),.int .i64 (cP l i 3),.int .i64 (cP l (i+1) 2),.int .i64 0,.str Gn,.str [],.av,.av,.av]) (he:=by exact rfl) ?_;refine ax ?_;have hp:oG l i=Gn:=if_pos hc0;rw[hp];exact⟨(),trivial,(aN.to [(0,0),(12,12)] ae ae lO (by repeat(first|exact aC.nil|refine aC.de ae ae bY ?_|refine aC.mj ae ae ae ?_)))⟩
  refine ax ?_;have hp:oG l i=[]:=if_neg hc0;rw[hp];exact⟨(),trivial,(aN.to [(0,0),(12,12)] ae ae lO (by repeat(first|exact aC.nil|refine aC.de ae ae bY ?_|refine aC.mj ae ae ae ?_)))⟩
 ·rintro _-
  refine aQ ?_;refine aj (hc:=h228 l (i+2) 9 (by decide)) ?_;refine ax ?_;refine o9 hm (ι:=Unit) (fun _=>[⟨true,.sl 1 (l.map (D.int .i64))⟩,⟨true,.int .i64 i⟩,⟨true,.int .i64 own⟩,⟨true,.ptr 0 9 0 0⟩,.un,⟨true,.ptr 12 9 0 0⟩,.un,.un,.un,.un]) (fun _=>[(0,.buf 9 [cZ]),(12,.buf 9 [(.agg [.str (cI own),.int .i64 (cP l i 3),.int .i64 (cP l (i+1) 2),.int .i64 0,.str (oG l i),.str (qD l i),.av,.av,.av])])]) 40 (fun _=>True) ?_ ?_
  ·refine gv (fun hc1=>?_) fun hc1=>?_
   ·refine az ?_;refine aJ (.agg [.str (cI own),.int .i64 (cP l i 3),.int .i64 (cP l (i+1) 2),.int .i64 0,.str (oG l i),.str [55],.av,.av,.av]) (he:=by exact rfl) ?_;refine ax ?_;have hp:qD l i=[55]:=if_pos hc1;rw[hp];exact⟨(),trivial,(aN.to [(0,0),(12,12)] ae ae lO (by repeat(first|exact aC.nil|refine aC.de ae ae bY ?_|refine aC.mj ae ae ae ?_)))⟩
   refine ax ?_;have hp:qD l i=[]:=if_neg hc1;rw[hp];exact⟨(),trivial,(aN.to [(0,0),(12,12)] ae ae lO (by repeat(first|exact aC.nil|refine aC.de ae ae bY ?_|refine aC.mj ae ae ae ?_)))⟩
  ·rintro _-
   have hK:=Jf l i;refine aQ ?_;refine aj (hc:=h228 l (i+3) 4 (by decide)) ?_;refine B8 ((gK l i:Nat):Int) (hn:=by intro _;omega) (hb:=fun _=>Nu l i) ?_;refine ax ?_;refine bp hm (ι:=(Nat×List aT)) (fun p=>[⟨true,.sl 1 (l.map (D.int .i64))⟩,⟨true,.int .i64 i⟩,⟨true,.int .i64 own⟩,⟨true,.ptr 0 9 0 0⟩,.un,⟨true,.ptr 12 9 0 0⟩,.un,⟨true,.int .i64 (p.1:Nat)⟩,.un,.un]) (fun p=>[(0,.buf 9 [cZ]),(12,.buf 9 [(.agg [.str (cI own),.int .i64 (cP l i 3),.int .i64 (cP l (i+1) 2),.int .i64 0,.str (oG l i),.str (qD l i),.own 1 3 0 p.2.length,.av,.av])]),(1,.buf 3 (p.2.map aT.D))]) 60 (fun p=>p.1≤gK l i∧p.2=yO l i own (gK l i-p.1)) (fun p=>p.1) (gK l i,[]) ⟨Nat.le_refl _,by dsimp only;rw[Nat.sub_self];rfl⟩ (aN.to [(0,0),(12,12)] ae ae lO (by refine aC.de ae ae bY ?_;refine aC.ni 12 ae ae (by exact⟨_,_,rfl,⟨_,rfl,⟨_,_,rfl,⟨rfl,rfl⟩,⟨_,_,rfl,⟨rfl,rfl⟩,⟨_,_,rfl,⟨rfl,rfl⟩,⟨_,_,rfl,⟨rfl,rfl⟩,⟨_,_,rfl,⟨rfl,rfl⟩,⟨_,_,rfl,⟨rfl,rfl⟩,⟨_,_,rfl,Or.inr ⟨_,_,_,rfl⟩,⟨_,_,rfl,Or.inl rfl,⟨_,_,rfl,Or.inl rfl,rfl⟩⟩⟩⟩⟩⟩⟩⟩⟩⟩,rfl⟩) ?_;refine aC.mt ae ae ae ae ?_;exact aC.nil)) ?_;rintro⟨k,ns⟩ ⟨hk,hn⟩;dsimp only at hk hn⊢;have hnl:ns.length≤3:=by rw[hn];simp[yO];omega
   refine aQ ?_;refine aq (fun hc2=>?_) (fun hc2=>?_)
   ·try simp only[iA]at hc2
    refine dz ?_;refine sP ?_;refine az ?_;refine aj (hc:=h229 l (i+4+20*(k:Int) -20) own (by omega) (by omega)) ?_;refine cy [aT.D (dQ l (i+4+20*(k:Int) -20) own)] ?_;refine iY (q:=aT.D) (xs:=ns) (e:=dQ l (i+4+20*(k:Int) -20) own) ?_;refine ay ?_;refine aJ (.agg [.str (cI own),.int .i64 (cP l i 3),.int .i64 (cP l (i+1) 2),.int .i64 0,.str (oG l i),.str (qD l i),.own 74 3 0 (ns++[dQ l (i+4+20*(k:Int) -20) own]).length,.av,.av]) (he:=by exact rfl) ?_;refine bT ?_;exact⟨(k-1,ns++[dQ l (i+4+20*(k:Int) -20) own]),⟨by dsimp only;omega,by dsimp only;rw[E1 hk (by omega),hn]⟩,by dsimp only;omega,(aN.to [(0,0),(12,12),(74,1)] ae ae (by repeat(first|exact c7.nil|refine c7.un ?_|refine c7.eq ae ?_|refine c7.nl (congrArg (D.int .i64) (show((k-1:Nat):Int)=(k:Int) -1 by omega)) ae ?_)) (by refine aC.de ae ae bY ?_;refine aC.mj ae ae ae ?_;refine aC.nl 74 ae ae rfl (bt (fun _=>rfl) _) ?_;exact aC.nil))⟩
   simp only[decide_eq_false_iff_not]at hc2;obtain rfl:k=0:=by omega
   obtain rfl:ns=mP l i own:=by rw[hn];rfl
   refine az ?_;refine eu 1 ?_;refine aA ?_;refine aj (hc:=h228 l (i+45) 5 (by decide)) ?_;refine ax ?_;refine o9 hm (ι:=Unit) (fun _=>[⟨true,.sl 1 (l.map (D.int .i64))⟩,⟨true,.int .i64 i⟩,⟨true,.int .i64 own⟩,⟨true,.ptr 0 9 0 0⟩,.un,⟨true,.ptr 12 9 0 0⟩,.un,.un,.un,.un]) (fun _=>[(0,.buf 9 [cZ]),(12,.buf 9 [(.agg [.str (cI own),.int .i64 (cP l i 3),.int .i64 (cP l (i+1) 2),.int .i64 0,.str (oG l i),.str (qD l i),(.sl 3 ((mP l i own).map aT.D)),(.own 2 3 0 (mM l i own).length),.av])]),(2,.buf 3 ((mM l i own).map fE.D))]) 100 (fun _=>True) ?_ ?_
   ·refine gv (fun hc3=>?_) fun hc3=>?_
    ·refine ay ?_;have hr46:=cr l (i+46) 4 (by decide);refine ay ?_;refine cu (v:=.av) ?_;refine aQ ?_;refine aj (hc:=h228 l (i+46) 4 (by decide)) ?_;refine ay ?_;refine aj (hc:=h227 (own+1+cP l (i+46) 4)) ?_;refine az ?_;refine aj (hc:=h230 l (i+47) (by omega)) ?_;refine az ?_;refine aj (hc:=h231 l (i+50) (by omega)) ?_;refine bx (fE.D (tG l i own)) ?_;refine cy [fE.D (tG l i own)] ?_;refine KX (n:=1) (ys:=[fE.D (tG l i own)]) (he:=r0.all ae rfl) (hn:=rfl) ?_;refine ay ?_;refine aJ (.agg [.str (cI own),.int .i64 (cP l i 3),.int .i64 (cP l (i+1) 2),.int .i64 0,.str (oG l i),.str (qD l i),(.sl 3 ((mP l i own).map aT.D)),(.own 87 3 0 1),.av]) (he:=by exact rfl) ?_;refine ax ?_;have hb:mM l i own=[tG l i own]:=if_pos hc3;rw[hb];exact⟨(),trivial,(aN.to [(0,0),(12,12),(87,2)] ae ae lO (by refine aC.de ae ae bY ?_;refine aC.mj ae ae ae ?_;refine aC.nl 87 ae ae ae ae ?_;exact aC.nil))⟩
    refine ax ?_;have hb:mM l i own=[]:=if_neg hc3;rw[hb];exact⟨(),trivial,(aN.to [(0,0),(12,12)] ae ae lO (by refine aC.de ae ae bY ?_;refine aC.ni 12 ae ae (by exact⟨_,_,rfl,⟨_,rfl,⟨_,_,rfl,⟨rfl,rfl⟩,⟨_,_,rfl,⟨rfl,rfl⟩,⟨_,_,rfl,⟨rfl,rfl⟩,⟨_,_,rfl,⟨rfl,rfl⟩,⟨_,_,rfl,⟨rfl,rfl⟩,⟨_,_,rfl,⟨rfl,rfl⟩,⟨_,_,rfl,⟨rfl,rfl⟩,⟨_,_,rfl,Or.inr ⟨_,_,_,rfl⟩,⟨_,_,rfl,Or.inl rfl,rfl⟩⟩⟩⟩⟩⟩⟩⟩⟩⟩,rfl⟩) ?_;refine aC.mt ae ae ae ae ?_;exact aC.nil))⟩
   ·rintro _-
    refine eu 2 ?_;refine ma [(0,.buf 9 [cZ]),(12,.buf 9 [Rec.D (kR l i own)])] (.id ae (.bf ae (.cons (.ag (.cons (.refl _) (.cons (.refl _) (.cons (.refl _) (.cons (.refl _) (.cons (.refl _) (.cons (.refl _) (.cons (.refl _) (.cons (.refl _) (.cons (.nil 2) .nil)))))))))) .nil) .nil)) ?_;refine aA ?_;refine cD (d:=Rec.D (kR l i own)) ?_;refine aj (hc:=h232 l (i+52) (kR l i own) (by omega) (C4 l i own)) ?_;refine ay ?_;refine aJ (Rec.D (jK l i own)) (he:=by exact rfl) ?_;refine ax ?_;refine cD (d:=Rec.D (jK l i own)) ?_;refine aJ (Rec.D (jK l i own)) (he:=by exact rfl) ?_;refine ax ?_;refine cl (?_);rfl
def C79 (Γ:Ctx):Prop:=∀(l:List Int)(i:Int)(own:Int),(0≤i∧i≤1000000)→(0≤own∧own≤100000)→Γ.pre 79 [.sl 1 (l.map (D.int .i64)),.int .i64 i,.int .i64 own]∧Γ.val 79 [.sl 1 (l.map (D.int .i64)),.int .i64 i,.int .i64 own]=Rec.D (jK l i own)
end Go.Abs
end
namespace Go.Abs
def y7:∀a b:ah,Op.bytesLess a b=false→a≠b→Op.bytesLess b a=true
 |[],[],_,h=>absurd rfl h
 |[],_::_,h,_=>by simp[Op.bytesLess]at h
 |_::_,[],_,_=>by simp[Op.bytesLess]
 |x::a,y::b,h,hn=>by
  simp only[Op.bytesLess,Bool.or_eq_false_iff,decide_eq_false_iff_not,Bool.and_eq_false_iff,beq_eq_false_iff_ne]at h;simp only[Op.bytesLess,Bool.or_eq_true,decide_eq_true_eq,Bool.and_eq_true,beq_iff_eq];obtain⟨h1,h2⟩:=h;by_cases e:x=y
  ·subst e;refine .inr ⟨rfl,y7 a b (h2.resolve_left fun h=>h rfl) fun e=>hn (by rw[e])⟩
  ·left;have h3:¬x.toNat<y.toNat:=fun h=>h1 (UInt8.lt_iff_toNat_lt.2 h)
   have h4:x.toNat≠y.toNat:=fun h=>e (UInt8.toNat_inj.1 h)
   exact UInt8.lt_iff_toNat_lt.2 (by omega)
def uq {l:List ah}{s t:ah}(h:t∈dL l s):t∈l∨t=s:=by
 unfold dL at h;split at h
 ·exact .inl h
 ·simp only[List.mem_append,List.mem_singleton]at h;rcases h with(h|h)|h
  ·exact .inl (List.mem_of_mem_take h)
  ·exact .inr h
  ·exact .inl (List.mem_of_mem_drop h)
def Bg (l:List ah):rising l=true↔∀i,1≤i→i<l.length→Op.bytesLess l[i-1]! l[i]! =true:=by
 unfold rising;rw[dh]
def m5 {l:List ah}{s:ah}(h:rising l=true):rising (dL l s)=true:=by
 unfold dL;split
 ·exact h
 ·rename_i hn;rw[Bg]at h⊢;have hl:=xM s l;have hlt:=xN s l;have hst:=qV s l;generalize ie s l=k at hn hl hlt hst⊢;have hlen:(l.take k++[s]++l.drop k).length=l.length+1:=by
   simp only[List.length_append,List.length_take,List.length_drop,List.length_cons,List.length_nil];omega
  have g1:∀j,j<k→(l.take k++[s]++l.drop k)[j]! =l[j]! :=fun j hj=>by
   have a:j<(l.take k).length:=by rw[List.length_take];omega
   have b:j<l.length:=by omega
   rw[List.append_assoc,getElem!_pos _ _ (by rw[List.length_append];omega),List.getElem_append_left a,List.getElem_take,getElem!_pos l j b]
  have g2:(l.take k++[s]++l.drop k)[k]! =s:=by
   have a:(l.take k).length=k:=by rw[List.length_take];omega
   rw[List.append_assoc,getElem!_pos _ _ (by simp only[List.length_append,a,List.length_cons];omega),List.getElem_append_right (by omega)];simp[a]
  have g3:∀j,k<j→j<l.length+1→(l.take k++[s]++l.drop k)[j]! =l[j-1]! :=fun j hj hj2=>by
   have a:(l.take k).length=k:=by rw[List.length_take];omega
   have b:(l.take k++[s]).length=k+1:=by rw[List.length_append,a];rfl
   rw[getElem!_pos _ _ (by rw[hlen];omega),List.getElem_append_right (by omega),List.getElem_drop,getElem!_pos l (j-1) (by omega)];congr 1;omega
  intro i h1 h2;rw[hlen]at h2;rcases Nat.lt_trichotomy i k with hik|hik|hik
  ·rw[g1 i hik,g1 (i-1) (by omega)];exact h i h1 (by omega)
  ·subst hik;rw[g2,g1 (i-1) (by omega)];exact hlt _ (by omega)
  ·rw[g3 i hik h2];by_cases he:i=k+1
   ·subst he;rw[show k+1-1=k from rfl,g2];exact y7 _ _ (hst (by omega)) fun e=>hn ⟨by omega,e⟩
   ·rw[g3 (i-1) (by omega) (by omega)];exact h (i-1) (by omega) (by omega)
def A0:∀k,k<5→ea FA[k]! =true∧FA[k]!.length≤3∧cg (FA[k]! ++[47]++[120])=((3:Int),FA[k]!,([120]:ah)):=by decide+kernel
def KL:∀a,a<5→∀b,b<5→a≠b→FA[a]! ≠FA[b]! :=by decide+kernel
def Lu:∀k,k<4→bI IQ[k]! =true∧cg (([63]:ah)++IQ[k]!)=((2:Int),IQ[k]!,([]:ah)):=by decide+kernel
def Km (k a b:Nat):ah:=if A5[k]! =9 then [42]else cV ⟨A5[k]!,3,⟨(a:Nat),(b:Nat),0,[],[]⟩⟩
def ID (s:ah):Prop:=nK s=true∧s.length≤8∧s≠[]∧(∀c∈s,c≠10)
instance (s:ah):Decidable (ID s):=by unfold ID;infer_instance
def zc (s:ah):Prop:=lK s=true∧s.length≤16∧(∀c∈s,c≠10)
instance (s:ah):Decidable (zc s):=by unfold zc;infer_instance
def Hv:∀k,k<6→∀a,a<3→∀b,b<2→ID (Km k a b):=by decide+kernel
def GK:∀k,k<3→∀a,a<2→∀b,b<4→zc (vX[k]! ++CN[a]! ++IQ[b]!):=by decide+kernel
def kQ (n:Int):(n%5).toNat<5∧cI n=FA[(n%5).toNat]! :=by
 have:=jz n 5 (by decide);exact⟨by omega,rfl⟩
def mO (n:Int):ea (cI n)=true∧(cI n).length≤3:=⟨(A0 _ (kQ n).1).1,(A0 _ (kQ n).1).2.1⟩
def yN (own d:Int)(h0:0≤d)(h1:d<4):cI (own+1+d)≠cI own:=by
 have a:=kQ (own+1+d);have b:=kQ own;rw[a.2,b.2];exact KL _ a.1 _ b.1 (by omega)
def yQ (n:Int):(n%4).toNat<4∧gR n=IQ[(n%4).toNat]! :=by
 have:=jz n 4 (by decide);exact⟨by omega,rfl⟩
def mQ (n:Int):bI (gR n)=true∧cg (([63]:ah)++gR n)=((2:Int),gR n,([]:ah)):=Lu _ (yQ n).1
def lG (l:List Int)(i:Int):ID (mN l i):=by
 have a:=cr l i 6 (by decide);have b:=cr l (i+1) 3 (by decide);have c:=cr l (i+2) 2 (by decide);have:=Hv (cP l i 6).toNat (by omega) (cP l (i+1) 3).toNat (by omega) (cP l (i+2) 2).toNat (by omega);have e:Km (cP l i 6).toNat (cP l (i+1) 3).toNat (cP l (i+2) 2).toNat=mN l i:=by
  unfold Km mN r8;simp only[show((cP l (i+1) 3).toNat:Int)=cP l (i+1) 3 by omega,show((cP l (i+2) 2).toNat:Int)=cP l (i+2) 2 by omega]
 rwa [e]at this
def Du:zc []:=by decide+kernel
def jL (l:List Int)(i:Int):zc (gP l i):=by
 unfold gP;split
 ·exact Du
 ·rename_i h;have a:=cr l i 6 (by decide);have b:=cr l (i+1) 2 (by decide);have c:=yQ (1+cP l (i+1) 3);rw[c.2];exact GK _ (by omega) _ (by omega) _ c.1
def rA {f:Nat→Int}{n:Nat}(h:∀j,j<n→f j=0):gw f 0 n=0:=by
 have:∀k i,i+k=n→gw f i n=0:=by
  intro k;induction k with
  |zero=>intro i e;exact qA (by omega)
  |succ k ih=>intro i e;rw[qB (by omega) (h i (by omega))];exact ih (i+1) (by omega)
 exact this n 0 (by omega)
def mJ {f:Nat→Int}{n:Nat}(h:∀j,j<n→f j=0):fg f 0 n=(0,0):=by
 have:∀k i,i+k=n→fg f i n=(0,0):=by
  intro k;induction k with
  |zero=>intro i e;exact nC (by omega)
  |succ k ih=>intro i e;rw[nD (by omega) (h i (by omega))];exact ih (i+1) (by omega)
 exact this n 0 (by omega)
def wS {r:Rec}{nm rg:ah}(h1:ea nm=true)(h2:nm≠r.name)(h3:nK rg=true):iO r nm rg=0:=by
 unfold iO;rw[if_neg (by simp[h1]),if_neg h2,if_neg (by simp[h3])]
def GP:∀n,kj (uS.take n) true=true
 |0=>by decide
 |1=>by decide
 |n+2=>by
  have:uS.take (n+2)=uS:=List.take_of_length_le (by simp[uS]);rw[this];decide
def C7 (l:List Int)(i:Int)(al:Bool):kj (kr l i al) al=true:=by
 unfold kr;split
 ·rename_i h;rw[h.1];exact GP _
 ·cases al<;>decide
def D1 {r:Rec}{own:Int}(hr:r.name=cI own)(l:List Int)(i:Int)(al:Bool):jX r (gQ l i own al) al=0:=by
 have h:=cr l i 4 (by decide);have h1:=wS (r:=r) (mO (own+1+cP l i 4)).1 (by rw[hr];exact yN own _ h.1 h.2) (lG l (i+1)).1;unfold jX;show(if iO r (cI (own+1+cP l i 4)) (mN l (i+1))≠0 then _ else if kj (kr l i al) al=false then _ else _)=_;rw[h1,if_neg (by simp),C7,if_neg (by simp)]
def yM (l:List Int)(i own:Int)(k:Nat):(oF l i own k).length=k:=by simp[oF]
def yL {l:List Int}{i own:Int}{k j:Nat}(h:j<k):(oF l i own k)[j]! =gQ l (i+1+6*(j:Nat)) own (decide ((dm l i:Int)=1)):=by
 unfold oF;rw[getElem!_pos _ _ (by simpa using h)];simp
def vS (l:List Int)(i:Int):1≤dm l i:=by unfold dm;split<;>omega
def xt (l:List Int)(i own:Int):(dQ l i own).option=[]∨∃n,(dQ l i own).option=gR n:=by
 show(if _ then _ else _:ah)=[]∨_;split
 ·rename_i h;exact .inr ⟨gh l (i+17),if_pos h⟩
 ·exact .inl rfl
def Dv {r:Rec}{own:Int}(hr:r.name=cI own)(l:List Int)(i:Int):jg r (dQ l i own)=0:=by
 have hl:(dQ l i own).any.length=dm l i:=yM _ _ _ _;have h1:=vS l i;have h2:=tI l i;unfold jg;rw[if_neg (by rw[hl];omega),if_neg (by rw[hl];omega)];have hw:lS r (dQ l i own).any=0:=by
  unfold lS;refine rA fun j hj=>?_
  rw[hl]at hj⊢;show jX r (oF l i own (dm l i))[j]! _=0;rw[yL hj];exact D1 hr l _ _
 rw[hw,if_neg (by simp),if_neg (by rw[show(dQ l i own).when'=gP l (i+14)from rfl,(jL l (i+14)).1];simp)];rcases xt l i own with h|⟨n,h⟩
 ·rw[if_neg (by rw[h];simp)]
 ·rw[if_neg (by rw[h,(mQ n).1];simp)]
def HE (l:List Int)(i own:Int)(n:Nat):(yO l i own n).length=n:=by simp[yO]
def pK {l:List Int}{i own:Int}{n:Nat}{x:aT}(h:x∈yO l i own n):∃k:Int,x=dQ l k own:=by
 obtain⟨q,_,rfl⟩:=List.mem_map.1 h;exact⟨_,rfl⟩
def AZ {r:Rec}{l:List Int}{i own:Int}(hr:r.name=cI own)(hn:r.needs=mP l i own):jQ r=(0,0):=by
 unfold jQ;refine mJ fun j hj=>?_
 obtain⟨k,hk⟩:=pK (show r.needs[j]! ∈yO l i own (gK l i)by rw[show yO l i own (gK l i)=r.needs from hn.symm];exact bL hj);rw[hk];exact Dv hr l k
def Ew {r:Rec}{own:Int}(hr:r.name=cI own)(l:List Int)(i:Int):td r (tG l i own)=0:=by
 have h:=cr l (i+46) 4 (by decide);have h1:=wS (r:=r) (mO (own+1+cP l (i+46) 4)).1 (by rw[hr];exact yN own _ h.1 h.2) (lG l (i+47)).1;unfold td;show(if iO r (cI (own+1+cP l (i+46) 4)) (mN l (i+47))≠0 then _ else if lK (gP l (i+50))=false then _ else _)=_;rw[h1,if_neg (by simp),(jL l (i+50)).1,if_neg (by simp)]
def vR {l:List Int}{i own:Int}{b:fE}(h:b∈mM l i own):b=tG l i own:=by
 unfold mM at h;split at h
 ·simpa using h
 ·cases h
def Lx (l:List Int)(i:Int)(r:Rec)(t:ah):Prop:=(∃m∈r.needs,m.option≠[]∧t=[63]++m.option)∨(∃m∈r.needs,m.any.length=1∧t=m.any[0]!.name++[47]++[120])∨∃k,k<3∧¬gh l (i+(k:Nat)+1)%3=0∧t=jq[k+1]!
def EY (l:List Int)(i:Int)(r:Rec)(n:Int):∀j,j≤r.needs.length→rising (lW r n j)=true∧∀t∈lW r n j,Lx l i r t
 |0,_=>⟨rfl,fun t ht=>by simp[lW]at ht⟩
 |j+1,hj=>by
  obtain⟨h1,h2⟩:=EY l i r n j (by omega);have hm:r.needs[j]! ∈r.needs:=bL (by omega);have hA:rising (EW r n (lW r n j) j)=true∧∀t∈EW r n (lW r n j) j,Lx l i r t:=by
   unfold EW;split
   ·rename_i h;refine⟨m5 h1,fun t ht=>?_⟩;rcases uq ht with ht|rfl
    ·exact h2 t ht
    ·exact .inl ⟨_,hm,h.1,rfl⟩
   ·exact⟨h1,h2⟩
  obtain⟨h3,h4⟩:=hA;rw[kP,Je];unfold Jd;split
  ·rename_i h;refine⟨m5 h3,fun t ht=>?_⟩;rcases uq ht with ht|rfl
   ·exact h4 t ht
   ·exact .inr (.inl ⟨_,hm,h.1,rfl⟩)
  ·exact⟨h3,h4⟩
def Kn (l:List Int)(i:Int)(r:Rec)(n:Int)(k j:Nat)(hj:j≤r.needs.length):rising (HD l i n k (lW r n j))=true∧(∀t∈HD l i n k (lW r n j),Lx l i r t)∧(HD l i n k (lW r n j)).length≤2*j+1:=by
 obtain⟨h1,h2⟩:=EY l i r n j hj;have h3:=xr r n j;unfold HD;split
 ·rename_i h;refine⟨m5 h1,fun t ht=>?_,Nat.le_trans (m4 _ _) (by omega)⟩;rcases uq ht with ht|rfl
  ·exact h2 t ht
  ·exact .inr (.inr ⟨k,h.1.1,h.2,rfl⟩)
 ·exact⟨h1,h2,by omega⟩
def lF {l:List Int}{i:Int}{r:Rec}{f:bj}(h:f∈fh l i r):∃k,k<4∧f.name=jq[k]! ∧¬gh l (i+(k:Nat))%3=0∧rising f.of=true∧(∀t∈f.of,Lx l i r t)∧f.of.length≤5:=by
 obtain⟨k,hk,he⟩:=List.mem_filterMap.1 h;rw[List.mem_range]at hk;unfold Ko at he;split at he
 ·cases he
 ·rename_i hn;obtain rfl:=Option.some.inj he;obtain⟨a,b,c⟩:=Kn l i r (gh l (i+(k:Nat))) k (min r.needs.length 2) (by omega);exact⟨k,hk,rfl,hn,a,b,by dsimp only;omega⟩
def AF {l:List Int}{i:Int}{r:Rec}{k:Nat}(hk:k<4)(h:¬gh l (i+(k:Nat))%3=0):∃f∈fh l i r,f.name=jq[k]! :=by
 have e:Ko l i r k=some ⟨jq[k]!,HD l i (gh l (i+(k:Nat))) k (lW r (gh l (i+(k:Nat))) (min r.needs.length 2))⟩:=if_neg h;exact⟨_,List.mem_filterMap.2 ⟨k,List.mem_range.2 hk,e⟩,rfl⟩
def CW {fs:List bj}{nm:ah}(h:∃f∈fs,f.name=nm):0≤findF fs nm 0:=by
 unfold findF;rw[List.drop_zero];cases e:fs.findIdx? (fun x=>decide (x.name=nm))with
 |some k=>simp
 |none=>
  rw[List.findIdx?_eq_none_iff]at e;obtain⟨f,hf,hn⟩:=h;have:=e f hf;simp[hn]at this
def ze:∀k,k<4→cg jq[k]! =((1:Int),jq[k]!,([]:ah))∧bI jq[k]! =true:=by decide+kernel
def FB:∀a,a<4→∀b,b<4→a<b→Op.bytesLess jq[a]! jq[b]! =true:=by decide+kernel
def C2 (l:List Int)(i:Int)(r:Rec):(fh l i r).Pairwise fun a b=>Op.bytesLess a.name b.name=true:=by
 unfold fh EX;refine List.Pairwise.filterMap _ (R:=fun a b=>a<b∧b<4) ?_ (by decide);intro a b hab x hx y hy;have e:∀{k:Nat} {z:bj},Ko l i r k=some z→z.name=jq[k]! :=fun {k z} h=>by
  unfold Ko at h;split at h
  ·cases h
  ·rw[←Option.some.inj h]
 rw[e hx,e hy];exact FB a (by omega) b hab.2 hab.1
def tH (l:List Int)(i:Int)(r:Rec):(fh l i r).length≤4:=by
 unfold fh EX;exact Nat.le_trans (List.length_filterMap_le _ _) (by simp)
def NdG (r:Rec):Prop:=∀m∈r.needs,(m.option=[]∨∃n,m.option=gR n)∧(m.any.length=1→∃n,m.any[0]!.name=cI n)
def yV {l:List Int}{i:Int}{r r2:Rec}{t:ah}(h:Lx l i r t)(hr:NdG r)(hn:r2.needs=r.needs)(hf:r2.feats=fh l i r):iS r2.feats t=true∧jf r2 t=0∧t.length≤7:=by
 rcases h with⟨m,hm,h1,rfl⟩|⟨m,hm,h1,rfl⟩|⟨k,hk,h1,rfl⟩
 ·obtain⟨n,e⟩:=(hr m hm).1.resolve_left h1;have hx:=(mQ n).2;have hl:=qH n;rw[e];refine⟨by unfold iS;rw[hx];rfl, ?_,by simp only[List.length_append,List.length_cons,List.length_nil];omega⟩;unfold jf;rw[hx];have:Ii r2.needs (gR n)=true:=by
   unfold Ii;rw[List.any_eq_true];exact⟨m,by rw[hn];exact hm,by simp[e]⟩
  simp[this]
 ·obtain⟨n,e⟩:=(hr m hm).2 h1;have hx:=(A0 _ (kQ n).1).2.2;have hl:=jt n;rw[←(kQ n).2]at hx;rw[e];generalize cI n=w at e hx hl;refine⟨by unfold iS;rw[hx];rfl, ?_,by simp only[List.length_append,List.length_cons,List.length_nil];omega⟩;have:B4 r2.needs w=true:=by
   unfold B4;rw[List.any_eq_true];exact⟨m,by rw[hn];exact hm,by rw[e,h1];simp⟩
  unfold jf;rw[hx,if_neg (by simp),if_neg (by rw[this];simp)]
 ·have hx:=(ze (k+1) (by omega)).1;have hl:∀k,k<4→jq[k]!.length≤7:=by decide
  refine⟨?_,by unfold jf;rw[hx];simp,hl _ (by omega)⟩;have:LD r2.feats jq[k+1]! =true:=by
   unfold LD;rw[hf,Bool.or_eq_true];right;rw[decide_eq_true_eq];exact CW (AF (k:=k+1) (by omega) (by rw[show i+((k+1:Nat):Int)=i+(k:Nat)+1 by omega];exact h1))
  unfold iS;rw[hx];dsimp only;rw[this];rfl
def KW {α:Type} [Inhabited α]{R:α→α→Prop}{l:List α}(h:l.Pairwise R){i:Nat}(h0:0<i)(hi:i<l.length):R l[i-1]! l[i]! :=by
 rw[getElem!_pos l _ (by omega),getElem!_pos l _ hi];exact List.pairwise_iff_getElem.1 h _ _ (by omega) hi (by omega)
def CU {l:List Int}{i:Int}{r r2:Rec}(hr:NdG r)(hn:r2.needs=r.needs)(hf:r2.feats=fh l i r):fG r2.feats=true∧qz r2=(0,0):=by
 have hit:∀f∈r2.feats,∀t∈f.of,iS r2.feats t=true∧jf r2 t=0∧t.length≤7:=fun f hf' t ht=>by
  obtain⟨k,_,_,_,_,h,_⟩:=lF (show f∈fh l i r by rw[←hf];exact hf');exact yV (h t ht) hr hn hf
 constructor
 ·have hlen:=tH l i r;unfold fG;rw[Bool.and_eq_true,decide_eq_true_eq,dh];refine⟨by rw[hf];omega,fun j _ hj=>?_⟩;have hm:r2.feats[j]! ∈r2.feats:=bL hj;obtain⟨k,hk,e1,e2,e3,e4,e5⟩:=lF (show r2.feats[j]! ∈fh l i r by rw[←hf];exact hm);unfold kp;rw[e1,(ze k hk).2,Bool.true_and,Bool.and_eq_true];constructor
  ·by_cases h0:0<j
   ·have:=KW (C2 l i r) h0 (by rw[←hf];exact hj);rw[←hf,e1]at this;rw[this];simp
   ·simp[h0]
  ·unfold tN;rw[Bool.and_eq_true,Bool.and_eq_true,decide_eq_true_eq,dh];exact⟨⟨by omega,e3⟩,fun q _ hq=>(hit _ hm _ (bL hq)).1⟩
 ·unfold qz;refine mJ fun j hj=>?_
  unfold oH;exact rA fun q hq=>(hit _ (bL hj) _ (bL hq)).2.1
def kO {α:Type}{f:α→ah}{B:Nat}:∀{l:List α},(∀x∈l,(f x).length≤B)→((l.map f).flatten).length≤l.length*B
 |[],_=>by simp
 |a::r,h=>by
  have h1:=h a (.head _);have h2:=kO (l:=r) fun x hx=>h x (.tail _ hx)
  simp only[List.map_cons,List.flatten_cons,List.length_append,List.length_cons,Nat.succ_mul];omega
def jy {l:List ah}{B n:Nat}(h:∀t∈l,t.length≤B)(hn:l.length≤n):(bw l).length≤n*(B+1)+1:=by
 have h1:=ju 32 B l h;have h2:=Nat.mul_le_mul_right (B+1) hn;simp only[bw,List.length_append,List.length_cons,List.length_nil];omega
def Cq (w:aX):Prop:=w.name.length≤3∧w.range.length≤8∧(w.feats=[]∨w.feats=uS.take 1∨w.feats=uS)
def D8 (n:Nat):uS.take n=[]∨uS.take n=uS.take 1∨uS.take n=uS:=by
 match n with
 |0=>exact .inl rfl
 |1=>exact .inr (.inl rfl)
 |n+2=>exact .inr (.inr (List.take_of_length_le (by simp[uS])))
def qG (l:List Int)(i own:Int)(al:Bool):Cq (gQ l i own al):=by
 refine⟨jt _,(lG l (i+1)).2.1, ?_⟩;show kr l i al=[]∨kr l i al=uS.take 1∨kr l i al=uS;unfold kr;split
 ·exact D8 _
 ·exact .inl rfl
def D2 {w:aX}(h:Cq w):(bw (fY w)).length≤46:=by
 refine jy (B:=8) (n:=5) (fun t ht=>?_) (by simp[fY]);simp only[fY,List.mem_cons,List.not_mem_nil,or_false]at ht;rcases ht with rfl|rfl|rfl|rfl|rfl
 ·decide
 ·have:=h.1;omega
 ·rcases h.2.2 with e|e|e<;>rw[e]<;>decide
 ·split<;>decide
 ·exact h.2.1
def wP {s:ah}(h:s.length≤16):(fX s).length≤35:=by
 unfold fX;split
 ·simp
 ·exact jy (B:=16) (n:=2) (fun t ht=>by
   simp only[List.mem_cons,List.not_mem_nil,or_false]at ht;rcases ht with rfl|rfl
   ·decide
   ·exact h) (by simp)
def FP {s:ah}(h:s.length≤6):(sg s).length≤15:=by
 unfold sg;split
 ·simp
 ·exact jy (B:=6) (n:=2) (fun t ht=>by
   simp only[List.mem_cons,List.not_mem_nil,or_false]at ht;rcases ht with rfl|rfl
   ·decide
   ·exact h) (by simp)
def C3 (l:List Int)(i own:Int):(kU (dQ l i own)).length≤160:=by
 have h1:=kO (f:=fun w=>bw (fY w)) (B:=46) (l:=(dQ l i own).any) fun w hw=>by
  obtain⟨q,_,rfl⟩:=List.mem_map.1 (show w∈oF l i own (dm l i)from hw);exact D2 (qG _ _ _ _)
 have h2:(dQ l i own).any.length≤2:=by rw[show(dQ l i own).any.length=dm l i from yM _ _ _ _];exact tI l i
 have h3:=wP (jL l (i+14)).2.1;have h4:=FP (s:=(dQ l i own).option) (Nat.le_trans (qE l i own) (by decide));have h5:(bw [ec]).length≤6:=by decide
 unfold kU;simp only[List.length_append];show _+(((dQ l i own).any.map fun w=>bw (fY w)).flatten).length+(fX (gP l (i+14))).length+_≤_;omega
def Ey {b:fE}(h:b.name.length≤3∧b.range.length≤8∧b.when'.length≤16):(qj b).length≤63:=by
 have h1:=jy (B:=8) (n:=3) (l:=[eP,b.name,b.range]) (fun t ht=>by
  simp only[List.mem_cons,List.not_mem_nil,or_false]at ht;rcases ht with rfl|rfl|rfl
  ·decide
  ·omega
  ·exact h.2.1) (by simp)
 have h2:=wP h.2.2;unfold qj;rw[List.length_append];omega
def E0 (l:List Int)(i own:Int):(tG l i own).name.length≤3∧(tG l i own).range.length≤8∧(tG l i own).when'.length≤16:=⟨jt _,(lG l (i+47)).2.1,(jL l (i+50)).2.1⟩
def CR {f:bj}(h:f.name.length≤7∧f.of.length≤5∧∀t∈f.of,t.length≤7):(n7 f).length≤57:=by
 refine jy (B:=7) (n:=7) (fun t ht=>?_) (by simp;omega);simp only[List.mem_append,List.mem_cons,List.not_mem_nil,or_false]at ht;rcases ht with(rfl|rfl)|ht
 ·decide
 ·exact h.1
 ·exact h.2.2 t ht
structure sY (l:List Int)(i own:Int)(r:Rec):Prop where
 nm:r.name=cI own
 ns:r.needs=mP l i own
 v:ei r.v=true∧r.v.pre.length≤4∧r.v.build.length≤1
 bl:r.bars.length≤2
 b:∀b∈r.bars,td r b=0∧b.name.length≤3∧b.range.length≤8∧b.when'.length≤16
 fs:fG r.feats=true∧qz r=(0,0)
 fl:r.feats.length≤4
 f:∀f∈r.feats,f.name.length≤7∧f.of.length≤5∧∀t∈f.of,t.length≤7
def tJ (l:List Int)(i own:Int):(mP l i own).length≤2:=by rw[mP,HE];exact Jf l i
def sY.good {l:List Int}{i own:Int}{r:Rec}(h:sY l i own r):tK r:=by
 have h1:=tJ l i own;have h2:=h.bl;refine⟨⟨by rw[h.nm];exact(mO own).1,h.v.1⟩,⟨by rw[h.ns];omega,by omega⟩,uh (AZ h.nm h.ns) ?_ h.fs.1 h.fs.2⟩;unfold rq;exact mJ fun j hj=>(h.b _ (bL hj)).1
def sY.sm {l:List Int}{i own:Int}{r:Rec}(h:sY l i own r):kf r:=by
 refine⟨⟨by rw[h.nm];exact Nat.le_trans (jt own) (by decide),Nat.le_trans h.v.2.1 (by decide),Nat.le_trans h.v.2.2 (by decide)⟩,fun n hn=>?_,fun b hb=>?_,fun f hf=>?_⟩
 ·obtain⟨k,rfl⟩:=pK (show n∈yO l i own (gK l i)by rw[show yO l i own (gK l i)=r.needs from h.ns.symm];exact hn);refine⟨fun w hw=>?_,Nat.le_trans (jL l (k+14)).2.1 (by decide),Nat.le_trans (qE l k own) (by decide)⟩;obtain⟨q,_,rfl⟩:=List.mem_map.1 (show w∈oF l k own (dm l k)from hw);obtain⟨a,b,c⟩:=qG l (k+1+6*(q:Nat)) own (decide ((dm l k:Int)=1));refine⟨⟨Nat.le_trans a (by decide),Nat.le_trans b (by decide)⟩,fun t ht=>?_⟩;have hx:∀t∈uS,t.length≤1048576:=by decide
  rcases c with e|e|e<;>rw[e]at ht
  ·cases ht
  ·exact hx t (List.mem_of_mem_take ht)
  ·exact hx t ht
 ·obtain⟨_,a,b,c⟩:=h.b b hb;exact⟨Nat.le_trans a (by decide),Nat.le_trans b (by decide),Nat.le_trans c (by decide)⟩
 ·obtain⟨a,b,c⟩:=h.f f hf;exact⟨Nat.le_trans a (by decide),Nat.le_trans b (by decide),fun t ht=>Nat.le_trans (c t ht) (by decide)⟩
def GH {v:df}(h:ei v=true∧v.pre.length≤4∧v.build.length≤1):(iM v).length≤30:=by
 obtain⟨h1,h2,h3⟩:=h;have hv:=h1;simp only[ei,pH,Bool.and_eq_true,decide_eq_true_eq]at h1;have a:=dD 4 v.major.toNat (by omega) (by omega);have b:=dD 4 v.minor.toNat (by omega) (by omega);have c:=dD 4 v.patch.toNat (by omega) (by omega);unfold iM;rw[if_pos hv,rj];have d:(coreS v).length≤14:=by
  unfold coreS;simp only[List.length_append,List.length_cons,List.length_nil];omega
 simp only[List.length_append];split<;>split<;>simp only[List.length_cons,List.length_nil]<;>omega
def sY.len {l:List Int}{i own:Int}{r:Rec}(h:sY l i own r):(eD r).length≤800:=by
 have h1:(mS r).length≤94:=jy (B:=30) (n:=3) (fun t ht=>by
  simp only[List.mem_cons,List.not_mem_nil,or_false]at ht;rcases ht with rfl|rfl|rfl
  ·decide
  ·rw[h.nm];exact Nat.le_trans (jt own) (by decide)
  ·exact GH h.v) (by simp)
 have h2:=kO (f:=kU) (B:=160) (l:=r.needs) fun n hn=>by
  obtain⟨k,rfl⟩:=pK (show n∈yO l i own (gK l i)by rw[show yO l i own (gK l i)=r.needs from h.ns.symm];exact hn);exact C3 l k own
 have h3:=kO (f:=qj) (B:=63) (l:=r.bars) fun b hb=>Ey (h.b b hb).2
 have h4:=kO (f:=n7) (B:=57) (l:=r.feats) fun f hf=>CR (h.f f hf)
 have h5:=tJ l i own;have h6:=h.bl;have h7:=h.fl;rw[h.ns]at h2;unfold eD;rw[h.ns];simp only[List.length_append];omega
def sY.check {l:List Int}{i own:Int}{r:Rec}(h:sY l i own r):ch r=(0,0):=by
 obtain⟨⟨a,b⟩,⟨c,d⟩,e⟩:=h.good;rw[tn a b (by omega) (by omega) e,if_neg (by have:=h.len;omega)]
def sY.print {l:List Int}{i own:Int}{r:Rec}(h:sY l i own r):jT r=(eD r,0):=by
 unfold jT;rw[h.check,if_neg (by simp)]
def BO (l:List Int)(i:Int):ei (C6 l i)=true∧(C6 l i).pre.length≤4∧(C6 l i).build.length≤1:=by
 have a:=cr l i 3 (by decide);have b:=cr l (i+1) 2 (by decide);have key:∀x,x<3→∀y,y<2→∀p∈[([]:ah),Gn],∀q∈[([]:ah),[55]],ei ⟨(x:Nat),(y:Nat),0,p,q⟩=true:=by decide+kernel
 have hp:oG l i∈[([]:ah),Gn]:=by unfold oG;split<;>simp
 have hq:qD l i∈[([]:ah),[55]]:=by unfold qD;split<;>simp
 have h:=key (cP l i 3).toNat (by omega) (cP l (i+1) 2).toNat (by omega) _ hp _ hq;have e:(⟨((cP l i 3).toNat:Int),((cP l (i+1) 2).toNat:Int),0,oG l i,qD l i⟩:df)=C6 l i:=by
  unfold C6;simp only[show((cP l i 3).toNat:Int)=cP l i 3 by omega,show((cP l (i+1) 2).toNat:Int)=cP l (i+1) 2 by omega]
 rw[e]at h;refine⟨h, ?_, ?_⟩
 ·show(oG l i).length≤4;unfold oG;split<;>decide
 ·show(qD l i).length≤1;unfold qD;split<;>decide
def qF (l:List Int)(i own:Int):NdG (kR l i own):=by
 intro m hm;obtain⟨k,rfl⟩:=pK (show m∈yO l i own (gK l i)from hm);refine⟨xt l k own,fun h=>?_⟩;have h1:0<dm l k:=by have:=vS l k;omega
 have:=yL (l:=l) (i:=k) (own:=own) h1;exact⟨_,congrArg aX.name this⟩
def C1 (l:List Int)(i own:Int):(mM l i own).length≤1:=by unfold mM;split<;>simp
def H9:∀k,k<4→jq[k]!.length≤7:=by decide
def yP (l:List Int)(i own:Int):sY l i own (jK l i own):=by
 have hf:=CU (r:=kR l i own) (r2:=jK l i own) (l:=l) (i:=i+52) (qF l i own) rfl rfl;refine⟨rfl,rfl,BO l i,Nat.le_trans (C1 l i own) (by decide),fun b hb=>?_,hf,tH _ _ _,fun f hf2=>?_⟩
 ·obtain rfl:=vR (show b∈mM l i own from hb);exact⟨Ew rfl l i,E0 l i own⟩
 ·obtain⟨k,hk,e,_,_,hi,hl⟩:=lF (show f∈fh l (i+52) (kR l i own)from hf2);refine⟨by rw[e];exact H9 k hk,hl,fun t ht=>?_⟩;exact(yV (r2:=jK l i own) (hi t ht) (qF l i own) rfl rfl).2.2
end Go.Abs
section
namespace Go.Abs
def bm (w:ah):Prop:=w≠[]∧∀c∈w,c≠32∧c≠10
def jG (w:ah):Prop:=∀c∈w,c≠10
def dd (l:List ah):ah:=aG [32] l
def n32 {w:ah}(h:bm w):∀c∈w,(c.toNat:Int)≠32:=fun c hc e=>(h.2 c hc).1 (UInt8.toNat_inj.1 (by have:(32:UInt8).toNat=32:=rfl;omega))
def rU {l:List ah}(hl:l≠[])(h:∀w∈l,bm w):ai (dd l) 32=l:=
 fU (x:=32) rfl hl fun w hw=>n32 (h w hw)
def wI {p:List ah}{t:ah}(h:∀w∈p,bm w):ai (dd (p++[t])) 32=p++ai t 32:=by
 induction p with
 |nil=>rfl
 |cons a r ih=>
  have ha:=n32 (h a (.head _));have hr:=ih fun w hw=>h w (.tail _ hw)
  have e:dd (a::(r++[t]))=a++32::dd (r++[t]):=by
   unfold dd;rw[dG [32] a (r++[t]) (by simp)];simp
  rw[List.cons_append,e];have:=oW (b:=32) (x:=32) rfl (dd (r++[t])) (w:=a) (cur:=[]) ha;unfold ai at hr⊢;rw[this,hr];rfl
def fw (t:ah):ah:=(ai t 32)[0]!
def tE {w:ah}{l:List ah}(hw:bm w)(hl:∀x∈l,bm x):fw (dd (w::l))=w:=by
 unfold fw;rw[rU (by simp) (fun x hx=>by rcases List.mem_cons.1 hx with rfl|hx;exact hw;exact hl x hx)];rfl
def EZ {w:ah}{p:List ah}{t:ah}(hw:bm w)(hp:∀x∈p,bm x):fw (dd (w::(p++[t])))=w:=by
 unfold fw;rw[←List.cons_append,wI (p:=w::p) (fun x hx=>by rcases List.mem_cons.1 hx with rfl|hx;exact hw;exact hp x hx)];rfl
def IW {n:Nat}{op:Bool}{t:ah}(h:2≤n∨op=false):(cn n op t)[0]! =fw t:=by
 unfold cn fw;split
 ·rename_i ho;have hn:=h.resolve_right (by rw[ho];simp);unfold mB;split
  ·rfl
  ·rename_i hl;have a:0<((ai t 32).take (n-1)).length:=by rw[List.length_take];omega
   rw[getElem!_pos _ _ (by rw[List.length_append];omega),List.getElem_append_left a,List.getElem_take,getElem!_pos _ _ (by omega)]
 ·rfl
def hd (R:List ah):Option ah:=R.head?.map fw
def mW {w:ah}{n:Nat}{op:Bool}{R:List ah}(h:2≤n∨op=false)(hn:hd R≠some w):bc w n op R=none:=by
 match R,hn with
 |[],_=>rfl
 |t::r,hn=>
  have:eA w n op t=none:=by
   unfold eA;rw[if_neg];rintro⟨h1,_⟩;rw[IW h]at h1;exact hn (by simp[hd,h1])
  simp only[bc,this]
def lN {w:ah}{l:List ah}{n:Nat}{R:List ah}(hw:bm w)(hl:∀x∈l,bm x)(hn:n=0∨l.length+1=n):bc w n false (dd (w::l)::R)=some (w::l,R):=by
 have hc:∀x∈w::l,bm x:=fun x hx=>by rcases List.mem_cons.1 hx with rfl|hx;exact hw;exact hl x hx
 have e:cn n false (dd (w::l))=w::l:=by
  unfold cn;rw[if_neg (by simp),rU (by simp) hc]
 have:eA w n false (dd (w::l))=some (w::l):=by
  unfold eA;rw[e,if_pos ⟨rfl,hn,fun h=>(hc _ h).1 rfl⟩]
 simp only[bc,this]
def qP {w:ah}{p:List ah}{t:ah}{n:Nat}{R:List ah}(hw:bm w)(hp:∀x∈p,bm x)(ht:t≠[])(hn:p.length+2=n):bc w n true (dd (w::(p++[t]))::R)=some (w::(p++[t]),R):=by
 have hc:∀x∈w::p,bm x:=fun x hx=>by rcases List.mem_cons.1 hx with rfl|hx;exact hw;exact hp x hx
 have hs:=wI (t:=t) hc;have hj:=iF (b:=32) (x:=32) rfl t;have h1:1≤(ai t 32).length:=eO 32 t [];have e:cn n true (dd (w::(p++[t])))=w::(p++[t]):=by
  unfold cn;rw[if_pos rfl,←List.cons_append,hs];unfold mB;have hl:(w::p++ai t 32).length=p.length+1+(ai t 32).length:=by simp;omega
  split
  ·have:(ai t 32).length=1:=by omega
   obtain⟨x,hx⟩:=List.length_eq_one_iff.1 this;rw[hx]at hj⊢;simp only[aG]at hj;rw[hj]
  ·have a:n-1=(w::p).length:=by simp;omega
   rw[a,List.take_left,List.drop_left,hj]
 have:eA w n true (dd (w::(p++[t])))=some (w::(p++[t])):=by
  unfold eA;rw[e,if_pos ⟨rfl,.inr (by simp;omega),fun h=>by
   rw[←List.cons_append,List.mem_append,List.mem_singleton]at h;rcases h with h|h
   ·exact(hc _ h).1 rfl
   ·exact ht h.symm⟩]
 simp only[bc,this]
def gW (s:ah):List ah:=if s=[]then []else [dd [e8,s]]
def jS (s:ah):List ah:=if s=[]then []else [dd [cL,s]]
def im (l:List aX):List ah:=l.map fun w=>dd (fY w)
def tX (n:aT):List ah:=dd [ec]::(im n.any++(gW n.when'++jS n.option))
def yt (b:fE):List ah:=dd [eP,b.name,b.range]::gW b.when'
def hE (f:bj):ah:=dd ([bA,f.name]++f.of)
structure yk (w:aX):Prop where
 nm:bm w.name
 rg:w.range≠[]∧jG w.range
 fs:∀t∈w.feats,bm t∧∀c∈t,c≠44
 ne:aG [44] w.feats≠[45]
def ow:bm e8:=by unfold bm;decide
def qp:bm cL:=by unfold bm;decide
def ov:bm ec:=by unfold bm;decide
def qo:bm eP:=by unfold bm;decide
def ou:bm bA:=by unfold bm;decide
def vK:bm gM:=by unfold bm;decide
def tp:bm cU:=by unfold bm;decide
def FR {s:ah}{R:List ah}(hs:s=[]∨bm s)(hR:s=[]→hd R≠some cL):oL (jS s++R)=(s,R):=by
 unfold jS oL;by_cases h:s=[]
 ·rw[if_pos h,List.nil_append,mW (.inl (by omega)) (hR h)];rw[h]
 ·rw[if_neg h,List.singleton_append,lN (n:=2) qp (l:=[s]) (fun x hx=>by rw[List.mem_singleton.1 hx];exact hs.resolve_left h) (.inr rfl)];rfl
def wQ {s:ah}{R:List ah}(hR:s=[]→hd R≠some e8):bo (gW s++R)=(s,R):=by
 unfold gW bo;by_cases h:s=[]
 ·rw[if_pos h,List.nil_append,mW (.inl (by omega)) (hR h)];rw[h]
 ·rw[if_neg h,List.singleton_append];have:=qP (n:=2) (w:=e8) (p:=[]) (t:=s) (R:=R) ow (fun x hx=>by cases hx) h rfl;rw[List.nil_append]at this;rw[this];rfl
def Fe {l:List ah}(h:∀t∈l,bm t∧∀c∈t,c≠44)(hl:l≠[]):bm (aG [44] l)∧ai (aG [44] l) 44=l:=by
 refine⟨⟨?_,fun c hc=>?_⟩,fU (x:=44) rfl hl fun w hw c hc e=>(h w hw).2 c hc (UInt8.toNat_inj.1 (by have:(44:UInt8).toNat=44:=rfl;omega))⟩
 ·match l,hl with
  |[a],_=>exact(h a (.head _)).1.1
  |a::b::r,_=>simp[aG]
 ·rcases jv 44 l c hc with rfl|⟨w,hw,hc⟩
  ·decide
  ·exact(h w hw).1.2 c hc
def uP {w:aX}(h:yk w):∀x∈[w.name,if w.feats.length=0 then [45]else aG [44] w.feats,if w.bare=true then et else gV],bm x:=by
 intro x hx;simp only[List.mem_cons,List.not_mem_nil,or_false]at hx;rcases hx with rfl|rfl|rfl
 ·exact h.nm
 ·split
  ·unfold bm;decide
  ·rename_i hn;exact(Fe h.fs (fun e=>hn (by rw[e];rfl))).1
 ·split<;>(unfold bm;decide)
def zW (w:aX):fY w=gM::([w.name,if w.feats.length=0 then [45]else aG [44] w.feats,if w.bare=true then et else gV]++[w.range]):=rfl
def IU {w:aX}(h:yk w):eQ (fY w)=w∧pL (fY w)=true:=by
 obtain⟨nm,rg,fs,b⟩:=w;have hb:et≠gV:=by decide
 constructor
 ·show(⟨nm,rg,(if(if fs.length=0 then [45]else aG [44] fs)=[45]then []else ai (if fs.length=0 then [45]else aG [44] fs) 44),decide ((if b=true then et else gV)=et)⟩:aX)=_;have h1:(if(if fs.length=0 then [45]else aG [44] fs)=[45]then []else ai (if fs.length=0 then [45]else aG [44] fs) 44)=fs:=by
   by_cases hn:fs.length=0
   ·rw[if_pos hn,if_pos rfl];exact(List.length_eq_zero_iff.1 hn).symm
   ·rw[if_neg hn,if_neg h.ne];exact(Fe h.fs (fun e=>hn (by rw[show fs=[]from e];rfl))).2
  rw[h1];cases b<;>simp[hb,Ne.symm hb]
 ·show(decide ((if b=true then et else gV)=et) ||decide ((if b=true then et else gV)=gV))=true;cases b<;>simp
def rY {R:List ah}(hR:hd R≠some gM):∀{l:List aX},(∀w∈l,yk w)→bP (im l++R)=(l,R)
 |[],_=>p7 (mW (.inl (by omega)) hR)
 |w::r,h=>by
  have ih:=rY hR (l:=r) fun x hx=>h x (.tail _ hx)
  have hw:=h w (.head _);have hn:bc gM 5 true (dd (fY w)::(im r++R))=some (fY w,im r++R):=by
   have:=qP (n:=5) (w:=gM) (t:=w.range) (R:=im r++R) vK (uP hw) hw.rg.1 rfl;rw[zW];exact this
  obtain⟨h1,h2⟩:=IU hw;have:=rX hn h2;show bP (dd (fY w)::(im r++R))=_;rw[this,ih,h1]
structure Bx (n:aT):Prop where
 a:∀w∈n.any,yk w
 w:jG n.when'
 o:n.option=[]∨bm n.option
def HM {s:ah}{R:List ah}:hd (gW s++R)=if s=[]then hd R else some e8:=by
 unfold gW;split
 ·rfl
 ·show some (fw (dd (e8::([]++[s]))))=_;rw[EZ ow (fun x hx=>by cases hx)]
def Kw {s:ah}{R:List ah}(hs:s=[]∨bm s):hd (jS s++R)=if s=[]then hd R else some cL:=by
 unfold jS;split
 ·rfl
 ·rename_i h;show some (fw (dd (cL::[s])))=_;rw[tE qp (fun x hx=>by rw[List.mem_singleton.1 hx];exact hs.resolve_left h)]
def FF (R:List ah):Prop:=hd R≠some gM∧hd R≠some e8∧hd R≠some cL
def Dz {n:aT}{R:List ah}(h:Bx n)(hR:FF R):cX ((im n.any++(gW n.when'++jS n.option))++R)=(n,R):=by
 have e1:(im n.any++(gW n.when'++jS n.option))++R=im n.any++(gW n.when'++(jS n.option++R)):=by simp only[List.append_assoc]
 have ho:=FR (s:=n.option) (R:=R) h.o fun _=>hR.2.2
 have hh:=Kw (R:=R) h.o;have hw:=wQ (s:=n.when') (R:=jS n.option++R) fun _=>by
  rw[hh];split
  ·exact hR.2.1
  ·decide
 have ha:=rY (R:=gW n.when'++(jS n.option++R)) (l:=n.any) (by
  rw[HM];split
  ·rw[hh];split
   ·exact hR.1
   ·decide
  ·decide) h.a
 unfold cX;rw[e1,ha,hw,ho]
def kA (l:List aT):List ah:=(l.map tX).flatten
def tY {R:List ah}(hR:FF R)(hN:hd R≠some ec):∀{l:List aT},(∀n∈l,Bx n)→ew (kA l++R)=(l,R)
 |[],_=>rH (mW (.inr rfl) hN)
 |n::r,h=>by
  have ih:=tY hR hN (l:=r) fun x hx=>h x (.tail _ hx)
  have hok:FF (kA r++R):=by
   match r with
   |[]=>exact hR
   |m::q=>
    have:hd (kA (m::q)++R)=some ec:=by
     show some (fw (dd (ec::[])))=_;rw[tE ov (fun x hx=>by cases hx)]
    unfold FF;rw[this];decide
  have hr:=Dz (h n (.head _)) hok;have hn:bc ec 1 false (kA (n::r)++R)=some ([ec],(im n.any++(gW n.when'++jS n.option))++(kA r++R)):=by
   have:=lN (n:=1) (w:=ec) (l:=[]) (R:=(im n.any++(gW n.when'++jS n.option))++(kA r++R)) ov (fun x hx=>by cases hx) (.inr rfl);rw[←this];simp[kA,tX]
  rw[rI hn,hr,ih]
structure G0 (b:fE):Prop where
 nm:bm b.name
 rg:b.range≠[]∧jG b.range
 w:jG b.when'
def j5 (l:List fE):List ah:=(l.map yt).flatten
def BD {R:List ah}{l:List fE}(h:∀b∈l,G0 b):hd (j5 l++R)=if l=[]then hd R else some eP:=by
 match l with
 |[]=>rfl
 |b::r=>
  rw[if_neg (by simp)];show some (fw (dd (eP::([b.name]++[b.range]))))=_;rw[EZ qo (fun x hx=>by rw[List.mem_singleton.1 hx];exact(h b (.head _)).nm)]
def vF {R:List ah}(hR:hd R≠some e8∧hd R≠some eP):∀{l:List fE},(∀b∈l,G0 b)→jF (j5 l++R)=(l,R)
 |[],_=>tf (mW (.inl (by omega)) hR.2)
 |b::r,h=>by
  have ih:=vF hR (l:=r) fun x hx=>h x (.tail _ hx)
  have hb:=h b (.head _);have hw:=wQ (s:=b.when') (R:=j5 r++R) fun _=>by
   rw[BD fun x hx=>h x (.tail _ hx)];split
   ·exact hR.1
   ·decide
  have hn:bc eP 3 true (j5 (b::r)++R)=some ([eP,b.name,b.range],gW b.when'++(j5 r++R)):=by
   have:=qP (n:=3) (w:=eP) (p:=[b.name]) (t:=b.range) (R:=gW b.when'++(j5 r++R)) qo (fun x hx=>by rw[List.mem_singleton.1 hx];exact hb.nm) hb.rg.1 rfl;rw[show [eP,b.name,b.range]=eP::([b.name]++[b.range])from rfl,←this];simp[j5,yt]
  rw[tg hn,hw,ih];rfl
structure En (f:bj):Prop where
 nm:bm f.name
 o:∀t∈f.of,bm t
def tu:∀{l:List bj},(∀f∈l,En f)→dk (l.map hE)=(l,[])
 |[],_=>rfl
 |f::r,h=>by
  have ih:=tu (l:=r) fun x hx=>h x (.tail _ hx)
  have hf:=h f (.head _);have hn:=lN (n:=0) (w:=bA) (l:=f.name::f.of) (R:=r.map hE) ou (fun x hx=>by
   rcases List.mem_cons.1 hx with rfl|hx
   ·exact hf.nm
   ·exact hf.o x hx) (.inl rfl)
  have hl:eA bA 0 false (hE f)=some (bA::f.name::f.of):=by
   simp only[bc]at hn;show eA bA 0 false (dd (bA::f.name::f.of))=_;cases e:eA bA 0 false (dd (bA::f.name::f.of))with
   |none=>rw[e]at hn;cases hn
   |some q=>rw[e]at hn;simp only[Option.some.injEq,Prod.mk.injEq]at hn;rw[hn.1]
  simp only[List.map_cons,dk,hl];rw[if_pos (by simp),ih];rfl
end Go.Abs
namespace Go.Abs
structure Hg (r:Rec):Prop where
 nm:bm r.name
 v:ei r.v=true
 n:∀n∈r.needs,Bx n
 b:∀b∈r.bars,G0 b
 f:∀f∈r.feats,En f
def oQ (r:Rec):List ah:=kA r.needs++(j5 r.bars++r.feats.map hE)
def lJ (r:Rec):List ah:=dd [cU,r.name,iM r.v]::oQ r
def j0 (l:List ah):ah:=(l.map fun t=>t++[10]).flatten
def mG (a b:List ah):j0 (a++b)=j0 a++j0 b:=by simp[j0]
def qx {α:Type}(f:α→List ah):∀l:List α,j0 ((l.map f).flatten)=(l.map fun x=>j0 (f x)).flatten
 |[]=>rfl
 |a::r=>by simp only[List.map_cons,List.flatten_cons,mG,qx f r]
def pS (l:List ah):bw l=dd l++[10]:=rfl
def EK (t:ah):j0 [t]=t++[10]:=by simp[j0]
def wR (s:ah):j0 (gW s)=fX s:=by
 unfold gW fX;split
 ·rfl
 ·rw[EK,pS]
def FU (s:ah):j0 (jS s)=sg s:=by
 unfold jS sg;split
 ·rfl
 ·rw[EK,pS]
def zX (l:List aX):j0 (im l)=(l.map fun w=>bw (fY w)).flatten:=by
 unfold im j0;rw[List.map_map];rfl
def nv (t:ah)(l:List ah):j0 (t::l)=t++[10]++j0 l:=by simp[j0]
def DA (n:aT):j0 (tX n)=kU n:=by
 unfold tX kU;rw[nv,mG,mG,zX,wR,FU,pS];simp only[List.append_assoc]
def EA (b:fE):j0 (yt b)=qj b:=by
 unfold yt qj;rw[nv,wR,pS]
def AA (l:List bj):j0 (l.map hE)=(l.map n7).flatten:=by
 unfold j0;rw[List.map_map];rfl
def Bn (r:Rec):eD r=j0 (lJ r):=by
 unfold lJ oQ eD mS;rw[nv,mG,mG,AA];unfold kA j5;rw[qx,qx,pS];simp only[DA,EA,List.append_assoc]
def yY:∀ls:List ah,aG [10] (ls++[[]])=j0 ls
 |[]=>rfl
 |a::r=>by
  rw[List.cons_append,dG _ _ _ (by simp),yY r,nv]
def eG {l:List ah}(h:∀w∈l,jG w):jG (dd l):=by
 intro c hc;rcases jv 32 l c hc with rfl|⟨w,hw,hc⟩
 ·decide
 ·exact h w hw c hc
def By {w:ah}(h:bm w):jG w:=fun c hc=>(h.2 c hc).2
def wN {v:df}(h:ei v=true):bm (iM v):=by
 have e:iM v=su v:=by unfold iM;rw[if_pos h]
 rw[e];refine⟨?_,fun c hc=>?_⟩
 ·unfold su;have:=sD v.major.toNat;cases hd:bR v.major.toNat with
  |nil=>exact absurd hd this
  |cons a b=>simp
 ·have:=IP h hc;exact⟨fun e=>this.1 (by rw[e];rfl),fun e=>this.2 (by rw[e];rfl)⟩
def y8 {r:Rec}(h:Hg r):∀t∈lJ r,jG t:=by
 have hwhen:∀s,jG s→∀t∈gW s,jG t:=fun s hs t ht=>by
  unfold gW at ht;split at ht
  ·cases ht
  ·obtain rfl:=List.mem_singleton.1 ht;refine eG fun w hw=>?_
   simp only[List.mem_cons,List.not_mem_nil,or_false]at hw;rcases hw with rfl|rfl
   ·exact By ow
   ·exact hs
 intro t ht;unfold lJ oQ kA j5 at ht;simp only[List.mem_cons,List.mem_append,List.mem_flatten,List.mem_map]at ht;rcases ht with rfl|⟨_,⟨n,hn,rfl⟩,ht⟩|⟨_,⟨b,hb,rfl⟩,ht⟩|⟨f,hf,rfl⟩
 ·refine eG fun w hw=>?_
  simp only[List.mem_cons,List.not_mem_nil,or_false]at hw;rcases hw with rfl|rfl|rfl
  ·exact By tp
  ·exact By h.nm
  ·exact By (wN h.v)
 ·have hw:=h.n n hn;unfold tX at ht;simp only[List.mem_cons,List.mem_append]at ht;rcases ht with rfl|ht|ht|ht
  ·exact eG fun w hw=>by rw[List.mem_singleton.1 hw];exact By ov
  ·obtain⟨w,hw2,rfl⟩:=List.mem_map.1 ht;have hww:=hw.a w hw2;rw[zW];refine eG fun x hx=>?_
   rcases List.mem_cons.1 hx with rfl|hx
   ·exact By vK
   ·rcases List.mem_append.1 hx with hx|hx
    ·exact By (uP hww x hx)
    ·rw[List.mem_singleton.1 hx];exact hww.rg.2
  ·exact hwhen _ hw.w t ht
  ·unfold jS at ht;split at ht
   ·cases ht
   ·rename_i hne;obtain rfl:=List.mem_singleton.1 ht;refine eG fun x hx=>?_
    simp only[List.mem_cons,List.not_mem_nil,or_false]at hx;rcases hx with rfl|rfl
    ·exact By qp
    ·exact By (hw.o.resolve_left hne)
 ·have hw:=h.b b hb;unfold yt at ht;rcases List.mem_cons.1 ht with rfl|ht
  ·refine eG fun x hx=>?_
   simp only[List.mem_cons,List.not_mem_nil,or_false]at hx;rcases hx with rfl|rfl|rfl
   ·exact By qo
   ·exact By hw.nm
   ·exact hw.rg.2
  ·exact hwhen _ hw.w t ht
 ·have hw:=h.f f hf;refine eG fun x hx=>?_
  simp only[List.mem_append,List.mem_cons,List.not_mem_nil,or_false]at hx;rcases hx with(rfl|rfl)|hx
  ·exact By ou
  ·exact By hw.nm
  ·exact By (hw.o x hx)
def zJ {ls:List ah}(h:∀t∈ls,jG t):ai (j0 ls) 10=ls++[[]]:=by
 rw[←yY];refine fU (x:=10) rfl (by simp) fun w hw c hc e=>?_
 rcases List.mem_append.1 hw with hw|hw
 ·exact h w hw c hc (UInt8.toNat_inj.1 (by have:(10:UInt8).toNat=10:=rfl;omega))
 ·rw[List.mem_singleton.1 hw]at hc;cases hc
def EO {l:List bj}(h:∀f∈l,En f):hd (l.map hE)=none∨hd (l.map hE)=some bA:=by
 match l with
 |[]=>exact .inl rfl
 |f::r=>
  right;have hf:=h f (.head _);show some (fw (dd (bA::(f.name::f.of))))=_;rw[tE ou (fun x hx=>by
   rcases List.mem_cons.1 hx with rfl|hx
   ·exact hf.nm
   ·exact hf.o x hx)]
def zr {r:Rec}(h:Hg r):oP (lJ r)=some (r,[]):=by
 have hf:=tu h.f;have hfh:=EO h.f;have hb:=vF (R:=r.feats.map hE) (by rcases hfh with e|e<;>rw[e]<;>decide) h.b;have hbh:=BD (R:=r.feats.map hE) h.b;have h1:hd (j5 r.bars++r.feats.map hE)=none∨hd (j5 r.bars++r.feats.map hE)=some bA∨hd (j5 r.bars++r.feats.map hE)=some eP:=by
  rw[hbh];split
  ·rcases hfh with e|e<;>rw[e]<;>simp
  ·exact .inr (.inr rfl)
 have hn:=tY (R:=j5 r.bars++r.feats.map hE) (by unfold FF;rcases h1 with e|e|e<;>rw[e]<;>decide) (by rcases h1 with e|e|e<;>rw[e]<;>decide) h.n;have hp:=lN (n:=3) (w:=cU) (l:=[r.name,iM r.v]) (R:=oQ r) tp (fun x hx=>by
  simp only[List.mem_cons,List.not_mem_nil,or_false]at hx;rcases hx with rfl|rfl
  ·exact h.nm
  ·exact wN h.v) (.inr rfl)
 unfold oP lJ;rw[hp];show(match kG (iM r.v)with|some v=>some (n4 r.name v (oQ r))|none=>none)=_;rw[Lt h.v];show some (n4 r.name r.v (oQ r))=_;unfold n4 oQ;rw[hn,hb,hf]
def DN {r:Rec}(h:Hg r)(hc:ch r=(0,0)):e7 (eD r)=(r,0,0):=by
 have hl:¬4096<(eD r).length:=by
  intro hl;unfold ch at hc;repeat' split at hc
  all_goals first|cases hc|(rename_i a;exact absurd hl a)|skip
  all_goals (rename_i a b;exact absurd (congrArg Prod.fst hc) (by assumption))
 have hs:ai (eD r) 10=lJ r++[[]]:=by rw[Bn];exact zJ (y8 h)
 have ht:(ai (eD r) 10).take ((ai (eD r) 10).length-1)=lJ r:=by
  rw[hs];simp
 have hz:(ai (eD r) 10)[(ai (eD r) 10).length-1]! =[]:=by
  rw[hs];simp
 have hv:ep (lJ r)=(r,[]):=by unfold ep;rw[zr h]
 unfold e7;rw[if_neg hl];dsimp only;rw[ht,hz,hv,zr h,if_neg (by simp),if_neg (by rw[hc];simp)]
end Go.Abs
end
namespace Go.Abs
def Fv {w:ah}(h:∀c∈w,c.toNat≠32∧c.toNat≠10):∀c∈w,c≠32∧c≠10:=fun c hc=>⟨fun e=>(h c hc).1 (by rw[e];rfl),fun e=>(h c hc).2 (by rw[e];rfl)⟩
def sI (n:Int):bm (cI n):=⟨(BZ (mO n).1).1,Fv (BZ (mO n).1).2.2⟩
def BP (n:Int):bm (gR n):=⟨IV (mQ n).1,Fv fun c hc=>⟨(Cs (mQ n).1 hc).1,(Cs (mQ n).1 hc).2.1⟩⟩
def Cu:(∀t∈uS,bm t∧∀c∈t,c≠44)∧aG [44] uS≠[45]∧aG [44] (uS.take 1)≠[45]:=by unfold bm;decide
def HG (l:List Int)(i own:Int)(al:Bool):yk (gQ l i own al):=by
 have hf:=lG l (i+1);obtain⟨_,_,c⟩:=qG l i own al;refine⟨sI _,⟨hf.2.2.1,hf.2.2.2⟩,fun t ht=>?_, ?_⟩
 ·rcases c with e|e|e<;>rw[e]at ht
  ·cases ht
  ·exact Cu.1 t (List.mem_of_mem_take ht)
  ·exact Cu.1 t ht
 ·rcases c with e|e|e<;>rw[e]
  ·decide
  ·exact Cu.2.2
  ·exact Cu.2.1
def HF (l:List Int)(i own:Int):Bx (dQ l i own):=by
 refine⟨fun w hw=>?_,(jL l (i+14)).2.2, ?_⟩
 ·obtain⟨q,_,rfl⟩:=List.mem_map.1 (show w∈oF l i own (dm l i)from hw);exact HG _ _ _ _
 ·rcases xt l i own with e|⟨n,e⟩
  ·exact .inl e
  ·exact .inr (by rw[e];exact BP n)
def Ks (l:List Int)(i own:Int):G0 (tG l i own):=⟨sI _,⟨(lG l (i+47)).2.2.1,(lG l (i+47)).2.2.2⟩,(jL l (i+50)).2.2⟩
def Jo:∀k,k<4→bm jq[k]! :=by unfold bm;decide
def qn {a b:ah}(ha:bm a)(hb:∀c∈b,c≠32∧c≠10):bm (a++b):=⟨fun e=>ha.1 (List.append_eq_nil_iff.1 e).1,fun c hc=>(List.mem_append.1 hc).elim (ha.2 c) (hb c)⟩
def NB {l:List Int}{i:Int}{r:Rec}{t:ah}(h:Lx l i r t)(hr:NdG r):bm t:=by
 rcases h with⟨m,hm,h1,rfl⟩|⟨m,hm,h1,rfl⟩|⟨k,hk,_,rfl⟩
 ·obtain⟨n,e⟩:=(hr m hm).1.resolve_left h1;rw[e];exact qn (by unfold bm;decide) (BP n).2
 ·obtain⟨n,e⟩:=(hr m hm).2 h1;rw[e];exact qn (qn (sI n) (by decide)) (by decide)
 ·exact Jo _ (by omega)
def Kt (l:List Int)(i own:Int):Hg (jK l i own):=by
 refine⟨sI own,(BO l i).1,fun n hn=>?_,fun b hb=>?_,fun f hf=>?_⟩
 ·obtain⟨k,rfl⟩:=pK (show n∈yO l i own (gK l i)from hn);exact HF l k own
 ·obtain rfl:=vR (show b∈mM l i own from hb);exact Ks l i own
 ·obtain⟨k,hk,e,_,_,hi,_⟩:=lF (show f∈fh l (i+52) (kR l i own)from hf);exact⟨by rw[e];exact Jo k hk,fun t ht=>NB (hi t ht) (qF l i own)⟩
def C5 (l:List Int)(i own:Int):e7 (eD (jK l i own))=(jK l i own,0,0):=DN (Kt l i own) (yP l i own).check
end Go.Abs
section
namespace Go.Abs
open Go
end Go.Abs
end
section
namespace Go.Abs
open Go
end Go.Abs
end
section
namespace Go.Abs
open Go
end Go.Abs
end
section
namespace Go.Abs
def awT:ah:=[112,97,99,107,97,103,101,32,97,112,112,32,49,46,48,46,48,10,110,101,101,100,10,97,110,121,32,98,32,120,32,102,117,108,108,32,94,49,10,119,104,101,110,32,111,115,32,61,32,120,10,98,97,114,32,99,32,42,10,102,101,97,116,117,114,101,32,121,32,98,47,122,10]
def Hk:ah:=[112,97,99,107,97,103,101,32,97,112,112,32,49,46,48,46,48,10,97,110,121,32,98,32,45,32,102,117,108,108,32,42,10]
def D9:Rec:=⟨[97,112,112],⟨1,0,0,[],[]⟩,[⟨[⟨[98],[94,49],[[120]],false⟩],[111,115,32,61,32,120],[]⟩],[⟨[99],[42],[]⟩],[⟨[121],[[98,47,122]]⟩]⟩
set_option maxRecDepth 100000 in
theorem aw1:e7 awT=(D9,0,0):=by decide+kernel
set_option maxRecDepth 100000 in
theorem aw3:jT D9=(awT,0):=by decide+kernel
set_option maxRecDepth 100000 in
theorem aw2:(e7 Hk).2=(2,2):=by decide+kernel
def Kg:kf D9:=by
 refine⟨⟨by decide,by decide,by decide⟩,fun n hn=>?_,fun b hb=>?_,fun f hf=>?_⟩
 ·simp only[D9,List.mem_singleton]at hn;subst hn;refine⟨fun w hw=>?_,by decide,by decide⟩;simp only[List.mem_singleton]at hw;subst hw;exact⟨⟨by decide,by decide⟩,fun t ht=>by simp only[List.mem_singleton]at ht;subst ht;decide⟩
 ·simp only[D9,List.mem_singleton]at hb;subst hb;exact⟨by decide,by decide,by decide⟩
 ·simp only[D9,List.mem_singleton]at hf;subst hf;exact⟨by decide,by decide,fun t ht=>by simp only[List.mem_singleton]at ht;subst ht;decide⟩
end Go.Abs
end
section
namespace Go.Abs
open Go
def xU:aB:=⟨1,6,[⟨1,none⟩,⟨2,none⟩],je,(sq (rg [gb 9 s0,gm cse,gm bF] [(3,0),(1,1),(2,2)]) (sq (sq (r1 [gk 9 true s3,gx 70 [l0] [[.a,.a,.a,.a,.a,.a,.sl 3 [.sl 4 [.a,.a,.sl 1 [.a],.a],.a,.a],.sl 3 [.a,.a,.a],.sl 2 [.a,.sl 1 [.a]]]],gm l1,ge l2 0,ge l2 1,gm l3,gm l4] 4 5) (sq (r1 [gm s4,b8 l0 bF] 5 1) (.cond s5 (sq (rg [gm s4,gm cse,gm l0] [(1,1),(2,2)]) .ret) .skip))) (sq (rg [gk 9 true s3,gx 215 [l0] [[.a,.a,.a,.a,.a,.a,.sl 3 [.sl 4 [.a,.a,.sl 1 [.a],.a],.a,.a],.sl 3 [.a,.a,.a],.sl 2 [.a,.sl 1 [.a]]]],gm l1,gm bF] [(1,2),(2,3)]) .ret)))⟩
def w72 {Γ:Ctx}(hm:(Γ.at 0).bq)(h70:C70 Γ)(h215:JE Γ)(r:Rec)  (hp0:kf r):dX Γ xU (.tup [.str (jT r).1,.int .i64 (jT r).2]) [Rec.D r]:=by
 show bB _ _ _ [⟨_,_⟩,_,_,_,_,_] _;refine ak ?_;refine bd ?_;refine aj (hc:=h70 r hp0) ?_;refine gG ?_;refine cH (fun hc0=>?_) fun hc0=>?_
 ·refine bd ?_;refine cl (aS (congrArg D.str ?_) (congrArg (D.int .i64) ?_));all_goals
   simp[jT,hc0]
 refine ax ?_;have hgd:=yx hc0;refine ay ?_;refine aj (hc:=h215 r ⟨hgd,hp0⟩) ?_;refine aA ?_;refine cl (aS (congrArg D.str ?_) (congrArg (D.int .i64) ?_));all_goals
  simp[jT,hc0]
def C72 (Γ:Ctx):Prop:=∀(r:Rec),(kf r)→Γ.pre 72 [Rec.D r]∧Γ.val 72 [Rec.D r]=.tup [.str (jT r).1,.int .i64 (jT r).2]
end Go.Abs
end
section
namespace Go.Abs
open Go
def y5:aB:=⟨0,8,[⟨0,none⟩],cv,(sq (r1 [gm c9] 0 0) (sq (rg [gx 76 [(cs [112,97,99,107,97,103,101,32,97,112,112,32,49,46,48,46,48,10,110,101,101,100,10,97,110,121,32,98,32,120,32,102,117,108,108,32,94,49,10,119,104,101,110,32,111,115,32,61,32,120,10,98,97,114,32,99,32,42,10,102,101,97,116,117,114,101,32,121,32,98,47,122,10])] cv,gm l0,ge l1 0,ge l1 1,ge l1 2,gb 9 (.c (.agg [.str [],.int .i64 0,.int .i64 0,.int .i64 0,.str [],.str [],.av,.av,.av])),gt 9 l5 l2,gm l3,gm l4] [(1,5),(2,7),(4,8)]) (sq (rg [gk 9 true s1,gx 72 [l0] [[.a,.a,.a,.a,.a,.a,.sl 3 [.sl 4 [.a,.a,.sl 1 [.a],.a],.a,.a],.sl 3 [.a,.a,.a],.sl 2 [.a,.sl 1 [.a]]]],gm l1,ge l2 0,ge l2 1,gm l3,gm l4] [(5,5),(3,6)]) (sq (rg [gx 76 [(cs [112,97,99,107,97,103,101,32,97,112,112,32,49,46,48,46,48,10,97,110,121,32,98,32,45,32,102,117,108,108,32,42,10])] cv,gm l0,ge l1 0,ge l1 1,ge l1 2,gb 9 (.c (.agg [.str [],.int .i64 0,.int .i64 0,.int .i64 0,.str [],.str [],.av,.av,.av])),gt 9 l5 l2,gm l3,gm l4] [(6,7),(7,8)]) (sq (r1 [gm s2,aF l0 bF,gm l1,gmt 2 s3,cG 2 (cM l3 bF),fR l2 l4,gm l5,gmt 6 s4,cG 6 (cM l7 bF),fR l6 l8,gm l9,pc 10 6 s1,nF 10 jx,cG 10 (.len kJ),cG 10 (cM me cd),fR l10 mV,gm nV,pc 16 7 s1,nF 16 tP,cG 16 (.len uV),cG 16 (cM vZ cd),fR pP yZ,gm Ab,gmt 22 s5,cG 22 (.lenS Fg),cG 22 (cM Fh (i6 73)),fR BU Fi,gm Jm,gmt 27 s6,cG 27 (cM LF kS),fR KC LG,gm NC,gmt 31 s7,cG 31 (cM l32 kS),fR l31 l33,gm l34] 0 35) .ret)))))⟩
def w69 {Γ:Ctx}(hm:(Γ.at 0).bq)(h72:C72 Γ)(h76:C76 Γ)    :dX Γ y5 (.bool true) []:=by
 show bB _ _ _ [_,_,_,_,_,_,_,_] _;refine ak ?_;refine az ?_;refine aj (v:=.tup [Rec.D D9,.int .i64 0,.int .i64 0]) (hc:=by have:=h76 awT;rw[aw1]at this;exact this) ?_;refine ay ?_;refine fu (Rec.D _) ?_;refine az ?_;refine aJ (Rec.D D9) (he:=by exact rfl) ?_;refine aA ?_;refine cD (d:=Rec.D D9) ?_;refine aj (v:=.tup [.str awT,.int .i64 0]) (hc:=by have:=h72 D9 Kg;rw[aw3]at this;exact this) ?_;refine bd ?_;refine aj (v:=.tup [Rec.D (e7 Hk).1,.int .i64 2,.int .i64 2]) (hc:=by have:=h76 Hk;rw[aw2]at this;exact this) ?_;refine ay ?_;refine fu (Rec.D _) ?_;refine az ?_;refine aJ (Rec.D (e7 Hk).1) (he:=by exact rfl) ?_;refine xa ?_;refine cu (v:=.sl 3 (D9.needs.map aT.D)) ?_;refine lr ?_;refine aA ?_;refine cu (v:=.sl 3 (D9.bars.map fE.D)) ?_;refine lr ?_;refine aA ?_;refine lr ?_;refine kn ?_;refine bD ?_;decide
def C69 (Γ:Ctx):Prop:=Γ.pre 69 []∧Γ.val 69 []=.bool true
end Go.Abs
end
section
namespace Go.Abs
open Go
end Go.Abs
end
section
namespace Go.Abs
open Go
def uy:aB:=⟨2,5,[⟨2,none⟩],cv,(sq (rg [gb 4 s0,gb 4 s1,gm c9] [(3,0),(4,1),(2,2)]) (sq (r1 [gf 0 s3,gd l0,gf 0 s4,gd l2,aF l1 l3,gm l4,pc 5 1 s3,nF 5 l6,pc 5 1 s4,nF 5 l8,cG 5 (cM l7 l9),fR l5 l10,gm jx,pc 12 3 s3,nF 12 me,pc 12 3 s4,nF 12 nV,cG 12 (.eqA false false [.b] mV pP),fR kJ tP,gm uV,pc 19 2 s3,nF 19 yZ,pc 19 2 s4,nF 19 BU,cG 19 (.call 226 [Ab,Fg] [[.sl 1 [.a]],[.sl 1 [.a]]]),fR vZ Fh,gm Fi] 2 26) .ret))⟩
def w477 {Γ:Ctx}(hm:(Γ.at 0).bq)(h226:JF Γ)(a:aX)(b:aX)   :dX Γ uy (.bool (decide (a=b))) [aX.D a,aX.D b]:=by
 show bB _ _ _ [⟨_,_⟩,⟨_,_⟩,_,_,_] _;refine ak ?_;refine N7 ?_;refine NL (hb:=eqBb _ _) ?_;refine aP ?_;refine aj (hc:=h226 _ _) ?_;refine aA ?_;refine bD ?_;rw[aX.rS a b]
def Ml (Γ:Ctx):Prop:=∀(a:aX)(b:aX),Γ.pre 477 [aX.D a,aX.D b]∧Γ.val 477 [aX.D a,aX.D b]=.bool (decide (a=b))
def ux:aB:=⟨2,9,[⟨2,none⟩],cv,(sq (rg [gb 3 s0,gb 3 s1,gm c9] [(3,0),(4,1),(2,2)]) (sq (sq (r1 [gf 1 s3,gd l0,gf 1 s4,gd l2,b8 l1 l3,gm l4,gJ 5 2 s3,iR 5 l6,gJ 5 2 s4,iR 5 l8,cb 5 (dY l7 l9),eZ l5 l10,gm jx,gJ 12 0 s3,iR 12 me,cb 12 (.len mV),gJ 12 0 s4,iR 12 pP,cb 12 (.len tP),cb 12 (dY nV uV),eZ kJ vZ] 5 20) (.cond s5 (sq (r1 [gm c9] 2 0) .ret) .skip)) (sq (sq (r1 [gm bF] 6 0) (.block 0 (.loop (sq (sq (r1 [gm s6,gf 0 s3,gd l1,gl l2,aV l0 l3] 7 4) (ir s7 0)) (sq (.block 1 (sq (r2 [gf 0 s3,gd l0,gm s6,ga 4 l1 l2,gk 4 true l3,gf 0 s4,gd l5,gm s6,ga 4 l6 l7,gk 4 true l8,gx 477 [l4,l9] [[.a,.a,.sl 1 [.a],.a],[.a,.a,.sl 1 [.a],.a]],n9 l10] 8 11) (.cond s8 (sq (r1 [gm c9] 2 0) .ret) .skip))) (r1 [gm s6,ar l0 cd,gm l1] 6 2)))))) (sq (r1 [gm sC] 2 0) .ret))))⟩
def w225 {Γ:Ctx}(hm:(Γ.at 0).bq)(h477:Ml Γ)(a:aT)(b:aT)   :dX Γ ux (.bool (decide (a=b))) [aT.D a,aT.D b]:=by
 show bB _ _ _ [⟨_,_⟩,⟨_,_⟩,_,_,_,_,_,_,_] _;refine ak ?_;refine Jz ?_;refine lr ?_;refine ax ?_;refine lr ?_;refine az ?_;refine aq (fun hc0=>?_) (fun hc0=>?_)
 ·simp only[Bool.or_eq_true,Bool.not_eq_true',decide_eq_false_iff_not]at hc0;refine aQ ?_;refine bD ?_;symm;rw[decide_eq_false_iff_not];rintro rfl;simp at hc0
 simp only[Bool.or_eq_false_iff,Bool.not_eq_false',decide_eq_true_eq]at hc0;refine aQ ?_;have hb:=aT.NW hc0.1.1 hc0.1.2 (by omega);refine bp hm (ι:=Nat) (fun i=>[.un,.un,.un,⟨true,.ptr 0 3 0 0⟩,⟨true,.ptr 1 3 0 0⟩,.un,⟨true,.int .i64 (i:Nat)⟩,.un,.un]) (fun i=>[(0,.buf 3 [aT.D a]),(1,.buf 3 [aT.D b])]) 25 (fun i=>i≤a.any.length∧decide (a=b)=ca (fun i=>decide (a.any[i]! =b.any[i]!)) i a.any.length) (fun i=>a.any.length-i) 0 ⟨by omega,hb⟩ (dR [(0,0),(1,1)]) ?_;rintro i ⟨hi,hr⟩;refine aP ?_;intro u0;refine ax ?_;refine cH (fun hc1=>?_) fun hc1=>?_
 ·refine bd ?_;first|refine bV (v:=(aX.D _)) ?_|refine eC (v:=(aX.D _)) ?_
  refine aA ?_;first|refine bV (v:=(aX.D _)) ?_|refine eC (v:=(aX.D _)) ?_
  refine aj (hc:=h477 _ _) ?_;refine ax ?_;refine wp_cond (fun hc2=>?_) (fun hc2=>?_)
  ·simp only[Bool.not_eq_true',decide_eq_false_iff_not]at hc2;refine aP ?_;refine bD ?_;rw[hr,aD (by omega),decide_eq_false hc2];rfl
  simp only[Bool.not_eq_false',decide_eq_true_eq]at hc2;refine bT ?_;exact⟨i+1,⟨by omega,by rw[hr,aD (by omega),decide_eq_true hc2];rfl⟩,by omega,(dR [(0,0),(1,1)])⟩
 refine aP ?_;refine bD ?_;rw[hr,bK (by omega)]
def LZ (Γ:Ctx):Prop:=∀(a:aT)(b:aT),Γ.pre 225 [aT.D a,aT.D b]∧Γ.val 225 [aT.D a,aT.D b]=.bool (decide (a=b))
def Ba:aB:=⟨2,15,[⟨2,none⟩],cv,(sq (rg [gb 9 s0,gb 9 s1,gm c9] [(3,0),(4,1),(2,2)]) (sq (sq (r1 [gf 0 s3,gd l0,gf 0 s4,gd l2,b8 l1 l3,gm l4,gJ 5 1 s3,cb 5 (.ld 5 true l6),gJ 5 1 s4,cb 5 (.ld 5 true l8),cb 5 (.eqA true true [.i .i64,.i .i64,.i .i64,.s,.s] l7 l9),eZ l5 l10,gm jx,gJ 12 6 s3,iR 12 me,cb 12 (.len mV),gJ 12 6 s4,iR 12 pP,cb 12 (.len tP),cb 12 (dY nV uV),eZ kJ vZ,gm yZ,gJ 21 7 s3,iR 21 BU,cb 21 (.len Fg),gJ 21 7 s4,iR 21 Fi,cb 21 (.len Jm),cb 21 (dY Fh KC),eZ Ab LF,gm LG,gJ 30 8 s3,iR 30 l31,cb 30 (.len l32),gJ 30 8 s4,iR 30 l34,cb 30 (.len l35),cb 30 (dY l33 l36),eZ NC l37] 5 38) (.cond s5 (sq (r1 [gm c9] 2 0) .ret) .skip)) (sq (sq (r1 [gm bF] 6 0) (.block 0 (.loop (sq (sq (r1 [gm s6,gf 6 s3,gd l1,gl l2,aV l0 l3] 7 4) (ir s7 0)) (sq (.block 1 (sq (r2 [gf 6 s3,gd l0,gm s6,ga 3 l1 l2,gk 3 true l3,gf 6 s4,gd l5,gm s6,ga 3 l6 l7,gk 3 true l8,gx 225 [l4,l9] [[.sl 4 [.a,.a,.sl 1 [.a],.a],.a,.a],[.sl 4 [.a,.a,.sl 1 [.a],.a],.a,.a]],n9 l10] 8 11) (.cond s8 (sq (r1 [gm c9] 2 0) .ret) .skip))) (r1 [gm s6,ar l0 cd,gm l1] 6 2)))))) (sq (sq (r1 [gm bF] 9 0) (.block 2 (.loop (sq (sq (r1 [gm s9,gf 7 s3,gd l1,gl l2,aV l0 l3] 10 4) (ir lP 2)) (sq (.block 3 (sq (r2 [gf 7 s3,gd l0,gm s9,ga 3 l1 l2,gk 3 true l3,gf 7 s4,gd l5,gm s9,ga 3 l6 l7,gk 3 true l8,gn (.eqA true true [.s,.s,.s] l4 l9)] 11 10) (.cond oS (sq (r1 [gm c9] 2 0) .ret) .skip))) (r1 [gm s9,ar l0 cd,gm l1] 9 2)))))) (sq (sq (r1 [gm bF] 12 0) (.block 4 (.loop (sq (sq (r1 [gm lu,gf 8 s3,gd l1,gl l2,aV l0 l3] 13 4) (ir sQ 4)) (sq (.block 5 (sq (r2 [gf 8 s3,gd l0,gm lu,ga 2 l1 l2,gf 0 l3,gd l4,gf 8 s4,gd l6,gm lu,ga 2 l7 l8,gf 0 l9,gd l10,b8 l5 jx,gm kJ,gJ 13 8 s3,iR 13 mV,fj 13 lu,cb 13 (.ia 2 nV pP),gJ 13 1 tP,iR 13 uV,gJ 13 8 s4,iR 13 yZ,fj 13 lu,cb 13 (.ia 2 Ab BU),gJ 13 1 Fg,iR 13 Fh,cb 13 (.call 226 [vZ,Fi] [[.sl 1 [.a]],[.sl 1 [.a]]]),cb 13 (.un .not Jm),eZ me KC] 14 28) (.cond sk (sq (r1 [gm c9] 2 0) .ret) .skip))) (r1 [gm lu,ar l0 cd,gm l1] 12 2)))))) (sq (r1 [gm sC] 2 0) .ret))))))⟩
def w78 {Γ:Ctx}(hm:(Γ.at 0).bq)(h225:LZ Γ)(h226:JF Γ)(a:Rec)(b:Rec)   :dX Γ Ba (.bool (decide (a=b))) [Rec.D a,Rec.D b]:=by
 show bB _ _ _ [⟨_,_⟩,⟨_,_⟩,_,_,_,_,_,_,_,_,_,_,_,_,_] _;refine ak ?_;refine kn ?_;refine cu (v:=(df.D _)) ?_;refine ay ?_;refine cu (v:=(df.D _)) ?_;refine Jq (hb:=df.eq _ _) ?_;refine aA ?_;refine lr ?_;refine ax ?_;refine lr ?_;refine aQ ?_;refine lr ?_;refine ax ?_;refine lr ?_;refine aQ ?_;refine lr ?_;refine ax ?_;refine lr ?_;refine az ?_;refine aq (fun hc0=>?_) (fun hc0=>?_)
 ·simp only[Bool.or_eq_true,Bool.not_eq_true',decide_eq_false_iff_not]at hc0;refine aQ ?_;refine bD ?_;symm;rw[decide_eq_false_iff_not];rintro rfl;simp at hc0
 simp only[Bool.or_eq_false_iff,Bool.not_eq_false',decide_eq_true_eq]at hc0;refine aQ ?_;have hb:=lf (show a.needs.length=b.needs.length by omega);refine bp hm (ι:=Nat) (fun i=>[.un,.un,.un,⟨true,.ptr 0 9 0 0⟩,⟨true,.ptr 1 9 0 0⟩,.un,⟨true,.int .i64 (i:Nat)⟩,.un,.un,.un,.un,.un,.un,.un,.un]) (fun i=>[(0,.buf 9 [Rec.D a]),(1,.buf 9 [Rec.D b])]) 43 (fun i=>i≤a.needs.length∧decide (a.needs=b.needs)=ca (fun i=>decide (a.needs[i]! =b.needs[i]!)) i a.needs.length) (fun i=>a.needs.length-i) 0 ⟨by omega,hb⟩ (dR [(0,0),(1,1)]) ?_;rintro i ⟨hi,hr⟩;refine aP ?_;intro u0;refine ax ?_;refine cH (fun hc1=>?_) fun hc1=>?_
 ·refine bd ?_;first|refine bV (v:=(aT.D _)) ?_|refine eC (v:=(aT.D _)) ?_
  refine aA ?_;first|refine bV (v:=(aT.D _)) ?_|refine eC (v:=(aT.D _)) ?_
  refine aj (hc:=h225 _ _) ?_;refine ax ?_;refine wp_cond (fun hc2=>?_) (fun hc2=>?_)
  ·simp only[Bool.not_eq_true',decide_eq_false_iff_not]at hc2;refine aP ?_;refine bD ?_;have hd:decide (a.needs=b.needs)=false:=by rw[hr,aD (by omega),decide_eq_false hc2];rfl
   rw[Rec.rS a b,hd];simp
  simp only[Bool.not_eq_false',decide_eq_true_eq]at hc2;refine bT ?_;exact⟨i+1,⟨by omega,by rw[hr,aD (by omega),decide_eq_true hc2];rfl⟩,by omega,(dR [(0,0),(1,1)])⟩
 refine aA ?_;have hn:decide (a.needs=b.needs)=true:=by rw[hr,bK (by omega)]
 refine ax ?_;have hb:=lf (show a.bars.length=b.bars.length by omega);refine bp hm (ι:=Nat) (fun i=>[.un,.un,.un,⟨true,.ptr 0 9 0 0⟩,⟨true,.ptr 1 9 0 0⟩,.un,.un,.un,.un,⟨true,.int .i64 (i:Nat)⟩,.un,.un,.un,.un,.un]) (fun i=>[(0,.buf 9 [Rec.D a]),(1,.buf 9 [Rec.D b])]) 49 (fun i=>i≤a.bars.length∧decide (a.bars=b.bars)=ca (fun i=>decide (a.bars[i]! =b.bars[i]!)) i a.bars.length) (fun i=>a.bars.length-i) 0 ⟨by omega,hb⟩ (dR [(0,0),(1,1)]) ?_;rintro i ⟨hi,hr⟩;refine aP ?_;intro u1;refine ax ?_;refine cH (fun hc3=>?_) fun hc3=>?_
 ·refine bd ?_;first|refine bV (v:=(fE.D _)) ?_|refine eC (v:=(fE.D _)) ?_
  refine aA ?_;first|refine bV (v:=(fE.D _)) ?_|refine eC (v:=(fE.D _)) ?_
  refine Jq (hb:=fE.eq _ _) ?_;refine ay ?_;refine wp_cond (fun hc4=>?_) (fun hc4=>?_)
  ·simp only[Bool.not_eq_true',decide_eq_false_iff_not]at hc4;refine aP ?_;refine bD ?_;have hd:decide (a.bars=b.bars)=false:=by rw[hr,aD (by omega),decide_eq_false hc4];rfl
   rw[Rec.rS a b,hd];simp
  simp only[Bool.not_eq_false',decide_eq_true_eq]at hc4;refine bT ?_;exact⟨i+1,⟨by omega,by rw[hr,aD (by omega),decide_eq_true hc4];rfl⟩,by omega,(dR [(0,0),(1,1)])⟩
 refine aA ?_;have hbr:decide (a.bars=b.bars)=true:=by rw[hr,bK (by omega)]
 refine ax ?_;have hb:=lf (show a.feats.length=b.feats.length by omega);refine bp hm (ι:=Nat) (fun i=>[.un,.un,.un,⟨true,.ptr 0 9 0 0⟩,⟨true,.ptr 1 9 0 0⟩,.un,.un,.un,.un,.un,.un,.un,⟨true,.int .i64 (i:Nat)⟩,.un,.un]) (fun i=>[(0,.buf 9 [Rec.D a]),(1,.buf 9 [Rec.D b])]) 55 (fun i=>i≤a.feats.length∧decide (a.feats=b.feats)=ca (fun i=>decide (a.feats[i]! =b.feats[i]!)) i a.feats.length) (fun i=>a.feats.length-i) 0 ⟨by omega,hb⟩ (dR [(0,0),(1,1)]) ?_;rintro i ⟨hi,hr⟩;refine aP ?_;intro u2;refine ax ?_;refine cH (fun hc5=>?_) fun hc5=>?_
 ·refine Oa ?_;refine aj (hc:=h226 _ _) ?_;refine az ?_;refine wp_cond (fun hc6=>?_) (fun hc6=>?_)
  ·simp only[Bool.or_eq_true,Bool.not_eq_true',decide_eq_false_iff_not]at hc6;replace hc6:¬a.feats[i]! =b.feats[i]! :=fun e=>by rw[e]at hc6;simp at hc6
   refine aP ?_;refine bD ?_;have hd:decide (a.feats=b.feats)=false:=by rw[hr,aD (by omega),decide_eq_false hc6];rfl
   rw[Rec.rS a b,hd];simp
  simp only[Bool.or_eq_false_iff,Bool.not_eq_false',decide_eq_true_eq]at hc6;replace hc6:a.feats[i]! =b.feats[i]! :=bj.eq2 hc6.1 hc6.2;refine bT ?_;exact⟨i+1,⟨by omega,by rw[hr,aD (by omega),decide_eq_true hc6];rfl⟩,by omega,(dR [(0,0),(1,1)])⟩
 refine aP ?_;refine bD ?_;have hf:decide (a.feats=b.feats)=true:=by rw[hr,bK (by omega)]
 rw[Rec.rS a b,hn,hbr,hf,decide_eq_true hc0.1.1.1.1,decide_eq_true hc0.1.1.1.2];rfl
def C78 (Γ:Ctx):Prop:=∀(a:Rec)(b:Rec),Γ.pre 78 [Rec.D a,Rec.D b]∧Γ.val 78 [Rec.D a,Rec.D b]=.bool (decide (a=b))
end Go.Abs
end
section
namespace Go.Abs
open Go
def qL:aB:=⟨1,10,kC,cv,(sq (r1 [gm c9] 1 0) (sq (r1 [gm s0,gm s0,gx 228 [l1,(i6 80),AJ] [[.sl 1 [.a]],[.a],[.a]],gx 79 [l0,bF,l2] [[.sl 1 [.a]],[.a],[.a]],gb 9 (.c (.agg [.str [],.int .i64 0,.int .i64 0,.int .i64 0,.str [],.str [],.av,.av,.av])),gt 9 l4 l3] 2 4) (sq (rg [gk 9 true s2,gx 70 [l0] [[.a,.a,.a,.a,.a,.a,.sl 3 [.sl 4 [.a,.a,.sl 1 [.a],.a],.a,.a],.sl 3 [.a,.a,.a],.sl 2 [.a,.sl 1 [.a]]]],gm l1,ge l2 0,ge l2 1,gm l3,gm l4] [(4,5),(5,6)]) (sq (rg [gk 9 true s2,gx 72 [l0] [[.a,.a,.a,.a,.a,.a,.sl 3 [.sl 4 [.a,.a,.sl 1 [.a],.a],.a,.a],.sl 3 [.a,.a,.a],.sl 2 [.a,.sl 1 [.a]]]],gm l1,ge l2 0,ge l2 1,gm l3,gm l4] [(3,5),(6,6)]) (sq (rg [gm s3,gx 76 [l0] cv,gm l1,ge l2 0,ge l2 1,ge l2 2,gb 9 (.c (.agg [.str [],.int .i64 0,.int .i64 0,.int .i64 0,.str [],.str [],.av,.av,.av])),gt 9 l6 l3,gm l4,gm l5] [(9,6),(7,8),(8,9)]) (sq (r1 [gx 69 [] [],gm l0,gmt 1 s4,cG 1 (cM l2 bF),fR l1 l3,gm l4,gmt 5 s5,cG 5 (cM l6 bF),fR l5 l7,gm l8,gmt 9 s6,cG 9 (cM l10 bF),fR l9 jx,gm kJ,gmt 13 s7,cG 13 (cM mV bF),fR me nV,gm pP,gmt 17 s8,cG 17 (cM uV bF),fR tP vZ,gm yZ,cG 21 (.ld 9 true s2),cG 21 (.ld 9 true s9),cG 21 (.call 78 [BU,Fg] [[.a,.a,.a,.a,.a,.a,.sl 3 [.sl 4 [.a,.a,.sl 1 [.a],.a],.a,.a],.sl 3 [.a,.a,.a],.sl 2 [.a,.sl 1 [.a]]],[.a,.a,.a,.a,.a,.a,.sl 3 [.sl 4 [.a,.a,.sl 1 [.a],.a],.a,.a],.sl 3 [.a,.a,.a],.sl 2 [.a,.sl 1 [.a]]]]),fR Ab Fh,gm Fi] 1 26) .ret))))))⟩
def N3 {Γ:Ctx}(hm:(Γ.at 0).bq)(h69:C69 Γ)(h70:C70 Γ)(h72:C72 Γ)(h76:C76 Γ)(h78:C78 Γ)(h79:C79 Γ)(h228:Ae Γ)(l:List Int)   :dX Γ qL (.bool true) [.sl 1 (l.map (D.int .i64))]:=by
 show bB _ _ _ [⟨_,_⟩,_,_,_,_,_,_,_,_,_] _;refine ak ?_;refine az ?_;have ho:=cr l 80 5 (by decide);refine ax ?_;refine aj (hc:=h228 l (80) 5 (by decide)) ?_;refine aj (hc:=h79 l 0 (cP l 80 5) (by decide) (by omega)) ?_;refine ay ?_;refine aJ (Rec.D (jK l 0 (cP l 80 5))) (he:=by exact rfl) ?_;refine ay ?_;have hg:=yP l 0 (cP l 80 5);have hb:=C5 l 0 (cP l 80 5);refine ay ?_;refine cD (d:=Rec.D (jK l 0 (cP l 80 5))) ?_;refine aj (v:=.tup [.int .i64 0,.int .i64 0]) (hc:=by have:=h70 _ hg.sm;rw[hg.check]at this;exact this) ?_;refine bd ?_;refine cD (d:=Rec.D (jK l 0 (cP l 80 5))) ?_;refine aj (v:=.tup [.str (eD (jK l 0 (cP l 80 5))),.int .i64 0]) (hc:=by have:=h72 _ hg.sm;rw[hg.print]at this;exact this) ?_;refine bT ?_;refine aj (v:=.tup [Rec.D (jK l 0 (cP l 80 5)),.int .i64 0,.int .i64 0]) (hc:=by have:=h76 (eD (jK l 0 (cP l 80 5)));rw[hb]at this;exact this) ?_;refine ay ?_;refine fu (Rec.D _) ?_;refine az ?_;refine aJ (Rec.D (jK l 0 (cP l 80 5))) (he:=by exact rfl) ?_;refine aA ?_;refine aj (hc:=h69) ?_;refine Jz ?_;refine cD (d:=Rec.D (jK l 0 (cP l 80 5))) ?_;refine cD (d:=Rec.D (jK l 0 (cP l 80 5))) ?_;refine eB (hc:=fun hf=>h78 (jK l 0 (cP l 80 5)) (jK l 0 (cP l 80 5))) ?_;refine aA ?_;refine bD ?_;simp
end Go.Abs
end
section
namespace Go.Abs
def Ki:List D→Nat
 |_::.int _ (.ofNat 4)::_=>3
 |_=>1
def A69 (T:RT):Prop:=T [] (.bool true)
def A70 (T:RT):Prop:=∀(r:Rec),(kf r)→T [Rec.D r] (.tup [.int .i64 (ch r).1,.int .i64 (ch r).2])
def A72 (T:RT):Prop:=∀(r:Rec),(kf r)→T [Rec.D r] (.tup [.str (jT r).1,.int .i64 (jT r).2])
def A76 (T:RT):Prop:=∀(s:ah),T [.str s] (.tup [Rec.D (e7 s).1,.int .i64 (e7 s).2.1,.int .i64 (e7 s).2.2])
def A78 (T:RT):Prop:=∀(a:Rec)(b:Rec),T [Rec.D a,Rec.D b] (.bool (decide (a=b)))
def A79 (T:RT):Prop:=∀(l:List Int)(i:Int)(own:Int),(0≤i∧i≤1000000)→(0≤own∧own≤100000)→T [.sl 1 (l.map (D.int .i64)),.int .i64 i,.int .i64 own] (Rec.D (jK l i own))
def LL (T:RT):Prop:=∀(s:ah)(b:UInt8),(s.length≤1048576)→T [.str s,.str [b]] (.sl 1 ((ai s b.toNat).map D.str))
def LM (T:RT):Prop:=∀(s:ah),(s.length≤1048576)→T [.str s,.str [124,124]] (.sl 1 ((aM s []).map D.str))
def A124 (T:RT):Prop:=LL T∧LM T
def A208 (T:RT):Prop:=∀(s:ah),T [.str s] (.bool (ea s))
def A209 (T:RT):Prop:=∀(v:df),(v.sm)→T [df.D v] (.bool (ei v))
def A210 (T:RT):Prop:=∀(r:Rec)(n:aT),(n.sm)→T [Rec.D r,aT.D n] (.int .i64 (jg r n))
def A211 (T:RT):Prop:=∀(r:Rec)(name:ah)(rng:ah),(rng.length≤1048576)→T [Rec.D r,.str name,.str rng] (.int .i64 (iO r name rng))
def A212 (T:RT):Prop:=∀(s:ah),T [.str s] (.bool (lK s))
def A213 (T:RT):Prop:=∀(l:List bj),(sG l)→T [.sl 2 (l.map bj.D)] (.bool (fG l))
def A214 (T:RT):Prop:=∀(r:Rec)(s:ah),(s.length≤1048576)→T [Rec.D r,.str s] (.int .i64 (jf r s))
def A215 (T:RT):Prop:=∀(r:Rec),(tK r∧kf r)→T [Rec.D r] (.str (eD r))
def A217 (T:RT):Prop:=∀(v:df),(v.sm)→T [df.D v] (.bool (ei v))
def LN (T:FT):Prop:=∀(r:Ld),(r.sm)→T (Ld.D r) [] (.tup [Rec.D (ep r.rest).1,.bool (oP r.rest).isSome]) (Ld.D (r.to (ep r.rest).2))
def MM:sX (ku LN):=Hr
def A225 (T:RT):Prop:=∀(a:aT)(b:aT),T [aT.D a,aT.D b] (.bool (decide (a=b)))
def A226 (T:RT):Prop:=∀(a:List ah)(b:List ah),T [.sl 1 (a.map D.str),.sl 1 (b.map D.str)] (.bool (decide (a=b)))
def A227 (T:RT):Prop:=∀(n:Int),T [.int .i64 n] (.str (cI n))
def A228 (T:RT):Prop:=∀(l:List Int)(i:Int)(n:Int),(0<n∧n≤9223372036854775807)→T [.sl 1 (l.map (D.int .i64)),.int .i64 i,.int .i64 n] (.int .i64 (cP l i n))
def A229 (T:RT):Prop:=∀(l:List Int)(i:Int)(own:Int),(0≤i∧i≤2000000)→(0≤own∧own≤1000000)→T [.sl 1 (l.map (D.int .i64)),.int .i64 i,.int .i64 own] (aT.D (dQ l i own))
def A230 (T:RT):Prop:=∀(l:List Int)(i:Int),(0≤i∧i≤4000000)→T [.sl 1 (l.map (D.int .i64)),.int .i64 i] (.str (mN l i))
def A231 (T:RT):Prop:=∀(l:List Int)(i:Int),(0≤i∧i≤4000000)→T [.sl 1 (l.map (D.int .i64)),.int .i64 i] (.str (gP l i))
def A232 (T:RT):Prop:=∀(l:List Int)(i:Int)(r:Rec),(0≤i∧i≤2000000)→(∀j:Nat,j<r.needs.length→r.needs[j]!.option.length≤100∧(r.needs[j]!.any.length=1→r.needs[j]!.any[0]!.name.length≤100))→T [.sl 1 (l.map (D.int .i64)),.int .i64 i,Rec.D r] (.sl 2 ((fh l i r).map bj.D))
def A242 (T:RT):Prop:=∀(l:List ah)(sep:ah),(l.length≤1048600)→(sep.length≤4)→(∀t∈l,t.length≤2097200)→T [.sl 1 (l.map D.str),.str sep] (.str (aG sep l))
def A245 (T:RT):Prop:=∀(s:ah)(n:Int),(s.length≤1048576)→(n=-1∨(1≤n∧n≤1000))→T [.str s,.str [32],.int .i64 n] (.sl 1 ((gF n s).map D.str))
def A246 (T:RT):Prop:=∀(l:List ah)(x:ah),T [.sl 1 (l.map D.str),.str x] (.bool (decide (x∈l)))
def A249 (T:RT):Prop:=∀(l:List ah)(x:UInt8),((aG [x] l).length≤1099511627776)→T [.sl 1 (l.map D.str),.int .u8 (x.toNat:Nat)] (.str (aG [x] l))
def A254 (T:RT):Prop:=∀(s:ah)(p:ah),(s.length≤1048576)→(p.length≤1048576)→T [.str s,.str p] (.tup [.str (cY s p).1,.bool (cY s p).2])
def A336 (T:RT):Prop:=∀(n:Int),(0≤n∧n≤9999)→T [.int .i64 n] (.str (bR n.toNat))
def A349 (T:RT):Prop:=∀(s:ah),T [.str s] (.bool (bI s))
def A440 (T:RT):Prop:=∀(n:Int),T [.int .i64 n] (.bool (pH n))
def A441 (T:RT):Prop:=∀(s:ah),(s.length≤1048576)→T [.str s] (.bool (ji s true))
def A442 (T:RT):Prop:=∀(s:ah),(s.length≤1048576)→T [.str s] (.bool (ji s false))
def A443 (T:RT):Prop:=∀(r:Rec)(w:aX)(al:Bool),(w.sm)→T [Rec.D r,aX.D w,.bool al] (.int .i64 (jX r w al))
def A444 (T:RT):Prop:=∀(s:ah),(s.length≤1048576)→T [.str s] (.bool (nK s))
def A445 (T:RT):Prop:=∀(s:ah),T [.str s] (.tup [j3 (lL s).1,.int .i64 (lL s).2])
def A446 (T:RT):Prop:=∀(m:I5),T [j3 m] (.str (LI m))
def A447 (T:RT):Prop:=∀(l:List ah),T [.sl 1 (l.map D.str)] (.bool (rising l))
def A448 (T:RT):Prop:=∀(s:ah),(s.length≤1048576)→T [.str s] (.tup [.int .i64 (cg s).1,.str (cg s).2.1,.str (cg s).2.2])
def A449 (T:RT):Prop:=∀(l:List bj)(nm:ah),T [.sl 2 (l.map bj.D),.str nm] (.bool (LD l nm))
def A451 (T:RT):Prop:=∀(v:df),(v.sm)→T [df.D v] (.str (iM v))
def A454 (T:RT):Prop:=∀(c:Int),T [.int .u8 c] (.bool (aH c))
def A455 (T:RT):Prop:=∀(n:Int),T [.int .i64 n] (.bool (pH n))
def A456 (T:RT):Prop:=∀(s:ah)(p:Bool),(s.length≤1048576)→T [.str s,.bool p] (.bool (lZ s p))
def LO (T:FT):Prop:=∀(r:Ld)(w:ah)(n:Nat)(op:Bool),(r.sm)→(n≤1000)→(op=true→1≤n)→T (Ld.D r) [.str w,.int .i64 (n:Nat),.bool op] (.tup [vr (bc w n op r.rest),.bool (bc w n op r.rest).isSome]) (Ld.D (r.after (bc w n op r.rest)))
def MN:sX (ku LO):=Hr
def A466 (T:RT):Prop:=∀(s:ah),(s.length≤1048576)→T [.str s] (.tup [df.D ((kG s).getD jb),.int .i64 (uN s)])
def LP (T:FT):Prop:=∀(r:Ld),(r.sm)→T (Ld.D r) [] (aT.D (cX r.rest).1) (Ld.D (r.to (cX r.rest).2))
def MO:sX (ku LP):=Hr
def LR (T:FT):Prop:=∀(r:Ld),(r.sm)→T (Ld.D r) [] (.str (bo r.rest).1) (Ld.D (r.to (bo r.rest).2))
def MP:sX (ku LR):=Hr
def A469 (T:RT):Prop:=∀(l:List ah),(l.length≤1048600)→T [.sl 1 (l.map D.str)] (.sl 1 (l.map D.str))
def A470 (T:RT):Prop:=∀(s:ah)(b:Int),(s.length≤1048576)→T [.str s,.int .u8 b] (.sl 1 ((ai s b).map D.str))
def A477 (T:RT):Prop:=∀(a:aX)(b:aX),T [aX.D a,aX.D b] (.bool (decide (a=b)))
def A478 (T:RT):Prop:=∀(v:Int)(n:Int),(0<n∧n≤9223372036854775807)→T [.int .i64 v,.int .i64 n] (.int .i64 (v%n))
def A479 (T:RT):Prop:=∀(l:List Int)(i:Int),T [.sl 1 (l.map (D.int .i64)),.int .i64 i] (.int .i64 (gh l i))
def A480 (T:RT):Prop:=∀(l:List Int)(i:Int)(own:Int)(alone:Bool),(0≤i∧i≤3000000)→(0≤own∧own≤1000000)→T [.sl 1 (l.map (D.int .i64)),.int .i64 i,.int .i64 own,.bool alone] (aX.D (gQ l i own alone))
def A481 (T:RT):Prop:=∀(n:Int),T [.int .i64 n] (.str (gR n))
def A482 (T:RT):Prop:=∀(c:b7),(c.v.sm)→T [b7.D c] (.str (cV c))
def A483 (T:RT):Prop:=∀(l:List ah)(s:ah),(l.length≤1000)→T [.sl 1 (l.map D.str),.str s] (.sl 1 ((dL l s).map D.str))
def A487 (T:RT):Prop:=∀(s:ah)(b:UInt8),(s.length≤1048576)→T [.str s,.str [b]] (.tup [.str (dW s b).1,.str (dW s b).2.1,.bool (dW s b).2.2])
def A494 (T:RT):Prop:=∀(l:List ah)(x:ah),T [.sl 1 (l.map D.str),.str x] (.int .i64 (pM l x 0))
def A495 (T:RT):Prop:=∀(s:ah),(s.length≤1048576)→T [.str s] (.tup [ik (iZ s).1,.int .i64 (iZ s).2])
def A496 (T:RT):Prop:=∀(r:xd),(nb r)→T [ik r] (.str (wy r))
def A533 (T:RT):Prop:=∀(s:ah)(b:Int),(s.length≤1048576)→T [.str s,.int .u8 b] (.sl 1 ((ai s b).map D.str))
def A658 (T:RT):Prop:=∀(s:ah),T [.str s] (.tup [.int .i64 (cW s),.bool (dJ s)])
def A659 (T:RT):Prop:=∀(t:ah),T [.str t] (.bool (dp t))
def A661 (T:RT):Prop:=∀(m:I5),T [j3 m] (.bool (vn m))
def A662 (T:RT):Prop:=∀(l:List Nd),(fH l∧l.length≤15)→T [.sl 5 (l.map Nd.D)] (.str (oZ l))
def A663 (T:RT):Prop:=∀(l:List bj)(nm:ah),T [.sl 2 (l.map bj.D),.str nm] (.int .i64 (findF l nm 0))
def A665 (T:RT):Prop:=∀(n:Int),(0≤n∧n≤9999)→T [.int .i64 n] (.str (bR n.toNat))
def A666 (T:RT):Prop:=∀(t:ah),T [.str t] (.bool (mi t))
def A667 (T:RT):Prop:=∀(s:ah),T [.str s] (.tup [.int .i64 (cW s),.bool (dJ s)])
def A668 (T:RT):Prop:=∀(t:ah),T [.str t] (.bool (dp t))
def A675 (T:RT):Prop:=∀(s:ah)(b:Int),T [.str s,.int .u8 b] (.tup [.str (cK s b).1,.str (cK s b).2])
def A676 (T:RT):Prop:=∀(c:b7),(c.v.sm)→T [b7.D c] (.bool (iQ c))
def A678 (T:RT):Prop:=∀(op:Int),T [.int .i64 op] (.str (bQ op))
def A682 (T:RT):Prop:=∀(s:ah),(s.length≤1048575)→T [.str s] (.tup [b7.D ((gO s).getD dw),.int .i64 (if(gO s).isSome=true then 0 else 6)])
def A683 (T:RT):Prop:=∀(s:ah)(b:UInt8),(b=32)→(s.length≤1048576)→T [.str s,.str [b]] (.str (en s))
def A684 (T:RT):Prop:=∀(r:xd),(nb r)→T [ik r] (.tup [.str (if kq r=true then DS r else []),.bool (kq r)])
def A685 (T:RT):Prop:=∀(r:xd),(nb r)→T [ik r] (.bool (qN r))
def A734 (T:RT):Prop:=∀(n:Int),(0≤n∧n≤9999)→T [.int .i64 n] (.str (bR n.toNat))
def A810 (T:RT):Prop:=∀(l:List Nd),T [.sl 5 (l.map Nd.D)] (.bool (decide (l.length≤15)&&nk l))
def A811 (T:RT):Prop:=∀(l:List Nd)(i:Int),(fH l∧l.length≤15∧0≤i∧i<l.length)→T [.sl 5 (l.map Nd.D),.int .i64 i] (.str (kF l i))
def u811:List D→Nat:=fun ds=>2*(match ds.getD 1 .any with| .int _ i=>i.toNat|_=>0)
def A819 (T:RT):Prop:=∀(s:ah),(s.length≤1048576)→T [.str s] (.tup [b7.D ((dI s).getD dw),.bool (dI s).isSome])
def A827 (T:RT):Prop:=∀(c:b7),(c.v.sm)→T [b7.D c] (.bool (iQ c))
def A828 (T:RT):Prop:=∀(c:b7),(c.v.sm)→T [b7.D c] (.str (cV c))
def A882 (T:RT):Prop:=∀(n:Nat),(n≤9999)→T [.int .u64 (n:Nat)] (.str (bR n))
def A946 (T:RT):Prop:=∀(w:List ah)(es:List D)(b:Bool),T [.ref 3 [ek w (.sl 5 es) b] 0 0] (.str (bM w))
def A950 (T:RT):Prop:=T [] (.sl 1 (lY.map D.str))
def A951 (T:RT):Prop:=∀(l:List Nd)(i:Int)(b:Bool),(fH l∧l.length≤15∧0≤i∧i<l.length)→T [.sl 5 (l.map Nd.D),.int .i64 i,.bool b] (.str (jY (kF l i) b))
def u951:List D→Nat:=fun ds=>2*(match ds.getD 1 .any with| .int _ i=>i.toNat|_=>0)+1
def A956 (T:RT):Prop:=∀(s:ah)(w:ah),T [.str s,.str w] (.bool (qk s w))
def A957 (T:RT):Prop:=∀(op:Int),T [.int .i64 op] (.str (bQ op))
def IX (T:RT):Prop:=∀(l:List Int),T [.sl 1 (l.map (D.int .i64))] (.bool true)
def ML:MQ (xD IX):=bE
def a8:List (Nat×nS):=[(69,rP 16 A69),(70,rP 14 A70),(72,rP 15 A72),(76,rP 15 A76),(78,rP 4 A78),(79,rP 10 A79),(124,rP 1 A124),(208,rP 1 A208),(209,rP 4 A209),(210,rP 13 A210),(211,rP 11 A211),(212,rP 6 A212),(213,rP 3 A213),(214,rP 3 A214),(215,rP 6 A215),(217,rP 4 A217),(222,rF 7 LN),(225,rP 3 A225),(226,rP 1 A226),(227,rP 2 A227),(228,rP 2 A228),(229,rP 9 A229),(230,rP 7 A230),(231,rP 3 A231),(232,rP 2 A232),(242,rP 1 A242),(245,rP 1 A245),(246,rP 2 A246),(249,rP 1 A249),(254,rP 1 A254),(336,rP 1 A336),(349,rP 1 A349),(440,rP 1 A440),(441,rP 3 A441),(442,rP 2 A442),(443,rP 12 A443),(444,rP 10 A444),(445,rP 5 A445),(446,rP 5 A446),(447,rP 1 A447),(448,rP 2 A448),(449,rP 2 A449),(450,rG 2 JL),(451,rP 5 A451),(452,rG 1 JN),(454,rP 1 A454),(455,rP 1 A455),(456,rP 3 A456),(465,rFG 3 LO Bv),(466,rP 6 A466),(467,rF 5 LP),(468,rF 4 LR),(469,rP 1 A469),(470,rP 1 A470),(477,rP 2 A477),(478,rP 1 A478),(479,rP 1 A479),(480,rP 8 A480),(481,rP 2 A481),(482,rP 6 A482),(483,rP 1 A483),(487,rP 1 A487),(489,rG 1 JQ),(494,rP 1 A494),(495,rP 9 A495),(496,rP 8 A496),(533,rP 1 A533),(658,rP 1 A658),(659,rP 1 A659),(660,rG 4 JR (Ft fun _=>4)),(661,rP 4 A661),(662,rP 3 A662),(663,rP 1 A663),(664,rG 1 JU),(665,rP 2 A665),(666,rP 1 A666),(667,rP 2 A667),(668,rP 1 A668),(675,rP 1 A675),(676,rP 5 A676),(677,rG 3 JW),(678,rP 1 A678),(682,rP 8 A682),(683,rP 1 A683),(684,rP 7 A684),(685,rP 8 A685),(734,rP 2 A734),(808,rG 4 C808 (Ft Ki)),(809,rG 4 C809 (Ft fun _=>2)),(810,rP 2 A810),(811,rP 2 A811 u811),(819,rP 7 A819),(827,rP 5 A827),(828,rP 6 A828),(882,rP 1 A882),(946,rP 1 A946),(947,rG 2 Cv),(948,rG 1 El),(949,rG 4 C949 (Ft fun _=>0)),(950,rP 1 A950),(951,rP 2 A951 u951),(956,rP 1 A956),(957,rP 1 A957),(1031,rG 3 Ee),(1191,rP 17 IX)]
variable {k u v:Nat}
def G69 (hk:16<k:=by decide):C69 (under a8 k u):=dA bE (.inl hk) fun T hT=>hT
def G70 (hk:14<k:=by decide):C70 (under a8 k u):=fun r hp0=>dA bE (.inl hk) fun T hT=>hT r hp0
def G72 (hk:15<k:=by decide):C72 (under a8 k u):=fun r hp0=>dA bE (.inl hk) fun T hT=>hT r hp0
def G76 (hk:15<k:=by decide):C76 (under a8 k u):=fun s=>dA bE (.inl hk) fun T hT=>hT s
def G78 (hk:4<k:=by decide):C78 (under a8 k u):=fun a b=>dA bE (.inl hk) fun T hT=>hT a b
def G79 (hk:10<k:=by decide):C79 (under a8 k u):=fun l i own hp0 hp1=>dA bE (.inl hk) fun T hT=>hT l i own hp0 hp1
def G9 (hk:1<k:=by decide):Ef (under a8 k u):=fun s b hp=>dA bE (.inl hk) fun T h=>h.1 s b hp
def Ng (hk:1<k:=by decide):IZ (under a8 k u):=fun s hp=>dA bE (.inl hk) fun T h=>h.2 s hp
def J1 (hk:1<k:=by decide):G1 (under a8 k u):=fun s=>dA bE (.inl hk) fun T hT=>hT s
def Ha (hk:4<k:=by decide):Eg (under a8 k u):=fun v hp0=>dA bE (.inl hk) fun T hT=>hT v hp0
def G210 (hk:13<k:=by decide):LU (under a8 k u):=fun r n hp0=>dA bE (.inl hk) fun T hT=>hT r n hp0
def MS (hk:11<k:=by decide):JC (under a8 k u):=fun r name rng hp0=>dA bE (.inl hk) fun T hT=>hT r name rng hp0
def MT (hk:6<k:=by decide):JD (under a8 k u):=fun s=>dA bE (.inl hk) fun T hT=>hT s
def G213 (hk:3<k:=by decide):LV (under a8 k u):=fun l hp0=>dA bE (.inl hk) fun T hT=>hT l hp0
def G214 (hk:3<k:=by decide):LW (under a8 k u):=fun r s hp0=>dA bE (.inl hk) fun T hT=>hT r s hp0
def MU (hk:6<k:=by decide):JE (under a8 k u):=fun r hp0=>dA bE (.inl hk) fun T hT=>hT r hp0
def G217 (hk:4<k:=by decide):LX (under a8 k u):=fun v hp0=>dA bE (.inl hk) fun T hT=>hT v hp0
def G222 (hk:7<k:=by decide):LY (under a8 k u):=fun r hp0=>okf MM hk fun T h=>h r hp0
def G225 (hk:3<k:=by decide):LZ (under a8 k u):=fun a b=>dA bE (.inl hk) fun T hT=>hT a b
def MV (hk:1<k:=by decide):JF (under a8 k u):=fun a b=>dA bE (.inl hk) fun T hT=>hT a b
def MW (hk:2<k:=by decide):JG (under a8 k u):=fun n=>dA bE (.inl hk) fun T hT=>hT n
def Cx (hk:2<k:=by decide):Ae (under a8 k u):=fun l i n hp0=>dA bE (.inl hk) fun T hT=>hT l i n hp0
def G229 (hk:9<k:=by decide):L0 (under a8 k u):=fun l i own hp0 hp1=>dA bE (.inl hk) fun T hT=>hT l i own hp0 hp1
def MX (hk:7<k:=by decide):JH (under a8 k u):=fun l i hp0=>dA bE (.inl hk) fun T hT=>hT l i hp0
def MY (hk:3<k:=by decide):JI (under a8 k u):=fun l i hp0=>dA bE (.inl hk) fun T hT=>hT l i hp0
def G232 (hk:2<k:=by decide):L1 (under a8 k u):=fun l i r hp0 hp1=>dA bE (.inl hk) fun T hT=>hT l i r hp0 hp1
def J2 (hk:1<k:=by decide):G2 (under a8 k u):=fun l sep hp0 hp1 hp2=>dA bE (.inl hk) fun T hT=>hT l sep hp0 hp1 hp2
def MZ (hk:1<k:=by decide):L2 (under a8 k u):=fun s n hp0 hp1=>dA bE (.inl hk) fun T hT=>hT s n hp0 hp1
def M0 (hk:2<k:=by decide):L3 (under a8 k u):=fun l x=>dA bE (.inl hk) fun T hT=>hT l x
def G249 (hk:1<k:=by decide):L4 (under a8 k u):=fun l x hp0=>dA bE (.inl hk) fun T hT=>hT l x hp0
def G254 (hk:1<k:=by decide):L5 (under a8 k u):=fun s p hp0 hp1=>dA bE (.inl hk) fun T hT=>hT s p hp0 hp1
def G336 (hk:1<k:=by decide):L6 (under a8 k u):=fun n hp0=>dA bE (.inl hk) fun T hT=>hT n hp0
def Cy (hk:1<k:=by decide):Af (under a8 k u):=fun s=>dA bE (.inl hk) fun T hT=>hT s
def G440 (hk:1<k:=by decide):L7 (under a8 k u):=fun n=>dA bE (.inl hk) fun T hT=>hT n
def G441 (hk:3<k:=by decide):L8 (under a8 k u):=fun s hp0=>dA bE (.inl hk) fun T hT=>hT s hp0
def M1 (hk:2<k:=by decide):JJ (under a8 k u):=fun s hp0=>dA bE (.inl hk) fun T hT=>hT s hp0
def G443 (hk:12<k:=by decide):L9 (under a8 k u):=fun r w al hp0=>dA bE (.inl hk) fun T hT=>hT r w al hp0
def G444 (hk:10<k:=by decide):Ma (under a8 k u):=fun s hp0=>dA bE (.inl hk) fun T hT=>hT s hp0
def G445 (hk:5<k:=by decide):Mb (under a8 k u):=fun s=>dA bE (.inl hk) fun T hT=>hT s
def G446 (hk:5<k:=by decide):Mc (under a8 k u):=fun m=>dA bE (.inl hk) fun T hT=>hT m
def G447 (hk:1<k:=by decide):Md (under a8 k u):=fun l=>dA bE (.inl hk) fun T hT=>hT l
def M3 (hk:2<k:=by decide):JK (under a8 k u):=fun s hp0=>dA bE (.inl hk) fun T hT=>hT s hp0
def G449 (hk:2<k:=by decide):Me (under a8 k u):=fun l nm=>dA bE (.inl hk) fun T hT=>hT l nm
def G450 (hk:2<k:=by decide):JL (under a8 k u):=fun ws t l lw nx m K h1 h2 h3 h4 h5 hK=>A2 (.inl hk) fun T _ h=>h ws t l lw nx m K h1 h2 h3 h4 h5 hK
def M4 (hk:5<k:=by decide):JM (under a8 k u):=fun v hp0=>dA bE (.inl hk) fun T hT=>hT v hp0
def G452 (hk:1<k:=by decide):JN (under a8 k u):=fun ds st K h1=>A2 (.inl hk) fun T _ h=>h ds st K h1
def G454 (hk:1<k:=by decide):Mf (under a8 k u):=fun c=>dA bE (.inl hk) fun T hT=>hT c
def G455 (hk:1<k:=by decide):Mg (under a8 k u):=fun n=>dA bE (.inl hk) fun T hT=>hT n
def G456 (hk:3<k:=by decide):Mh (under a8 k u):=fun s p hp0=>dA bE (.inl hk) fun T hT=>hT s p hp0
def M5 (hk:3<k:=by decide):G3 (under a8 k u):=fun r w n op hp0 hp1 hp2=>okf MN hk fun T h=>h r w n op hp0 hp1 hp2
def Nh (hk:3<k:=by decide):Bv (under a8 k u):=fun r w n op l nx m K h1 h2 h3 h4 hK=>A2 (.inl hk) fun T _ h=>h r w n op l nx m K h1 h2 h3 h4 hK
def G466 (hk:6<k:=by decide):Mi (under a8 k u):=fun s hp0=>dA bE (.inl hk) fun T hT=>hT s hp0
def G467 (hk:5<k:=by decide):JO (under a8 k u):=fun r hp0=>okf MO hk fun T h=>h r hp0
def M6 (hk:4<k:=by decide):G4 (under a8 k u):=fun r hp0=>okf MP hk fun T h=>h r hp0
def G469 (hk:1<k:=by decide):Mj (under a8 k u):=fun l hp0=>dA bE (.inl hk) fun T hT=>hT l hp0
def G470 (hk:1<k:=by decide):Mk (under a8 k u):=fun s b hp0=>dA bE (.inl hk) fun T hT=>hT s b hp0
def G477 (hk:2<k:=by decide):Ml (under a8 k u):=fun a b=>dA bE (.inl hk) fun T hT=>hT a b
def Hb (hk:1<k:=by decide):Eh (under a8 k u):=fun v n hp0=>dA bE (.inl hk) fun T hT=>hT v n hp0
def J3 (hk:1<k:=by decide):G5 (under a8 k u):=fun l i=>dA bE (.inl hk) fun T hT=>hT l i
def G480 (hk:8<k:=by decide):Mm (under a8 k u):=fun l i own alone hp0 hp1=>dA bE (.inl hk) fun T hT=>hT l i own alone hp0 hp1
def M7 (hk:2<k:=by decide):JP (under a8 k u):=fun n=>dA bE (.inl hk) fun T hT=>hT n
def G482 (hk:6<k:=by decide):Mn (under a8 k u):=fun c hp0=>dA bE (.inl hk) fun T hT=>hT c hp0
def G483 (hk:1<k:=by decide):Mo (under a8 k u):=fun l s hp0=>dA bE (.inl hk) fun T hT=>hT l s hp0
def G487 (hk:1<k:=by decide):Mp (under a8 k u):=fun s b hp0=>dA bE (.inl hk) fun T hT=>hT s b hp0
def G489 (hk:1<k:=by decide):JQ (under a8 k u):=fun ds st K h1=>A2 (.inl hk) fun T _ h=>h ds st K h1
def G494 (hk:1<k:=by decide):Mq (under a8 k u):=fun l x=>dA bE (.inl hk) fun T hT=>hT l x
def G495 (hk:9<k:=by decide):Mr (under a8 k u):=fun s hp0=>dA bE (.inl hk) fun T hT=>hT s hp0
def G496 (hk:8<k:=by decide):Ms (under a8 k u):=fun r hp0=>dA bE (.inl hk) fun T hT=>hT r hp0
def Hc (hk:1<k:=by decide):Ei (under a8 k u):=fun s b hp0=>dA bE (.inl hk) fun T hT=>hT s b hp0
def J4 (hk:1<k:=by decide):G6 (under a8 k u):=fun s=>dA bE (.inl hk) fun T hT=>hT s
def G659 (hk:1<k:=by decide):Mt (under a8 k u):=fun t=>dA bE (.inl hk) fun T hT=>hT t
def G660 (hk:4<k:=by decide):JR (under a8 k u):=fun w nd hp0 nx lp ln m K h1 h2 h3 h4 hK=>A2 (.inl hk) fun T _ h=>h w nd hp0 nx lp ln m K h1 h2 h3 h4 hK
def M8 (hv:v≤u):IY (under a8 4 u) v:=fun w nd hp0 hu nx lp ln m K h1 h2 h3 h4 hK=>A2 (.inr ⟨rfl,by rw[show(lk a8 660 jU).muE=Ft fun _=>4 from rfl,jP h1];exact Nat.lt_of_lt_of_le hu hv⟩) fun T _ h=>h w nd hp0 nx lp ln m K h1 h2 h3 h4 hK
def M9 (hk:4<k:=by decide):JS (under a8 k u):=fun m=>dA bE (.inl hk) fun T hT=>hT m
def Na (hk:3<k:=by decide):JT (under a8 k u):=fun l hp0=>dA bE (.inl hk) fun T hT=>hT l hp0
def G663 (hk:1<k:=by decide):Mu (under a8 k u):=fun l nm=>dA bE (.inl hk) fun T hT=>hT l nm
def G664 (hk:1<k:=by decide):JU (under a8 k u):=fun ds st K h1=>A2 (.inl hk) fun T _ h=>h ds st K h1
def Nb (hk:2<k:=by decide):JV (under a8 k u):=fun n hp0=>dA bE (.inl hk) fun T hT=>hT n hp0
def G666 (hk:1<k:=by decide):Mv (under a8 k u):=fun t=>dA bE (.inl hk) fun T hT=>hT t
def G667 (hk:2<k:=by decide):Mw (under a8 k u):=fun s=>dA bE (.inl hk) fun T hT=>hT s
def G668 (hk:1<k:=by decide):Mx (under a8 k u):=fun t=>dA bE (.inl hk) fun T hT=>hT t
def G675 (hk:1<k:=by decide):My (under a8 k u):=fun s b=>dA bE (.inl hk) fun T hT=>hT s b
def G676 (hk:5<k:=by decide):Mz (under a8 k u):=fun c hp0=>dA bE (.inl hk) fun T hT=>hT c hp0
def G677 (hk:3<k:=by decide):JW (under a8 k u):=fun c hp0 nx m K hK=>A2 (.inl hk) fun T _ h=>h c hp0 nx m K hK
def G678 (hk:1<k:=by decide):MA (under a8 k u):=fun op=>dA bE (.inl hk) fun T hT=>hT op
def G682 (hk:8<k:=by decide):MB (under a8 k u):=fun s hp0=>dA bE (.inl hk) fun T hT=>hT s hp0
def G683 (hk:1<k:=by decide):MC (under a8 k u):=fun s b hp0 hp1=>dA bE (.inl hk) fun T hT=>hT s b hp0 hp1
def J5 (hk:7<k:=by decide):G7 (under a8 k u):=fun r hp0=>dA bE (.inl hk) fun T hT=>hT r hp0
def G685 (hk:8<k:=by decide):MD (under a8 k u):=fun r hp0=>dA bE (.inl hk) fun T hT=>hT r hp0
def G734 (hk:2<k:=by decide):ME (under a8 k u):=fun n hp0=>dA bE (.inl hk) fun T hT=>hT n hp0
def I2 (hv:v≤u):Ej (under a8 4 u) v:=⟨fun w nd hp0 hu nx lp ln m K h1 h2 h3 h4 hK=>A2 (.inr ⟨rfl,by rw[show(lk a8 808 jU).muE=Ft Ki from rfl,jP h1];exact Nat.lt_of_lt_of_le hu hv⟩) fun T _ h=>h.1 w nd hp0 nx lp ln m K h1 h2 h3 h4 hK,fun w nd hp0 hu nx lp ln m K h1 h2 h3 h4 hK=>A2 (.inr ⟨rfl,by rw[show(lk a8 808 jU).muE=Ft Ki from rfl,jP h1];exact Nat.lt_of_lt_of_le hu hv⟩) fun T _ h=>h.2 w nd hp0 nx lp ln m K h1 h2 h3 h4 hK⟩
def Nc (hv:v≤u):MF (under a8 4 u) v:=fun w nd hp0 hu nx lp ln m K h1 h2 h3 h4 hK=>A2 (.inr ⟨rfl,by rw[show(lk a8 809 jU).muE=Ft fun _=>2 from rfl,jP h1];exact Nat.lt_of_lt_of_le hu hv⟩) fun T _ h=>h w nd hp0 nx lp ln m K h1 h2 h3 h4 hK
def G810 (hk:2<k:=by decide):MG (under a8 k u):=fun l=>dA bE (.inl hk) fun T hT=>hT l
def G811 (hk:2<k:=by decide):MH (under a8 k u):=fun l i hp0=>dA bE (.inl hk) fun T hT=>hT l i hp0
def I3 (hv:v≤u):Ek (under a8 2 u) v:=fun l i hp0 hu=>dA bE (.inr ⟨rfl,Nat.lt_of_lt_of_le hu hv⟩) fun T hT=>hT l i hp0
def G819 (hk:7<k:=by decide):MI (under a8 k u):=fun s hp0=>dA bE (.inl hk) fun T hT=>hT s hp0
def J6 (hk:5<k:=by decide):G8 (under a8 k u):=fun c hp0=>dA bE (.inl hk) fun T hT=>hT c hp0
def Nf (hk:6<k:=by decide):JX (under a8 k u):=fun c hp0=>dA bE (.inl hk) fun T hT=>hT c hp0
def G882 (hk:1<k:=by decide):MJ (under a8 k u):=fun n hp0=>dA bE (.inl hk) fun T hT=>hT n hp0
def J7 (hk:1<k:=by decide):JY (under a8 k u):=fun w es b=>dA bE (.inl hk) fun T hT=>hT w es b
def Hd (hk:2<k:=by decide):Cv (under a8 k u):=fun w nd b nx lp ln m K h1 h2 h3 h4 hK=>A2 (.inl hk) fun T _ h=>h w nd b nx lp ln m K h1 h2 h3 h4 hK
def He (hk:1<k:=by decide):El (under a8 k u):=fun x w nd b hp0 nx lp ln m K h1 h2 h3 h4 hK=>A2 (.inl hk) fun T _ h=>h x w nd b hp0 nx lp ln m K h1 h2 h3 h4 hK
def I4 (hv:v≤u):I0 (under a8 4 u) v:=fun w nd hp0 hu nx lp ln m K h1 h2 h3 h4 hK=>A2 (.inr ⟨rfl,by rw[show(lk a8 949 jU).muE=Ft fun _=>0 from rfl,jP h1];exact Nat.lt_of_lt_of_le hu hv⟩) fun T _ h=>h w nd hp0 nx lp ln m K h1 h2 h3 h4 hK
def Ni (hk:1<k:=by decide):JZ (under a8 k u):=dA bE (.inl hk) fun T hT=>hT
def Nj (hv:v≤u):I1 (under a8 2 u) v:=fun l i b hp0 hu=>dA bE (.inr ⟨rfl,Nat.lt_of_lt_of_le hu hv⟩) fun T hT=>hT l i b hp0
def G956 (hk:1<k:=by decide):MK (under a8 k u):=fun s w=>dA bE (.inl hk) fun T hT=>hT s w
def Nk (hk:1<k:=by decide):J0 (under a8 k u):=fun op=>dA bE (.inl hk) fun T hT=>hT op
def MR (hk:3<k:=by decide):Ee (under a8 k u):=fun k w nd b hp0 nx lp ln m K h1 h2 h3 h4 hK=>A2 (.inl hk) fun T _ h=>h k w nd b hp0 nx lp ln m K h1 h2 h3 h4 hK
end Go.Abs
end
namespace Go.Abs
def sf:List (Nat×Nat):=[(5,1191),(12,69),(13,76),(15,78),(17,79),(18,478),(19,228),(20,70),(21,72),(28,124),(29,222),(32,225),(33,226),(35,227),(36,229),(37,230),(38,231),(39,232),(40,479),(41,208),(42,209),(43,210),(44,211),(45,212),(46,213),(47,214),(48,215),(51,217),(61,465),(62,466),(63,467),(64,468),(65,469),(66,470),(73,477),(77,249),(78,480),(79,481),(80,482),(81,483),(82,440),(83,441),(84,442),(85,443),(86,349),(87,444),(88,445),(89,446),(90,447),(91,448),(92,449),(93,450),(94,451),(95,242),(96,452),(98,454),(99,455),(100,456),(112,245),(113,246),(114,675),(115,533),(116,658),(119,676),(120,677),(121,678),(122,659),(123,495),(124,496),(125,660),(126,661),(127,662),(128,254),(129,487),(130,663),(131,489),(132,664),(133,665),(135,666),(136,667),(137,668),(150,494),(153,734),(154,682),(155,683),(156,684),(157,685),(158,808),(159,809),(160,810),(161,811),(165,336),(179,882),(180,819),(188,827),(189,828),(190,946),(191,947),(192,948),(193,949),(194,950),(195,951),(212,956),(213,957),(217,1031)]
def EJ:List Nat:=[219,1091,1354,1894,1896,1616,1320,1618,1898,2062,2066,2282,2068,2252,2194,2064,1904,900,931,937,935,445,978,1328,904,942,944,946,952,448,1000000133]
def bz:(Go.Proofs.Tryz.prog).follows .mixedOrders=true:=by kernel_rfl
abbrev Ow [bX](f n:Nat):Prop:=Ly Go.Proofs.Tryz.prog sf EJ a8 f n
abbrev Cp (f:Nat)(a:aB):Prop:=Em Go.Proofs.Tryz.prog sf EJ f a
def ck {f:Nat}{a:aB}(h:((Go.Proofs.Tryz.prog).funcs[f]?).map (fun f=>(compile Go.Proofs.Tryz.prog sf EJ f,f.name== "runtime.NumGoroutine"))=some (some a,false):=by kernel_rfl):Cp f a:=h
end Go.Abs
section
namespace Go.Proofs
open Go.Shelf
def Tryz.Hn:Go.Shelf.Ren:=⟨fun|166=>131|167=>132|169=>96|240=>164|276=>197|n=>n,fun|70=>131|9=>9|0=>0|72=>133|37=>53|3=>3|5=>5|4=>4|20=>20|75=>172|80=>99|164=>215|127=>177|n=>n,fun|n=>n⟩
def Tryz.BE:Go.Proofs.Lays.n166 Tryz.prog Tryz.Hn:={
 mixed:=by kernel_rfl
 f166:=Tryz.func131.trans (congrArg some (by kernel_rfl))
 f240:=Tryz.func164.trans (congrArg some (by kernel_rfl))
 f276:=Tryz.func197.trans (congrArg some (by kernel_rfl))
 t0:=Tryz.underlying0
 a0:=Tryz.isAgg0
 z0:=Tryz.sizeOf0
 v0:=Tryz.zeroValue0
 t3:=Tryz.underlying3
 a3:=Tryz.isAgg3
 z3:=Tryz.sizeOf3
 v3:=Tryz.zeroValue3
 t4:=Tryz.underlying4
 a4:=Tryz.isAgg4
 z4:=Tryz.sizeOf4
 v4:=Tryz.zeroValue4
 t9:=Tryz.underlying9
 a9:=Tryz.isAgg9
 z9:=Tryz.sizeOf9
 v9:=Tryz.zeroValue9
 t20:=Tryz.underlying20
 a20:=Tryz.isAgg20
 z20:=Tryz.sizeOf20
 v20:=Tryz.zeroValue20
 t37:=Tryz.underlying53
 a37:=Tryz.isAgg53
 z37:=Tryz.sizeOf53
 v37:=Tryz.zeroValue53
 t70:=Tryz.underlying131
 a70:=Tryz.isAgg131
 z70:=Tryz.sizeOf131
 v70:=Tryz.zeroValue131
 t72:=Tryz.underlying133
 a72:=Tryz.isAgg133
 z72:=Tryz.sizeOf133
 v72:=Tryz.zeroValue133
 t75:=Tryz.underlying172
 a75:=Tryz.isAgg172
 z75:=Tryz.sizeOf172
 v75:=Tryz.zeroValue172
 t164:=Tryz.underlying215
 a164:=Tryz.isAgg215
 z164:=Tryz.sizeOf215
 v164:=Tryz.zeroValue215}
def Tryz.BF:Go.Proofs.Lays.n167 Tryz.prog Tryz.Hn:={
 mixed:=by kernel_rfl
 f167:=Tryz.func132.trans (congrArg some (by kernel_rfl))
 f240:=Tryz.func164.trans (congrArg some (by kernel_rfl))
 f276:=Tryz.func197.trans (congrArg some (by kernel_rfl))
 t0:=Tryz.underlying0
 a0:=Tryz.isAgg0
 z0:=Tryz.sizeOf0
 v0:=Tryz.zeroValue0
 t4:=Tryz.underlying4
 a4:=Tryz.isAgg4
 z4:=Tryz.sizeOf4
 v4:=Tryz.zeroValue4
 t5:=Tryz.underlying5
 a5:=Tryz.isAgg5
 z5:=Tryz.sizeOf5
 v5:=Tryz.zeroValue5
 t9:=Tryz.underlying9
 a9:=Tryz.isAgg9
 z9:=Tryz.sizeOf9
 v9:=Tryz.zeroValue9
 t20:=Tryz.underlying20
 a20:=Tryz.isAgg20
 z20:=Tryz.sizeOf20
 v20:=Tryz.zeroValue20
 t37:=Tryz.underlying53
 a37:=Tryz.isAgg53
 z37:=Tryz.sizeOf53
 v37:=Tryz.zeroValue53
 t70:=Tryz.underlying131
 a70:=Tryz.isAgg131
 z70:=Tryz.sizeOf131
 v70:=Tryz.zeroValue131
 t72:=Tryz.underlying133
 a72:=Tryz.isAgg133
 z72:=Tryz.sizeOf133
 v72:=Tryz.zeroValue133
 t75:=Tryz.underlying172
 a75:=Tryz.isAgg172
 z75:=Tryz.sizeOf172
 v75:=Tryz.zeroValue172
 t164:=Tryz.underlying215
 a164:=Tryz.isAgg215
 z164:=Tryz.sizeOf215
 v164:=Tryz.zeroValue215}
def Tryz.BG:Go.Proofs.Lays.n169 Tryz.prog Tryz.Hn:={
 mixed:=by kernel_rfl
 f169:=Tryz.func96.trans (congrArg some (by kernel_rfl))
 t0:=Tryz.underlying0
 a0:=Tryz.isAgg0
 z0:=Tryz.sizeOf0
 v0:=Tryz.zeroValue0
 t3:=Tryz.underlying3
 a3:=Tryz.isAgg3
 z3:=Tryz.sizeOf3
 v3:=Tryz.zeroValue3
 t9:=Tryz.underlying9
 a9:=Tryz.isAgg9
 z9:=Tryz.sizeOf9
 v9:=Tryz.zeroValue9
 t37:=Tryz.underlying53
 a37:=Tryz.isAgg53
 z37:=Tryz.sizeOf53
 v37:=Tryz.zeroValue53
 t70:=Tryz.underlying131
 a70:=Tryz.isAgg131
 z70:=Tryz.sizeOf131
 v70:=Tryz.zeroValue131
 t72:=Tryz.underlying133
 a72:=Tryz.isAgg133
 z72:=Tryz.sizeOf133
 v72:=Tryz.zeroValue133
 t127:=Tryz.underlying177
 a127:=Tryz.isAgg177
 z127:=Tryz.sizeOf177
 v127:=Tryz.zeroValue177}
def Tryz.Kh:Builder.Extra Tryz.prog Tryz.Hn:={
 sizeBuilder:=by kernel_rfl
 liesBuilder:=by kernel_rfl
 t5:=Tryz.underlying5
 a5:=Tryz.isAgg5
 z5:=Tryz.sizeOf5
 v5:=Tryz.zeroValue5
 infoByte:=by kernel_rfl
 cellsByte:=by kernel_rfl
 sizeByte:=by kernel_rfl
 neB5:=by decide}
end Go.Proofs
end
