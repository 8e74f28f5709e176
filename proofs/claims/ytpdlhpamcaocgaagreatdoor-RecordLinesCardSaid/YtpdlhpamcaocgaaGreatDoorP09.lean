/- A part of the proofs of the statements: G5, RGen2, G6, RGen3, RGen4, RGen5, RGen6, RGen8, RGen9, RGen10, RGen11, W2, W3, Y5, RSpec22, X6, Z1, G10, N0, N1, NB. -/
import Derived.KernelRfl
import Derived.Shelf.Strings.Builder2
import Derived.Test.YtpdlhpamcaocgaaGreatDoorProg
import Derived.Test.YtpdlhpamcaocgaaGreatDoorP08
set_option linter.all false
set_option maxRecDepth 4000
section
namespace Go.Abs
open Go
def vr:aB:=⟨3,18,[⟨3,none⟩],[[.sl 2 [.a,.sl 1 [.a]]]],(sq (rg [gb 9 s2,gm (.c (.av))] [(10,0),(3,1)]) (sq (r1 [gm (.c (.av))] 17 0) (sq (r1 [gn (.build [.str [],.str [],.str [],.str []] [(0,1,(cs [100,101,102,97,117,108,116])),(1,1,(cs [120])),(2,1,(cs [121])),(3,1,(cs [122]))]),gb 4 (.c (.agg [.str [],.str [],.str [],.str []])),gt 4 l1 l0] 8 1) (sq (sq (r1 [gm bD] 4 0) (.block 0 (.loop (sq (sq (r1 [gm s4,aU l0 vc] 5 1) (js s5 0)) (sq (.block 1 (sq (r1 [gm s0,gm s1,gm s4,ar l1 l2,gx 479 [l0,l3] [[.sl 1 [.a]],[.a]],gm l4] 6 5) (sq (sq (r1 [gm s6,gx 478 [l0,kL] je,aE l1 bD] 7 2) (.cond s7 (.exit 1) .skip)) (sq (r1 [gm s4,gn (.iaP 4 1 s8 l0),gd l1,gn (.build [.str [],.av] [(0,1,l2)]),gb 2 (.c (.agg [.str [],.av])),gt 2 l4 l3] 14 4) (sq (sq (r1 [gm bD] 9 0) (.block 2 (.loop (sq (sq (r1 [gm s9,gf 6 lx,gd l1,gl l2,aU l0 l3,gm l4,gmt 5 s9,cJ 5 (py l6 kB),hX l5 l7] 11 8) (js oo 2)) (sq (.block 3 (sq (r1 [gf 6 lx,gd l0,gm s9,ga 3 l1 l2,gk 3 true l3,gb 3 (.c (.agg [.av,.str [],.str []])),gt 3 l5 l4] 12 5) (sq (sq (r1 [gf 2 my,gd l0,cr l1 cse,gm l2,gmt 3 s6,gmt 3 s9,cJ 3 (BI kL l5),cJ 3 (.cvi .u64 l6),cJ 3 (.bin .shr l4 l7),cJ 3 (EJ l8 ca),cJ 3 (cR l9 ca),hX l3 l10] 13 11) (.cond sD (rg [gf 1 ta,gd l0,gf 2 my,gd l2,ar (cs [63]) l3,gx 483 [l1,l4] [[.sl 1 [.a]],[.a]],gf 1 ta,gt 1 l6 l5] []) .skip)) (sq (r1 [gf 0 my,gd l0,gl l1,aE l2 ca,gm l3,gmt 4 s6,gmt 4 s9,cJ 4 (BI BY l6),cJ 4 (.cvi .u64 l7),cJ 4 (.bin .shr l5 l8),cJ 4 (EJ l9 ca),cJ 4 (cR l10 ca),hX l4 ki] 15 12) (.cond wD (rt [gf 1 ta,gd l0,gf 0 my,gd l2,ga 4 l3 bD,gf 0 l4,gd l5,ar l6 (cs [47]),ar l7 (cs [120]),gx 483 [l1,l8] [[.sl 1 [.a]],[.a]],gf 1 ta,gt 1 l10 l9] []) .skip))))) (r1 [gm s9,ar l0 ca,gm l1] 9 2)))))) (sq (sq (r1 [gm s4,aU l0 kL,gm l1,gmt 2 s6,cJ 2 (.bin .shr l3 (iu 7)),cJ 2 (EJ l4 ca),cJ 2 (cR l5 ca),hX l2 l6,gm l7,gmt 8 s0,gmt 8 s1,gmt 8 s4,cJ 8 (BI l10 ki),cJ 8 (BI ma ca),cJ 8 (.call 479 [l9,n7] [[.sl 1 [.a]],[.a]]),cJ 8 (.call 478 [oR,kL] je),cJ 8 (fg pV bD),hX l8 su] 16 17) (.cond Cq (rt [gf 1 ta,gd l0,gm s4,ar l2 ca,gn (.iaP 4 1 s8 l3),gd l4,gx 483 [l1,l5] [[.sl 1 [.a]],[.a]],gf 1 ta,gt 1 l7 l6] []) .skip)) (r1 [gm ym,gk 2 true ta,gn (.bsl 2 (.agg [.str [],.av]) 1 [(0,l1)]),gn (.app 2 l0 l2),gm l3] 17 4))))))) (r1 [gm s4,ar l0 ca,gm l1] 4 2)))))) (sq (r1 [gm ym,gm l0] 3 1) .ret)))))⟩
def w232 {Γ:Ctx}(hm:(Γ.at 0).br)(h478:CF Γ)(h479:Hm Γ)(h483:My Γ)(l:List Int)(i:Int)(r:Rec)  (hp0:0≤i∧i≤2000000)(hp1:∀j:Nat,j<r.needs.length→r.needs[j]!.option.length≤100∧(r.needs[j]!.any.length=1→r.needs[j]!.any[0]!.name.length≤100)):eA Γ vr (.sl 2 ((fq l i r).map bn.D)) [.sl 1 (l.map (D.int .i64)),.int .i64 i,Rec.D r]:=by
 show bB _ _ _ [⟨_,_⟩,⟨_,_⟩,⟨_,_⟩,_,_,_,_,_,_,_,_,_,_,_,_,_,_,_] _;refine ak ?_;refine bg ?_;refine fe (jD.map D.str) ?_;refine ax ?_;refine aI (.agg (jD.map D.str)) (he:=by exact rfl) ?_;refine aP ?_;refine bt hm (ι:=(Nat×List bn)) (fun p=>[⟨true,.sl 1 (l.map (D.int .i64))⟩,⟨true,.int .i64 i⟩,.un,.un,⟨true,.int .i64 (p.1:Nat)⟩,.un,.un,.un,⟨true,.ptr 4 4 0 0⟩,.un,⟨true,.ptr 0 9 0 0⟩,.un,.un,.un,.un,.un,.un,⟨true,.own 1 2 0 p.2.length⟩]) (fun p=>[(0,.buf 9 [Rec.D r]),(4,.buf 4 [.agg (jD.map D.str)]),(1,.buf 2 (p.2.map bn.D))]) 30 (fun p=>p.1≤4∧p.2=Fa l i r p.1) (fun p=>4-p.1) (0,[]) ⟨by dsimp only;omega,rfl⟩ (aN.to [(0,0),(4,4)] ae ae (by repeat(first|exact c8.nil|refine c8.un ?_|refine c8.eq ae ?_|refine c8.ni (Or.inr ⟨_,_,_,rfl⟩) ?_)) (by refine aC.df ae ae bV ?_;refine aC.df ae ae bV ?_;refine aC.mt ae ae ae ae ?_;exact aC.nil)) ?_;rintro⟨k,fs⟩ ⟨hk,hf⟩;dsimp only at hk hf⊢;have hfl:fs.length≤k:=by
  rw[hf];unfold Fa;exact Nat.le_trans (List.length_filterMap_le _ _) (by simp)
 refine aP ?_;refine aq (fun hc0=>?_) (fun hc0=>?_)
 ·try simp only[ik]at hc0
  refine bg ?_;refine aj (hc:=h479 l (i+(k:Nat))) ?_;refine aP ?_;refine aj (hc:=h478 _ 3 (by decide)) ?_;refine ay ?_;refine cN (fun hc1=>?_) fun hc1=>?_
  ·refine b6 ?_;exact⟨(k+1,fs),⟨by dsimp only;omega,by dsimp only;rw[hf,KE hc1]⟩,by dsimp only;omega,(aN.to [(0,0),(4,4),(1,1)] ae ae lP (by refine aC.df ae ae bV ?_;refine aC.df ae ae bV ?_;refine aC.df ae ae bV ?_;exact aC.nil))⟩
  refine az ?_;refine xX k (hb:=fun _=>by omega) ?_;refine cy (v:=.str jD[k]!) (hv:=fun _=>AZ jD (by show _<4;omega) rfl) (ho:=by omega) ?_;refine bx (.agg [.str jD[k]!,.av]) ?_;refine ax ?_;refine aI (.agg [.str jD[k]!,.av]) (he:=by exact rfl) ?_;refine ax ?_;refine mc [(0,.buf 9 [Rec.D r]),(4,.buf 4 [.agg (jD.map D.str)]),(1,.buf 2 (fs.map bn.D)),(45,.buf 2 [(.agg [.str jD[k]!,.sl 1 ((([]:List ah)).map D.str)])])] (.id ae (.id ae (.id ae (.bf ae (.cons (.ag (.cons (.refl _) (.cons (.nil 1) .nil))) .nil) .nil)))) ?_;refine aA ?_;refine bt hm (ι:=(Nat×List ah)) (fun p=>[⟨true,.sl 1 (l.map (D.int .i64))⟩,⟨true,.int .i64 i⟩,.un,.un,⟨true,.int .i64 (k:Nat)⟩,.un,⟨true,.int .i64 (gA l (i+(k:Nat)))⟩,.un,⟨true,.ptr 4 4 0 0⟩,⟨true,.int .i64 (p.1:Nat)⟩,⟨true,.ptr 0 9 0 0⟩,.un,.un,.un,⟨true,.ptr 2 2 0 0⟩,.un,.un,⟨true,.own 1 2 0 fs.length⟩]) (fun p=>[(0,.buf 9 [Rec.D r]),(4,.buf 4 [.agg (jD.map D.str)]),(1,.buf 2 (fs.map bn.D)),(2,.buf 2 [.agg [.str jD[k]!,.sl 1 (p.2.map D.str)]])]) 60 (fun p=>p.1≤min r.needs.length 2∧p.2=lX r (gA l (i+(k:Nat))) p.1) (fun p=>2-p.1) (0,[]) ⟨by dsimp only;omega,rfl⟩ (aN.to [(0,0),(4,4),(1,1),(45,2)] ae ae lP (by refine aC.df ae ae bV ?_;refine aC.df ae ae bV ?_;refine aC.df ae ae bV ?_;refine aC.nl 45 ae ae rfl ae ?_;exact aC.nil)) ?_;rintro⟨j,of⟩ ⟨hj,ho⟩;dsimp only at hj ho⊢;have hol:of.length≤4:=by
   have:=xy r (gA l (i+(k:Nat))) j;rw[ho];omega
  refine aA ?_;refine cy (v:=.sl 3 (r.needs.map a7.D)) ?_;refine ax ?_;intro u0;refine aT ?_;refine aq (fun hc2=>?_) (fun hc2=>?_)
  ·simp only[Bool.and_eq_true,decide_eq_true_eq]at hc2;obtain⟨hpo,hpn⟩:=hp1 j (by omega);refine aA ?_;refine cy (v:=.sl 3 (r.needs.map a7.D)) ?_;refine ax ?_;refine cH j (hb:=fun _=>by omega) ?_;refine cj (v:=a7.D r.needs[j]!) (hi:=fun _=>by omega) ?_;refine ax ?_;refine aI (a7.D r.needs[j]!) (he:=by exact rfl) ?_;refine jx ?_;refine rW (3+(j:Nat)) (hb:=fun _=>by rw[IntKind.wrap_u64];omega) ?_;refine Ch _ (hb:=fun _=>rfl) ?_;refine xW (Az (gA l (i+(k:Nat))) (3+(j:Nat))) (hb:=fun _=>rfl) ?_;refine az ?_;refine cN (fun hc3=>?_) fun hc3=>?_
   ·refine ay ?_;refine cy (v:=.sl 1 (of.map D.str)) ?_;refine ax ?_;refine cy (v:=.str r.needs[j]!.option) ?_;refine dc (hb:=fun _=>by simp only[List.length_cons,List.length_nil];omega) ?_;refine aj (hc:=h483 of ([63]++r.needs[j]!.option) (by omega)) ?_;refine ax ?_;refine aI (.agg [.str jD[k]!,.sl 1 ((dQ of ([63]++r.needs[j]!.option)).map D.str)]) (he:=by exact rfl) ?_;refine aP ?_;intro u1;refine aP ?_;refine rW (5+(j:Nat)) (hb:=fun _=>by rw[IntKind.wrap_u64];omega) ?_;refine Ch _ (hb:=fun _=>rfl) ?_;refine xW (Az (gA l (i+(k:Nat))) (5+(j:Nat))) (hb:=fun _=>rfl) ?_;refine az ?_;refine gC (fun hc4=>?_) fun hc4=>?_
    ·refine ax ?_;have hpl:=na of ([63]++r.needs[j]!.option);refine ax ?_;refine cy (v:=.sl 1 (((dQ of ([63]++r.needs[j]!.option))).map D.str)) ?_;refine ax ?_;refine cy (v:=.sl 4 (r.needs[j]!.any.map bp.D)) ?_;refine cH 0 (hb:=fun _=>by omega) ?_;refine ax ?_;refine cj (v:=.str r.needs[j]!.any[0]!.name) (hi:=fun _=>by omega) ?_;refine dc (hb:=fun _=>by have:=hpn (by omega);simp only[List.length_cons,List.length_nil];omega) ?_;refine dc (hb:=fun _=>by have:=hpn (by omega);simp only[List.length_append,List.length_cons,List.length_nil];omega) ?_;refine aj (hc:=h483 (dQ of ([63]++r.needs[j]!.option)) (r.needs[j]!.any[0]!.name++[47]++[120]) (by omega)) ?_;refine ax ?_;refine aI (.agg [.str jD[k]!,.sl 1 ((dQ (dQ of ([63]++r.needs[j]!.option)) (r.needs[j]!.any[0]!.name++[47]++[120])).map D.str)]) (he:=by exact rfl) ?_;refine b6 ?_;have hA:E9 r (gA l (i+(k:Nat))) of j=dQ of ([63]++r.needs[j]!.option):=if_pos hc3;have hB:Js r (gA l (i+(k:Nat))) (dQ of ([63]++r.needs[j]!.option)) j=dQ (dQ of ([63]++r.needs[j]!.option)) (r.needs[j]!.any[0]!.name++[47]++[120]):=if_pos ⟨by omega,hc4.2⟩;have hJ:lX r (gA l (i+(k:Nat))) (j+1)=(dQ (dQ of ([63]++r.needs[j]!.option)) (r.needs[j]!.any[0]!.name++[47]++[120])):=by rw[kT,Jt,←ho,hA,hB]
     exact⟨(j+1,(dQ (dQ of ([63]++r.needs[j]!.option)) (r.needs[j]!.any[0]!.name++[47]++[120]))),⟨by dsimp only;omega,hJ.symm⟩,by dsimp only;omega,(aN.to [(0,0),(4,4),(1,1),(2,2)] ae ae lP (by refine aC.df ae ae bV ?_;refine aC.df ae ae bV ?_;refine aC.df ae ae bV ?_;refine aC.df ae ae bV ?_;exact aC.nil))⟩
    refine b6 ?_;have hA:E9 r (gA l (i+(k:Nat))) of j=dQ of ([63]++r.needs[j]!.option):=if_pos hc3;have hB:Js r (gA l (i+(k:Nat))) (dQ of ([63]++r.needs[j]!.option)) j=(dQ of ([63]++r.needs[j]!.option)):=if_neg (by rintro⟨h1,h2⟩;rcases hc4 with h|h;omega;exact h h2);have hJ:lX r (gA l (i+(k:Nat))) (j+1)=(dQ of ([63]++r.needs[j]!.option)):=by rw[kT,Jt,←ho,hA,hB]
    exact⟨(j+1,(dQ of ([63]++r.needs[j]!.option))),⟨by dsimp only;omega,hJ.symm⟩,by dsimp only;omega,(aN.to [(0,0),(4,4),(1,1),(2,2)] ae ae lP (by refine aC.df ae ae bV ?_;refine aC.df ae ae bV ?_;refine aC.df ae ae bV ?_;refine aC.df ae ae bV ?_;exact aC.nil))⟩
   refine aP ?_;intro u1;refine aP ?_;refine rW (5+(j:Nat)) (hb:=fun _=>by rw[IntKind.wrap_u64];omega) ?_;refine Ch _ (hb:=fun _=>rfl) ?_;refine xW (Az (gA l (i+(k:Nat))) (5+(j:Nat))) (hb:=fun _=>rfl) ?_;refine az ?_;refine gC (fun hc4=>?_) fun hc4=>?_
   ·refine ax ?_;have hpl:=na of ([63]++r.needs[j]!.option);refine ax ?_;refine cy (v:=.sl 1 ((of).map D.str)) ?_;refine ax ?_;refine cy (v:=.sl 4 (r.needs[j]!.any.map bp.D)) ?_;refine cH 0 (hb:=fun _=>by omega) ?_;refine ax ?_;refine cj (v:=.str r.needs[j]!.any[0]!.name) (hi:=fun _=>by omega) ?_;refine dc (hb:=fun _=>by have:=hpn (by omega);simp only[List.length_cons,List.length_nil];omega) ?_;refine dc (hb:=fun _=>by have:=hpn (by omega);simp only[List.length_append,List.length_cons,List.length_nil];omega) ?_;refine aj (hc:=h483 of (r.needs[j]!.any[0]!.name++[47]++[120]) (by omega)) ?_;refine ax ?_;refine aI (.agg [.str jD[k]!,.sl 1 ((dQ of (r.needs[j]!.any[0]!.name++[47]++[120])).map D.str)]) (he:=by exact rfl) ?_;refine b6 ?_;have hA:E9 r (gA l (i+(k:Nat))) of j=of:=if_neg (by rintro⟨h1,h2⟩;rcases hc3 with h|h;exact h1 h;exact h h2);have hB:Js r (gA l (i+(k:Nat))) of j=dQ of (r.needs[j]!.any[0]!.name++[47]++[120]):=if_pos ⟨by omega,hc4.2⟩;have hJ:lX r (gA l (i+(k:Nat))) (j+1)=(dQ of (r.needs[j]!.any[0]!.name++[47]++[120])):=by rw[kT,Jt,←ho,hA,hB]
    exact⟨(j+1,(dQ of (r.needs[j]!.any[0]!.name++[47]++[120]))),⟨by dsimp only;omega,hJ.symm⟩,by dsimp only;omega,(aN.to [(0,0),(4,4),(1,1),(2,2)] ae ae lP (by refine aC.df ae ae bV ?_;refine aC.df ae ae bV ?_;refine aC.df ae ae bV ?_;refine aC.df ae ae bV ?_;exact aC.nil))⟩
   refine b6 ?_;have hA:E9 r (gA l (i+(k:Nat))) of j=of:=if_neg (by rintro⟨h1,h2⟩;rcases hc3 with h|h;exact h1 h;exact h h2);have hB:Js r (gA l (i+(k:Nat))) of j=of:=if_neg (by rintro⟨h1,h2⟩;rcases hc4 with h|h;omega;exact h h2);have hJ:lX r (gA l (i+(k:Nat))) (j+1)=of:=by rw[kT,Jt,←ho,hA,hB]
   exact⟨(j+1,of),⟨by dsimp only;omega,hJ.symm⟩,by dsimp only;omega,(aN.to [(0,0),(4,4),(1,1),(2,2)] ae ae lP (by refine aC.df ae ae bV ?_;refine aC.df ae ae bV ?_;refine aC.df ae ae bV ?_;refine aC.df ae ae bV ?_;exact aC.nil))⟩
  simp only[Bool.and_eq_false_iff,decide_eq_false_iff_not]at hc2;obtain rfl:j=min r.needs.length 2:=by omega
  subst ho;refine b6 ?_;refine Ch _ (hb:=fun _=>rfl) ?_;refine xW (Az (gA l (i+(k:Nat))) 7) (hb:=fun _=>rfl) ?_;refine b6 ?_;refine ff (hc:=fun hf=>h479 l (i+(k:Nat)+1)) ?_;refine ff (hc:=fun hf=>h478 _ 3 (by decide)) ?_;refine az ?_;refine cN (fun hc5=>?_) fun hc5=>?_
  ·refine ay ?_;refine cy (v:=.sl 1 ((lX r (gA l (i+(k:Nat))) (min r.needs.length 2)).map D.str)) ?_;refine ay ?_;refine xX (k+1) (hb:=fun _=>by omega) ?_;refine cy (v:=.str jD[k+1]!) (hv:=fun _=>AZ jD (by show _<4;omega) rfl) (ho:=by omega) ?_;refine aj (hc:=h483 (lX r (gA l (i+(k:Nat))) (min r.needs.length 2)) jD[k+1]! (by omega)) ?_;refine ax ?_;refine aI (.agg [.str jD[k]!,.sl 1 ((dQ (lX r (gA l (i+(k:Nat))) (min r.needs.length 2)) jD[k+1]!).map D.str)]) (he:=by exact rfl) ?_;refine az ?_;refine cS (d:=bn.D ⟨jD[k]!,dQ (lX r (gA l (i+(k:Nat))) (min r.needs.length 2)) jD[k+1]!⟩) ?_;refine cx [bn.D ⟨jD[k]!,dQ (lX r (gA l (i+(k:Nat))) (min r.needs.length 2)) jD[k+1]!⟩] ?_;refine jl (q:=bn.D) (xs:=fs) (e:=⟨jD[k]!,dQ (lX r (gA l (i+(k:Nat))) (min r.needs.length 2)) jD[k+1]!⟩) ?_;refine dD ?_;have hC:HT l i (gA l (i+(k:Nat))) k (lX r (gA l (i+(k:Nat))) (min r.needs.length 2))=dQ (lX r (gA l (i+(k:Nat))) (min r.needs.length 2)) jD[k+1]! :=if_pos ⟨⟨by omega,hc5.1.2⟩,by rw[show i+(k:Nat)+1=i+(k:Int)+1 by omega];exact hc5.2⟩;exact⟨(k+1,fs++[⟨jD[k]!,dQ (lX r (gA l (i+(k:Nat))) (min r.needs.length 2)) jD[k+1]!⟩]),⟨by dsimp only;omega,by dsimp only;rw[hf];exact(BT hc1 hC).symm⟩,by dsimp only;omega,(aN.to [(0,0),(4,4),(99,1)] ae ae (by repeat(first|exact c8.nil|refine c8.un ?_|refine c8.eq ae ?_|refine c8.ni (Or.inr ⟨_,_,_,rfl⟩) ?_)) (by refine aC.df ae ae bV ?_;refine aC.df ae ae bV ?_;refine aC.nl 99 ae ae rfl (bq (fun _=>rfl) _) ?_;exact aC.nil))⟩
  refine az ?_;refine cS (d:=bn.D ⟨jD[k]!,(lX r (gA l (i+(k:Nat))) (min r.needs.length 2))⟩) ?_;refine cx [bn.D ⟨jD[k]!,(lX r (gA l (i+(k:Nat))) (min r.needs.length 2))⟩] ?_;refine jl (q:=bn.D) (xs:=fs) (e:=⟨jD[k]!,(lX r (gA l (i+(k:Nat))) (min r.needs.length 2))⟩) ?_;refine dD ?_;have hC:HT l i (gA l (i+(k:Nat))) k (lX r (gA l (i+(k:Nat))) (min r.needs.length 2))=(lX r (gA l (i+(k:Nat))) (min r.needs.length 2)):=if_neg (by rintro⟨⟨h1,h2⟩,h3⟩;rcases hc5 with(h|h)|h;omega;exact h h2;exact h3 h);exact⟨(k+1,fs++[⟨jD[k]!,(lX r (gA l (i+(k:Nat))) (min r.needs.length 2))⟩]),⟨by dsimp only;omega,by dsimp only;rw[hf];exact(BT hc1 hC).symm⟩,by dsimp only;omega,(aN.to [(0,0),(4,4),(90,1)] ae ae (by repeat(first|exact c8.nil|refine c8.un ?_|refine c8.eq ae ?_|refine c8.ni (Or.inr ⟨_,_,_,rfl⟩) ?_)) (by refine aC.df ae ae bV ?_;refine aC.df ae ae bV ?_;refine aC.nl 90 ae ae rfl (bq (fun _=>rfl) _) ?_;exact aC.nil))⟩
 simp only[decide_eq_false_iff_not]at hc0;obtain rfl:k=4:=by omega
 refine aT ?_;refine eB 1 ?_;refine ax ?_;refine cd (?_);rw[hf];rfl
def Mc (Γ:Ctx):Prop:=∀(l:List Int)(i:Int)(r:Rec),(0≤i∧i≤2000000)→(∀j:Nat,j<r.needs.length→r.needs[j]!.option.length≤100∧(r.needs[j]!.any.length=1→r.needs[j]!.any[0]!.name.length≤100))→Γ.pre 232 [.sl 1 (l.map (D.int .i64)),.int .i64 i,Rec.D r]∧Γ.val 232 [.sl 1 (l.map (D.int .i64)),.int .i64 i,Rec.D r]=.sl 2 ((fq l i r).map bn.D)
end Go.Abs
end
namespace Go.Abs
def GD:ah:=[114,99,46,49]
def oN (l:List Int)(i:Int):ah:=if de l (i+2) 9=1 then GD else []
def qM (l:List Int)(i:Int):ah:=if de l (i+2) 9=2 then [55]else []
def Dg (l:List Int)(i:Int):dt:=⟨de l i 3,de l (i+1) 2,0,oN l i,qM l i⟩
def gK (l:List Int)(i:Int):Nat:=(de l (i+3) 4%3).toNat
def ND (l:List Int)(i:Int):(de l (i+3) 4).tmod 3=(gK l i:Int):=by
 have h:=ct l (i+3) 4 (by decide);rw[Int.tmod_eq_emod_of_nonneg h.1];unfold gK;omega
def Ju (l:List Int)(i:Int):gK l i≤2:=by unfold gK;omega
def yX (l:List Int)(i own:Int)(n:Nat):List a7:=(List.range n).map fun(q:Nat)=>dU l (i+4+20*((gK l i-q:Nat):Int) -20) own
def Ff {l:List Int}{i own:Int}{k:Nat}(hk:k≤gK l i)(h0:0<k):yX l i own (gK l i-(k-1))=yX l i own (gK l i-k)++[dU l (i+4+20*(k:Int) -20) own]:=by
 rw[show gK l i-(k-1)=(gK l i-k)+1 by omega];unfold yX;rw[List.range_succ,List.map_append,List.map_singleton,show gK l i-(gK l i-k)=k by omega]
def mU (l:List Int)(i own:Int):List a7:=yX l i own (gK l i)
def tQ (l:List Int)(i own:Int):gz:=⟨cG (own+1+de l (i+46) 4),mS l (i+47),hE l (i+50)⟩
def mR (l:List Int)(i own:Int):List gz:=if de l (i+45) 5=1 then [tQ l i own]else []
def kV (l:List Int)(i own:Int):Rec:=⟨cG own,Dg l i,mU l i own,mR l i own,[]⟩
def gV (l:List Int)(i own:Int):Rec:={kV l i own with feats:=fq l (i+52) (kV l i own)}
def Da {l:List Int}{i own:Int}{k:Nat}{w:bp}(h:w∈oM l i own k):w.name.length≤3:=by
 obtain⟨q,_,rfl⟩:=List.mem_map.1 h;exact jG _
def qN (l:List Int)(i own:Int):(dU l i own).option.length≤3:=by
 show(if _ then _ else _:ah).length≤3;split
 ·exact qQ _
 ·simp
def Df (l:List Int)(i own:Int):∀j:Nat,j<(kV l i own).needs.length→(kV l i own).needs[j]!.option.length≤100∧((kV l i own).needs[j]!.any.length=1→(kV l i own).needs[j]!.any[0]!.name.length≤100):=by
 intro j hj;have hm:=bJ hj;obtain⟨q,_,hq⟩:=List.mem_map.1 hm;rw[←hq];generalize i+4+20*((gK l i-q:Nat):Int) -20=x;refine⟨Nat.le_trans (qN _ _ _) (by decide),fun h=>?_⟩;have h2:=bJ (l:=(dU l x own).any) (i:=0) (by omega);exact Nat.le_trans (Da (k:=dm l x) h2) (by decide)
end Go.Abs
section
namespace Go.Abs
open Go
def zb:aB:=⟨3,10,[⟨3,some (9,true)⟩],[[.a,.a,.a,.a,.a,.a,.sl 3 [.sl 4 [.a,.a,.sl 1 [.a],.a],.a,.a],.sl 3 [.a,.a,.a],.sl 2 [.a,.sl 1 [.a]]]],(sq (r1 [gb 9 (.c (.agg [.str [],.int .i64 0,.int .i64 0,.int .i64 0,.str [],.str [],.av,.av,.av]))] 3 0) (sq (r1 [gm s2,gx 227 [l0] cv,gm s0,gm s1,gx 228 [l2,l3,kL] [[.sl 1 [.a]],[.a],[.a]],gm s0,gm s1,ar l6 ca,gx 228 [l5,l7,kB] [[.sl 1 [.a]],[.a],[.a]],gn (.build [.int .i64 0,.int .i64 0,.int .i64 0,.str [],.str []] [(0,1,l4),(1,1,l8)]),gn (.build [.str [],.int .i64 0,.int .i64 0,.int .i64 0,.str [],.str [],.av,.av,.av] [(0,1,l1),(1,5,l9)]),gb 9 (.c (.agg [.str [],.int .i64 0,.int .i64 0,.int .i64 0,.str [],.str [],.av,.av,.av])),gt 9 ki l10] 5 11) (sq (sq (r1 [gm s0,gm s1,ar l1 kB,gx 228 [l0,l2,BZ] [[.sl 1 [.a]],[.a],[.a]],aE l3 ca] 4 4) (.cond s4 (rg [gf 1 s5,gf 3 l0,gt 1 l1 (cs [114,99,46,49])] []) .skip)) (sq (sq (r1 [gm s0,gm s1,ar l1 kB,gx 228 [l0,l2,BZ] [[.sl 1 [.a]],[.a],[.a]],aE l3 kB] 6 4) (.cond s6 (rg [gf 1 s5,gf 4 l0,gt 1 l1 (cs [55])] []) .skip)) (sq (sq (r1 [gm s0,gm s1,ar l1 kL,gx 228 [l0,l2,vc] [[.sl 1 [.a]],[.a],[.a]],gn (.bin .rem l3 kL),gm l4] 7 5) (.block 0 (.loop (sq (sq (r1 [gm s7,dA l0 bD] 8 1) (js s8 0)) (sq (.block 1 (rt [gf 6 s5,gd l0,gm s0,gm s1,ar l3 vc,gm s7,gn (.bin .mul (i6 20) l5),ar l4 l6,fO l7 (i6 20),gm s2,gx 229 [l2,l8,l9] [[.sl 1 [.a]],[.a],[.a]],gn (.bsl 3 (.agg [.av,.str [],.str []]) 1 [(0,l10)]),gn (.app 3 l1 ki),gf 6 s5,gt 1 n7 ma] [])) (r1 [gm s7,fO l0 ca,gm l1] 7 2)))))) (sq (sq (r1 [gm s0,gm s1,ar l1 (i6 45),gx 228 [l0,l2,BY] [[.sl 1 [.a]],[.a],[.a]],aE l3 ca] 9 4) (.cond s9 (rt [gf 7 s5,gd l0,gm s2,ar l2 ca,gm s0,gm s1,ar l5 (i6 46),gx 228 [l4,l6,vc] [[.sl 1 [.a]],[.a],[.a]],ar l3 l7,gx 227 [l8] cv,gm s0,gm s1,ar ki (i6 47),gx 230 [l10,ma] [[.sl 1 [.a]],[.a]],gm s0,gm s1,ar pV (i6 50),gx 231 [oR,su] [[.sl 1 [.a]],[.a]],gn (.build [.str [],.str [],.str []] [(0,1,l9),(1,1,n7),(2,1,xJ)]),gn (.bsl 3 (.agg [.str [],.str [],.str []]) 1 [(0,yl)]),gn (.app 3 l1 Ak),gf 7 s5,gt 1 Dr B2] []) .skip)) (sq (rg [gm s0,gm s1,ar l1 (i6 52),gk 9 true s5,gx 232 [l0,l2,l3] [[.sl 1 [.a]],[.a],[.a,.a,.a,.a,.a,.a,.sl 3 [.sl 4 [.a,.a,.sl 1 [.a],.a],.a,.a],.sl 3 [.a,.a,.a],.sl 2 [.a,.sl 1 [.a]]]],gf 8 s5,gt 1 l5 l4] []) (sq (rg [gk 9 true s5,gt 9 s3 l0] []) .ret))))))))⟩
def w79 {Γ:Ctx}(hm:(Γ.at 0).br)(h227:JU Γ)(h228:CE Γ)(h229:Mb Γ)(h230:JV Γ)(h231:JW Γ)(h232:Mc Γ)(l:List Int)(i:Int)(own:Int)  (hp0:0≤i∧i≤1000000)(hp1:0≤own∧own≤100000):eA Γ zb (Rec.D (gV l i own)) [.sl 1 (l.map (D.int .i64)),.int .i64 i,.int .i64 own]:=by
 show bB _ _ _ [⟨_,_⟩,⟨_,_⟩,⟨_,_⟩,_,_,_,_,_,_,_] _;refine ak ?_;refine aA ?_;refine aj (hc:=h227 own) ?_;refine ay ?_;refine aj (hc:=h228 l (i) 3 (by decide)) ?_;refine az ?_;refine aj (hc:=h228 l (i+1) 2 (by decide)) ?_;refine bx (dt.D ⟨de l i 3,de l (i+1) 2,0,[],[]⟩) ?_;refine bx (.agg [.str (cG own),.int .i64 (de l i 3),.int .i64 (de l (i+1) 2),.int .i64 0,.str [],.str [],.av,.av,.av]) ?_;refine ax ?_;refine aI (.agg [.str (cG own),.int .i64 (de l i 3),.int .i64 (de l (i+1) 2),.int .i64 0,.str [],.str [],.av,.av,.av]) (he:=by exact rfl) ?_;refine aT ?_;refine aj (hc:=h228 l (i+2) 9 (by decide)) ?_;refine ay ?_;refine po hm (ι:=Unit) (fun _=>[⟨true,.sl 1 (l.map (D.int .i64))⟩,⟨true,.int .i64 i⟩,⟨true,.int .i64 own⟩,⟨true,.ptr 0 9 0 0⟩,.un,⟨true,.ptr 12 9 0 0⟩,.un,.un,.un,.un]) (fun _=>[(0,.buf 9 [c7]),(12,.buf 9 [(.agg [.str (cG own),.int .i64 (de l i 3),.int .i64 (de l (i+1) 2),.int .i64 0,.str (oN l i),.str [],.av,.av,.av])])]) 30 (fun _=>True) ?_ ?_
 ·refine gC (fun hc0=>?_) fun hc0=>?_
  ·refine az ?_;refine aI (.agg [.str (cG own),.int .i64 (de l i 3),.int .i64 (de l (i+1) 2),.int .i64 0,.str GD,.str [],.av,.av,.av]) (he:=by exact rfl) ?_;refine ay ?_;have hp:oN l i=GD:=if_pos hc0;rw[hp];exact⟨(),trivial,(aN.to [(0,0),(12,12)] ae ae lP (by repeat(first|exact aC.nil|refine aC.df ae ae bV ?_|refine aC.mw ae ae ae ?_)))⟩
  refine ay ?_;have hp:oN l i=[]:=if_neg hc0;rw[hp];exact⟨(),trivial,(aN.to [(0,0),(12,12)] ae ae lP (by repeat(first|exact aC.nil|refine aC.df ae ae bV ?_|refine aC.mw ae ae ae ?_)))⟩
 ·rintro _-
  refine aP ?_;refine aj (hc:=h228 l (i+2) 9 (by decide)) ?_;refine ay ?_;refine po hm (ι:=Unit) (fun _=>[⟨true,.sl 1 (l.map (D.int .i64))⟩,⟨true,.int .i64 i⟩,⟨true,.int .i64 own⟩,⟨true,.ptr 0 9 0 0⟩,.un,⟨true,.ptr 12 9 0 0⟩,.un,.un,.un,.un]) (fun _=>[(0,.buf 9 [c7]),(12,.buf 9 [(.agg [.str (cG own),.int .i64 (de l i 3),.int .i64 (de l (i+1) 2),.int .i64 0,.str (oN l i),.str (qM l i),.av,.av,.av])])]) 40 (fun _=>True) ?_ ?_
  ·refine gC (fun hc1=>?_) fun hc1=>?_
   ·refine az ?_;refine aI (.agg [.str (cG own),.int .i64 (de l i 3),.int .i64 (de l (i+1) 2),.int .i64 0,.str (oN l i),.str [55],.av,.av,.av]) (he:=by exact rfl) ?_;refine ay ?_;have hp:qM l i=[55]:=if_pos hc1;rw[hp];exact⟨(),trivial,(aN.to [(0,0),(12,12)] ae ae lP (by repeat(first|exact aC.nil|refine aC.df ae ae bV ?_|refine aC.mw ae ae ae ?_)))⟩
   refine ay ?_;have hp:qM l i=[]:=if_neg hc1;rw[hp];exact⟨(),trivial,(aN.to [(0,0),(12,12)] ae ae lP (by repeat(first|exact aC.nil|refine aC.df ae ae bV ?_|refine aC.mw ae ae ae ?_)))⟩
  ·rintro _-
   have hK:=Ju l i;refine aP ?_;refine aj (hc:=h228 l (i+3) 4 (by decide)) ?_;refine Cg ((gK l i:Nat):Int) (hn:=by intro _;omega) (hb:=fun _=>ND l i) ?_;refine ay ?_;refine bt hm (ι:=(Nat×List a7)) (fun p=>[⟨true,.sl 1 (l.map (D.int .i64))⟩,⟨true,.int .i64 i⟩,⟨true,.int .i64 own⟩,⟨true,.ptr 0 9 0 0⟩,.un,⟨true,.ptr 12 9 0 0⟩,.un,⟨true,.int .i64 (p.1:Nat)⟩,.un,.un]) (fun p=>[(0,.buf 9 [c7]),(12,.buf 9 [(.agg [.str (cG own),.int .i64 (de l i 3),.int .i64 (de l (i+1) 2),.int .i64 0,.str (oN l i),.str (qM l i),.own 1 3 0 p.2.length,.av,.av])]),(1,.buf 3 (p.2.map a7.D))]) 60 (fun p=>p.1≤gK l i∧p.2=yX l i own (gK l i-p.1)) (fun p=>p.1) (gK l i,[]) ⟨Nat.le_refl _,by dsimp only;rw[Nat.sub_self];rfl⟩ (aN.to [(0,0),(12,12)] ae ae lP (by refine aC.df ae ae bV ?_;refine aC.ni 12 ae ae (by exact⟨_,_,rfl,⟨_,rfl,⟨_,_,rfl,⟨rfl,rfl⟩,⟨_,_,rfl,⟨rfl,rfl⟩,⟨_,_,rfl,⟨rfl,rfl⟩,⟨_,_,rfl,⟨rfl,rfl⟩,⟨_,_,rfl,⟨rfl,rfl⟩,⟨_,_,rfl,⟨rfl,rfl⟩,⟨_,_,rfl,Or.inr ⟨_,_,_,rfl⟩,⟨_,_,rfl,Or.inl rfl,⟨_,_,rfl,Or.inl rfl,rfl⟩⟩⟩⟩⟩⟩⟩⟩⟩⟩,rfl⟩) ?_;refine aC.mt ae ae ae ae ?_;exact aC.nil)) ?_;rintro⟨k,ns⟩ ⟨hk,hn⟩;dsimp only at hk hn⊢;have hnl:ns.length≤3:=by rw[hn];simp[yX];omega
   refine aP ?_;refine aq (fun hc2=>?_) (fun hc2=>?_)
   ·try simp only[ik]at hc2
    refine dD ?_;refine sZ ?_;refine az ?_;refine aj (hc:=h229 l (i+4+20*(k:Int) -20) own (by omega) (by omega)) ?_;refine cx [a7.D (dU l (i+4+20*(k:Int) -20) own)] ?_;refine jl (q:=a7.D) (xs:=ns) (e:=dU l (i+4+20*(k:Int) -20) own) ?_;refine ax ?_;refine aI (.agg [.str (cG own),.int .i64 (de l i 3),.int .i64 (de l (i+1) 2),.int .i64 0,.str (oN l i),.str (qM l i),.own 74 3 0 (ns++[dU l (i+4+20*(k:Int) -20) own]).length,.av,.av]) (he:=by exact rfl) ?_;refine b6 ?_;exact⟨(k-1,ns++[dU l (i+4+20*(k:Int) -20) own]),⟨by dsimp only;omega,by dsimp only;rw[Ff hk (by omega),hn]⟩,by dsimp only;omega,(aN.to [(0,0),(12,12),(74,1)] ae ae (by repeat(first|exact c8.nil|refine c8.un ?_|refine c8.eq ae ?_|refine c8.nl (congrArg (D.int .i64) (show((k-1:Nat):Int)=(k:Int) -1 by omega)) ae ?_)) (by refine aC.df ae ae bV ?_;refine aC.mw ae ae ae ?_;refine aC.nl 74 ae ae rfl (bq (fun _=>rfl) _) ?_;exact aC.nil))⟩
   simp only[decide_eq_false_iff_not]at hc2;obtain rfl:k=0:=by omega
   obtain rfl:ns=mU l i own:=by rw[hn];rfl
   refine az ?_;refine eB 1 ?_;refine aA ?_;refine aj (hc:=h228 l (i+45) 5 (by decide)) ?_;refine ay ?_;refine po hm (ι:=Unit) (fun _=>[⟨true,.sl 1 (l.map (D.int .i64))⟩,⟨true,.int .i64 i⟩,⟨true,.int .i64 own⟩,⟨true,.ptr 0 9 0 0⟩,.un,⟨true,.ptr 12 9 0 0⟩,.un,.un,.un,.un]) (fun _=>[(0,.buf 9 [c7]),(12,.buf 9 [(.agg [.str (cG own),.int .i64 (de l i 3),.int .i64 (de l (i+1) 2),.int .i64 0,.str (oN l i),.str (qM l i),(.sl 3 ((mU l i own).map a7.D)),(.own 2 3 0 (mR l i own).length),.av])]),(2,.buf 3 ((mR l i own).map gz.D))]) 100 (fun _=>True) ?_ ?_
   ·refine gC (fun hc3=>?_) fun hc3=>?_
    ·refine ax ?_;have hr46:=ct l (i+46) 4 (by decide);refine ax ?_;refine cy (v:=.av) ?_;refine aP ?_;refine aj (hc:=h228 l (i+46) 4 (by decide)) ?_;refine ax ?_;refine aj (hc:=h227 (own+1+de l (i+46) 4)) ?_;refine az ?_;refine aj (hc:=h230 l (i+47) (by omega)) ?_;refine az ?_;refine aj (hc:=h231 l (i+50) (by omega)) ?_;refine bx (gz.D (tQ l i own)) ?_;refine cx [gz.D (tQ l i own)] ?_;refine Lb (n:=1) (ys:=[gz.D (tQ l i own)]) (he:=sc.all ae rfl) (hn:=rfl) ?_;refine ax ?_;refine aI (.agg [.str (cG own),.int .i64 (de l i 3),.int .i64 (de l (i+1) 2),.int .i64 0,.str (oN l i),.str (qM l i),(.sl 3 ((mU l i own).map a7.D)),(.own 87 3 0 1),.av]) (he:=by exact rfl) ?_;refine ay ?_;have hb:mR l i own=[tQ l i own]:=if_pos hc3;rw[hb];exact⟨(),trivial,(aN.to [(0,0),(12,12),(87,2)] ae ae lP (by refine aC.df ae ae bV ?_;refine aC.mw ae ae ae ?_;refine aC.nl 87 ae ae ae ae ?_;exact aC.nil))⟩
    refine ay ?_;have hb:mR l i own=[]:=if_neg hc3;rw[hb];exact⟨(),trivial,(aN.to [(0,0),(12,12)] ae ae lP (by refine aC.df ae ae bV ?_;refine aC.ni 12 ae ae (by exact⟨_,_,rfl,⟨_,rfl,⟨_,_,rfl,⟨rfl,rfl⟩,⟨_,_,rfl,⟨rfl,rfl⟩,⟨_,_,rfl,⟨rfl,rfl⟩,⟨_,_,rfl,⟨rfl,rfl⟩,⟨_,_,rfl,⟨rfl,rfl⟩,⟨_,_,rfl,⟨rfl,rfl⟩,⟨_,_,rfl,⟨rfl,rfl⟩,⟨_,_,rfl,Or.inr ⟨_,_,_,rfl⟩,⟨_,_,rfl,Or.inl rfl,rfl⟩⟩⟩⟩⟩⟩⟩⟩⟩⟩,rfl⟩) ?_;refine aC.mt ae ae ae ae ?_;exact aC.nil))⟩
   ·rintro _-
    refine eB 2 ?_;refine mc [(0,.buf 9 [c7]),(12,.buf 9 [Rec.D (kV l i own)])] (.id ae (.bf ae (.cons (.ag (.cons (.refl _) (.cons (.refl _) (.cons (.refl _) (.cons (.refl _) (.cons (.refl _) (.cons (.refl _) (.cons (.refl _) (.cons (.refl _) (.cons (.nil 2) .nil)))))))))) .nil) .nil)) ?_;refine aA ?_;refine cS (d:=Rec.D (kV l i own)) ?_;refine aj (hc:=h232 l (i+52) (kV l i own) (by omega) (Df l i own)) ?_;refine ax ?_;refine aI (Rec.D (gV l i own)) (he:=by exact rfl) ?_;refine ay ?_;refine cS (d:=Rec.D (gV l i own)) ?_;refine aI (Rec.D (gV l i own)) (he:=by exact rfl) ?_;refine ay ?_;refine cd (?_);rfl
def C79 (Γ:Ctx):Prop:=∀(l:List Int)(i:Int)(own:Int),(0≤i∧i≤1000000)→(0≤own∧own≤100000)→Γ.pre 79 [.sl 1 (l.map (D.int .i64)),.int .i64 i,.int .i64 own]∧Γ.val 79 [.sl 1 (l.map (D.int .i64)),.int .i64 i,.int .i64 own]=Rec.D (gV l i own)
end Go.Abs
end
namespace Go.Abs
def ze:∀a b:ah,Op.bytesLess a b=false→a≠b→Op.bytesLess b a=true
 |[],[],_,h=>absurd rfl h
 |[],_::_,h,_=>by simp[Op.bytesLess]at h
 |_::_,[],_,_=>by simp[Op.bytesLess]
 |x::a,y::b,h,hn=>by
  simp only[Op.bytesLess,Bool.or_eq_false_iff,decide_eq_false_iff_not,Bool.and_eq_false_iff,beq_eq_false_iff_ne]at h;simp only[Op.bytesLess,Bool.or_eq_true,decide_eq_true_eq,Bool.and_eq_true,beq_iff_eq];obtain⟨h1,h2⟩:=h;by_cases e:x=y
  ·subst e;refine .inr ⟨rfl,ze a b (h2.resolve_left fun h=>h rfl) fun e=>hn (by rw[e])⟩
  ·left;have h3:¬x.toNat<y.toNat:=fun h=>h1 (UInt8.lt_iff_toNat_lt.2 h)
   have h4:x.toNat≠y.toNat:=fun h=>e (UInt8.toNat_inj.1 h)
   exact UInt8.lt_iff_toNat_lt.2 (by omega)
def uE {l:List ah}{s t:ah}(h:t∈dQ l s):t∈l∨t=s:=by
 unfold dQ at h;split at h
 ·exact .inl h
 ·simp only[List.mem_append,List.mem_singleton]at h;rcases h with(h|h)|h
  ·exact .inl (List.mem_of_mem_take h)
  ·exact .inr h
  ·exact .inl (List.mem_of_mem_drop h)
def Bo (l:List ah):rising l=true↔∀i,1≤i→i<l.length→Op.bytesLess l[i-1]! l[i]! =true:=by
 unfold rising;rw[dh]
def nb {l:List ah}{s:ah}(h:rising l=true):rising (dQ l s)=true:=by
 unfold dQ;split
 ·exact h
 ·rename_i hn;rw[Bo]at h⊢;have hl:=xT s l;have hlt:=xU s l;have hst:=rb s l;generalize iD s l=k at hn hl hlt hst⊢;have hlen:(l.take k++[s]++l.drop k).length=l.length+1:=by
   simp only[List.length_append,List.length_take,List.length_drop,List.length_cons,List.length_nil];omega
  have g1:∀j,j<k→(l.take k++[s]++l.drop k)[j]! =l[j]! :=fun j hj=>by
   have a:j<(l.take k).length:=by rw[List.length_take];omega
   have b:j<l.length:=by omega
   rw[List.append_assoc,getElem!_pos _ _ (by rw[List.length_append];omega),List.getElem_append_left a,List.getElem_take,getElem!_pos l j b]
  have g2:(l.take k++[s]++l.drop k)[k]! =s:=by
   have a:(l.take k).length=k:=by rw[List.length_take];omega
   rw[List.append_assoc,getElem!_pos _ _ (by simp only[List.length_append,a,List.length_cons];omega),List.getElem_append_right (by omega)];simp[a]
  have g3:∀j,k<j→j<l.length+1→(l.take k++[s]++l.drop k)[j]! =l[j-1]! :=fun j hj hj2=>by
   have a:(l.take k).length=k:=by rw[List.length_take];omega
   have b:(l.take k++[s]).length=k+1:=by rw[List.length_append,a];rfl
   rw[getElem!_pos _ _ (by rw[hlen];omega),List.getElem_append_right (by omega),List.getElem_drop,getElem!_pos l (j-1) (by omega)];congr 1;omega
  intro i h1 h2;rw[hlen]at h2;rcases Nat.lt_trichotomy i k with hik|hik|hik
  ·rw[g1 i hik,g1 (i-1) (by omega)];exact h i h1 (by omega)
  ·subst hik;rw[g2,g1 (i-1) (by omega)];exact hlt _ (by omega)
  ·rw[g3 i hik h2];by_cases he:i=k+1
   ·subst he;rw[show k+1-1=k from rfl,g2];exact ze _ _ (hst (by omega)) fun e=>hn ⟨by omega,e⟩
   ·rw[g3 (i-1) (by omega) (by omega)];exact h (i-1) (by omega) (by omega)
def A9:∀k,k<5→ed FN[k]! =true∧FN[k]!.length≤3∧b9 (FN[k]! ++[47]++[120])=((3:Int),FN[k]!,([120]:ah)):=by decide+kernel
def KZ:∀a,a<5→∀b,b<5→a≠b→FN[a]! ≠FN[b]! :=by decide+kernel
def LJ:∀k,k<4→bF I8[k]! =true∧b9 (([63]:ah)++I8[k]!)=((2:Int),I8[k]!,([]:ah)):=by decide+kernel
def KB (k a b:Nat):ah:=if Be[k]! =9 then [42]else cW ⟨Be[k]!,3,⟨(a:Nat),(b:Nat),0,[],[]⟩⟩
def IX (s:ah):Prop:=nR s=true∧s.length≤8∧s≠[]∧(∀c∈s,c≠10)
instance (s:ah):Decidable (IX s):=by unfold IX;infer_instance
def zi (s:ah):Prop:=lL s=true∧s.length≤16∧(∀c∈s,c≠10)
instance (s:ah):Decidable (zi s):=by unfold zi;infer_instance
def HL:∀k,k<6→∀a,a<3→∀b,b<2→IX (KB k a b):=by decide+kernel
def G1:∀k,k<3→∀a,a<2→∀b,b<4→zi (wc[k]! ++CZ[a]! ++I8[b]!):=by decide+kernel
def kU (n:Int):(n%5).toNat<5∧cG n=FN[(n%5).toNat]! :=by
 have:=ix n 5 (by decide);exact⟨by omega,rfl⟩
def mT (n:Int):ed (cG n)=true∧(cG n).length≤3:=⟨(A9 _ (kU n).1).1,(A9 _ (kU n).1).2.1⟩
def yW (own d:Int)(h0:0≤d)(h1:d<4):cG (own+1+d)≠cG own:=by
 have a:=kU (own+1+d);have b:=kU own;rw[a.2,b.2];exact KZ _ a.1 _ b.1 (by omega)
def yZ (n:Int):(n%4).toNat<4∧hO n=I8[(n%4).toNat]! :=by
 have:=ix n 4 (by decide);exact⟨by omega,rfl⟩
def mV (n:Int):bF (hO n)=true∧b9 (([63]:ah)++hO n)=((2:Int),hO n,([]:ah)):=LJ _ (yZ n).1
def lI (l:List Int)(i:Int):IX (mS l i):=by
 have a:=ct l i 6 (by decide);have b:=ct l (i+1) 3 (by decide);have c:=ct l (i+2) 2 (by decide);have:=HL (de l i 6).toNat (by omega) (de l (i+1) 3).toNat (by omega) (de l (i+2) 2).toNat (by omega);have e:KB (de l i 6).toNat (de l (i+1) 3).toNat (de l (i+2) 2).toNat=mS l i:=by
  unfold KB mS sj;simp only[show((de l (i+1) 3).toNat:Int)=de l (i+1) 3 by omega,show((de l (i+2) 2).toNat:Int)=de l (i+2) 2 by omega]
 rwa [e]at this
def DH:zi []:=by decide+kernel
def jT (l:List Int)(i:Int):zi (hE l i):=by
 unfold hE;split
 ·exact DH
 ·rename_i h;have a:=ct l i 6 (by decide);have b:=ct l (i+1) 2 (by decide);have c:=yZ (1+de l (i+1) 3);rw[c.2];exact G1 _ (by omega) _ (by omega) _ c.1
def rL {f:Nat→Int}{n:Nat}(h:∀j,j<n→f j=0):gF f 0 n=0:=by
 have:∀k i,i+k=n→gF f i n=0:=by
  intro k;induction k with
  |zero=>intro i e;exact qJ (by omega)
  |succ k ih=>intro i e;rw[qL (by omega) (h i (by omega))];exact ih (i+1) (by omega)
 exact this n 0 (by omega)
def mO {f:Nat→Int}{n:Nat}(h:∀j,j<n→f j=0):fo f 0 n=(0,0):=by
 have:∀k i,i+k=n→fo f i n=(0,0):=by
  intro k;induction k with
  |zero=>intro i e;exact nJ (by omega)
  |succ k ih=>intro i e;rw[nL (by omega) (h i (by omega))];exact ih (i+1) (by omega)
 exact this n 0 (by omega)
def wX {r:Rec}{nm rg:ah}(h1:ed nm=true)(h2:nm≠r.name)(h3:nR rg=true):gP r nm rg=0:=by
 unfold gP;rw[if_neg (by simp[h1]),if_neg h2,if_neg (by simp[h3])]
def G7:∀n,kq (va.take n) true=true
 |0=>by decide
 |1=>by decide
 |n+2=>by
  have:va.take (n+2)=va:=List.take_of_length_le (by simp[va]);rw[this];decide
def Dh (l:List Int)(i:Int)(al:Bool):kq (kA l i al) al=true:=by
 unfold kA;split
 ·rename_i h;rw[h.1];exact G7 _
 ·cases al<;>decide
def Ee {r:Rec}{own:Int}(hr:r.name=cG own)(l:List Int)(i:Int)(al:Bool):jb r (hH l i own al) al=0:=by
 have h:=ct l i 4 (by decide);have h1:=wX (r:=r) (mT (own+1+de l i 4)).1 (by rw[hr];exact yW own _ h.1 h.2) (lI l (i+1)).1;unfold jb;show(if gP r (cG (own+1+de l i 4)) (mS l (i+1))≠0 then _ else if kq (kA l i al) al=false then _ else _)=_;rw[h1,if_neg (by simp),Dh,if_neg (by simp)]
def yV (l:List Int)(i own:Int)(k:Nat):(oM l i own k).length=k:=by simp[oM]
def yU {l:List Int}{i own:Int}{k j:Nat}(h:j<k):(oM l i own k)[j]! =hH l (i+1+6*(j:Nat)) own (decide ((dm l i:Int)=1)):=by
 unfold oM;rw[getElem!_pos _ _ (by simpa using h)];simp
def vX (l:List Int)(i:Int):1≤dm l i:=by unfold dm;split<;>omega
def xz (l:List Int)(i own:Int):(dU l i own).option=[]∨∃n,(dU l i own).option=hO n:=by
 show(if _ then _ else _:ah)=[]∨_;split
 ·rename_i h;exact .inr ⟨gA l (i+17),if_pos h⟩
 ·exact .inl rfl
def DI {r:Rec}{own:Int}(hr:r.name=cG own)(l:List Int)(i:Int):ib r (dU l i own)=0:=by
 have hl:(dU l i own).any.length=dm l i:=yV _ _ _ _;have h1:=vX l i;have h2:=tS l i;unfold ib;rw[if_neg (by rw[hl];omega),if_neg (by rw[hl];omega)];have hw:lS r (dU l i own).any=0:=by
  unfold lS;refine rL fun j hj=>?_
  rw[hl]at hj⊢;show jb r (oM l i own (dm l i))[j]! _=0;rw[yU hj];exact Ee hr l _ _
 rw[hw,if_neg (by simp),if_neg (by rw[show(dU l i own).when'=hE l (i+14)from rfl,(jT l (i+14)).1];simp)];rcases xz l i own with h|⟨n,h⟩
 ·rw[if_neg (by rw[h];simp)]
 ·rw[if_neg (by rw[h,(mV n).1];simp)]
def HU (l:List Int)(i own:Int)(n:Nat):(yX l i own n).length=n:=by simp[yX]
def pQ {l:List Int}{i own:Int}{n:Nat}{x:a7}(h:x∈yX l i own n):∃k:Int,x=dU l k own:=by
 obtain⟨q,_,rfl⟩:=List.mem_map.1 h;exact⟨_,rfl⟩
def A8 {r:Rec}{l:List Int}{i own:Int}(hr:r.name=cG own)(hn:r.needs=mU l i own):jZ r=(0,0):=by
 unfold jZ;refine mO fun j hj=>?_
 obtain⟨k,hk⟩:=pQ (show r.needs[j]! ∈yX l i own (gK l i)by rw[show yX l i own (gK l i)=r.needs from hn.symm];exact bJ hj);rw[hk];exact DI hr l k
def EK {r:Rec}{own:Int}(hr:r.name=cG own)(l:List Int)(i:Int):qv r (tQ l i own)=0:=by
 have h:=ct l (i+46) 4 (by decide);have h1:=wX (r:=r) (mT (own+1+de l (i+46) 4)).1 (by rw[hr];exact yW own _ h.1 h.2) (lI l (i+47)).1;unfold qv;show(if gP r (cG (own+1+de l (i+46) 4)) (mS l (i+47))≠0 then _ else if lL (hE l (i+50))=false then _ else _)=_;rw[h1,if_neg (by simp),(jT l (i+50)).1,if_neg (by simp)]
def vW {l:List Int}{i own:Int}{b:gz}(h:b∈mR l i own):b=tQ l i own:=by
 unfold mR at h;split at h
 ·simpa using h
 ·cases h
def LM (l:List Int)(i:Int)(r:Rec)(t:ah):Prop:=(∃m∈r.needs,m.option≠[]∧t=[63]++m.option)∨(∃m∈r.needs,m.any.length=1∧t=m.any[0]!.name++[47]++[120])∨∃k,k<3∧¬gA l (i+(k:Nat)+1)%3=0∧t=jD[k+1]!
def Fb (l:List Int)(i:Int)(r:Rec)(n:Int):∀j,j≤r.needs.length→rising (lX r n j)=true∧∀t∈lX r n j,LM l i r t
 |0,_=>⟨rfl,fun t ht=>by simp[lX]at ht⟩
 |j+1,hj=>by
  obtain⟨h1,h2⟩:=Fb l i r n j (by omega);have hm:r.needs[j]! ∈r.needs:=bJ (by omega);have hA:rising (E9 r n (lX r n j) j)=true∧∀t∈E9 r n (lX r n j) j,LM l i r t:=by
   unfold E9;split
   ·rename_i h;refine⟨nb h1,fun t ht=>?_⟩;rcases uE ht with ht|rfl
    ·exact h2 t ht
    ·exact .inl ⟨_,hm,h.1,rfl⟩
   ·exact⟨h1,h2⟩
  obtain⟨h3,h4⟩:=hA;rw[kT,Jt];unfold Js;split
  ·rename_i h;refine⟨nb h3,fun t ht=>?_⟩;rcases uE ht with ht|rfl
   ·exact h4 t ht
   ·exact .inr (.inl ⟨_,hm,h.1,rfl⟩)
  ·exact⟨h3,h4⟩
def KC (l:List Int)(i:Int)(r:Rec)(n:Int)(k j:Nat)(hj:j≤r.needs.length):rising (HT l i n k (lX r n j))=true∧(∀t∈HT l i n k (lX r n j),LM l i r t)∧(HT l i n k (lX r n j)).length≤2*j+1:=by
 obtain⟨h1,h2⟩:=Fb l i r n j hj;have h3:=xy r n j;unfold HT;split
 ·rename_i h;refine⟨nb h1,fun t ht=>?_,Nat.le_trans (na _ _) (by omega)⟩;rcases uE ht with ht|rfl
  ·exact h2 t ht
  ·exact .inr (.inr ⟨k,h.1.1,h.2,rfl⟩)
 ·exact⟨h1,h2,by omega⟩
def lH {l:List Int}{i:Int}{r:Rec}{f:bn}(h:f∈fq l i r):∃k,k<4∧f.name=jD[k]! ∧¬gA l (i+(k:Nat))%3=0∧rising f.of=true∧(∀t∈f.of,LM l i r t)∧f.of.length≤5:=by
 obtain⟨k,hk,he⟩:=List.mem_filterMap.1 h;rw[List.mem_range]at hk;unfold KD at he;split at he
 ·cases he
 ·rename_i hn;obtain rfl:=Option.some.inj he;obtain⟨a,b,c⟩:=KC l i r (gA l (i+(k:Nat))) k (min r.needs.length 2) (by omega);exact⟨k,hk,rfl,hn,a,b,by dsimp only;omega⟩
def AO {l:List Int}{i:Int}{r:Rec}{k:Nat}(hk:k<4)(h:¬gA l (i+(k:Nat))%3=0):∃f∈fq l i r,f.name=jD[k]! :=by
 have e:KD l i r k=some ⟨jD[k]!,HT l i (gA l (i+(k:Nat))) k (lX r (gA l (i+(k:Nat))) (min r.needs.length 2))⟩:=if_neg h;exact⟨_,List.mem_filterMap.2 ⟨k,List.mem_range.2 hk,e⟩,rfl⟩
def C7 {fs:List bn}{nm:ah}(h:∃f∈fs,f.name=nm):0≤findF fs nm 0:=by
 unfold findF;rw[List.drop_zero];cases e:fs.findIdx? (fun x=>decide (x.name=nm))with
 |some k=>simp
 |none=>
  rw[List.findIdx?_eq_none_iff]at e;obtain⟨f,hf,hn⟩:=h;have:=e f hf;simp[hn]at this
def zk:∀k,k<4→b9 jD[k]! =((1:Int),jD[k]!,([]:ah))∧bF jD[k]! =true:=by decide+kernel
def FO:∀a,a<4→∀b,b<4→a<b→Op.bytesLess jD[a]! jD[b]! =true:=by decide+kernel
def Dd (l:List Int)(i:Int)(r:Rec):(fq l i r).Pairwise fun a b=>Op.bytesLess a.name b.name=true:=by
 unfold fq Fa;refine List.Pairwise.filterMap _ (R:=fun a b=>a<b∧b<4) ?_ (by decide);intro a b hab x hx y hy;have e:∀{k:Nat} {z:bn},KD l i r k=some z→z.name=jD[k]! :=fun {k z} h=>by
  unfold KD at h;split at h
  ·cases h
  ·rw[←Option.some.inj h]
 rw[e hx,e hy];exact FO a (by omega) b hab.2 hab.1
def tR (l:List Int)(i:Int)(r:Rec):(fq l i r).length≤4:=by
 unfold fq Fa;exact Nat.le_trans (List.length_filterMap_le _ _) (by simp)
def NdG (r:Rec):Prop:=∀m∈r.needs,(m.option=[]∨∃n,m.option=hO n)∧(m.any.length=1→∃n,m.any[0]!.name=cG n)
def y8 {l:List Int}{i:Int}{r r2:Rec}{t:ah}(h:LM l i r t)(hr:NdG r)(hn:r2.needs=r.needs)(hf:r2.feats=fq l i r):jf r2.feats t=true∧hY r2 t=0∧t.length≤7:=by
 rcases h with⟨m,hm,h1,rfl⟩|⟨m,hm,h1,rfl⟩|⟨k,hk,h1,rfl⟩
 ·obtain⟨n,e⟩:=(hr m hm).1.resolve_left h1;have hx:=(mV n).2;have hl:=qQ n;rw[e];refine⟨by unfold jf;rw[hx];rfl, ?_,by simp only[List.length_append,List.length_cons,List.length_nil];omega⟩;unfold hY;rw[hx];have:Iy r2.needs (hO n)=true:=by
   unfold Iy;rw[List.any_eq_true];exact⟨m,by rw[hn];exact hm,by simp[e]⟩
  simp[this]
 ·obtain⟨n,e⟩:=(hr m hm).2 h1;have hx:=(A9 _ (kU n).1).2.2;have hl:=jG n;rw[←(kU n).2]at hx;rw[e];generalize cG n=w at e hx hl;refine⟨by unfold jf;rw[hx];rfl, ?_,by simp only[List.length_append,List.length_cons,List.length_nil];omega⟩;have:Cd r2.needs w=true:=by
   unfold Cd;rw[List.any_eq_true];exact⟨m,by rw[hn];exact hm,by rw[e,h1];simp⟩
  unfold hY;rw[hx,if_neg (by simp),if_neg (by rw[this];simp)]
 ·have hx:=(zk (k+1) (by omega)).1;have hl:∀k,k<4→jD[k]!.length≤7:=by decide
  refine⟨?_,by unfold hY;rw[hx];simp,hl _ (by omega)⟩;have:LU r2.feats jD[k+1]! =true:=by
   unfold LU;rw[hf,Bool.or_eq_true];right;rw[decide_eq_true_eq];exact C7 (AO (k:=k+1) (by omega) (by rw[show i+((k+1:Nat):Int)=i+(k:Nat)+1 by omega];exact h1))
  unfold jf;rw[hx];dsimp only;rw[this];rfl
def La {α:Type} [Inhabited α]{R:α→α→Prop}{l:List α}(h:l.Pairwise R){i:Nat}(h0:0<i)(hi:i<l.length):R l[i-1]! l[i]! :=by
 rw[getElem!_pos l _ (by omega),getElem!_pos l _ hi];exact List.pairwise_iff_getElem.1 h _ _ (by omega) hi (by omega)
def C5 {l:List Int}{i:Int}{r r2:Rec}(hr:NdG r)(hn:r2.needs=r.needs)(hf:r2.feats=fq l i r):fM r2.feats=true∧qI r2=(0,0):=by
 have hit:∀f∈r2.feats,∀t∈f.of,jf r2.feats t=true∧hY r2 t=0∧t.length≤7:=fun f hf' t ht=>by
  obtain⟨k,_,_,_,_,h,_⟩:=lH (show f∈fq l i r by rw[←hf];exact hf');exact y8 (h t ht) hr hn hf
 constructor
 ·have hlen:=tR l i r;unfold fM;rw[Bool.and_eq_true,decide_eq_true_eq,dh];refine⟨by rw[hf];omega,fun j _ hj=>?_⟩;have hm:r2.feats[j]! ∈r2.feats:=bJ hj;obtain⟨k,hk,e1,e2,e3,e4,e5⟩:=lH (show r2.feats[j]! ∈fq l i r by rw[←hf];exact hm);unfold ku;rw[e1,(zk k hk).2,Bool.true_and,Bool.and_eq_true];constructor
  ·by_cases h0:0<j
   ·have:=La (Dd l i r) h0 (by rw[←hf];exact hj);rw[←hf,e1]at this;rw[this];simp
   ·simp[h0]
  ·unfold uc;rw[Bool.and_eq_true,Bool.and_eq_true,decide_eq_true_eq,dh];exact⟨⟨by omega,e3⟩,fun q _ hq=>(hit _ hm _ (bJ hq)).1⟩
 ·unfold qI;refine mO fun j hj=>?_
  unfold oO;exact rL fun q hq=>(hit _ (bJ hj) _ (bJ hq)).2.1
def kS {α:Type}{f:α→ah}{B:Nat}:∀{l:List α},(∀x∈l,(f x).length≤B)→((l.map f).flatten).length≤l.length*B
 |[],_=>by simp
 |a::r,h=>by
  have h1:=h a (.head _);have h2:=kS (l:=r) fun x hx=>h x (.tail _ hx)
  simp only[List.map_cons,List.flatten_cons,List.length_append,List.length_cons,Nat.succ_mul];omega
def jJ {l:List ah}{B n:Nat}(h:∀t∈l,t.length≤B)(hn:l.length≤n):(bw l).length≤n*(B+1)+1:=by
 have h1:=jH 32 B l h;have h2:=Nat.mul_le_mul_right (B+1) hn;simp only[bw,List.length_append,List.length_cons,List.length_nil];omega
def Cy (w:bp):Prop:=w.name.length≤3∧w.range.length≤8∧(w.feats=[]∨w.feats=va.take 1∨w.feats=va)
def El (n:Nat):va.take n=[]∨va.take n=va.take 1∨va.take n=va:=by
 match n with
 |0=>exact .inl rfl
 |1=>exact .inr (.inl rfl)
 |n+2=>exact .inr (.inr (List.take_of_length_le (by simp[va])))
def qP (l:List Int)(i own:Int)(al:Bool):Cy (hH l i own al):=by
 refine⟨jG _,(lI l (i+1)).2.1, ?_⟩;show kA l i al=[]∨kA l i al=va.take 1∨kA l i al=va;unfold kA;split
 ·exact El _
 ·exact .inl rfl
def Ef {w:bp}(h:Cy w):(bw (gw w)).length≤46:=by
 refine jJ (B:=8) (n:=5) (fun t ht=>?_) (by simp[gw]);simp only[gw,List.mem_cons,List.not_mem_nil,or_false]at ht;rcases ht with rfl|rfl|rfl|rfl|rfl
 ·decide
 ·have:=h.1;omega
 ·rcases h.2.2 with e|e|e<;>rw[e]<;>decide
 ·split<;>decide
 ·exact h.2.1
def wT {s:ah}(h:s.length≤16):(gv s).length≤35:=by
 unfold gv;split
 ·simp
 ·exact jJ (B:=16) (n:=2) (fun t ht=>by
   simp only[List.mem_cons,List.not_mem_nil,or_false]at ht;rcases ht with rfl|rfl
   ·decide
   ·exact h) (by simp)
def F4 {s:ah}(h:s.length≤6):(sz s).length≤15:=by
 unfold sz;split
 ·simp
 ·exact jJ (B:=6) (n:=2) (fun t ht=>by
   simp only[List.mem_cons,List.not_mem_nil,or_false]at ht;rcases ht with rfl|rfl
   ·decide
   ·exact h) (by simp)
def De (l:List Int)(i own:Int):(kY (dU l i own)).length≤160:=by
 have h1:=kS (f:=fun w=>bw (gw w)) (B:=46) (l:=(dU l i own).any) fun w hw=>by
  obtain⟨q,_,rfl⟩:=List.mem_map.1 (show w∈oM l i own (dm l i)from hw);exact Ef (qP _ _ _ _)
 have h2:(dU l i own).any.length≤2:=by rw[show(dU l i own).any.length=dm l i from yV _ _ _ _];exact tS l i
 have h3:=wT (jT l (i+14)).2.1;have h4:=F4 (s:=(dU l i own).option) (Nat.le_trans (qN l i own) (by decide));have h5:(bw [ee]).length≤6:=by decide
 unfold kY;simp only[List.length_append];show _+(((dU l i own).any.map fun w=>bw (gw w)).flatten).length+(gv (hE l (i+14))).length+_≤_;omega
def EL {b:gz}(h:b.name.length≤3∧b.range.length≤8∧b.when'.length≤16):(qw b).length≤63:=by
 have h1:=jJ (B:=8) (n:=3) (l:=[eR,b.name,b.range]) (fun t ht=>by
  simp only[List.mem_cons,List.not_mem_nil,or_false]at ht;rcases ht with rfl|rfl|rfl
  ·decide
  ·omega
  ·exact h.2.1) (by simp)
 have h2:=wT h.2.2;unfold qw;rw[List.length_append];omega
def Fe (l:List Int)(i own:Int):(tQ l i own).name.length≤3∧(tQ l i own).range.length≤8∧(tQ l i own).when'.length≤16:=⟨jG _,(lI l (i+47)).2.1,(jT l (i+50)).2.1⟩
def C2 {f:bn}(h:f.name.length≤7∧f.of.length≤5∧∀t∈f.of,t.length≤7):(oe f).length≤57:=by
 refine jJ (B:=7) (n:=7) (fun t ht=>?_) (by simp;omega);simp only[List.mem_append,List.mem_cons,List.not_mem_nil,or_false]at ht;rcases ht with(rfl|rfl)|ht
 ·decide
 ·exact h.1
 ·exact h.2.2 t ht
structure tl (l:List Int)(i own:Int)(r:Rec):Prop where
 nm:r.name=cG own
 ns:r.needs=mU l i own
 v:en r.v=true∧r.v.pre.length≤4∧r.v.build.length≤1
 bl:r.bars.length≤2
 b:∀b∈r.bars,qv r b=0∧b.name.length≤3∧b.range.length≤8∧b.when'.length≤16
 fs:fM r.feats=true∧qI r=(0,0)
 fl:r.feats.length≤4
 f:∀f∈r.feats,f.name.length≤7∧f.of.length≤5∧∀t∈f.of,t.length≤7
def tT (l:List Int)(i own:Int):(mU l i own).length≤2:=by rw[mU,HU];exact Ju l i
def tl.good {l:List Int}{i own:Int}{r:Rec}(h:tl l i own r):tV r:=by
 have h1:=tT l i own;have h2:=h.bl;refine⟨⟨by rw[h.nm];exact(mT own).1,h.v.1⟩,⟨by rw[h.ns];omega,by omega⟩,uz (A8 h.nm h.ns) ?_ h.fs.1 h.fs.2⟩;unfold rC;exact mO fun j hj=>(h.b _ (bJ hj)).1
def tl.sm {l:List Int}{i own:Int}{r:Rec}(h:tl l i own r):kn r:=by
 refine⟨⟨by rw[h.nm];exact Nat.le_trans (jG own) (by decide),Nat.le_trans h.v.2.1 (by decide),Nat.le_trans h.v.2.2 (by decide)⟩,fun n hn=>?_,fun b hb=>?_,fun f hf=>?_⟩
 ·obtain⟨k,rfl⟩:=pQ (show n∈yX l i own (gK l i)by rw[show yX l i own (gK l i)=r.needs from h.ns.symm];exact hn);refine⟨fun w hw=>?_,Nat.le_trans (jT l (k+14)).2.1 (by decide),Nat.le_trans (qN l k own) (by decide)⟩;obtain⟨q,_,rfl⟩:=List.mem_map.1 (show w∈oM l k own (dm l k)from hw);obtain⟨a,b,c⟩:=qP l (k+1+6*(q:Nat)) own (decide ((dm l k:Int)=1));refine⟨⟨Nat.le_trans a (by decide),Nat.le_trans b (by decide)⟩,fun t ht=>?_⟩;have hx:∀t∈va,t.length≤1048576:=by decide
  rcases c with e|e|e<;>rw[e]at ht
  ·cases ht
  ·exact hx t (List.mem_of_mem_take ht)
  ·exact hx t ht
 ·obtain⟨_,a,b,c⟩:=h.b b hb;exact⟨Nat.le_trans a (by decide),Nat.le_trans b (by decide),Nat.le_trans c (by decide)⟩
 ·obtain⟨a,b,c⟩:=h.f f hf;exact⟨Nat.le_trans a (by decide),Nat.le_trans b (by decide),fun t ht=>Nat.le_trans (c t ht) (by decide)⟩
def GZ {v:dt}(h:en v=true∧v.pre.length≤4∧v.build.length≤1):(iZ v).length≤30:=by
 obtain⟨h1,h2,h3⟩:=h;have hv:=h1;simp only[en,pN,Bool.and_eq_true,decide_eq_true_eq]at h1;have a:=dF 4 v.major.toNat (by omega) (by omega);have b:=dF 4 v.minor.toNat (by omega) (by omega);have c:=dF 4 v.patch.toNat (by omega) (by omega);unfold iZ;rw[if_pos hv,ru];have d:(coreS v).length≤14:=by
  unfold coreS;simp only[List.length_append,List.length_cons,List.length_nil];omega
 simp only[List.length_append];split<;>split<;>simp only[List.length_cons,List.length_nil]<;>omega
def tl.len {l:List Int}{i own:Int}{r:Rec}(h:tl l i own r):(cU r).length≤800:=by
 have h1:(mX r).length≤94:=jJ (B:=30) (n:=3) (fun t ht=>by
  simp only[List.mem_cons,List.not_mem_nil,or_false]at ht;rcases ht with rfl|rfl|rfl
  ·decide
  ·rw[h.nm];exact Nat.le_trans (jG own) (by decide)
  ·exact GZ h.v) (by simp)
 have h2:=kS (f:=kY) (B:=160) (l:=r.needs) fun n hn=>by
  obtain⟨k,rfl⟩:=pQ (show n∈yX l i own (gK l i)by rw[show yX l i own (gK l i)=r.needs from h.ns.symm];exact hn);exact De l k own
 have h3:=kS (f:=qw) (B:=63) (l:=r.bars) fun b hb=>EL (h.b b hb).2
 have h4:=kS (f:=oe) (B:=57) (l:=r.feats) fun f hf=>C2 (h.f f hf)
 have h5:=tT l i own;have h6:=h.bl;have h7:=h.fl;rw[h.ns]at h2;unfold cU;rw[h.ns];simp only[List.length_append];omega
def tl.check {l:List Int}{i own:Int}{r:Rec}(h:tl l i own r):bY r=(0,0):=by
 obtain⟨⟨a,b⟩,⟨c,d⟩,e⟩:=h.good;rw[tA a b (by omega) (by omega) e,if_neg (by have:=h.len;omega)]
def tl.print {l:List Int}{i own:Int}{r:Rec}(h:tl l i own r):j3 r=(cU r,0):=by
 unfold j3;rw[h.check,if_neg (by simp)]
def BV (l:List Int)(i:Int):en (Dg l i)=true∧(Dg l i).pre.length≤4∧(Dg l i).build.length≤1:=by
 have a:=ct l i 3 (by decide);have b:=ct l (i+1) 2 (by decide);have key:∀x,x<3→∀y,y<2→∀p∈[([]:ah),GD],∀q∈[([]:ah),[55]],en ⟨(x:Nat),(y:Nat),0,p,q⟩=true:=by decide+kernel
 have hp:oN l i∈[([]:ah),GD]:=by unfold oN;split<;>simp
 have hq:qM l i∈[([]:ah),[55]]:=by unfold qM;split<;>simp
 have h:=key (de l i 3).toNat (by omega) (de l (i+1) 2).toNat (by omega) _ hp _ hq;have e:(⟨((de l i 3).toNat:Int),((de l (i+1) 2).toNat:Int),0,oN l i,qM l i⟩:dt)=Dg l i:=by
  unfold Dg;simp only[show((de l i 3).toNat:Int)=de l i 3 by omega,show((de l (i+1) 2).toNat:Int)=de l (i+1) 2 by omega]
 rw[e]at h;refine⟨h, ?_, ?_⟩
 ·show(oN l i).length≤4;unfold oN;split<;>decide
 ·show(qM l i).length≤1;unfold qM;split<;>decide
def qO (l:List Int)(i own:Int):NdG (kV l i own):=by
 intro m hm;obtain⟨k,rfl⟩:=pQ (show m∈yX l i own (gK l i)from hm);refine⟨xz l k own,fun h=>?_⟩;have h1:0<dm l k:=by have:=vX l k;omega
 have:=yU (l:=l) (i:=k) (own:=own) h1;exact⟨_,congrArg bp.name this⟩
def Dc (l:List Int)(i own:Int):(mR l i own).length≤1:=by unfold mR;split<;>simp
def Is:∀k,k<4→jD[k]!.length≤7:=by decide
def yY (l:List Int)(i own:Int):tl l i own (gV l i own):=by
 have hf:=C5 (r:=kV l i own) (r2:=gV l i own) (l:=l) (i:=i+52) (qO l i own) rfl rfl;refine⟨rfl,rfl,BV l i,Nat.le_trans (Dc l i own) (by decide),fun b hb=>?_,hf,tR _ _ _,fun f hf2=>?_⟩
 ·obtain rfl:=vW (show b∈mR l i own from hb);exact⟨EK rfl l i,Fe l i own⟩
 ·obtain⟨k,hk,e,_,_,hi,hl⟩:=lH (show f∈fq l (i+52) (kV l i own)from hf2);refine⟨by rw[e];exact Is k hk,hl,fun t ht=>?_⟩;exact(y8 (r2:=gV l i own) (hi t ht) (qO l i own) rfl rfl).2.2
end Go.Abs
section
namespace Go.Abs
def bc (w:ah):Prop:=w≠[]∧∀c∈w,c≠32∧c≠10
def dI (w:ah):Prop:=∀c∈w,c≠10
def dd (l:List ah):ah:=aF [32] l
def n32 {w:ah}(h:bc w):∀c∈w,(c.toNat:Int)≠32:=fun c hc e=>(h.2 c hc).1 (UInt8.toNat_inj.1 (by have:(32:UInt8).toNat=32:=rfl;omega))
def r6 {l:List ah}(hl:l≠[])(h:∀w∈l,bc w):ai (dd l) 32=l:=
 gp (x:=32) rfl hl fun w hw=>n32 (h w hw)
def wM {p:List ah}{t:ah}(h:∀w∈p,bc w):ai (dd (p++[t])) 32=p++ai t 32:=by
 induction p with
 |nil=>rfl
 |cons a r ih=>
  have ha:=n32 (h a (.head _));have hr:=ih fun w hw=>h w (.tail _ hw)
  have e:dd (a::(r++[t]))=a++32::dd (r++[t]):=by
   unfold dd;rw[dJ [32] a (r++[t]) (by simp)];simp
  rw[List.cons_append,e];have:=pe (b:=32) (x:=32) rfl (dd (r++[t])) (w:=a) (cur:=[]) ha;unfold ai at hr⊢;rw[this,hr];rfl
def fw (t:ah):ah:=(ai t 32)[0]!
def tO {w:ah}{l:List ah}(hw:bc w)(hl:∀x∈l,bc x):fw (dd (w::l))=w:=by
 unfold fw;rw[r6 (by simp) (fun x hx=>by rcases List.mem_cons.1 hx with rfl|hx;exact hw;exact hl x hx)];rfl
def Fc {w:ah}{p:List ah}{t:ah}(hw:bc w)(hp:∀x∈p,bc x):fw (dd (w::(p++[t])))=w:=by
 unfold fw;rw[←List.cons_append,wM (p:=w::p) (fun x hx=>by rcases List.mem_cons.1 hx with rfl|hx;exact hw;exact hp x hx)];rfl
def Jb {n:Nat}{op:Bool}{t:ah}(h:2≤n∨op=false):(cg n op t)[0]! =fw t:=by
 unfold cg fw;split
 ·rename_i ho;have hn:=h.resolve_right (by rw[ho];simp);unfold mH;split
  ·rfl
  ·rename_i hl;have a:0<((ai t 32).take (n-1)).length:=by rw[List.length_take];omega
   rw[getElem!_pos _ _ (by rw[List.length_append];omega),List.getElem_append_left a,List.getElem_take,getElem!_pos _ _ (by omega)]
 ·rfl
def hd (R:List ah):Option ah:=R.head?.map fw
def m5 {w:ah}{n:Nat}{op:Bool}{R:List ah}(h:2≤n∨op=false)(hn:hd R≠some w):aY w n op R=none:=by
 match R,hn with
 |[],_=>rfl
 |t::r,hn=>
  have:eG w n op t=none:=by
   unfold eG;rw[if_neg];rintro⟨h1,_⟩;rw[Jb h]at h1;exact hn (by simp[hd,h1])
  simp only[aY,this]
def lO {w:ah}{l:List ah}{n:Nat}{R:List ah}(hw:bc w)(hl:∀x∈l,bc x)(hn:n=0∨l.length+1=n):aY w n false (dd (w::l)::R)=some (w::l,R):=by
 have hc:∀x∈w::l,bc x:=fun x hx=>by rcases List.mem_cons.1 hx with rfl|hx;exact hw;exact hl x hx
 have e:cg n false (dd (w::l))=w::l:=by
  unfold cg;rw[if_neg (by simp),r6 (by simp) hc]
 have:eG w n false (dd (w::l))=some (w::l):=by
  unfold eG;rw[e,if_pos ⟨rfl,hn,fun h=>(hc _ h).1 rfl⟩]
 simp only[aY,this]
def qX {w:ah}{p:List ah}{t:ah}{n:Nat}{R:List ah}(hw:bc w)(hp:∀x∈p,bc x)(ht:t≠[])(hn:p.length+2=n):aY w n true (dd (w::(p++[t]))::R)=some (w::(p++[t]),R):=by
 have hc:∀x∈w::p,bc x:=fun x hx=>by rcases List.mem_cons.1 hx with rfl|hx;exact hw;exact hp x hx
 have hs:=wM (t:=t) hc;have hj:=iS (b:=32) (x:=32) rfl t;have h1:1≤(ai t 32).length:=eQ 32 t [];have e:cg n true (dd (w::(p++[t])))=w::(p++[t]):=by
  unfold cg;rw[if_pos rfl,←List.cons_append,hs];unfold mH;have hl:(w::p++ai t 32).length=p.length+1+(ai t 32).length:=by simp;omega
  split
  ·have:(ai t 32).length=1:=by omega
   obtain⟨x,hx⟩:=List.length_eq_one_iff.1 this;rw[hx]at hj⊢;simp only[aF]at hj;rw[hj]
  ·have a:n-1=(w::p).length:=by simp;omega
   rw[a,List.take_left,List.drop_left,hj]
 have:eG w n true (dd (w::(p++[t])))=some (w::(p++[t])):=by
  unfold eG;rw[e,if_pos ⟨rfl,.inr (by simp;omega),fun h=>by
   rw[←List.cons_append,List.mem_append,List.mem_singleton]at h;rcases h with h|h
   ·exact(hc _ h).1 rfl
   ·exact ht h.symm⟩]
 simp only[aY,this]
def eS (s:ah):List ah:=if s=[]then []else [dd [fj,s]]
def gL (s:ah):List ah:=if s=[]then []else [dd [cK,s]]
def fA (l:List bp):List ah:=l.map fun w=>dd (gw w)
def jY (n:a7):List ah:=dd [ee]::(fA n.any++(eS n.when'++gL n.option))
def mC (b:gz):List ah:=dd [eR,b.name,b.range]::eS b.when'
def ir (f:bn):ah:=dd ([bz,f.name]++f.of)
structure yt (w:bp):Prop where
 nm:bc w.name
 rg:w.range≠[]∧dI w.range
 fs:∀t∈w.feats,bc t∧∀c∈t,c≠44
 ne:aF [44] w.feats≠[45]
def oC:bc fj:=by unfold bc;decide
def qB:bc cK:=by unfold bc;decide
def oB:bc ee:=by unfold bc;decide
def qA:bc eR:=by unfold bc;decide
def oA:bc bz:=by unfold bc;decide
def vO:bc gX:=by unfold bc;decide
def tC:bc cV:=by unfold bc;decide
def F6 {s:ah}{R:List ah}(hs:s=[]∨bc s)(hR:s=[]→hd R≠some cK):oU (gL s++R)=(s,R):=by
 unfold gL oU;by_cases h:s=[]
 ·rw[if_pos h,List.nil_append,m5 (.inl (by omega)) (hR h)];rw[h]
 ·rw[if_neg h,List.singleton_append,lO (n:=2) qB (l:=[s]) (fun x hx=>by rw[List.mem_singleton.1 hx];exact hs.resolve_left h) (.inr rfl)];rfl
def wU {s:ah}{R:List ah}(hR:s=[]→hd R≠some fj):bj (eS s++R)=(s,R):=by
 unfold eS bj;by_cases h:s=[]
 ·rw[if_pos h,List.nil_append,m5 (.inl (by omega)) (hR h)];rw[h]
 ·rw[if_neg h,List.singleton_append];have:=qX (n:=2) (w:=fj) (p:=[]) (t:=s) (R:=R) oC (fun x hx=>by cases hx) h rfl;rw[List.nil_append]at this;rw[this];rfl
def Fu {l:List ah}(h:∀t∈l,bc t∧∀c∈t,c≠44)(hl:l≠[]):bc (aF [44] l)∧ai (aF [44] l) 44=l:=by
 refine⟨⟨?_,fun c hc=>?_⟩,gp (x:=44) rfl hl fun w hw c hc e=>(h w hw).2 c hc (UInt8.toNat_inj.1 (by have:(44:UInt8).toNat=44:=rfl;omega))⟩
 ·match l,hl with
  |[a],_=>exact(h a (.head _)).1.1
  |a::b::r,_=>simp[aF]
 ·rcases jI 44 l c hc with rfl|⟨w,hw,hc⟩
  ·decide
  ·exact(h w hw).1.2 c hc
def uX {w:bp}(h:yt w):∀x∈[w.name,if w.feats.length=0 then [45]else aF [44] w.feats,if w.bare=true then ez else ij],bc x:=by
 intro x hx;simp only[List.mem_cons,List.not_mem_nil,or_false]at hx;rcases hx with rfl|rfl|rfl
 ·exact h.nm
 ·split
  ·unfold bc;decide
  ·rename_i hn;exact(Fu h.fs (fun e=>hn (by rw[e];rfl))).1
 ·split<;>(unfold bc;decide)
def Ab (w:bp):gw w=gX::([w.name,if w.feats.length=0 then [45]else aF [44] w.feats,if w.bare=true then ez else ij]++[w.range]):=rfl
def I9 {w:bp}(h:yt w):eU (gw w)=w∧pR (gw w)=true:=by
 obtain⟨nm,rg,fs,b⟩:=w;have hb:ez≠ij:=by decide
 constructor
 ·show(⟨nm,rg,(if(if fs.length=0 then [45]else aF [44] fs)=[45]then []else ai (if fs.length=0 then [45]else aF [44] fs) 44),decide ((if b=true then ez else ij)=ez)⟩:bp)=_;have h1:(if(if fs.length=0 then [45]else aF [44] fs)=[45]then []else ai (if fs.length=0 then [45]else aF [44] fs) 44)=fs:=by
   by_cases hn:fs.length=0
   ·rw[if_pos hn,if_pos rfl];exact(List.length_eq_zero_iff.1 hn).symm
   ·rw[if_neg hn,if_neg h.ne];exact(Fu h.fs (fun e=>hn (by rw[show fs=[]from e];rfl))).2
  rw[h1];cases b<;>simp[hb,Ne.symm hb]
 ·show(decide ((if b=true then ez else ij)=ez) ||decide ((if b=true then ez else ij)=ij))=true;cases b<;>simp
def sa {R:List ah}(hR:hd R≠some gX):∀{l:List bp},(∀w∈l,yt w)→bO (fA l++R)=(l,R)
 |[],_=>qf (m5 (.inl (by omega)) hR)
 |w::r,h=>by
  have ih:=sa hR (l:=r) fun x hx=>h x (.tail _ hx)
  have hw:=h w (.head _);have hn:aY gX 5 true (dd (gw w)::(fA r++R))=some (gw w,fA r++R):=by
   have:=qX (n:=5) (w:=gX) (t:=w.range) (R:=fA r++R) vO (uX hw) hw.rg.1 rfl;rw[Ab];exact this
  obtain⟨h1,h2⟩:=I9 hw;have:=r9 hn h2;show bO (dd (gw w)::(fA r++R))=_;rw[this,ih,h1]
structure rz (n:a7):Prop where
 a:∀w∈n.any,yt w
 w:dI n.when'
 o:n.option=[]∨bc n.option
def H2 {s:ah}{R:List ah}:hd (eS s++R)=if s=[]then hd R else some fj:=by
 unfold eS;split
 ·rfl
 ·show some (fw (dd (fj::([]++[s]))))=_;rw[Fc oC (fun x hx=>by cases hx)]
def KK {s:ah}{R:List ah}(hs:s=[]∨bc s):hd (gL s++R)=if s=[]then hd R else some cK:=by
 unfold gL;split
 ·rfl
 ·rename_i h;show some (fw (dd (cK::[s])))=_;rw[tO qB (fun x hx=>by rw[List.mem_singleton.1 hx];exact hs.resolve_left h)]
def FU (R:List ah):Prop:=hd R≠some gX∧hd R≠some fj∧hd R≠some cK
def DM {n:a7}{R:List ah}(h:rz n)(hR:FU R):cY ((fA n.any++(eS n.when'++gL n.option))++R)=(n,R):=by
 have e1:(fA n.any++(eS n.when'++gL n.option))++R=fA n.any++(eS n.when'++(gL n.option++R)):=by simp only[List.append_assoc]
 have ho:=F6 (s:=n.option) (R:=R) h.o fun _=>hR.2.2
 have hh:=KK (R:=R) h.o;have hw:=wU (s:=n.when') (R:=gL n.option++R) fun _=>by
  rw[hh];split
  ·exact hR.2.1
  ·decide
 have ha:=sa (R:=eS n.when'++(gL n.option++R)) (l:=n.any) (by
  rw[H2];split
  ·rw[hh];split
   ·exact hR.1
   ·decide
  ·decide) h.a
 unfold cY;rw[e1,ha,hw,ho]
def eD (l:List a7):List ah:=(l.map jY).flatten
def uk {R:List ah}(hR:FU R)(hN:hd R≠some ee):∀{l:List a7},(∀n∈l,rz n)→eE (eD l++R)=(l,R)
 |[],_=>rR (m5 (.inr rfl) hN)
 |n::r,h=>by
  have ih:=uk hR hN (l:=r) fun x hx=>h x (.tail _ hx)
  have hok:FU (eD r++R):=by
   match r with
   |[]=>exact hR
   |m::q=>
    have:hd (eD (m::q)++R)=some ee:=by
     show some (fw (dd (ee::[])))=_;rw[tO oB (fun x hx=>by cases hx)]
    unfold FU;rw[this];decide
  have hr:=DM (h n (.head _)) hok;have hn:aY ee 1 false (eD (n::r)++R)=some ([ee],(fA n.any++(eS n.when'++gL n.option))++(eD r++R)):=by
   have:=lO (n:=1) (w:=ee) (l:=[]) (R:=(fA n.any++(eS n.when'++gL n.option))++(eD r++R)) oB (fun x hx=>by cases hx) (.inr rfl);rw[←this];simp[eD,jY]
  rw[rS hn,hr,ih]
structure yn (b:gz):Prop where
 nm:bc b.name
 rg:b.range≠[]∧dI b.range
 w:dI b.when'
def fC (l:List gz):List ah:=(l.map mC).flatten
def BJ {R:List ah}{l:List gz}(h:∀b∈l,yn b):hd (fC l++R)=if l=[]then hd R else some eR:=by
 match l with
 |[]=>rfl
 |b::r=>
  rw[if_neg (by simp)];show some (fw (dd (eR::([b.name]++[b.range]))))=_;rw[Fc qA (fun x hx=>by rw[List.mem_singleton.1 hx];exact(h b (.head _)).nm)]
def vI {R:List ah}(hR:hd R≠some fj∧hd R≠some eR):∀{l:List gz},(∀b∈l,yn b)→jP (fC l++R)=(l,R)
 |[],_=>tt (m5 (.inl (by omega)) hR.2)
 |b::r,h=>by
  have ih:=vI hR (l:=r) fun x hx=>h x (.tail _ hx)
  have hb:=h b (.head _);have hw:=wU (s:=b.when') (R:=fC r++R) fun _=>by
   rw[BJ fun x hx=>h x (.tail _ hx)];split
   ·exact hR.1
   ·decide
  have hn:aY eR 3 true (fC (b::r)++R)=some ([eR,b.name,b.range],eS b.when'++(fC r++R)):=by
   have:=qX (n:=3) (w:=eR) (p:=[b.name]) (t:=b.range) (R:=eS b.when'++(fC r++R)) qA (fun x hx=>by rw[List.mem_singleton.1 hx];exact hb.nm) hb.rg.1 rfl;rw[show [eR,b.name,b.range]=eR::([b.name]++[b.range])from rfl,←this];simp[fC,mC]
  rw[tu hn,hw,ih];rfl
structure EA (f:bn):Prop where
 nm:bc f.name
 o:∀t∈f.of,bc t
def tG:∀{l:List bn},(∀f∈l,EA f)→dk (l.map ir)=(l,[])
 |[],_=>rfl
 |f::r,h=>by
  have ih:=tG (l:=r) fun x hx=>h x (.tail _ hx)
  have hf:=h f (.head _);have hn:=lO (n:=0) (w:=bz) (l:=f.name::f.of) (R:=r.map ir) oA (fun x hx=>by
   rcases List.mem_cons.1 hx with rfl|hx
   ·exact hf.nm
   ·exact hf.o x hx) (.inl rfl)
  have hl:eG bz 0 false (ir f)=some (bz::f.name::f.of):=by
   simp only[aY]at hn;show eG bz 0 false (dd (bz::f.name::f.of))=_;cases e:eG bz 0 false (dd (bz::f.name::f.of))with
   |none=>rw[e]at hn;cases hn
   |some q=>rw[e]at hn;simp only[Option.some.injEq,Prod.mk.injEq]at hn;rw[hn.1]
  simp only[List.map_cons,dk,hl];rw[if_pos (by simp),ih];rfl
end Go.Abs
namespace Go.Abs
structure CJ (r:Rec):Prop where
 nm:bc r.name
 v:en r.v=true
 n:∀n∈r.needs,rz n
 b:∀b∈r.bars,yn b
 f:∀f∈r.feats,EA f
def nn (r:Rec):List ah:=eD r.needs++(fC r.bars++r.feats.map ir)
def cA (r:Rec):List ah:=dd [cV,r.name,iZ r.v]::nn r
def fL (l:List ah):ah:=(l.map fun t=>t++[10]).flatten
def kR (a b:List ah):fL (a++b)=fL a++fL b:=by simp[fL]
def qH {α:Type}(f:α→List ah):∀l:List α,fL ((l.map f).flatten)=(l.map fun x=>fL (f x)).flatten
 |[]=>rfl
 |a::r=>by simp only[List.map_cons,List.flatten_cons,kR,qH f r]
def pY (l:List ah):bw l=dd l++[10]:=rfl
def AI (t:ah):fL [t]=t++[10]:=by simp[fL]
def wW (s:ah):fL (eS s)=gv s:=by
 unfold eS gv;split
 ·rfl
 ·rw[AI,pY]
def F8 (s:ah):fL (gL s)=sz s:=by
 unfold gL sz;split
 ·rfl
 ·rw[AI,pY]
def Ac (l:List bp):fL (fA l)=(l.map fun w=>bw (gw w)).flatten:=by
 unfold fA fL;rw[List.map_map];rfl
def fX (t:ah)(l:List ah):fL (t::l)=t++[10]++fL l:=by simp[fL]
def DO (n:a7):fL (jY n)=kY n:=by
 unfold jY kY;rw[fX,kR,kR,Ac,wW,F8,pY];simp only[List.append_assoc]
def EO (b:gz):fL (mC b)=qw b:=by
 unfold mC qw;rw[fX,wW,pY]
def AK (l:List bn):fL (l.map ir)=(l.map oe).flatten:=by
 unfold fL;rw[List.map_map];rfl
def pj (r:Rec):cU r=fL (cA r):=by
 unfold cA nn cU mX;rw[fX,kR,kR,AK];unfold eD fC;rw[qH,qH,pY];simp only[DO,EO,List.append_assoc]
def eJ {l:List ah}(h:∀w∈l,dI w):dI (dd l):=by
 intro c hc;rcases jI 32 l c hc with rfl|⟨w,hw,hc⟩
 ·decide
 ·exact h w hw c hc
def BE {w:ah}(h:bc w):dI w:=fun c hc=>(h.2 c hc).2
def wR {v:dt}(h:en v=true):bc (iZ v):=by
 have e:iZ v=sF v:=by unfold iZ;rw[if_pos h]
 rw[e];refine⟨?_,fun c hc=>?_⟩
 ·unfold sF;have:=sM v.major.toNat;cases hd:bQ v.major.toNat with
  |nil=>exact absurd hd this
  |cons a b=>simp
 ·have:=I7 h hc;exact⟨fun e=>this.1 (by rw[e];rfl),fun e=>this.2 (by rw[e];rfl)⟩
def m4 {r:Rec}(h:CJ r):∀t∈cA r,dI t:=by
 have hwhen:∀s,dI s→∀t∈eS s,dI t:=fun s hs t ht=>by
  unfold eS at ht;split at ht
  ·cases ht
  ·obtain rfl:=List.mem_singleton.1 ht;refine eJ fun w hw=>?_
   simp only[List.mem_cons,List.not_mem_nil,or_false]at hw;rcases hw with rfl|rfl
   ·exact BE oC
   ·exact hs
 intro t ht;unfold cA nn eD fC at ht;simp only[List.mem_cons,List.mem_append,List.mem_flatten,List.mem_map]at ht;rcases ht with rfl|⟨_,⟨n,hn,rfl⟩,ht⟩|⟨_,⟨b,hb,rfl⟩,ht⟩|⟨f,hf,rfl⟩
 ·refine eJ fun w hw=>?_
  simp only[List.mem_cons,List.not_mem_nil,or_false]at hw;rcases hw with rfl|rfl|rfl
  ·exact BE tC
  ·exact BE h.nm
  ·exact BE (wR h.v)
 ·have hw:=h.n n hn;unfold jY at ht;simp only[List.mem_cons,List.mem_append]at ht;rcases ht with rfl|ht|ht|ht
  ·exact eJ fun w hw=>by rw[List.mem_singleton.1 hw];exact BE oB
  ·obtain⟨w,hw2,rfl⟩:=List.mem_map.1 ht;have hww:=hw.a w hw2;rw[Ab];refine eJ fun x hx=>?_
   rcases List.mem_cons.1 hx with rfl|hx
   ·exact BE vO
   ·rcases List.mem_append.1 hx with hx|hx
    ·exact BE (uX hww x hx)
    ·rw[List.mem_singleton.1 hx];exact hww.rg.2
  ·exact hwhen _ hw.w t ht
  ·unfold gL at ht;split at ht
   ·cases ht
   ·rename_i hne;obtain rfl:=List.mem_singleton.1 ht;refine eJ fun x hx=>?_
    simp only[List.mem_cons,List.not_mem_nil,or_false]at hx;rcases hx with rfl|rfl
    ·exact BE qB
    ·exact BE (hw.o.resolve_left hne)
 ·have hw:=h.b b hb;unfold mC at ht;rcases List.mem_cons.1 ht with rfl|ht
  ·refine eJ fun x hx=>?_
   simp only[List.mem_cons,List.not_mem_nil,or_false]at hx;rcases hx with rfl|rfl|rfl
   ·exact BE qA
   ·exact BE hw.nm
   ·exact hw.rg.2
  ·exact hwhen _ hw.w t ht
 ·have hw:=h.f f hf;refine eJ fun x hx=>?_
  simp only[List.mem_append,List.mem_cons,List.not_mem_nil,or_false]at hx;rcases hx with(rfl|rfl)|hx
  ·exact BE oA
  ·exact BE hw.nm
  ·exact BE (hw.o x hx)
def E2 {l:List bn}(h:∀f∈l,EA f):hd (l.map ir)=none∨hd (l.map ir)=some bz:=by
 match l with
 |[]=>exact .inl rfl
 |f::r=>
  right;have hf:=h f (.head _);show some (fw (dd (bz::(f.name::f.of))))=_;rw[tO oA (fun x hx=>by
   rcases List.mem_cons.1 hx with rfl|hx
   ·exact hf.nm
   ·exact hf.o x hx)]
def zz {r:Rec}(h:CJ r):mj (cA r)=some (r,[]):=by
 have hf:=tG h.f;have hfh:=E2 h.f;have hb:=vI (R:=r.feats.map ir) (by rcases hfh with e|e<;>rw[e]<;>decide) h.b;have hbh:=BJ (R:=r.feats.map ir) h.b;have h1:hd (fC r.bars++r.feats.map ir)=none∨hd (fC r.bars++r.feats.map ir)=some bz∨hd (fC r.bars++r.feats.map ir)=some eR:=by
  rw[hbh];split
  ·rcases hfh with e|e<;>rw[e]<;>simp
  ·exact .inr (.inr rfl)
 have hn:=uk (R:=fC r.bars++r.feats.map ir) (by unfold FU;rcases h1 with e|e|e<;>rw[e]<;>decide) (by rcases h1 with e|e|e<;>rw[e]<;>decide) h.n;have hp:=lO (n:=3) (w:=cV) (l:=[r.name,iZ r.v]) (R:=nn r) tC (fun x hx=>by
  simp only[List.mem_cons,List.not_mem_nil,or_false]at hx;rcases hx with rfl|rfl
  ·exact h.nm
  ·exact wR h.v) (.inr rfl)
 unfold mj cA;rw[hp];show(match kJ (iZ r.v)with|some v=>some (oa r.name v (nn r))|none=>none)=_;rw[LI h.v];show some (oa r.name r.v (nn r))=_;unfold oa nn;rw[hn,hb,hf]
end Go.Abs
end
namespace Go.Abs
def FH {w:ah}(h:∀c∈w,c.toNat≠32∧c.toNat≠10):∀c∈w,c≠32∧c≠10:=fun c hc=>⟨fun e=>(h c hc).1 (by rw[e];rfl),fun e=>(h c hc).2 (by rw[e];rfl)⟩
def sR (n:Int):bc (cG n):=⟨(B7 (mT n).1).1,FH (B7 (mT n).1).2.2⟩
def BW (n:Int):bc (hO n):=⟨Ja (mV n).1,FH fun c hc=>⟨(CA (mV n).1 hc).1,(CA (mV n).1 hc).2.1⟩⟩
def CD:(∀t∈va,bc t∧∀c∈t,c≠44)∧aF [44] va≠[45]∧aF [44] (va.take 1)≠[45]:=by unfold bc;decide
def HW (l:List Int)(i own:Int)(al:Bool):yt (hH l i own al):=by
 have hf:=lI l (i+1);obtain⟨_,_,c⟩:=qP l i own al;refine⟨sR _,⟨hf.2.2.1,hf.2.2.2⟩,fun t ht=>?_, ?_⟩
 ·rcases c with e|e|e<;>rw[e]at ht
  ·cases ht
  ·exact CD.1 t (List.mem_of_mem_take ht)
  ·exact CD.1 t ht
 ·rcases c with e|e|e<;>rw[e]
  ·decide
  ·exact CD.2.2
  ·exact CD.2.1
def HV (l:List Int)(i own:Int):rz (dU l i own):=by
 refine⟨fun w hw=>?_,(jT l (i+14)).2.2, ?_⟩
 ·obtain⟨q,_,rfl⟩:=List.mem_map.1 (show w∈oM l i own (dm l i)from hw);exact HW _ _ _ _
 ·rcases xz l i own with e|⟨n,e⟩
  ·exact .inl e
  ·exact .inr (by rw[e];exact BW n)
def KG (l:List Int)(i own:Int):yn (tQ l i own):=⟨sR _,⟨(lI l (i+47)).2.2.1,(lI l (i+47)).2.2.2⟩,(jT l (i+50)).2.2⟩
def JF:∀k,k<4→bc jD[k]! :=by unfold bc;decide
def qz {a b:ah}(ha:bc a)(hb:∀c∈b,c≠32∧c≠10):bc (a++b):=⟨fun e=>ha.1 (List.append_eq_nil_iff.1 e).1,fun c hc=>(List.mem_append.1 hc).elim (ha.2 c) (hb c)⟩
def NL {l:List Int}{i:Int}{r:Rec}{t:ah}(h:LM l i r t)(hr:NdG r):bc t:=by
 rcases h with⟨m,hm,h1,rfl⟩|⟨m,hm,h1,rfl⟩|⟨k,hk,_,rfl⟩
 ·obtain⟨n,e⟩:=(hr m hm).1.resolve_left h1;rw[e];exact qz (by unfold bc;decide) (BW n).2
 ·obtain⟨n,e⟩:=(hr m hm).2 h1;rw[e];exact qz (qz (sR n) (by decide)) (by decide)
 ·exact JF _ (by omega)
def KH (l:List Int)(i own:Int):CJ (gV l i own):=by
 refine⟨sR own,(BV l i).1,fun n hn=>?_,fun b hb=>?_,fun f hf=>?_⟩
 ·obtain⟨k,rfl⟩:=pQ (show n∈yX l i own (gK l i)from hn);exact HV l k own
 ·obtain rfl:=vW (show b∈mR l i own from hb);exact KG l i own
 ·obtain⟨k,hk,e,_,_,hi,_⟩:=lH (show f∈fq l (i+52) (kV l i own)from hf);exact⟨by rw[e];exact JF k hk,fun t ht=>NL (hi t ht) (qO l i own)⟩
def wV (s:ah)(i:Nat):∃s',(s'=s∨s'=[])∧(eS s).take i=eS s':=by
 cases i with
 |zero=>exact⟨[],.inr rfl,by simp[eS]⟩
 |succ i=>
  refine⟨s,.inl rfl, ?_⟩;unfold eS;split<;>simp
def F7 (s:ah)(i:Nat):∃s',(s'=s∨s'=[])∧(gL s).take i=gL s':=by
 cases i with
 |zero=>exact⟨[],.inr rfl,by simp[gL]⟩
 |succ i=>
  refine⟨s,.inl rfl, ?_⟩;unfold gL;split<;>simp
def DN {n:a7}(h:rz n)(i:Nat):∃n',rz n'∧(jY n).take (i+1)=jY n':=by
 obtain⟨w,hw,ew⟩:=wV n.when' (i-(fA n.any).length);obtain⟨o,ho,eo⟩:=F7 n.option (i-(fA n.any).length-(eS n.when').length);refine⟨⟨n.any.take i,w,o⟩,⟨fun x hx=>h.a x (List.mem_of_mem_take hx), ?_, ?_⟩, ?_⟩
 ·rcases hw with e|e
  ·show dI w;rw[e];exact h.w
  ·show dI w;rw[e];intro c hc;cases hc
 ·rcases ho with e|e
  ·show o=[]∨bc o;rw[e];exact h.o
  ·exact .inl e
 ·unfold jY;rw[List.take_succ_cons,List.take_append,List.take_append,ew,eo];unfold fA;rw[List.map_take]
def um {i:Nat}:∀{l:List a7},(∀n∈l,rz n)→∃l',(∀n∈l',rz n)∧(eD l).take i=eD l'
 |[],_=>⟨[],fun n hn=>(by cases hn),by simp[eD]⟩
 |n::r,h=>by
  cases i with
  |zero=>exact⟨[],fun n hn=>(by cases hn),by simp[eD]⟩
  |succ i=>
   obtain⟨n',h1,e1⟩:=DN (h n (.head _)) i;obtain⟨r',h2,e2⟩:=um (i:=i+1-(jY n).length) (l:=r) fun x hx=>h x (.tail _ hx)
   refine⟨n'::r',fun x hx=>by rcases List.mem_cons.1 hx with rfl|hx;exact h1;exact h2 x hx, ?_⟩;show(jY n++eD r).take (i+1)=jY n'++eD r';rw[List.take_append,e1,e2]
def EN {b:gz}(h:yn b)(i:Nat):∃b',yn b'∧(mC b).take (i+1)=mC b':=by
 obtain⟨w,hw,ew⟩:=wV b.when' i;refine⟨⟨b.name,b.range,w⟩,⟨h.nm,h.rg, ?_⟩, ?_⟩
 ·rcases hw with e|e
  ·show dI w;rw[e];exact h.w
  ·show dI w;rw[e];intro c hc;cases hc
 ·unfold mC;rw[List.take_succ_cons,ew]
def vJ {i:Nat}:∀{l:List gz},(∀b∈l,yn b)→∃l',(∀b∈l',yn b)∧(fC l).take i=fC l'
 |[],_=>⟨[],fun n hn=>(by cases hn),by simp[fC]⟩
 |n::r,h=>by
  cases i with
  |zero=>exact⟨[],fun n hn=>(by cases hn),by simp[fC]⟩
  |succ i=>
   obtain⟨n',h1,e1⟩:=EN (h n (.head _)) i;obtain⟨r',h2,e2⟩:=vJ (i:=i+1-(mC n).length) (l:=r) fun x hx=>h x (.tail _ hx)
   refine⟨n'::r',fun x hx=>by rcases List.mem_cons.1 hx with rfl|hx;exact h1;exact h2 x hx, ?_⟩;show(mC n++fC r).take (i+1)=mC n'++fC r';rw[List.take_append,e1,e2]
def A2 {r:Rec}(h:CJ r)(i:Nat):∃r',CJ r'∧(cA r).take (i+1)=cA r':=by
 obtain⟨N,h1,e1⟩:=um (i:=i) h.n;obtain⟨B,h2,e2⟩:=vJ (i:=i-(eD r.needs).length) h.b;refine⟨⟨r.name,r.v,N,B,r.feats.take (i-(eD r.needs).length-(fC r.bars).length)⟩,⟨h.nm,h.v,h1,h2,fun f hf=>h.f f (List.mem_of_mem_take hf)⟩, ?_⟩;unfold cA nn;rw[List.take_succ_cons,List.take_append,List.take_append,e1,e2,List.map_take]
def rE {t:ah}(h:dI t):t.count 10=0:=List.count_eq_zero.2 fun hm=>h 10 hm rfl
def vQ:∀{L:List ah},(∀t∈L,dI t)→(fL L).count 10=L.length
 |[],_=>rfl
 |a::r,h=>by
  rw[fX,List.count_append,List.count_append,rE (h a (.head _)),vQ fun t ht=>h t (.tail _ ht)];simp;omega
def zU:∀{L:List ah}(k:Nat),(∀t∈L,dI t)→k≤(fL L).length→∃j t,j≤L.length∧dI t∧(fL L).take k=fL (L.take j)++t
 |[],k,_,_=>⟨0,[],Nat.le_refl _,(fun c hc=>by cases hc),by simp[fL]⟩
 |a::r,k,h,hk=>by
  rw[fX]at hk⊢;by_cases hka:k≤a.length
  ·refine⟨0,a.take k,Nat.zero_le _,fun c hc=>h a (.head _) c (List.mem_of_mem_take hc), ?_⟩;rw[List.append_assoc,List.take_append_of_le_length hka];simp[fL]
  ·have hl:(a++[10]).length=a.length+1:=by simp
   rw[List.length_append,hl]at hk;obtain⟨j,t,h1,h2,h3⟩:=zU (L:=r) (k-(a.length+1)) (fun t ht=>h t (.tail _ ht)) (by omega);refine⟨j+1,t,by simp;omega,h2, ?_⟩;rw[List.take_append,hl,h3,List.take_of_length_le (by omega),List.take_succ_cons,fX];simp only[List.append_assoc]
def nK {f:Nat→Int}(h:∀j,f j≠2):∀(k i:Nat),(jd f i k).1≠2
 |0,_=>by simp[jd]
 |k+1,i=>by
  simp only[jd];split
  ·exact nK h k (i+1)
  ·exact h i
def qK {f:Nat→Int}(h:∀j,f j≠2):∀(k i:Nat),lG f i k≠2
 |0,_=>by simp[lG]
 |k+1,i=>by
  simp only[lG];split
  ·exact qK h k (i+1)
  ·exact h i
def Aa (r:Rec)(a b:ah):gP r a b≠2:=by
 unfold gP;repeat' split
 all_goals decide
def G2 (r:Rec)(w:bp)(b:Bool):jb r w b≠2:=by
 unfold jb;split
 ·exact Aa _ _ _
 ·split<;>decide
def FJ (r:Rec)(n:a7):ib r n≠2:=by
 unfold ib;split
 ·decide
 split
 ·decide
 split
 ·exact qK (fun j=>G2 _ _ _) _ _
 split
 ·decide
 split<;>decide
def HB (r:Rec)(b:gz):qv r b≠2:=by
 unfold qv;split
 ·exact Aa _ _ _
 ·split<;>decide
def Fs (r:Rec)(t:ah):hY r t≠2:=by
 unfold hY;split
 ·decide
 ·split<;>decide
def CR (r:Rec):(bY r).1≠2:=by
 have hp:(dW r).1≠2:=by
  unfold dW;split
  ·exact nK (fun j=>FJ _ _) _ _
  split
  ·exact nK (fun j=>HB _ _) _ _
  split
  ·decide
  ·exact nK (fun j=>qK (fun q=>Fs _ _) _ _) _ _
 unfold bY;split
 ·decide
 split
 ·decide
 split
 ·decide
 split
 ·exact hp
 split<;>decide
def GG {r:Rec}(h:CJ r)(hl:(cU r).length≤4096){j:Nat}{t:ah}(hj:j≤(cA r).length)(ht:dI t){p:ah}(hp:p=fL ((cA r).take j)++t)(hlen:p.length≤4096):
  if t=[]∧0<j then(dy p).2.1≠2∧(dy p).2.2=0 else(dy p).2.1=2∧(dy p).2.2=(j:Int)+1:=by
 have hc:∀x∈(cA r).take j,dI x:=fun x hx=>m4 h x (List.mem_of_mem_take hx)
 have hs:ai p 10=(cA r).take j++[t]:=by
  have e:∀L:List ah,fL L++t=aF [10] (L++[t]):=fun L=>by
   induction L with
   |nil=>rfl
   |cons a q ih=>rw[List.cons_append,dJ _ _ _ (by simp),←ih,fX];simp
  rw[hp,e];refine gp (x:=10) rfl (by simp) fun w hw c hcc e=>?_
  have e10:c=10:=UInt8.toNat_inj.1 (by have:(10:UInt8).toNat=10:=rfl;omega);rcases List.mem_append.1 hw with hw|hw
  ·exact hc w hw c hcc e10
  ·rw[List.mem_singleton.1 hw]at hcc;exact ht c hcc e10
 have hlj:((cA r).take j).length=j:=by rw[List.length_take];omega
 have h1:(ai p 10).take ((ai p 10).length-1)=(cA r).take j:=by rw[hs];simp
 have h2:(ai p 10)[(ai p 10).length-1]! =t:=by rw[hs];simp
 have hr:dy p=if(mj ((cA r).take j)).isSome=false∨(dK ((cA r).take j)).2≠[]∨t≠[]then(ml,2,((((cA r).take j).length-(dK ((cA r).take j)).2.length:Nat):Int)+1)else if(bY (dK ((cA r).take j)).1).1≠0 then(ml,(bY (dK ((cA r).take j)).1).1,0)else((dK ((cA r).take j)).1,0,0):=by
  unfold dy;rw[if_neg (by omega)];dsimp only;rw[h1,h2]
 cases j with
 |zero=>
  rw[if_neg (by rintro⟨_,h⟩;omega),hr,if_pos (.inl (by simp[mj,aY]))];exact⟨rfl,by simp⟩
 |succ j=>
  obtain⟨r',hw,e⟩:=A2 h j;have hv:dK ((cA r).take (j+1))=(r',[]):=by unfold dK;rw[e,zz hw]
  have hv2:mj ((cA r).take (j+1))=some (r',[]):=by rw[e,zz hw]
  rw[hv,hv2,hlj]at hr;by_cases ht0:t=[]
  ·rw[if_pos ⟨ht0,by omega⟩,hr,if_neg (by simp[ht0])];split
   ·exact⟨CR r',rfl⟩
   ·exact⟨by simp,rfl⟩
  ·rw[if_neg (fun hh=>ht0 hh.1),hr,if_pos (.inr (.inr ht0))];exact⟨rfl,by simp⟩
def yz (y:ah)(c:UInt8):at8 (y++[c]) ((y++[c]).length-1)=(c.toNat:Int):=by
 unfold at8;simp[List.getD]
def yA {s:ah}{k j:Nat}(h:j<k):at8 (s.take k) j=at8 s j:=by
 unfold at8;simp[List.getD,List.getElem?_take_of_lt h]
def Eb (r:Rec):0<(cU r).length:=by
 rw[pj];unfold cA;rw[fX];simp;omega
def Dz (l:List Int){k:Nat}(hk:k≤(cU (gV l 0 0)).length):
  if 0<k∧at8 (cU (gV l 0 0)) (k-1)=10 then(dy ((cU (gV l 0 0)).take k)).2.1≠2∧(dy ((cU (gV l 0 0)).take k)).2.2=0
  else(dy ((cU (gV l 0 0)).take k)).2.1=2∧(dy ((cU (gV l 0 0)).take k)).2.2=1+((((cU (gV l 0 0)).take k).count 10:Nat):Int):=by
 have hW:=KH l 0 0;have hl:=(yY l 0 0).len;generalize gV l 0 0=r at hW hl hk⊢;obtain⟨j,t,h1,h2,h3⟩:=zU (L:=cA r) k (m4 hW) (by rw[←pj];exact hk);rw[←pj]at h3;have h:=GG hW (by omega) h1 h2 h3 (by rw[List.length_take];omega);have hc:∀x∈(cA r).take j,dI x:=fun x hx=>m4 hW x (List.mem_of_mem_take hx)
 have hcn:((cU r).take k).count 10=j:=by
  rw[h3,List.count_append,vQ hc,rE h2,List.length_take];omega
 have hpl:((cU r).take k).length=k:=by rw[List.length_take];omega
 have e:(t=[]∧0<j)↔(0<k∧at8 (cU r) (k-1)=10):=by
  constructor
  ·rintro⟨rfl,hj⟩;obtain⟨i,rfl⟩:∃i,j=i+1:=⟨j-1,by omega⟩
   rw[List.append_nil,List.take_succ_eq_append_getElem (by omega),kR,AI,←List.append_assoc]at h3;have hkp:0<k:=by rw[←hpl,h3];simp;omega
   refine⟨hkp, ?_⟩;rw[←yA (k:=k) (by omega:k-1<k)];have e2:=yz (fL ((cA r).take i)++(cA r)[i]) 10;rw[←h3,hpl]at e2;exact e2
  ·rintro⟨hkp,ha⟩;rw[←yA (k:=k) (by omega:k-1<k)]at ha;rcases List.eq_nil_or_concat t with rfl|⟨t',c,rfl⟩
   ·refine⟨rfl, ?_⟩;rcases Nat.eq_zero_or_pos j with rfl|hj
    ·rw[h3]at hpl;simp[fL]at hpl;omega
    ·exact hj
   ·exfalso;rw[List.concat_eq_append,←List.append_assoc]at h3;have e2:=yz (fL ((cA r).take j)++t') c;rw[←h3,hpl,ha]at e2;refine h2 c (by simp) (UInt8.toNat_inj.1 ?_);have:(10:UInt8).toNat=10:=rfl;omega
 rw[hcn];by_cases hh:t=[]∧0<j
 ·rw[if_pos hh]at h;rw[if_pos (e.1 hh)];exact h
 ·rw[if_neg hh]at h;rw[if_neg fun x=>hh (e.2 x)];exact⟨h.1,by rw[h.2];omega⟩
def tE {s:ah}{i:Nat}(h:i<s.length):(s.take (i+1)).count 10=(s.take i).count 10+if at8 s i=10 then 1 else 0:=by
 rw[List.take_succ_eq_append_getElem h,List.count_append,nB s i h];congr 1;have h10:(10:UInt8).toNat=10:=rfl;by_cases hc:s[i]=10
 ·simp[hc]
 ·rw[if_neg fun hh=>hc (UInt8.toNat_inj.1 (by omega))];simp[hc]
end Go.Abs
section
namespace Go.Abs
open Go
end Go.Abs
end
section
namespace Go.Abs
open Go
end Go.Abs
end
section
namespace Go.Abs
open Go
end Go.Abs
end
section
namespace Go.Abs
def awT:ah:=[112,97,99,107,97,103,101,32,97,112,112,32,49,46,48,46,48,10,110,101,101,100,10,97,110,121,32,98,32,120,32,102,117,108,108,32,94,49,10,119,104,101,110,32,111,115,32,61,32,120,10,98,97,114,32,99,32,42,10,102,101,97,116,117,114,101,32,121,32,98,47,122,10]
def Hz:ah:=[112,97,99,107,97,103,101,32,97,112,112,32,49,46,48,46,48,10,97,110,121,32,98,32,45,32,102,117,108,108,32,42,10]
def Em:Rec:=⟨[97,112,112],⟨1,0,0,[],[]⟩,[⟨[⟨[98],[94,49],[[120]],false⟩],[111,115,32,61,32,120],[]⟩],[⟨[99],[42],[]⟩],[⟨[121],[[98,47,122]]⟩]⟩
set_option maxRecDepth 100000 in
theorem aw1:dy awT=(Em,0,0):=by decide+kernel
set_option maxRecDepth 100000 in
theorem aw3:j3 Em=(awT,0):=by decide+kernel
set_option maxRecDepth 100000 in
theorem aw2:(dy Hz).2=(2,2):=by decide+kernel
def Kv:kn Em:=by
 refine⟨⟨by decide,by decide,by decide⟩,fun n hn=>?_,fun b hb=>?_,fun f hf=>?_⟩
 ·simp only[Em,List.mem_singleton]at hn;subst hn;refine⟨fun w hw=>?_,by decide,by decide⟩;simp only[List.mem_singleton]at hw;subst hw;exact⟨⟨by decide,by decide⟩,fun t ht=>by simp only[List.mem_singleton]at ht;subst ht;decide⟩
 ·simp only[Em,List.mem_singleton]at hb;subst hb;exact⟨by decide,by decide,by decide⟩
 ·simp only[Em,List.mem_singleton]at hf;subst hf;exact⟨by decide,by decide,fun t ht=>by simp only[List.mem_singleton]at ht;subst ht;decide⟩
end Go.Abs
end
section
namespace Go.Abs
open Go
def x7:aB:=⟨1,6,[⟨1,none⟩,⟨2,none⟩],je,(sq (rg [gb 9 s0,gm cse,gm bD] [(3,0),(1,1),(2,2)]) (sq (sq (r1 [gk 9 true s3,gx 70 [l0] [[.a,.a,.a,.a,.a,.a,.sl 3 [.sl 4 [.a,.a,.sl 1 [.a],.a],.a,.a],.sl 3 [.a,.a,.a],.sl 2 [.a,.sl 1 [.a]]]],gm l1,ge l2 0,ge l2 1,gm l3,gm l4] 4 5) (sq (r1 [gm s4,cr l0 bD] 5 1) (.cond s5 (sq (rg [gm s4,gm cse,gm l0] [(1,1),(2,2)]) .ret) .skip))) (sq (rg [gk 9 true s3,gx 215 [l0] [[.a,.a,.a,.a,.a,.a,.sl 3 [.sl 4 [.a,.a,.sl 1 [.a],.a],.a,.a],.sl 3 [.a,.a,.a],.sl 2 [.a,.sl 1 [.a]]]],gm l1,gm bD] [(1,2),(2,3)]) .ret)))⟩
def w72 {Γ:Ctx}(hm:(Γ.at 0).br)(h70:C70 Γ)(h215:JT Γ)(r:Rec)  (hp0:kn r):eA Γ x7 (.tup [.str (j3 r).1,.int .i64 (j3 r).2]) [Rec.D r]:=by
 show bB _ _ _ [⟨_,_⟩,_,_,_,_,_] _;refine ak ?_;refine bg ?_;refine aj (hc:=h70 r hp0) ?_;refine gR ?_;refine cN (fun hc0=>?_) fun hc0=>?_
 ·refine bg ?_;refine cd (aR (congrArg D.str ?_) (congrArg (D.int .i64) ?_));all_goals
   simp[j3,hc0]
 refine ay ?_;have hgd:=yG hc0;refine ax ?_;refine aj (hc:=h215 r ⟨hgd,hp0⟩) ?_;refine aA ?_;refine cd (aR (congrArg D.str ?_) (congrArg (D.int .i64) ?_));all_goals
  simp[j3,hc0]
def C72 (Γ:Ctx):Prop:=∀(r:Rec),(kn r)→Γ.pre 72 [Rec.D r]∧Γ.val 72 [Rec.D r]=.tup [.str (j3 r).1,.int .i64 (j3 r).2]
end Go.Abs
end
section
namespace Go.Abs
open Go
def zc:aB:=⟨0,8,[⟨0,none⟩],cv,(sq (r1 [gm dH] 0 0) (sq (rg [gx 76 [(cs [112,97,99,107,97,103,101,32,97,112,112,32,49,46,48,46,48,10,110,101,101,100,10,97,110,121,32,98,32,120,32,102,117,108,108,32,94,49,10,119,104,101,110,32,111,115,32,61,32,120,10,98,97,114,32,99,32,42,10,102,101,97,116,117,114,101,32,121,32,98,47,122,10])] cv,gm l0,ge l1 0,ge l1 1,ge l1 2,gb 9 (.c (.agg [.str [],.int .i64 0,.int .i64 0,.int .i64 0,.str [],.str [],.av,.av,.av])),gt 9 l5 l2,gm l3,gm l4] [(1,5),(2,7),(4,8)]) (sq (rg [gk 9 true s1,gx 72 [l0] [[.a,.a,.a,.a,.a,.a,.sl 3 [.sl 4 [.a,.a,.sl 1 [.a],.a],.a,.a],.sl 3 [.a,.a,.a],.sl 2 [.a,.sl 1 [.a]]]],gm l1,ge l2 0,ge l2 1,gm l3,gm l4] [(5,5),(3,6)]) (sq (rg [gx 76 [(cs [112,97,99,107,97,103,101,32,97,112,112,32,49,46,48,46,48,10,97,110,121,32,98,32,45,32,102,117,108,108,32,42,10])] cv,gm l0,ge l1 0,ge l1 1,ge l1 2,gb 9 (.c (.agg [.str [],.int .i64 0,.int .i64 0,.int .i64 0,.str [],.str [],.av,.av,.av])),gt 9 l5 l2,gm l3,gm l4] [(6,7),(7,8)]) (sq (r1 [gm s2,aE l0 bD,gm l1,gmt 2 s3,cJ 2 (cR l3 bD),hX l2 l4,gm l5,gmt 6 s4,cJ 6 (cR l7 bD),hX l6 l8,gm l9,sS 10 6 s1,qj 10 ki,cJ 10 (.len ma),cJ 10 (cR n7 ca),hX l10 oR,gm pV,sS 16 7 s1,qj 16 xJ,cJ 16 (.len yl),cJ 16 (cR Ak ca),hX su B2,gm Dr,gmt 22 s5,cJ 22 (.lenS JC),cJ 22 (cR JD (i6 73)),hX Fw KQ,gm LV,gmt 27 s6,cJ 27 (cR NN kB),hX NM NO,gm l30,gmt 31 s7,cJ 31 (cR l32 kB),hX l31 l33,gm l34] 0 35) .ret)))))⟩
def w69 {Γ:Ctx}(hm:(Γ.at 0).br)(h72:C72 Γ)(h76:C76 Γ)    :eA Γ zc (.bool true) []:=by
 show bB _ _ _ [_,_,_,_,_,_,_,_] _;refine ak ?_;refine az ?_;refine aj (v:=.tup [Rec.D Em,.int .i64 0,.int .i64 0]) (hc:=by have:=h76 awT;rw[aw1]at this;exact this) ?_;refine ax ?_;refine fG (Rec.D _) ?_;refine az ?_;refine aI (Rec.D Em) (he:=by exact rfl) ?_;refine aA ?_;refine cS (d:=Rec.D Em) ?_;refine aj (v:=.tup [.str awT,.int .i64 0]) (hc:=by have:=h72 Em Kv;rw[aw3]at this;exact this) ?_;refine bg ?_;refine aj (v:=.tup [Rec.D (dy Hz).1,.int .i64 2,.int .i64 2]) (hc:=by have:=h76 Hz;rw[aw2]at this;exact this) ?_;refine ax ?_;refine fG (Rec.D _) ?_;refine az ?_;refine aI (Rec.D (dy Hz).1) (he:=by exact rfl) ?_;refine xf ?_;refine cy (v:=.sl 3 (Em.needs.map a7.D)) ?_;refine nZ ?_;refine aA ?_;refine cy (v:=.sl 3 (Em.bars.map gz.D)) ?_;refine nZ ?_;refine aA ?_;refine nZ ?_;refine me ?_;refine bL ?_;decide
def C69 (Γ:Ctx):Prop:=Γ.pre 69 []∧Γ.val 69 []=.bool true
end Go.Abs
end
section
namespace Go.Abs
open Go
def pX:aB:=⟨2,14,[⟨2,none⟩],cv,(sq (r1 [gm dH] 2 0) (sq (rg [gm s0,gx 79 [l0,bD,bD] [[.sl 1 [.a]],[.a],[.a]],gx 72 [l1] [[.a,.a,.a,.a,.a,.a,.sl 3 [.sl 4 [.a,.a,.sl 1 [.a],.a],.a,.a],.sl 3 [.a,.a,.a],.sl 2 [.a,.sl 1 [.a]]]],gm l2,ge l3 0,ge l3 1,gm l4,gm l5] [(4,6),(3,7)]) (sq (sq (r1 [gm s3,cr l0 bD,gm l1,eV 2 s4,cu 2 (.lenS l3),cu 2 (cR l4 bD),fY l2 l5] 5 6) (.cond s5 (sq (r1 [gm dH] 2 0) .ret) .skip)) (sq (r1 [gm s1,gm s4,xA l1,gx 478 [l0,l2] je,gm l3] 7 4) (sq (r1 [gm ca] 10 0) (sq (sq (r1 [gm bD] 6 0) (.block 0 (.loop (sq (sq (r1 [gm s6,gm s7,aU l0 l1] 8 2) (js s8 0)) (sq (.block 1 (sq (r1 [gm s4,gm s6,Hc l0 l1,aE l2 (i8 10)] 9 3) (.cond s9 (r1 [gm lx,ar l0 ca,gm l1] 10 2) .skip))) (r1 [gm s6,ar l0 ca,gm l1] 6 2)))))) (sq (rg [gm s4,gm s7,gn (.slS l0 none (some l1)),gx 76 [l2] cv,gm l3,ge l4 0,ge l4 1,ge l4 2,gb 9 (.c (.agg [.str [],.int .i64 0,.int .i64 0,.int .i64 0,.str [],.str [],.av,.av,.av])),gt 9 l8 l5,gm l6,gm l7] [(12,10),(13,11)]) (sq (r1 [gm s7,dA l0 bD,gm l1,gmt 2 s4,gmt 2 s7,cJ 2 (lU l4 ca),cJ 2 (.ixS l3 l5),cJ 2 (cR l6 (i8 10)),hX l2 l7,gm l8] 11 9) (sq (r1 [gx 69 [] [],gm l0,gmt 1 oo,gmt 1 l2,eV 3 my,cu 3 (cR l4 kB),eV 3 l5,gmt 6 sD,gmt 6 lx,cJ 6 (cR l7 l8),BX 3 l6 l9,Jv 1 l3 l10,hX l1 ki,gm ma,gmt 13 oo,cJ 13 (.un .not oR),gmt 13 pV,eV 16 my,cu 16 (fg xJ kB),eV 16 yl,gmt 19 sD,cJ 19 (cR B2 bD),BX 16 Ak Dr,Jv 13 su Fw,hX n7 JC,gm JD] 2 25) .ret)))))))))⟩
def Oc {Γ:Ctx}(hm:(Γ.at 0).br)(h69:C69 Γ)(h72:C72 Γ)(h76:C76 Γ)(h79:C79 Γ)(h478:CF Γ)(l:List Int)(a:Int)   :eA Γ pX (.bool true) [.sl 1 (l.map (D.int .i64)),.int .i64 a]:=by
 show bB _ _ _ [⟨_,_⟩,⟨_,_⟩,_,_,_,_,_,_,_,_,_,_,_,_] _;refine ak ?_;refine az ?_;have hg:=yY l 0 0;have hl:=hg.len;have ht:=Eb (gV l 0 0);refine ax ?_;refine aj (hc:=h79 l 0 0 (by decide) (by decide)) ?_;refine aj (v:=.tup [.str (cU (gV l 0 0)),.int .i64 0]) (hc:=by have:=h72 _ hg.sm;rw[hg.print]at this;exact this) ?_;refine gS ?_;refine nZ ?_;refine az ?_;refine cN (fun hc0=>?_) fun hc0=>?_
 ·refine aP ?_;refine bL ?_;exfalso;rcases hc0 with h|h
  ·simp at h
  ·omega
 refine aP ?_;intro u0;refine aj (hc:=h478 a ((cU (gV l 0 0)).length:Nat) (by omega)) ?_;refine ay ?_;have hr:=ix a ((cU (gV l 0 0)).length:Nat) (by omega);revert hr;generalize a%(((cU (gV l 0 0)).length:Nat):Int)=kk;intro hr;obtain⟨k,rfl⟩:=Int.eq_ofNat_of_zero_le hr.1;refine bg ?_;refine bt hm (ι:=(Nat×Int)) (fun p=>[⟨true,.sl 1 (l.map (D.int .i64))⟩,⟨true,.int .i64 a⟩,.un,.un,⟨true,.str (cU (gV l 0 0))⟩,.un,⟨true,.int .i64 (p.1:Nat)⟩,⟨true,.int .i64 (k:Nat)⟩,.un,.un,⟨true,.int .i64 p.2⟩,.un,.un,.un]) (fun p=>[]) 20 (fun p=>p.1≤k∧p.2=1+(((cU (gV l 0 0)).take p.1).count 10:Nat)) (fun p=>k-p.1) (0,1) ⟨Nat.zero_le _,by simp⟩ (eC []) ?_;rintro⟨i,c⟩ ⟨hi,hc⟩;dsimp only at hi hc⊢;have hcl:=List.count_le_length (a:=10) (l:=(cU (gV l 0 0)).take i);rw[List.length_take]at hcl;refine aT ?_;refine aq (fun hc1=>?_) (fun hc1=>?_)
 ·try simp only[ik]at hc1
  refine b6 ?_;refine gC (fun hc2=>?_) fun hc2=>?_
  ·refine gS ?_;exact⟨(i+1,c+1),⟨by dsimp only;omega,by dsimp only;rw[tE (by omega),if_pos (by simpa using hc2),hc];simp;omega⟩,by dsimp only;omega,(eC [])⟩
  refine b6 ?_;exact⟨(i+1,c),⟨by dsimp only;omega,by dsimp only;rw[tE (by omega),if_neg (by simpa using hc2),hc];simp⟩,by dsimp only;omega,(eC [])⟩
 simp only[decide_eq_false_iff_not]at hc1;have hik:i=k:=by omega
 rw[hik]at hc;have hlw:=Dz l (k:=k) (by omega);refine aP ?_;refine p8 k ?_;refine aj (hc:=h76 _) ?_;refine ax ?_;refine fG (Rec.D _) ?_;refine az ?_;refine aI (Rec.D (dy ((cU (gV l 0 0)).take k)).1) (he:=by exact rfl) ?_;refine jx ?_;refine zv (k-1) ?_;refine aP ?_;refine aj (hc:=h69) ?_;refine Oi ?_;refine bL ?_;by_cases he:0<k∧at8 (cU (gV l 0 0)) (k-1)=10
 ·rw[if_pos he]at hlw;simp[he.1,he.2,hlw.1,hlw.2]
 ·rw[if_neg he]at hlw;simp[hlw.1,hlw.2,hc];omega
end Go.Abs
end
section
namespace Go.Abs
def Kx:List D→Nat
 |_::.int _ (.ofNat 4)::_=>3
 |_=>1
def A69 (T:RT):Prop:=T [] (.bool true)
def A70 (T:RT):Prop:=∀(r:Rec),(kn r)→T [Rec.D r] (.tup [.int .i64 (bY r).1,.int .i64 (bY r).2])
def A72 (T:RT):Prop:=∀(r:Rec),(kn r)→T [Rec.D r] (.tup [.str (j3 r).1,.int .i64 (j3 r).2])
def A76 (T:RT):Prop:=∀(s:ah),T [.str s] (.tup [Rec.D (dy s).1,.int .i64 (dy s).2.1,.int .i64 (dy s).2.2])
def A79 (T:RT):Prop:=∀(l:List Int)(i:Int)(own:Int),(0≤i∧i≤1000000)→(0≤own∧own≤100000)→T [.sl 1 (l.map (D.int .i64)),.int .i64 i,.int .i64 own] (Rec.D (gV l i own))
def L0 (T:RT):Prop:=∀(s:ah)(b:UInt8),(s.length≤1048576)→T [.str s,.str [b]] (.sl 1 ((ai s b.toNat).map D.str))
def L1 (T:RT):Prop:=∀(s:ah),(s.length≤1048576)→T [.str s,.str [124,124]] (.sl 1 ((aL s []).map D.str))
def A124 (T:RT):Prop:=L0 T∧L1 T
def A208 (T:RT):Prop:=∀(s:ah),T [.str s] (.bool (ed s))
def A209 (T:RT):Prop:=∀(v:dt),(v.sm)→T [dt.D v] (.bool (en v))
def A210 (T:RT):Prop:=∀(r:Rec)(n:a7),(n.sm)→T [Rec.D r,a7.D n] (.int .i64 (ib r n))
def A211 (T:RT):Prop:=∀(r:Rec)(name:ah)(rng:ah),(rng.length≤1048576)→T [Rec.D r,.str name,.str rng] (.int .i64 (gP r name rng))
def A212 (T:RT):Prop:=∀(s:ah),T [.str s] (.bool (lL s))
def A213 (T:RT):Prop:=∀(l:List bn),(sP l)→T [.sl 2 (l.map bn.D)] (.bool (fM l))
def A214 (T:RT):Prop:=∀(r:Rec)(s:ah),(s.length≤1048576)→T [Rec.D r,.str s] (.int .i64 (hY r s))
def A215 (T:RT):Prop:=∀(r:Rec),(tV r∧kn r)→T [Rec.D r] (.str (cU r))
def A217 (T:RT):Prop:=∀(v:dt),(v.sm)→T [dt.D v] (.bool (en v))
def L2 (T:FT):Prop:=∀(r:Ld),(r.sm)→T (Ld.D r) [] (.tup [Rec.D (dK r.rest).1,.bool (mj r.rest).isSome]) (Ld.D (r.to (dK r.rest).2))
def MW:tk (kD L2):=HH
def A227 (T:RT):Prop:=∀(n:Int),T [.int .i64 n] (.str (cG n))
def A228 (T:RT):Prop:=∀(l:List Int)(i:Int)(n:Int),(0<n∧n≤9223372036854775807)→T [.sl 1 (l.map (D.int .i64)),.int .i64 i,.int .i64 n] (.int .i64 (de l i n))
def A229 (T:RT):Prop:=∀(l:List Int)(i:Int)(own:Int),(0≤i∧i≤2000000)→(0≤own∧own≤1000000)→T [.sl 1 (l.map (D.int .i64)),.int .i64 i,.int .i64 own] (a7.D (dU l i own))
def A230 (T:RT):Prop:=∀(l:List Int)(i:Int),(0≤i∧i≤4000000)→T [.sl 1 (l.map (D.int .i64)),.int .i64 i] (.str (mS l i))
def A231 (T:RT):Prop:=∀(l:List Int)(i:Int),(0≤i∧i≤4000000)→T [.sl 1 (l.map (D.int .i64)),.int .i64 i] (.str (hE l i))
def A232 (T:RT):Prop:=∀(l:List Int)(i:Int)(r:Rec),(0≤i∧i≤2000000)→(∀j:Nat,j<r.needs.length→r.needs[j]!.option.length≤100∧(r.needs[j]!.any.length=1→r.needs[j]!.any[0]!.name.length≤100))→T [.sl 1 (l.map (D.int .i64)),.int .i64 i,Rec.D r] (.sl 2 ((fq l i r).map bn.D))
def A242 (T:RT):Prop:=∀(l:List ah)(sep:ah),(l.length≤1048600)→(sep.length≤4)→(∀t∈l,t.length≤2097200)→T [.sl 1 (l.map D.str),.str sep] (.str (aF sep l))
def A245 (T:RT):Prop:=∀(s:ah)(n:Int),(s.length≤1048576)→(n=-1∨(1≤n∧n≤1000))→T [.str s,.str [32],.int .i64 n] (.sl 1 ((gQ n s).map D.str))
def A246 (T:RT):Prop:=∀(l:List ah)(x:ah),T [.sl 1 (l.map D.str),.str x] (.bool (decide (x∈l)))
def A249 (T:RT):Prop:=∀(l:List ah)(x:UInt8),((aF [x] l).length≤1099511627776)→T [.sl 1 (l.map D.str),.int .u8 (x.toNat:Nat)] (.str (aF [x] l))
def A254 (T:RT):Prop:=∀(s:ah)(p:ah),(s.length≤1048576)→(p.length≤1048576)→T [.str s,.str p] (.tup [.str (cZ s p).1,.bool (cZ s p).2])
def A336 (T:RT):Prop:=∀(n:Int),(0≤n∧n≤9999)→T [.int .i64 n] (.str (bQ n.toNat))
def A349 (T:RT):Prop:=∀(s:ah),T [.str s] (.bool (bF s))
def A440 (T:RT):Prop:=∀(n:Int),T [.int .i64 n] (.bool (pN n))
def A441 (T:RT):Prop:=∀(s:ah),(s.length≤1048576)→T [.str s] (.bool (ju s true))
def A442 (T:RT):Prop:=∀(s:ah),(s.length≤1048576)→T [.str s] (.bool (ju s false))
def A443 (T:RT):Prop:=∀(r:Rec)(w:bp)(al:Bool),(w.sm)→T [Rec.D r,bp.D w,.bool al] (.int .i64 (jb r w al))
def A444 (T:RT):Prop:=∀(s:ah),(s.length≤1048576)→T [.str s] (.bool (nR s))
def A445 (T:RT):Prop:=∀(s:ah),T [.str s] (.tup [j8 (lM s).1,.int .i64 (lM s).2])
def A446 (T:RT):Prop:=∀(m:Jk),T [j8 m] (.str (LX m))
def A447 (T:RT):Prop:=∀(l:List ah),T [.sl 1 (l.map D.str)] (.bool (rising l))
def A448 (T:RT):Prop:=∀(s:ah),(s.length≤1048576)→T [.str s] (.tup [.int .i64 (b9 s).1,.str (b9 s).2.1,.str (b9 s).2.2])
def A449 (T:RT):Prop:=∀(l:List bn)(nm:ah),T [.sl 2 (l.map bn.D),.str nm] (.bool (LU l nm))
def A451 (T:RT):Prop:=∀(v:dt),(v.sm)→T [dt.D v] (.str (iZ v))
def A454 (T:RT):Prop:=∀(c:Int),T [.int .u8 c] (.bool (aG c))
def A455 (T:RT):Prop:=∀(n:Int),T [.int .i64 n] (.bool (pN n))
def A456 (T:RT):Prop:=∀(s:ah)(p:Bool),(s.length≤1048576)→T [.str s,.bool p] (.bool (mb s p))
def L3 (T:FT):Prop:=∀(r:Ld)(w:ah)(n:Nat)(op:Bool),(r.sm)→(n≤1000)→(op=true→1≤n)→T (Ld.D r) [.str w,.int .i64 (n:Nat),.bool op] (.tup [vw (aY w n op r.rest),.bool (aY w n op r.rest).isSome]) (Ld.D (r.after (aY w n op r.rest)))
def MX:tk (kD L3):=HH
def A466 (T:RT):Prop:=∀(s:ah),(s.length≤1048576)→T [.str s] (.tup [dt.D ((kJ s).getD jo),.int .i64 (uV s)])
def L4 (T:FT):Prop:=∀(r:Ld),(r.sm)→T (Ld.D r) [] (a7.D (cY r.rest).1) (Ld.D (r.to (cY r.rest).2))
def MY:tk (kD L4):=HH
def L5 (T:FT):Prop:=∀(r:Ld),(r.sm)→T (Ld.D r) [] (.str (bj r.rest).1) (Ld.D (r.to (bj r.rest).2))
def MZ:tk (kD L5):=HH
def A469 (T:RT):Prop:=∀(l:List ah),(l.length≤1048600)→T [.sl 1 (l.map D.str)] (.sl 1 (l.map D.str))
def A470 (T:RT):Prop:=∀(s:ah)(b:Int),(s.length≤1048576)→T [.str s,.int .u8 b] (.sl 1 ((ai s b).map D.str))
def A478 (T:RT):Prop:=∀(v:Int)(n:Int),(0<n∧n≤9223372036854775807)→T [.int .i64 v,.int .i64 n] (.int .i64 (v%n))
def A479 (T:RT):Prop:=∀(l:List Int)(i:Int),T [.sl 1 (l.map (D.int .i64)),.int .i64 i] (.int .i64 (gA l i))
def A480 (T:RT):Prop:=∀(l:List Int)(i:Int)(own:Int)(alone:Bool),(0≤i∧i≤3000000)→(0≤own∧own≤1000000)→T [.sl 1 (l.map (D.int .i64)),.int .i64 i,.int .i64 own,.bool alone] (bp.D (hH l i own alone))
def A481 (T:RT):Prop:=∀(n:Int),T [.int .i64 n] (.str (hO n))
def A482 (T:RT):Prop:=∀(c:bX),(c.v.sm)→T [bX.D c] (.str (cW c))
def A483 (T:RT):Prop:=∀(l:List ah)(s:ah),(l.length≤1000)→T [.sl 1 (l.map D.str),.str s] (.sl 1 ((dQ l s).map D.str))
def A487 (T:RT):Prop:=∀(s:ah)(b:UInt8),(s.length≤1048576)→T [.str s,.str [b]] (.tup [.str (ea s b).1,.str (ea s b).2.1,.bool (ea s b).2.2])
def A494 (T:RT):Prop:=∀(l:List ah)(x:ah),T [.sl 1 (l.map D.str),.str x] (.int .i64 (pS l x 0))
def A495 (T:RT):Prop:=∀(s:ah),(s.length≤1048576)→T [.str s] (.tup [iG (jm s).1,.int .i64 (jm s).2])
def A496 (T:RT):Prop:=∀(r:xi),(nt r)→T [iG r] (.str (wC r))
def A533 (T:RT):Prop:=∀(s:ah)(b:Int),(s.length≤1048576)→T [.str s,.int .u8 b] (.sl 1 ((ai s b).map D.str))
def A658 (T:RT):Prop:=∀(s:ah),T [.str s] (.tup [.int .i64 (cX s),.bool (dN s)])
def A659 (T:RT):Prop:=∀(t:ah),T [.str t] (.bool (dp t))
def A661 (T:RT):Prop:=∀(m:Jk),T [j8 m] (.bool (vu m))
def A662 (T:RT):Prop:=∀(l:List Nd),(fN l∧l.length≤15)→T [.sl 5 (l.map Nd.D)] (.str (pk l))
def A663 (T:RT):Prop:=∀(l:List bn)(nm:ah),T [.sl 2 (l.map bn.D),.str nm] (.int .i64 (findF l nm 0))
def A665 (T:RT):Prop:=∀(n:Int),(0≤n∧n≤9999)→T [.int .i64 n] (.str (bQ n.toNat))
def A666 (T:RT):Prop:=∀(t:ah),T [.str t] (.bool (mr t))
def A667 (T:RT):Prop:=∀(s:ah),T [.str s] (.tup [.int .i64 (cX s),.bool (dN s)])
def A668 (T:RT):Prop:=∀(t:ah),T [.str t] (.bool (dp t))
def A675 (T:RT):Prop:=∀(s:ah)(b:Int),T [.str s,.int .u8 b] (.tup [.str (cI s b).1,.str (cI s b).2])
def A676 (T:RT):Prop:=∀(c:bX),(c.v.sm)→T [bX.D c] (.bool (jc c))
def A678 (T:RT):Prop:=∀(op:Int),T [.int .i64 op] (.str (bP op))
def A682 (T:RT):Prop:=∀(s:ah),(s.length≤1048575)→T [.str s] (.tup [bX.D ((gZ s).getD dx),.int .i64 (if(gZ s).isSome=true then 0 else 6)])
def A683 (T:RT):Prop:=∀(s:ah)(b:UInt8),(b=32)→(s.length≤1048576)→T [.str s,.str [b]] (.str (er s))
def A684 (T:RT):Prop:=∀(r:xi),(nt r)→T [iG r] (.tup [.str (if kv r=true then D4 r else []),.bool (kv r)])
def A685 (T:RT):Prop:=∀(r:xi),(nt r)→T [iG r] (.bool (qV r))
def A734 (T:RT):Prop:=∀(n:Int),(0≤n∧n≤9999)→T [.int .i64 n] (.str (bQ n.toNat))
def A810 (T:RT):Prop:=∀(l:List Nd),T [.sl 5 (l.map Nd.D)] (.bool (decide (l.length≤15)&&nw l))
def A811 (T:RT):Prop:=∀(l:List Nd)(i:Int),(fN l∧l.length≤15∧0≤i∧i<l.length)→T [.sl 5 (l.map Nd.D),.int .i64 i] (.str (kI l i))
def u811:List D→Nat:=fun ds=>2*(match ds.getD 1 .any with| .int _ i=>i.toNat|_=>0)
def A819 (T:RT):Prop:=∀(s:ah),(s.length≤1048576)→T [.str s] (.tup [bX.D ((dM s).getD dx),.bool (dM s).isSome])
def A827 (T:RT):Prop:=∀(c:bX),(c.v.sm)→T [bX.D c] (.bool (jc c))
def A828 (T:RT):Prop:=∀(c:bX),(c.v.sm)→T [bX.D c] (.str (cW c))
def A882 (T:RT):Prop:=∀(n:Nat),(n≤9999)→T [.int .u64 (n:Nat)] (.str (bQ n))
def A946 (T:RT):Prop:=∀(w:List ah)(es:List D)(b:Bool),T [.ref 3 [ep w (.sl 5 es) b] 0 0] (.str (bK w))
def A950 (T:RT):Prop:=T [] (.sl 1 (lZ.map D.str))
def A951 (T:RT):Prop:=∀(l:List Nd)(i:Int)(b:Bool),(fN l∧l.length≤15∧0≤i∧i<l.length)→T [.sl 5 (l.map Nd.D),.int .i64 i,.bool b] (.str (j7 (kI l i) b))
def u951:List D→Nat:=fun ds=>2*(match ds.getD 1 .any with| .int _ i=>i.toNat|_=>0)+1
def A956 (T:RT):Prop:=∀(s:ah)(w:ah),T [.str s,.str w] (.bool (qx s w))
def A957 (T:RT):Prop:=∀(op:Int),T [.int .i64 op] (.str (bP op))
def Jc (T:RT):Prop:=∀(l:List Int)(a:Int),T [.sl 1 (l.map (D.int .i64)),.int .i64 a] (.bool true)
def MV:M0 (xM Jc):=bG
def ba:List (Nat×n4):=[(69,rP 16 A69),(70,rP 14 A70),(72,rP 15 A72),(76,rP 15 A76),(79,rP 10 A79),(124,rP 1 A124),(208,rP 1 A208),(209,rP 4 A209),(210,rP 13 A210),(211,rP 11 A211),(212,rP 6 A212),(213,rP 3 A213),(214,rP 3 A214),(215,rP 6 A215),(217,rP 4 A217),(222,rF 7 L2),(227,rP 2 A227),(228,rP 2 A228),(229,rP 9 A229),(230,rP 7 A230),(231,rP 3 A231),(232,rP 2 A232),(242,rP 1 A242),(245,rP 1 A245),(246,rP 2 A246),(249,rP 1 A249),(254,rP 1 A254),(336,rP 1 A336),(349,rP 1 A349),(440,rP 1 A440),(441,rP 3 A441),(442,rP 2 A442),(443,rP 12 A443),(444,rP 10 A444),(445,rP 5 A445),(446,rP 5 A446),(447,rP 1 A447),(448,rP 2 A448),(449,rP 2 A449),(450,rG 2 JZ),(451,rP 5 A451),(452,rG 1 J1),(454,rP 1 A454),(455,rP 1 A455),(456,rP 3 A456),(465,rFG 3 L3 BC),(466,rP 6 A466),(467,rF 5 L4),(468,rF 4 L5),(469,rP 1 A469),(470,rP 1 A470),(478,rP 1 A478),(479,rP 1 A479),(480,rP 8 A480),(481,rP 2 A481),(482,rP 6 A482),(483,rP 1 A483),(487,rP 1 A487),(489,rG 1 J4),(494,rP 1 A494),(495,rP 9 A495),(496,rP 8 A496),(533,rP 1 A533),(658,rP 1 A658),(659,rP 1 A659),(660,rG 4 J5 (FF fun _=>4)),(661,rP 4 A661),(662,rP 3 A662),(663,rP 1 A663),(664,rG 1 J8),(665,rP 2 A665),(666,rP 1 A666),(667,rP 2 A667),(668,rP 1 A668),(675,rP 1 A675),(676,rP 5 A676),(677,rG 3 Ka),(678,rP 1 A678),(682,rP 8 A682),(683,rP 1 A683),(684,rP 7 A684),(685,rP 8 A685),(734,rP 2 A734),(808,rG 4 C808 (FF Kx)),(809,rG 4 C809 (FF fun _=>2)),(810,rP 2 A810),(811,rP 2 A811 u811),(819,rP 7 A819),(827,rP 5 A827),(828,rP 6 A828),(882,rP 1 A882),(946,rP 1 A946),(947,rG 2 CG),(948,rG 1 Ey),(949,rG 4 C949 (FF fun _=>0)),(950,rP 1 A950),(951,rP 2 A951 u951),(956,rP 1 A956),(957,rP 1 A957),(1031,rG 3 Er),(1192,rP 17 Jc)]
variable {k u v:Nat}
def G69 (hk:16<k:=by decide):C69 (under ba k u):=dL bG (.inl hk) fun T hT=>hT
def G70 (hk:14<k:=by decide):C70 (under ba k u):=fun r hp0=>dL bG (.inl hk) fun T hT=>hT r hp0
def G72 (hk:15<k:=by decide):C72 (under ba k u):=fun r hp0=>dL bG (.inl hk) fun T hT=>hT r hp0
def G76 (hk:15<k:=by decide):C76 (under ba k u):=fun s=>dL bG (.inl hk) fun T hT=>hT s
def G79 (hk:10<k:=by decide):C79 (under ba k u):=fun l i own hp0 hp1=>dL bG (.inl hk) fun T hT=>hT l i own hp0 hp1
def Hq (hk:1<k:=by decide):Es (under ba k u):=fun s b hp=>dL bG (.inl hk) fun T h=>h.1 s b hp
def Nr (hk:1<k:=by decide):Je (under ba k u):=fun s hp=>dL bG (.inl hk) fun T h=>h.2 s hp
def Kf (hk:1<k:=by decide):Hi (under ba k u):=fun s=>dL bG (.inl hk) fun T hT=>hT s
def Hr (hk:4<k:=by decide):Et (under ba k u):=fun v hp0=>dL bG (.inl hk) fun T hT=>hT v hp0
def G210 (hk:13<k:=by decide):L6 (under ba k u):=fun r n hp0=>dL bG (.inl hk) fun T hT=>hT r n hp0
def M3 (hk:11<k:=by decide):JR (under ba k u):=fun r name rng hp0=>dL bG (.inl hk) fun T hT=>hT r name rng hp0
def M4 (hk:6<k:=by decide):JS (under ba k u):=fun s=>dL bG (.inl hk) fun T hT=>hT s
def G213 (hk:3<k:=by decide):L7 (under ba k u):=fun l hp0=>dL bG (.inl hk) fun T hT=>hT l hp0
def G214 (hk:3<k:=by decide):L8 (under ba k u):=fun r s hp0=>dL bG (.inl hk) fun T hT=>hT r s hp0
def M5 (hk:6<k:=by decide):JT (under ba k u):=fun r hp0=>dL bG (.inl hk) fun T hT=>hT r hp0
def G217 (hk:4<k:=by decide):L9 (under ba k u):=fun v hp0=>dL bG (.inl hk) fun T hT=>hT v hp0
def G222 (hk:7<k:=by decide):Ma (under ba k u):=fun r hp0=>okf MW hk fun T h=>h r hp0
def M6 (hk:2<k:=by decide):JU (under ba k u):=fun n=>dL bG (.inl hk) fun T hT=>hT n
def EB (hk:2<k:=by decide):CE (under ba k u):=fun l i n hp0=>dL bG (.inl hk) fun T hT=>hT l i n hp0
def G229 (hk:9<k:=by decide):Mb (under ba k u):=fun l i own hp0 hp1=>dL bG (.inl hk) fun T hT=>hT l i own hp0 hp1
def M7 (hk:7<k:=by decide):JV (under ba k u):=fun l i hp0=>dL bG (.inl hk) fun T hT=>hT l i hp0
def M8 (hk:3<k:=by decide):JW (under ba k u):=fun l i hp0=>dL bG (.inl hk) fun T hT=>hT l i hp0
def G232 (hk:2<k:=by decide):Mc (under ba k u):=fun l i r hp0 hp1=>dL bG (.inl hk) fun T hT=>hT l i r hp0 hp1
def Kg (hk:1<k:=by decide):Hj (under ba k u):=fun l sep hp0 hp1 hp2=>dL bG (.inl hk) fun T hT=>hT l sep hp0 hp1 hp2
def M9 (hk:1<k:=by decide):Md (under ba k u):=fun s n hp0 hp1=>dL bG (.inl hk) fun T hT=>hT s n hp0 hp1
def Na (hk:2<k:=by decide):Me (under ba k u):=fun l x=>dL bG (.inl hk) fun T hT=>hT l x
def G249 (hk:1<k:=by decide):Mf (under ba k u):=fun l x hp0=>dL bG (.inl hk) fun T hT=>hT l x hp0
def G254 (hk:1<k:=by decide):Mg (under ba k u):=fun s p hp0 hp1=>dL bG (.inl hk) fun T hT=>hT s p hp0 hp1
def G336 (hk:1<k:=by decide):Mh (under ba k u):=fun n hp0=>dL bG (.inl hk) fun T hT=>hT n hp0
def CI (hk:1<k:=by decide):An (under ba k u):=fun s=>dL bG (.inl hk) fun T hT=>hT s
def G440 (hk:1<k:=by decide):Mi (under ba k u):=fun n=>dL bG (.inl hk) fun T hT=>hT n
def G441 (hk:3<k:=by decide):Mj (under ba k u):=fun s hp0=>dL bG (.inl hk) fun T hT=>hT s hp0
def Nb (hk:2<k:=by decide):JX (under ba k u):=fun s hp0=>dL bG (.inl hk) fun T hT=>hT s hp0
def G443 (hk:12<k:=by decide):Mk (under ba k u):=fun r w al hp0=>dL bG (.inl hk) fun T hT=>hT r w al hp0
def G444 (hk:10<k:=by decide):Ml (under ba k u):=fun s hp0=>dL bG (.inl hk) fun T hT=>hT s hp0
def G445 (hk:5<k:=by decide):Mm (under ba k u):=fun s=>dL bG (.inl hk) fun T hT=>hT s
def G446 (hk:5<k:=by decide):Mn (under ba k u):=fun m=>dL bG (.inl hk) fun T hT=>hT m
def G447 (hk:1<k:=by decide):Mo (under ba k u):=fun l=>dL bG (.inl hk) fun T hT=>hT l
def Nc (hk:2<k:=by decide):JY (under ba k u):=fun s hp0=>dL bG (.inl hk) fun T hT=>hT s hp0
def G449 (hk:2<k:=by decide):Mp (under ba k u):=fun l nm=>dL bG (.inl hk) fun T hT=>hT l nm
def G450 (hk:2<k:=by decide):JZ (under ba k u):=fun ws t l lw nx m K h1 h2 h3 h4 h5 hK=>Bb (.inl hk) fun T _ h=>h ws t l lw nx m K h1 h2 h3 h4 h5 hK
def Nf (hk:5<k:=by decide):J0 (under ba k u):=fun v hp0=>dL bG (.inl hk) fun T hT=>hT v hp0
def G452 (hk:1<k:=by decide):J1 (under ba k u):=fun ds st K h1=>Bb (.inl hk) fun T _ h=>h ds st K h1
def G454 (hk:1<k:=by decide):Mq (under ba k u):=fun c=>dL bG (.inl hk) fun T hT=>hT c
def G455 (hk:1<k:=by decide):Mr (under ba k u):=fun n=>dL bG (.inl hk) fun T hT=>hT n
def G456 (hk:3<k:=by decide):Ms (under ba k u):=fun s p hp0=>dL bG (.inl hk) fun T hT=>hT s p hp0
def Ng (hk:3<k:=by decide):Hk (under ba k u):=fun r w n op hp0 hp1 hp2=>okf MX hk fun T h=>h r w n op hp0 hp1 hp2
def Ns (hk:3<k:=by decide):BC (under ba k u):=fun r w n op l nx m K h1 h2 h3 h4 hK=>Bb (.inl hk) fun T _ h=>h r w n op l nx m K h1 h2 h3 h4 hK
def G466 (hk:6<k:=by decide):Mt (under ba k u):=fun s hp0=>dL bG (.inl hk) fun T hT=>hT s hp0
def G467 (hk:5<k:=by decide):J2 (under ba k u):=fun r hp0=>okf MY hk fun T h=>h r hp0
def Nh (hk:4<k:=by decide):Hl (under ba k u):=fun r hp0=>okf MZ hk fun T h=>h r hp0
def G469 (hk:1<k:=by decide):Mu (under ba k u):=fun l hp0=>dL bG (.inl hk) fun T hT=>hT l hp0
def G470 (hk:1<k:=by decide):Mv (under ba k u):=fun s b hp0=>dL bG (.inl hk) fun T hT=>hT s b hp0
def EC (hk:1<k:=by decide):CF (under ba k u):=fun v n hp0=>dL bG (.inl hk) fun T hT=>hT v n hp0
def Kh (hk:1<k:=by decide):Hm (under ba k u):=fun l i=>dL bG (.inl hk) fun T hT=>hT l i
def G480 (hk:8<k:=by decide):Mw (under ba k u):=fun l i own alone hp0 hp1=>dL bG (.inl hk) fun T hT=>hT l i own alone hp0 hp1
def Ni (hk:2<k:=by decide):J3 (under ba k u):=fun n=>dL bG (.inl hk) fun T hT=>hT n
def G482 (hk:6<k:=by decide):Mx (under ba k u):=fun c hp0=>dL bG (.inl hk) fun T hT=>hT c hp0
def G483 (hk:1<k:=by decide):My (under ba k u):=fun l s hp0=>dL bG (.inl hk) fun T hT=>hT l s hp0
def G487 (hk:1<k:=by decide):Mz (under ba k u):=fun s b hp0=>dL bG (.inl hk) fun T hT=>hT s b hp0
def G489 (hk:1<k:=by decide):J4 (under ba k u):=fun ds st K h1=>Bb (.inl hk) fun T _ h=>h ds st K h1
def G494 (hk:1<k:=by decide):MA (under ba k u):=fun l x=>dL bG (.inl hk) fun T hT=>hT l x
def G495 (hk:9<k:=by decide):MB (under ba k u):=fun s hp0=>dL bG (.inl hk) fun T hT=>hT s hp0
def G496 (hk:8<k:=by decide):MC (under ba k u):=fun r hp0=>dL bG (.inl hk) fun T hT=>hT r hp0
def Hs (hk:1<k:=by decide):Eu (under ba k u):=fun s b hp0=>dL bG (.inl hk) fun T hT=>hT s b hp0
def Ki (hk:1<k:=by decide):Hn (under ba k u):=fun s=>dL bG (.inl hk) fun T hT=>hT s
def G659 (hk:1<k:=by decide):MD (under ba k u):=fun t=>dL bG (.inl hk) fun T hT=>hT t
def G660 (hk:4<k:=by decide):J5 (under ba k u):=fun w nd hp0 nx lp ln m K h1 h2 h3 h4 hK=>Bb (.inl hk) fun T _ h=>h w nd hp0 nx lp ln m K h1 h2 h3 h4 hK
def Nj (hv:v≤u):Jd (under ba 4 u) v:=fun w nd hp0 hu nx lp ln m K h1 h2 h3 h4 hK=>Bb (.inr ⟨rfl,by rw[show(lk ba 660 j4).muE=FF fun _=>4 from rfl,jX h1];exact Nat.lt_of_lt_of_le hu hv⟩) fun T _ h=>h w nd hp0 nx lp ln m K h1 h2 h3 h4 hK
def Nk (hk:4<k:=by decide):J6 (under ba k u):=fun m=>dL bG (.inl hk) fun T hT=>hT m
def Nl (hk:3<k:=by decide):J7 (under ba k u):=fun l hp0=>dL bG (.inl hk) fun T hT=>hT l hp0
def G663 (hk:1<k:=by decide):ME (under ba k u):=fun l nm=>dL bG (.inl hk) fun T hT=>hT l nm
def G664 (hk:1<k:=by decide):J8 (under ba k u):=fun ds st K h1=>Bb (.inl hk) fun T _ h=>h ds st K h1
def Nn (hk:2<k:=by decide):J9 (under ba k u):=fun n hp0=>dL bG (.inl hk) fun T hT=>hT n hp0
def G666 (hk:1<k:=by decide):MF (under ba k u):=fun t=>dL bG (.inl hk) fun T hT=>hT t
def G667 (hk:2<k:=by decide):MG (under ba k u):=fun s=>dL bG (.inl hk) fun T hT=>hT s
def G668 (hk:1<k:=by decide):MH (under ba k u):=fun t=>dL bG (.inl hk) fun T hT=>hT t
def G675 (hk:1<k:=by decide):MI (under ba k u):=fun s b=>dL bG (.inl hk) fun T hT=>hT s b
def G676 (hk:5<k:=by decide):MJ (under ba k u):=fun c hp0=>dL bG (.inl hk) fun T hT=>hT c hp0
def G677 (hk:3<k:=by decide):Ka (under ba k u):=fun c hp0 nx m K hK=>Bb (.inl hk) fun T _ h=>h c hp0 nx m K hK
def G678 (hk:1<k:=by decide):MK (under ba k u):=fun op=>dL bG (.inl hk) fun T hT=>hT op
def G682 (hk:8<k:=by decide):ML (under ba k u):=fun s hp0=>dL bG (.inl hk) fun T hT=>hT s hp0
def G683 (hk:1<k:=by decide):MM (under ba k u):=fun s b hp0 hp1=>dL bG (.inl hk) fun T hT=>hT s b hp0 hp1
def Kj (hk:7<k:=by decide):Ho (under ba k u):=fun r hp0=>dL bG (.inl hk) fun T hT=>hT r hp0
def G685 (hk:8<k:=by decide):MN (under ba k u):=fun r hp0=>dL bG (.inl hk) fun T hT=>hT r hp0
def G734 (hk:2<k:=by decide):MO (under ba k u):=fun n hp0=>dL bG (.inl hk) fun T hT=>hT n hp0
def Jh (hv:v≤u):Ev (under ba 4 u) v:=⟨fun w nd hp0 hu nx lp ln m K h1 h2 h3 h4 hK=>Bb (.inr ⟨rfl,by rw[show(lk ba 808 j4).muE=FF Kx from rfl,jX h1];exact Nat.lt_of_lt_of_le hu hv⟩) fun T _ h=>h.1 w nd hp0 nx lp ln m K h1 h2 h3 h4 hK,fun w nd hp0 hu nx lp ln m K h1 h2 h3 h4 hK=>Bb (.inr ⟨rfl,by rw[show(lk ba 808 j4).muE=FF Kx from rfl,jX h1];exact Nat.lt_of_lt_of_le hu hv⟩) fun T _ h=>h.2 w nd hp0 nx lp ln m K h1 h2 h3 h4 hK⟩
def Np (hv:v≤u):MP (under ba 4 u) v:=fun w nd hp0 hu nx lp ln m K h1 h2 h3 h4 hK=>Bb (.inr ⟨rfl,by rw[show(lk ba 809 j4).muE=FF fun _=>2 from rfl,jX h1];exact Nat.lt_of_lt_of_le hu hv⟩) fun T _ h=>h w nd hp0 nx lp ln m K h1 h2 h3 h4 hK
def G810 (hk:2<k:=by decide):MQ (under ba k u):=fun l=>dL bG (.inl hk) fun T hT=>hT l
def G811 (hk:2<k:=by decide):MR (under ba k u):=fun l i hp0=>dL bG (.inl hk) fun T hT=>hT l i hp0
def Ji (hv:v≤u):Ew (under ba 2 u) v:=fun l i hp0 hu=>dL bG (.inr ⟨rfl,Nat.lt_of_lt_of_le hu hv⟩) fun T hT=>hT l i hp0
def G819 (hk:7<k:=by decide):MS (under ba k u):=fun s hp0=>dL bG (.inl hk) fun T hT=>hT s hp0
def Kk (hk:5<k:=by decide):Hp (under ba k u):=fun c hp0=>dL bG (.inl hk) fun T hT=>hT c hp0
def Nq (hk:6<k:=by decide):Kb (under ba k u):=fun c hp0=>dL bG (.inl hk) fun T hT=>hT c hp0
def G882 (hk:1<k:=by decide):MT (under ba k u):=fun n hp0=>dL bG (.inl hk) fun T hT=>hT n hp0
def Kl (hk:1<k:=by decide):Kc (under ba k u):=fun w es b=>dL bG (.inl hk) fun T hT=>hT w es b
def Ht (hk:2<k:=by decide):CG (under ba k u):=fun w nd b nx lp ln m K h1 h2 h3 h4 hK=>Bb (.inl hk) fun T _ h=>h w nd b nx lp ln m K h1 h2 h3 h4 hK
def Hu (hk:1<k:=by decide):Ey (under ba k u):=fun x w nd b hp0 nx lp ln m K h1 h2 h3 h4 hK=>Bb (.inl hk) fun T _ h=>h x w nd b hp0 nx lp ln m K h1 h2 h3 h4 hK
def Jj (hv:v≤u):Jf (under ba 4 u) v:=fun w nd hp0 hu nx lp ln m K h1 h2 h3 h4 hK=>Bb (.inr ⟨rfl,by rw[show(lk ba 949 j4).muE=FF fun _=>0 from rfl,jX h1];exact Nat.lt_of_lt_of_le hu hv⟩) fun T _ h=>h w nd hp0 nx lp ln m K h1 h2 h3 h4 hK
def Nt (hk:1<k:=by decide):Kd (under ba k u):=dL bG (.inl hk) fun T hT=>hT
def Nu (hv:v≤u):Jg (under ba 2 u) v:=fun l i b hp0 hu=>dL bG (.inr ⟨rfl,Nat.lt_of_lt_of_le hu hv⟩) fun T hT=>hT l i b hp0
def G956 (hk:1<k:=by decide):MU (under ba k u):=fun s w=>dL bG (.inl hk) fun T hT=>hT s w
def Nv (hk:1<k:=by decide):Ke (under ba k u):=fun op=>dL bG (.inl hk) fun T hT=>hT op
def M1 (hk:3<k:=by decide):Er (under ba k u):=fun k w nd b hp0 nx lp ln m K h1 h2 h3 h4 hK=>Bb (.inl hk) fun T _ h=>h k w nd b hp0 nx lp ln m K h1 h2 h3 h4 hK
end Go.Abs
end
namespace Go.Abs
def sy:List (Nat×Nat):=[(6,1192),(12,69),(13,76),(17,79),(18,478),(19,228),(20,70),(21,72),(28,124),(29,222),(35,227),(36,229),(37,230),(38,231),(39,232),(40,479),(41,208),(42,209),(43,210),(44,211),(45,212),(46,213),(47,214),(48,215),(51,217),(61,465),(62,466),(63,467),(64,468),(65,469),(66,470),(77,249),(78,480),(79,481),(80,482),(81,483),(82,440),(83,441),(84,442),(85,443),(86,349),(87,444),(88,445),(89,446),(90,447),(91,448),(92,449),(93,450),(94,451),(95,242),(96,452),(98,454),(99,455),(100,456),(112,245),(113,246),(114,675),(115,533),(116,658),(119,676),(120,677),(121,678),(122,659),(123,495),(124,496),(125,660),(126,661),(127,662),(128,254),(129,487),(130,663),(131,489),(132,664),(133,665),(135,666),(136,667),(137,668),(150,494),(153,734),(154,682),(155,683),(156,684),(157,685),(158,808),(159,809),(160,810),(161,811),(165,336),(179,882),(180,819),(188,827),(189,828),(190,946),(191,947),(192,948),(193,949),(194,950),(195,951),(212,956),(213,957),(217,1031)]
def EY:List Nat:=[219,1091,1354,1894,1896,1616,1320,1618,1898,2062,2066,2282,2068,2252,2194,2064,1904,900,931,937,935,445,978,1328,904,942,944,946,952,448,1000000133]
def bC:(Go.Proofs.Tryz.prog).follows .mixedOrders=true:=by kernel_rfl
abbrev Ow [bU](f n:Nat):Prop:=LN Go.Proofs.Tryz.prog sy EY ba f n
abbrev Cp (f:Nat)(a:aB):Prop:=Ez Go.Proofs.Tryz.prog sy EY f a
def ck {f:Nat}{a:aB}(h:((Go.Proofs.Tryz.prog).funcs[f]?).map (fun f=>(compile Go.Proofs.Tryz.prog sy EY f,f.name== "runtime.NumGoroutine"))=some (some a,false):=by kernel_rfl):Cp f a:=h
end Go.Abs
section
namespace Go.Proofs
open Go.Shelf
def Tryz.HD:Go.Shelf.Ren:=⟨fun|166=>131|167=>132|169=>96|240=>164|276=>197|n=>n,fun|70=>131|9=>9|0=>0|72=>133|37=>53|3=>3|5=>5|4=>4|20=>20|75=>172|80=>99|164=>215|127=>177|n=>n,fun|n=>n⟩
def Tryz.BK:Go.Proofs.Lays.n166 Tryz.prog Tryz.HD:={
 mixed:=by kernel_rfl
 f166:=Tryz.func131.trans (congrArg some (by kernel_rfl))
 f240:=Tryz.func164.trans (congrArg some (by kernel_rfl))
 f276:=Tryz.func197.trans (congrArg some (by kernel_rfl))
 t0:=Tryz.underlying0
 a0:=Tryz.isAgg0
 z0:=Tryz.sizeOf0
 v0:=Tryz.zeroValue0
 t3:=Tryz.underlying3
 a3:=Tryz.isAgg3
 z3:=Tryz.sizeOf3
 v3:=Tryz.zeroValue3
 t4:=Tryz.underlying4
 a4:=Tryz.isAgg4
 z4:=Tryz.sizeOf4
 v4:=Tryz.zeroValue4
 t9:=Tryz.underlying9
 a9:=Tryz.isAgg9
 z9:=Tryz.sizeOf9
 v9:=Tryz.zeroValue9
 t20:=Tryz.underlying20
 a20:=Tryz.isAgg20
 z20:=Tryz.sizeOf20
 v20:=Tryz.zeroValue20
 t37:=Tryz.underlying53
 a37:=Tryz.isAgg53
 z37:=Tryz.sizeOf53
 v37:=Tryz.zeroValue53
 t70:=Tryz.underlying131
 a70:=Tryz.isAgg131
 z70:=Tryz.sizeOf131
 v70:=Tryz.zeroValue131
 t72:=Tryz.underlying133
 a72:=Tryz.isAgg133
 z72:=Tryz.sizeOf133
 v72:=Tryz.zeroValue133
 t75:=Tryz.underlying172
 a75:=Tryz.isAgg172
 z75:=Tryz.sizeOf172
 v75:=Tryz.zeroValue172
 t164:=Tryz.underlying215
 a164:=Tryz.isAgg215
 z164:=Tryz.sizeOf215
 v164:=Tryz.zeroValue215}
def Tryz.BL:Go.Proofs.Lays.n167 Tryz.prog Tryz.HD:={
 mixed:=by kernel_rfl
 f167:=Tryz.func132.trans (congrArg some (by kernel_rfl))
 f240:=Tryz.func164.trans (congrArg some (by kernel_rfl))
 f276:=Tryz.func197.trans (congrArg some (by kernel_rfl))
 t0:=Tryz.underlying0
 a0:=Tryz.isAgg0
 z0:=Tryz.sizeOf0
 v0:=Tryz.zeroValue0
 t4:=Tryz.underlying4
 a4:=Tryz.isAgg4
 z4:=Tryz.sizeOf4
 v4:=Tryz.zeroValue4
 t5:=Tryz.underlying5
 a5:=Tryz.isAgg5
 z5:=Tryz.sizeOf5
 v5:=Tryz.zeroValue5
 t9:=Tryz.underlying9
 a9:=Tryz.isAgg9
 z9:=Tryz.sizeOf9
 v9:=Tryz.zeroValue9
 t20:=Tryz.underlying20
 a20:=Tryz.isAgg20
 z20:=Tryz.sizeOf20
 v20:=Tryz.zeroValue20
 t37:=Tryz.underlying53
 a37:=Tryz.isAgg53
 z37:=Tryz.sizeOf53
 v37:=Tryz.zeroValue53
 t70:=Tryz.underlying131
 a70:=Tryz.isAgg131
 z70:=Tryz.sizeOf131
 v70:=Tryz.zeroValue131
 t72:=Tryz.underlying133
 a72:=Tryz.isAgg133
 z72:=Tryz.sizeOf133
 v72:=Tryz.zeroValue133
 t75:=Tryz.underlying172
 a75:=Tryz.isAgg172
 z75:=Tryz.sizeOf172
 v75:=Tryz.zeroValue172
 t164:=Tryz.underlying215
 a164:=Tryz.isAgg215
 z164:=Tryz.sizeOf215
 v164:=Tryz.zeroValue215}
def Tryz.BM:Go.Proofs.Lays.n169 Tryz.prog Tryz.HD:={
 mixed:=by kernel_rfl
 f169:=Tryz.func96.trans (congrArg some (by kernel_rfl))
 t0:=Tryz.underlying0
 a0:=Tryz.isAgg0
 z0:=Tryz.sizeOf0
 v0:=Tryz.zeroValue0
 t3:=Tryz.underlying3
 a3:=Tryz.isAgg3
 z3:=Tryz.sizeOf3
 v3:=Tryz.zeroValue3
 t9:=Tryz.underlying9
 a9:=Tryz.isAgg9
 z9:=Tryz.sizeOf9
 v9:=Tryz.zeroValue9
 t37:=Tryz.underlying53
 a37:=Tryz.isAgg53
 z37:=Tryz.sizeOf53
 v37:=Tryz.zeroValue53
 t70:=Tryz.underlying131
 a70:=Tryz.isAgg131
 z70:=Tryz.sizeOf131
 v70:=Tryz.zeroValue131
 t72:=Tryz.underlying133
 a72:=Tryz.isAgg133
 z72:=Tryz.sizeOf133
 v72:=Tryz.zeroValue133
 t127:=Tryz.underlying177
 a127:=Tryz.isAgg177
 z127:=Tryz.sizeOf177
 v127:=Tryz.zeroValue177}
def Tryz.Kw:Builder.Extra Tryz.prog Tryz.HD:={
 sizeBuilder:=by kernel_rfl
 liesBuilder:=by kernel_rfl
 t5:=Tryz.underlying5
 a5:=Tryz.isAgg5
 z5:=Tryz.sizeOf5
 v5:=Tryz.zeroValue5
 infoByte:=by kernel_rfl
 cellsByte:=by kernel_rfl
 sizeByte:=by kernel_rfl
 neB5:=by decide}
end Go.Proofs
end
