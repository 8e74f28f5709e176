/- A part of the proofs. -/
import Derived.Test.YtfijeeijkndliaaGreatDoorP07
set_option linter.all false
set_option maxRecDepth 60000
set_option maxHeartbeats 2000000
namespace Go.Abs
noncomputable def xU:aN:=dy 5
def w1205 {Y:Ctx}(hm:(Y.at 0).cP)(h81:C81 Y)(h82:C82 Y)(h83:C83 Y)(h84:C84 Y)(h121:C121 Y)(h478:NW Y)(h1209:TF Y)(l:List Int)(a:Int)(c:Int)(b:av)   :dX Y xU (.bool true) [.sl 1 (l.map (D.int .i64)),.int .i64 a,.int .i64 c,.str b]:=by
 show cg _ _ _ [⟨_,_⟩,⟨_,_⟩,⟨_,_⟩,⟨_,_⟩,_,_,_,_,_,_,_,_,_,_,_,_] _;refine ay ?_;refine aQ ?_;intro u0;refine aD ?_;refine az (fun hc0=>?_) (fun hc0=>?_)
 .try simp only[cX]at hc0
  refine aD ?_;refine au (hc:=h81) ?_;refine aF ?_;exact cd rfl
 simp only[cX]at hc0;refine aD ?_;have hb:=HH l 0 0;have hl:=E4 l 0 0;refine aE ?_;refine au (hc:=h1209 l 0 0 ae ae) ?_;refine au (v:=.tup [.str (iE (e8 l 0 0)),.int .i64 0]) (hc:=by have:=h121 (e8 l 0 0) (TZ l 0 0);rw[hb.2]at this;exact this) ?_;refine ja ?_;intro u1;refine aE ?_;refine au (hc:=h478 a ((iE (e8 l 0 0)).length+1:Nat) ae) ?_;refine aD ?_;have hr:=lN a ((iE (e8 l 0 0)).length+1:Nat) ae;revert hr;generalize a%(((iE (e8 l 0 0)).length+1:Nat):Int)=kk;intro hr;obtain⟨k,rfl⟩:=Int.eq_ofNat_of_zero_le hr.1;refine aK ?_;intro u2;refine aD ?_;refine r_mn ((min ((iE (e8 l 0 0)).length-k) 60:Nat):Int) (hv:=fun _=>by split<;>omega) ?_;refine aE ?_;refine au (hc:=h478 c ((min ((iE (e8 l 0 0)).length-k) 60:Nat)+1) ae) ?_;refine aD ?_;have hr2:=lN c ((min ((iE (e8 l 0 0)).length-k) 60:Nat)+1) ae;revert hr2;generalize c%(((min ((iE (e8 l 0 0)).length-k) 60:Nat):Int)+1)=nn;intro hr2;obtain⟨n,rfl⟩:=Int.eq_ofNat_of_zero_le hr2.1;refine aF ?_;refine lf k ?_;refine aE ?_;refine dD (hb:=fun _=>by rw[eF];omega) ?_;refine aK ?_;refine ga (k+n) ?_;refine dD (hb:=fun _=>by rw[bH,eF,kT];omega) ?_;refine aD ?_;have htl:((iE (e8 l 0 0)).take k++b++(iE (e8 l 0 0)).drop (k+n)).length<=1048576:=by simp only[bH,eF,kT];omega
 revert htl;generalize (iE (e8 l 0 0)).take k++b++(iE (e8 l 0 0)).drop (k+n)=t;intro htl;refine aD ?_;refine au (hc:=h82 t ae) ?_;refine aE ?_;refine fJ _ ?_;refine aF ?_;refine aR (fD.D (gD t).1) (he:=aW) ?_;refine aU ?_;refine au (hc:=h83 t ae) ?_;refine aE ?_;refine fJ _ ?_;refine aF ?_;refine aR (fD.D (gD t).1) (he:=aW) ?_;refine aK ?_;refine au (hc:=h81) ?_;refine aE ?_;refine cO (d:=fD.D (gD t).1) ?_;refine cO (d:=fD.D (gD t).1) ?_;refine eD (hc:=fun hf=>h84 (gD t).1 (gD t).1) ?_;refine vN ?_;refine cd ?_;simp
end Go.Abs
