/- A part of the proofs of the statements: RGen2, G6, RGen3, RGen4, RGen5, RGen6, W2, W3, Y5, RSpec22, X6, Z1, G7, J0, J1, JB, SHELF, LLib, LLibR, RBld. -/
import Derived.Ground.Names2Prog
import Derived.KernelRfl
import Derived.Lib.CountLaws
import Derived.Lib.IndexMore
import Derived.Lib.ItoaNum
import Derived.Lib.Join
import Derived.Lib.Split
import Derived.Lib.SplitLaws
import Derived.Lib.Strings
import Derived.Lib.TrimByte
import Derived.Shelf.LaysM
import Derived.Shelf.Slices.Clone
import Derived.Shelf.Small.Strs
import Derived.Shelf.Small.Utf8
import Derived.Shelf.Small.Wraps
import Derived.Shelf.Strconv.Itoa0
import Derived.Shelf.Strconv.Itoa1
import Derived.Shelf.Strconv.Itoa2
import Derived.Shelf.Strconv.Itoa3
import Derived.Shelf.Strings.AsciiSet
import Derived.Shelf.Strings.Builder1
import Derived.Shelf.Strings.Builder2
import Derived.Shelf.Strings.Count
import Derived.Shelf.Strings.Cut
import Derived.Shelf.Strings.OnBuilder
import Derived.Shelf.Strings.Prefix
import Derived.Shelf.Strings.Runes
import Derived.Shelf.Strings.Search1
import Derived.Shelf.Strings.Search2
import Derived.Shelf.Strings.Search3
import Derived.Shelf.Strings.Shaped
import Derived.Shelf.Strings.Split
import Derived.Shelf.Strings.SplitShaped
import Derived.Shelf.Strings.Trim
import Derived.Shelf.Unicode.DecodeSlow
import Derived.Test.YtpdlhpamcaocgaaGreatDoorProg
import Derived.Test.YtpdlhpamcaocgaaGreatDoorP08
set_option linter.all false
set_option maxRecDepth 4000
namespace Go.Abs
def EJ:ah:=[114,99,46,49]
def nT (l:List Int)(i:Int):ah:=if cY l (i+2) 9=1 then EJ else []
def pO (l:List Int)(i:Int):ah:=if cY l (i+2) 9=2 then [55]else []
def BC (l:List Int)(i:Int):dw:=⟨cY l i 3,cY l (i+1) 2,0,nT l i,pO l i⟩
def gK (l:List Int)(i:Int):Nat:=(cY l (i+3) 4%3).toNat
def LB (l:List Int)(i:Int):(cY l (i+3) 4).tmod 3=(gK l i:Int):=by
 have h:=cl l (i+3) 4 (by decide);rw[Int.tmod_eq_emod_of_nonneg h.1];unfold gK;omega
def Hy (l:List Int)(i:Int):gK l i≤2:=by unfold gK;omega
def yL (l:List Int)(i own:Int)(n:Nat):List bc:=(List.range n).map fun(q:Nat)=>dS l (i+4+20*((gK l i-q:Nat):Int) -20) own
def Dw {l:List Int}{i own:Int}{k:Nat}(hk:k≤gK l i)(h0:0<k):yL l i own (gK l i-(k-1))=yL l i own (gK l i-k)++[dS l (i+4+20*(k:Int) -20) own]:=by
 rw[show gK l i-(k-1)=(gK l i-k)+1 by omega];unfold yL;rw[List.range_succ,List.map_append,List.map_singleton,show gK l i-(gK l i-k)=k by omega]
def jX (l:List Int)(i own:Int):List bc:=yL l i own (gK l i)
def tO (l:List Int)(i own:Int):fZ:=⟨cD (own+1+cY l (i+46) 4),lZ l (i+47),gw l (i+50)⟩
def fQ (l:List Int)(i own:Int):List fZ:=if cY l (i+45) 5=1 then [tO l i own]else []
def dk (l:List Int)(i own:Int):Rec:=⟨cD own,BC l i,jX l i own,fQ l i own,[]⟩
def lA (l:List Int)(i own:Int):Rec:={dk l i own with feats:=e8 l (i+52) (dk l i own)}
def Bw {l:List Int}{i own:Int}{k:Nat}{w:bw}(h:w∈oN l i own k):w.name.length≤3:=by
 obtain⟨q,_,rfl⟩:=List.mem_map.1 h;exact iY _
def pP (l:List Int)(i own:Int):(dS l i own).option.length≤3:=by
 show(if _ then _ else _:ah).length≤3;split
 ·exact pQ _
 ·simp
def BB (l:List Int)(i own:Int):∀j:Nat,j<(dk l i own).needs.length→(dk l i own).needs[j]!.option.length≤100∧((dk l i own).needs[j]!.any.length=1→(dk l i own).needs[j]!.any[0]!.name.length≤100):=by
 intro j hj;have hm:=bG hj;obtain⟨q,_,hq⟩:=List.mem_map.1 hm;rw[←hq];generalize i+4+20*((gK l i-q:Nat):Int) -20=x;refine⟨Nat.le_trans (pP _ _ _) (by decide),fun h=>?_⟩;have h2:=bG (l:=(dS l x own).any) (i:=0) (by omega);exact Nat.le_trans (Bw (k:=dj l x) h2) (by decide)
end Go.Abs
section
namespace Go.Abs
open Go
def xG:aB:=⟨3,10,[⟨3,some (9,true)⟩],[[.a,.a,.a,.a,.a,.a,.sl 3 [.sl 4 [.a,.a,.sl 1 [.a],.a],.a,.a],.sl 3 [.a,.a,.a],.sl 2 [.a,.sl 1 [.a]]]],(sq (r1 [gb 9 (.c (.agg [.str [],.int .i64 0,.int .i64 0,.int .i64 0,.str [],.str [],.ar,.ar,.ar]))] 3 0) (sq (r1 [gm s2,gx 227 [l0] cr,gm s0,gm s1,gx 228 [l2,l3,kd] [[.sl 1 [.a]],[.a],[.a]],gm s0,gm s1,av l6 b8,gx 228 [l5,l7,kp] [[.sl 1 [.a]],[.a],[.a]],gn (.build [.int .i64 0,.int .i64 0,.int .i64 0,.str [],.str []] [(0,1,l4),(1,1,l8)]),gn (.build [.str [],.int .i64 0,.int .i64 0,.int .i64 0,.str [],.str [],.ar,.ar,.ar] [(0,1,l1),(1,5,l9)]),gb 9 (.c (.agg [.str [],.int .i64 0,.int .i64 0,.int .i64 0,.str [],.str [],.ar,.ar,.ar])),gt 9 jK l10] 5 11) (sq (sq (r1 [gm s0,gm s1,av l1 kp,gx 228 [l0,l2,Aw] [[.sl 1 [.a]],[.a],[.a]],aE l3 b8] 4 4) (.cond s4 (rg [gf 1 s5,gf 3 l0,gt 1 l1 (cs [114,99,46,49])] []) .skip)) (sq (sq (r1 [gm s0,gm s1,av l1 kp,gx 228 [l0,l2,Aw] [[.sl 1 [.a]],[.a],[.a]],aE l3 kp] 6 4) (.cond s6 (rg [gf 1 s5,gf 4 l0,gt 1 l1 (cs [55])] []) .skip)) (sq (sq (r1 [gm s0,gm s1,av l1 kd,gx 228 [l0,l2,tF] [[.sl 1 [.a]],[.a],[.a]],gn (.bin .rem l3 kd),gm l4] 7 5) (.block 0 (.loop (sq (sq (r1 [gm s7,dz l0 bD] 8 1) (iS s8 0)) (sq (.block 1 (rt [gf 6 s5,gd l0,gm s0,gm s1,av l3 tF,gm s7,gn (.bin .mul (i6 20) l5),av l4 l6,ff l7 (i6 20),gm s2,gx 229 [l2,l8,l9] [[.sl 1 [.a]],[.a],[.a]],gn (.bsl 3 (.agg [.ar,.str [],.str []]) 1 [(0,l10)]),gn (.app 3 l1 jK),gf 6 s5,gt 1 nn ll] [])) (r1 [gm s7,ff l0 b8,gm l1] 7 2)))))) (sq (sq (r1 [gm s0,gm s1,av l1 (i6 45),gx 228 [l0,l2,Av] [[.sl 1 [.a]],[.a],[.a]],aE l3 b8] 9 4) (.cond s9 (rt [gf 7 s5,gd l0,gm s2,av l2 b8,gm s0,gm s1,av l5 (i6 46),gx 228 [l4,l6,tF] [[.sl 1 [.a]],[.a],[.a]],av l3 l7,gx 227 [l8] cr,gm s0,gm s1,av jK (i6 47),gx 230 [l10,ll] [[.sl 1 [.a]],[.a]],gm s0,gm s1,av pk (i6 50),gx 231 [nX,rE] [[.sl 1 [.a]],[.a]],gn (.build [.str [],.str [],.str []] [(0,1,l9),(1,1,nn),(2,1,wL)]),gn (.bsl 3 (.agg [.str [],.str [],.str []]) 1 [(0,xF)]),gn (.app 3 l1 zp),gf 7 s5,gt 1 CI BM] []) .skip)) (sq (rg [gm s0,gm s1,av l1 (i6 52),gk 9 true s5,gx 232 [l0,l2,l3] [[.sl 1 [.a]],[.a],[.a,.a,.a,.a,.a,.a,.sl 3 [.sl 4 [.a,.a,.sl 1 [.a],.a],.a,.a],.sl 3 [.a,.a,.a],.sl 2 [.a,.sl 1 [.a]]]],gf 8 s5,gt 1 l5 l4] []) (sq (rg [gk 9 true s5,gt 9 s3 l0] []) .ret))))))))⟩
def w79 {Γ:Ctx}(hm:(Γ.at 0).bp)(h227:HU Γ)(h228:A6 Γ)(h229:J9 Γ)(h230:HV Γ)(h231:HW Γ)(h232:Ka Γ)(l:List Int)(i:Int)(own:Int)  (hp0:0≤i∧i≤1000000)(hp1:0≤own∧own≤100000):ef Γ xG (Rec.D (lA l i own)) [.sl 1 (l.map (D.int .i64)),.int .i64 i,.int .i64 own]:=by
 show bz _ _ _ [⟨_,_⟩,⟨_,_⟩,⟨_,_⟩,_,_,_,_,_,_,_] _;refine ak ?_;refine aA ?_;refine aj (hc:=h227 own) ?_;refine ay ?_;refine aj (hc:=h228 l (i) 3 (by decide)) ?_;refine az ?_;refine aj (hc:=h228 l (i+1) 2 (by decide)) ?_;refine bn (dw.D ⟨cY l i 3,cY l (i+1) 2,0,[],[]⟩) ?_;refine bn (.agg [.str (cD own),.int .i64 (cY l i 3),.int .i64 (cY l (i+1) 2),.int .i64 0,.str [],.str [],.ar,.ar,.ar]) ?_;refine ax ?_;refine aF (.agg [.str (cD own),.int .i64 (cY l i 3),.int .i64 (cY l (i+1) 2),.int .i64 0,.str [],.str [],.ar,.ar,.ar]) (he:=by exact rfl) ?_;refine aT ?_;refine aj (hc:=h228 l (i+2) 9 (by decide)) ?_;refine ay ?_;refine og hm (ι:=Unit) (fun _=>[⟨true,.sl 1 (l.map (D.int .i64))⟩,⟨true,.int .i64 i⟩,⟨true,.int .i64 own⟩,⟨true,.ptr 0 9 0 0⟩,.un,⟨true,.ptr 12 9 0 0⟩,.un,.un,.un,.un]) (fun _=>[(0,.buf 9 [cU]),(12,.buf 9 [(.agg [.str (cD own),.int .i64 (cY l i 3),.int .i64 (cY l (i+1) 2),.int .i64 0,.str (nT l i),.str [],.ar,.ar,.ar])])]) 30 (fun _=>True) ?_ ?_
 ·refine fN (fun hc0=>?_) fun hc0=>?_
  ·refine az ?_;refine aF (.agg [.str (cD own),.int .i64 (cY l i 3),.int .i64 (cY l (i+1) 2),.int .i64 0,.str EJ,.str [],.ar,.ar,.ar]) (he:=by exact rfl) ?_;refine ay ?_;have hp:nT l i=EJ:=if_pos hc0;rw[hp];exact⟨(),trivial,(aL.to [(0,0),(12,12)] ae ae kV (by repeat(first|exact aC.nil|refine aC.cZ ae ae bR ?_|refine aC.lH ae ae ae ?_)))⟩
  refine ay ?_;have hp:nT l i=[]:=if_neg hc0;rw[hp];exact⟨(),trivial,(aL.to [(0,0),(12,12)] ae ae kV (by repeat(first|exact aC.nil|refine aC.cZ ae ae bR ?_|refine aC.lH ae ae ae ?_)))⟩
 ·rintro _-
  refine aQ ?_;refine aj (hc:=h228 l (i+2) 9 (by decide)) ?_;refine ay ?_;refine og hm (ι:=Unit) (fun _=>[⟨true,.sl 1 (l.map (D.int .i64))⟩,⟨true,.int .i64 i⟩,⟨true,.int .i64 own⟩,⟨true,.ptr 0 9 0 0⟩,.un,⟨true,.ptr 12 9 0 0⟩,.un,.un,.un,.un]) (fun _=>[(0,.buf 9 [cU]),(12,.buf 9 [(.agg [.str (cD own),.int .i64 (cY l i 3),.int .i64 (cY l (i+1) 2),.int .i64 0,.str (nT l i),.str (pO l i),.ar,.ar,.ar])])]) 40 (fun _=>True) ?_ ?_
  ·refine fN (fun hc1=>?_) fun hc1=>?_
   ·refine az ?_;refine aF (.agg [.str (cD own),.int .i64 (cY l i 3),.int .i64 (cY l (i+1) 2),.int .i64 0,.str (nT l i),.str [55],.ar,.ar,.ar]) (he:=by exact rfl) ?_;refine ay ?_;have hp:pO l i=[55]:=if_pos hc1;rw[hp];exact⟨(),trivial,(aL.to [(0,0),(12,12)] ae ae kV (by repeat(first|exact aC.nil|refine aC.cZ ae ae bR ?_|refine aC.lH ae ae ae ?_)))⟩
   refine ay ?_;have hp:pO l i=[]:=if_neg hc1;rw[hp];exact⟨(),trivial,(aL.to [(0,0),(12,12)] ae ae kV (by repeat(first|exact aC.nil|refine aC.cZ ae ae bR ?_|refine aC.lH ae ae ae ?_)))⟩
  ·rintro _-
   have hK:=Hy l i;refine aQ ?_;refine aj (hc:=h228 l (i+3) 4 (by decide)) ?_;refine AM ((gK l i:Nat):Int) (hn:=by intro _;omega) (hb:=fun _=>LB l i) ?_;refine ay ?_;refine br hm (ι:=(Nat×List bc)) (fun p=>[⟨true,.sl 1 (l.map (D.int .i64))⟩,⟨true,.int .i64 i⟩,⟨true,.int .i64 own⟩,⟨true,.ptr 0 9 0 0⟩,.un,⟨true,.ptr 12 9 0 0⟩,.un,⟨true,.int .i64 (p.1:Nat)⟩,.un,.un]) (fun p=>[(0,.buf 9 [cU]),(12,.buf 9 [(.agg [.str (cD own),.int .i64 (cY l i 3),.int .i64 (cY l (i+1) 2),.int .i64 0,.str (nT l i),.str (pO l i),.own 1 3 0 p.2.length,.ar,.ar])]),(1,.buf 3 (p.2.map bc.D))]) 60 (fun p=>p.1≤gK l i∧p.2=yL l i own (gK l i-p.1)) (fun p=>p.1) (gK l i,[]) ⟨Nat.le_refl _,by dsimp only;rw[Nat.sub_self];rfl⟩ (aL.to [(0,0),(12,12)] ae ae kV (by refine aC.cZ ae ae bR ?_;refine aC.ni 12 ae ae (by exact⟨_,_,rfl,⟨_,rfl,⟨_,_,rfl,⟨rfl,rfl⟩,⟨_,_,rfl,⟨rfl,rfl⟩,⟨_,_,rfl,⟨rfl,rfl⟩,⟨_,_,rfl,⟨rfl,rfl⟩,⟨_,_,rfl,⟨rfl,rfl⟩,⟨_,_,rfl,⟨rfl,rfl⟩,⟨_,_,rfl,Or.inr ⟨_,_,_,rfl⟩,⟨_,_,rfl,Or.inl rfl,⟨_,_,rfl,Or.inl rfl,rfl⟩⟩⟩⟩⟩⟩⟩⟩⟩⟩,rfl⟩) ?_;refine aC.mt ae ae ae ae ?_;exact aC.nil)) ?_;rintro⟨k,ns⟩ ⟨hk,hn⟩;dsimp only at hk hn⊢;have hnl:ns.length≤3:=by rw[hn];simp[yL];omega
   refine aQ ?_;refine aq (fun hc2=>?_) (fun hc2=>?_)
   ·try simp only[hX]at hc2
    refine dp ?_;refine rM ?_;refine az ?_;refine aj (hc:=h229 l (i+4+20*(k:Int) -20) own (by omega) (by omega)) ?_;refine cg [bc.D (dS l (i+4+20*(k:Int) -20) own)] ?_;refine gS (q:=bc.D) (xs:=ns) (e:=dS l (i+4+20*(k:Int) -20) own) ?_;refine ax ?_;refine aF (.agg [.str (cD own),.int .i64 (cY l i 3),.int .i64 (cY l (i+1) 2),.int .i64 0,.str (nT l i),.str (pO l i),.own 74 3 0 (ns++[dS l (i+4+20*(k:Int) -20) own]).length,.ar,.ar]) (he:=by exact rfl) ?_;refine bY ?_;exact⟨(k-1,ns++[dS l (i+4+20*(k:Int) -20) own]),⟨by dsimp only;omega,by dsimp only;rw[Dw hk (by omega),hn]⟩,by dsimp only;omega,(aL.to [(0,0),(12,12),(74,1)] ae ae (by repeat(first|exact cV.nil|refine cV.un ?_|refine cV.eq ae ?_|refine cV.nl (congrArg (D.int .i64) (show((k-1:Nat):Int)=(k:Int) -1 by omega)) ae ?_)) (by refine aC.cZ ae ae bR ?_;refine aC.lH ae ae ae ?_;refine aC.nl 74 ae ae rfl (bm (fun _=>rfl) _) ?_;exact aC.nil))⟩
   simp only[decide_eq_false_iff_not]at hc2;obtain rfl:k=0:=by omega
   obtain rfl:ns=jX l i own:=by rw[hn];rfl
   refine az ?_;refine dT 1 ?_;refine aA ?_;refine aj (hc:=h228 l (i+45) 5 (by decide)) ?_;refine ay ?_;refine og hm (ι:=Unit) (fun _=>[⟨true,.sl 1 (l.map (D.int .i64))⟩,⟨true,.int .i64 i⟩,⟨true,.int .i64 own⟩,⟨true,.ptr 0 9 0 0⟩,.un,⟨true,.ptr 12 9 0 0⟩,.un,.un,.un,.un]) (fun _=>[(0,.buf 9 [cU]),(12,.buf 9 [(.agg [.str (cD own),.int .i64 (cY l i 3),.int .i64 (cY l (i+1) 2),.int .i64 0,.str (nT l i),.str (pO l i),(.sl 3 ((jX l i own).map bc.D)),(.own 2 3 0 (fQ l i own).length),.ar])]),(2,.buf 3 ((fQ l i own).map fZ.D))]) 100 (fun _=>True) ?_ ?_
   ·refine fN (fun hc3=>?_) fun hc3=>?_
    ·refine ax ?_;have hr46:=cl l (i+46) 4 (by decide);refine ax ?_;refine ch (v:=.ar) ?_;refine aQ ?_;refine aj (hc:=h228 l (i+46) 4 (by decide)) ?_;refine ax ?_;refine aj (hc:=h227 (own+1+cY l (i+46) 4)) ?_;refine az ?_;refine aj (hc:=h230 l (i+47) (by omega)) ?_;refine az ?_;refine aj (hc:=h231 l (i+50) (by omega)) ?_;refine bn (fZ.D (tO l i own)) ?_;refine cg [fZ.D (tO l i own)] ?_;refine Ey (n:=1) (ys:=[fZ.D (tO l i own)]) (he:=qn.all ae rfl) (hn:=rfl) ?_;refine ax ?_;refine aF (.agg [.str (cD own),.int .i64 (cY l i 3),.int .i64 (cY l (i+1) 2),.int .i64 0,.str (nT l i),.str (pO l i),(.sl 3 ((jX l i own).map bc.D)),(.own 87 3 0 1),.ar]) (he:=by exact rfl) ?_;refine ay ?_;have hb:fQ l i own=[tO l i own]:=if_pos hc3;rw[hb];exact⟨(),trivial,(aL.to [(0,0),(12,12),(87,2)] ae ae kV (by refine aC.cZ ae ae bR ?_;refine aC.lH ae ae ae ?_;refine aC.nl 87 ae ae ae ae ?_;exact aC.nil))⟩
    refine ay ?_;have hb:fQ l i own=[]:=if_neg hc3;rw[hb];exact⟨(),trivial,(aL.to [(0,0),(12,12)] ae ae kV (by refine aC.cZ ae ae bR ?_;refine aC.ni 12 ae ae (by exact⟨_,_,rfl,⟨_,rfl,⟨_,_,rfl,⟨rfl,rfl⟩,⟨_,_,rfl,⟨rfl,rfl⟩,⟨_,_,rfl,⟨rfl,rfl⟩,⟨_,_,rfl,⟨rfl,rfl⟩,⟨_,_,rfl,⟨rfl,rfl⟩,⟨_,_,rfl,⟨rfl,rfl⟩,⟨_,_,rfl,⟨rfl,rfl⟩,⟨_,_,rfl,Or.inr ⟨_,_,_,rfl⟩,⟨_,_,rfl,Or.inl rfl,rfl⟩⟩⟩⟩⟩⟩⟩⟩⟩⟩,rfl⟩) ?_;refine aC.mt ae ae ae ae ?_;exact aC.nil))⟩
   ·rintro _-
    refine dT 2 ?_;refine kH [(0,.buf 9 [cU]),(12,.buf 9 [Rec.D (dk l i own)])] (.id ae (.bf ae (.cons (.ag (.cons (.refl _) (.cons (.refl _) (.cons (.refl _) (.cons (.refl _) (.cons (.refl _) (.cons (.refl _) (.cons (.refl _) (.cons (.refl _) (.cons (.nil 2) .nil)))))))))) .nil) .nil)) ?_;refine aA ?_;refine cA (d:=Rec.D (dk l i own)) ?_;refine aj (hc:=h232 l (i+52) (dk l i own) (by omega) (BB l i own)) ?_;refine ax ?_;refine aF (Rec.D (lA l i own)) (he:=by exact rfl) ?_;refine ay ?_;refine cA (d:=Rec.D (lA l i own)) ?_;refine aF (Rec.D (lA l i own)) (he:=by exact rfl) ?_;refine ay ?_;refine b7 (?_);rfl
def C79 (Γ:Ctx):Prop:=∀(l:List Int)(i:Int)(own:Int),(0≤i∧i≤1000000)→(0≤own∧own≤100000)→Γ.pre 79 [.sl 1 (l.map (D.int .i64)),.int .i64 i,.int .i64 own]∧Γ.val 79 [.sl 1 (l.map (D.int .i64)),.int .i64 i,.int .i64 own]=Rec.D (lA l i own)
end Go.Abs
end
namespace Go.Abs
def xK:∀a b:ah,Op.bytesLess a b=false→a≠b→Op.bytesLess b a=true
 |[],[],_,h=>absurd rfl h
 |[],_::_,h,_=>by simp[Op.bytesLess]at h
 |_::_,[],_,_=>by simp[Op.bytesLess]
 |x::a,y::b,h,hn=>by
  simp only[Op.bytesLess,Bool.or_eq_false_iff,decide_eq_false_iff_not,Bool.and_eq_false_iff,beq_eq_false_iff_ne]at h;simp only[Op.bytesLess,Bool.or_eq_true,decide_eq_true_eq,Bool.and_eq_true,beq_iff_eq];obtain⟨h1,h2⟩:=h;by_cases e:x=y
  ·subst e;refine .inr ⟨rfl,xK a b (h2.resolve_left fun h=>h rfl) fun e=>hn (by rw[e])⟩
  ·left;have h3:¬x.toNat<y.toNat:=fun h=>h1 (UInt8.lt_iff_toNat_lt.2 h)
   have h4:x.toNat≠y.toNat:=fun h=>e (UInt8.toNat_inj.1 h)
   exact UInt8.lt_iff_toNat_lt.2 (by omega)
def sX {l:List ah}{s t:ah}(h:t∈dE l s):t∈l∨t=s:=by
 unfold dE at h;split at h
 ·exact .inl h
 ·simp only[List.mem_append,List.mem_singleton]at h;rcases h with(h|h)|h
  ·exact .inl (List.mem_of_mem_take h)
  ·exact .inr h
  ·exact .inl (List.mem_of_mem_drop h)
def zT (l:List ah):rising l=true↔∀i,1≤i→i<l.length→Op.bytesLess l[i-1]! l[i]! =true:=by
 unfold rising;rw[dq]
def mn {l:List ah}{s:ah}(h:rising l=true):rising (dE l s)=true:=by
 unfold dE;split
 ·exact h
 ·rename_i hn;rw[zT]at h⊢;have hl:=wg s l;have hlt:=wh s l;have hst:=p7 s l;generalize gR s l=k at hn hl hlt hst⊢;have hlen:(l.take k++[s]++l.drop k).length=l.length+1:=by
   simp only[List.length_append,List.length_take,List.length_drop,List.length_cons,List.length_nil];omega
  have g1:∀j,j<k→(l.take k++[s]++l.drop k)[j]! =l[j]! :=fun j hj=>by
   have a:j<(l.take k).length:=by rw[List.length_take];omega
   have b:j<l.length:=by omega
   rw[List.append_assoc,getElem!_pos _ _ (by rw[List.length_append];omega),List.getElem_append_left a,List.getElem_take,getElem!_pos l j b]
  have g2:(l.take k++[s]++l.drop k)[k]! =s:=by
   have a:(l.take k).length=k:=by rw[List.length_take];omega
   rw[List.append_assoc,getElem!_pos _ _ (by simp only[List.length_append,a,List.length_cons];omega),List.getElem_append_right (by omega)];simp[a]
  have g3:∀j,k<j→j<l.length+1→(l.take k++[s]++l.drop k)[j]! =l[j-1]! :=fun j hj hj2=>by
   have a:(l.take k).length=k:=by rw[List.length_take];omega
   have b:(l.take k++[s]).length=k+1:=by rw[List.length_append,a];rfl
   rw[getElem!_pos _ _ (by rw[hlen];omega),List.getElem_append_right (by omega),List.getElem_drop,getElem!_pos l (j-1) (by omega)];congr 1;omega
  intro i h1 h2;rw[hlen]at h2;rcases Nat.lt_trichotomy i k with hik|hik|hik
  ·rw[g1 i hik,g1 (i-1) (by omega)];exact h i h1 (by omega)
  ·subst hik;rw[g2,g1 (i-1) (by omega)];exact hlt _ (by omega)
  ·rw[g3 i hik h2];by_cases he:i=k+1
   ·subst he;rw[show k+1-1=k from rfl,g2];exact xK _ _ (hst (by omega)) fun e=>hn ⟨by omega,e⟩
   ·rw[g3 (i-1) (by omega) (by omega)];exact h (i-1) (by omega) (by omega)
def zD:∀k,k<5→ei DZ[k]! =true∧DZ[k]!.length≤3∧bZ (DZ[k]! ++[47]++[120])=((3:Int),DZ[k]!,([120]:ah)):=by decide+kernel
def I6:∀a,a<5→∀b,b<5→a≠b→DZ[a]! ≠DZ[b]! :=by decide+kernel
def JK:∀k,k<4→bI Hd[k]! =true∧bZ (([63]:ah)++Hd[k]!)=((2:Int),Hd[k]!,([]:ah)):=by decide+kernel
def IE (k a b:Nat):ah:=if zI[k]! =9 then [42]else cP ⟨zI[k]!,3,⟨(a:Nat),(b:Nat),0,[],[]⟩⟩
def G3 (s:ah):Prop:=m3 s=true∧s.length≤8∧s≠[]∧(∀c∈s,c≠10)
instance (s:ah):Decidable (G3 s):=by unfold G3;infer_instance
def xP (s:ah):Prop:=jL s=true∧s.length≤16∧(∀c∈s,c≠10)
instance (s:ah):Decidable (xP s):=by unfold xP;infer_instance
def FU:∀k,k<6→∀a,a<3→∀b,b<2→G3 (IE k a b):=by decide+kernel
def E4:∀k,k<3→∀a,a<2→∀b,b<4→xP (uC[k]! ++Bl[a]! ++Hd[b]!):=by decide+kernel
def kn (n:Int):(n%5).toNat<5∧cD n=DZ[(n%5).toNat]! :=by
 have:=jb n 5 (by decide);exact⟨by omega,rfl⟩
def sn (n:Int):ei (cD n)=true∧(cD n).length≤3:=⟨(zD _ (kn n).1).1,(zD _ (kn n).1).2.1⟩
def xt (own d:Int)(h0:0≤d)(h1:d<4):cD (own+1+d)≠cD own:=by
 have a:=kn (own+1+d);have b:=kn own;rw[a.2,b.2];exact I6 _ a.1 _ b.1 (by omega)
def xu (n:Int):(n%4).toNat<4∧ie n=Hd[(n%4).toNat]! :=by
 have:=jb n 4 (by decide);exact⟨by omega,rfl⟩
def xw (n:Int):bI (ie n)=true∧bZ (([63]:ah)++ie n)=((2:Int),ie n,([]:ah)):=JK _ (xu n).1
def rA (l:List Int)(i:Int):G3 (lZ l i):=by
 have a:=cl l i 6 (by decide);have b:=cl l (i+1) 3 (by decide);have c:=cl l (i+2) 2 (by decide);have:=FU (cY l i 6).toNat (by omega) (cY l (i+1) 3).toNat (by omega) (cY l (i+2) 2).toNat (by omega);have e:IE (cY l i 6).toNat (cY l (i+1) 3).toNat (cY l (i+2) 2).toNat=lZ l i:=by
  unfold IE lZ qU;simp only[show((cY l (i+1) 3).toNat:Int)=cY l (i+1) 3 by omega,show((cY l (i+2) 2).toNat:Int)=cY l (i+2) 2 by omega]
 rwa [e]at this
def B1:xP []:=by decide+kernel
def ma (l:List Int)(i:Int):xP (gw l i):=by
 unfold gw;split
 ·exact B1
 ·rename_i h;have a:=cl l i 6 (by decide);have b:=cl l (i+1) 2 (by decide);have c:=xu (1+cY l (i+1) 3);rw[c.2];exact E4 _ (by omega) _ (by omega) _ c.1
def qx {f:Nat→Int}{n:Nat}(h:∀j,j<n→f j=0):fO f 0 n=0:=by
 have:∀k i,i+k=n→fO f i n=0:=by
  intro k;induction k with
  |zero=>intro i e;exact pK (by omega)
  |succ k ih=>intro i e;rw[pL (by omega) (h i (by omega))];exact ih (i+1) (by omega)
 exact this n 0 (by omega)
def lW {f:Nat→Int}{n:Nat}(h:∀j,j<n→f j=0):eM f 0 n=(0,0):=by
 have:∀k i,i+k=n→eM f i n=(0,0):=by
  intro k;induction k with
  |zero=>intro i e;exact mS (by omega)
  |succ k ih=>intro i e;rw[mT (by omega) (h i (by omega))];exact ih (i+1) (by omega)
 exact this n 0 (by omega)
def qj {r:Rec}{nm rg:ah}(h1:ei nm=true)(h2:nm≠r.name)(h3:m3 rg=true):gF r nm rg=0:=by
 unfold gF;rw[if_neg (by simp[h1]),if_neg h2,if_neg (by simp[h3])]
def E9:∀n,jS (vw.take n) true=true
 |0=>by decide
 |1=>by decide
 |n+2=>by
  have:vw.take (n+2)=vw:=List.take_of_length_le (by simp[vw]);rw[this];decide
def BD (l:List Int)(i:Int)(al:Bool):jS (jY l i al) al=true:=by
 unfold jY;split
 ·rename_i h;rw[h.1];exact E9 _
 ·cases al<;>decide
def Cw {r:Rec}{own:Int}(hr:r.name=cD own)(l:List Int)(i:Int)(al:Bool):jz r (ic l i own al) al=0:=by
 have h:=cl l i 4 (by decide);have h1:=qj (r:=r) (sn (own+1+cY l i 4)).1 (by rw[hr];exact xt own _ h.1 h.2) (rA l (i+1)).1;unfold jz;show(if gF r (cD (own+1+cY l i 4)) (lZ l (i+1))≠0 then _ else if jS (jY l i al) al=false then _ else _)=_;rw[h1,if_neg (by simp),BD,if_neg (by simp)]
def xr (l:List Int)(i own:Int)(k:Nat):(oN l i own k).length=k:=by simp[oN]
def xq {l:List Int}{i own:Int}{k j:Nat}(h:j<k):(oN l i own k)[j]! =ic l (i+1+6*(j:Nat)) own (decide ((dj l i:Int)=1)):=by
 unfold oN;rw[getElem!_pos _ _ (by simpa using h)];simp
def uu (l:List Int)(i:Int):1≤dj l i:=by unfold dj;split<;>omega
def Au (l:List Int)(i own:Int):(dS l i own).option=[]∨∃n,(dS l i own).option=ie n:=by
 show(if _ then _ else _:ah)=[]∨_;split
 ·rename_i h;exact .inr ⟨fH l (i+17),if_pos h⟩
 ·exact .inl rfl
def B2 {r:Rec}{own:Int}(hr:r.name=cD own)(l:List Int)(i:Int):iM r (dS l i own)=0:=by
 have hl:(dS l i own).any.length=dj l i:=xr _ _ _ _;have h1:=uu l i;have h2:=sk l i;unfold iM;rw[if_neg (by rw[hl];omega),if_neg (by rw[hl];omega)];have hw:kY r (dS l i own).any=0:=by
  unfold kY;refine qx fun j hj=>?_
  rw[hl]at hj⊢;show jz r (oN l i own (dj l i))[j]! _=0;rw[xq hj];exact Cw hr l _ _
 rw[hw,if_neg (by simp),if_neg (by rw[show(dS l i own).when'=gw l (i+14)from rfl,(ma l (i+14)).1];simp)];rcases Au l i own with h|⟨n,h⟩
 ·rw[if_neg (by rw[h];simp)]
 ·rw[if_neg (by rw[h,(xw n).1];simp)]
def F3 (l:List Int)(i own:Int)(n:Nat):(yL l i own n).length=n:=by simp[yL]
def rB {l:List Int}{i own:Int}{n:Nat}{x:bc}(h:x∈yL l i own n):∃k:Int,x=dS l k own:=by
 obtain⟨q,_,rfl⟩:=List.mem_map.1 h;exact⟨_,rfl⟩
def zC {r:Rec}{l:List Int}{i own:Int}(hr:r.name=cD own)(hn:r.needs=jX l i own):jr r=(0,0):=by
 unfold jr;refine lW fun j hj=>?_
 obtain⟨k,hk⟩:=rB (show r.needs[j]! ∈yL l i own (gK l i)by rw[show yL l i own (gK l i)=r.needs from hn.symm];exact bG hj);rw[hk];exact B2 hr l k
def C4 {r:Rec}{own:Int}(hr:r.name=cD own)(l:List Int)(i:Int):qS r (tO l i own)=0:=by
 have h:=cl l (i+46) 4 (by decide);have h1:=qj (r:=r) (sn (own+1+cY l (i+46) 4)).1 (by rw[hr];exact xt own _ h.1 h.2) (rA l (i+47)).1;unfold qS;show(if gF r (cD (own+1+cY l (i+46) 4)) (lZ l (i+47))≠0 then _ else if jL (gw l (i+50))=false then _ else _)=_;rw[h1,if_neg (by simp),(ma l (i+50)).1,if_neg (by simp)]
def By {l:List Int}{i own:Int}{b:fZ}(h:b∈fQ l i own):b=tO l i own:=by
 unfold fQ at h;split at h
 ·simpa using h
 ·cases h
def Lv (l:List Int)(i:Int)(r:Rec)(t:ah):Prop:=(∃m∈r.needs,m.option≠[]∧t=[63]++m.option)∨(∃m∈r.needs,m.any.length=1∧t=m.any[0]!.name++[47]++[120])∨∃k,k<3∧¬fH l (i+(k:Nat)+1)%3=0∧t=jc[k+1]!
def Du (l:List Int)(i:Int)(r:Rec)(n:Int):∀j,j≤r.needs.length→rising (lf r n j)=true∧∀t∈lf r n j,Lv l i r t
 |0,_=>⟨rfl,fun t ht=>by simp[lf]at ht⟩
 |j+1,hj=>by
  obtain⟨h1,h2⟩:=Du l i r n j (by omega);have hm:r.needs[j]! ∈r.needs:=bG (by omega);have hA:rising (Ds r n (lf r n j) j)=true∧∀t∈Ds r n (lf r n j) j,Lv l i r t:=by
   unfold Ds;split
   ·rename_i h;refine⟨mn h1,fun t ht=>?_⟩;rcases sX ht with ht|rfl
    ·exact h2 t ht
    ·exact .inl ⟨_,hm,h.1,rfl⟩
   ·exact⟨h1,h2⟩
  obtain⟨h3,h4⟩:=hA;rw[kl,Hx];unfold Hw;split
  ·rename_i h;refine⟨mn h3,fun t ht=>?_⟩;rcases sX ht with ht|rfl
   ·exact h4 t ht
   ·exact .inr (.inl ⟨_,hm,h.1,rfl⟩)
  ·exact⟨h3,h4⟩
def IF (l:List Int)(i:Int)(r:Rec)(n:Int)(k j:Nat)(hj:j≤r.needs.length):rising (F2 l i n k (lf r n j))=true∧(∀t∈F2 l i n k (lf r n j),Lv l i r t)∧(F2 l i n k (lf r n j)).length≤2*j+1:=by
 obtain⟨h1,h2⟩:=Du l i r n j hj;have h3:=vQ r n j;unfold F2;split
 ·rename_i h;refine⟨mn h1,fun t ht=>?_,Nat.le_trans (ml _ _) (by omega)⟩;rcases sX ht with ht|rfl
  ·exact h2 t ht
  ·exact .inr (.inr ⟨k,h.1.1,h.2,rfl⟩)
 ·exact⟨h1,h2,by omega⟩
def nS {l:List Int}{i:Int}{r:Rec}{f:bo}(h:f∈e8 l i r):∃k,k<4∧f.name=jc[k]! ∧¬fH l (i+(k:Nat))%3=0∧rising f.of=true∧(∀t∈f.of,Lv l i r t)∧f.of.length≤5:=by
 obtain⟨k,hk,he⟩:=List.mem_filterMap.1 h;rw[List.mem_range]at hk;unfold IG at he;split at he
 ·cases he
 ·rename_i hn;obtain rfl:=Option.some.inj he;obtain⟨a,b,c⟩:=IF l i r (fH l (i+(k:Nat))) k (min r.needs.length 2) (by omega);exact⟨k,hk,rfl,hn,a,b,by dsimp only;omega⟩
def zi {l:List Int}{i:Int}{r:Rec}{k:Nat}(hk:k<4)(h:¬fH l (i+(k:Nat))%3=0):∃f∈e8 l i r,f.name=jc[k]! :=by
 have e:IG l i r k=some ⟨jc[k]!,F2 l i (fH l (i+(k:Nat))) k (lf r (fH l (i+(k:Nat))) (min r.needs.length 2))⟩:=if_neg h;exact⟨_,List.mem_filterMap.2 ⟨k,List.mem_range.2 hk,e⟩,rfl⟩
def Bt {fs:List bo}{nm:ah}(h:∃f∈fs,f.name=nm):0≤findF fs nm 0:=by
 unfold findF;rw[List.drop_zero];cases e:fs.findIdx? (fun x=>decide (x.name=nm))with
 |some k=>simp
 |none=>
  rw[List.findIdx?_eq_none_iff]at e;obtain⟨f,hf,hn⟩:=h;have:=e f hf;simp[hn]at this
def xT:∀k,k<4→bZ jc[k]! =((1:Int),jc[k]!,([]:ah))∧bI jc[k]! =true:=by decide+kernel
def D0:∀a,a<4→∀b,b<4→a<b→Op.bytesLess jc[a]! jc[b]! =true:=by decide+kernel
def Bz (l:List Int)(i:Int)(r:Rec):(e8 l i r).Pairwise fun a b=>Op.bytesLess a.name b.name=true:=by
 unfold e8 Dt;refine List.Pairwise.filterMap _ (R:=fun a b=>a<b∧b<4) ?_ (by decide);intro a b hab x hx y hy;have e:∀{k:Nat} {z:bo},IG l i r k=some z→z.name=jc[k]! :=fun {k z} h=>by
  unfold IG at h;split at h
  ·cases h
  ·rw[←Option.some.inj h]
 rw[e hx,e hy];exact D0 a (by omega) b hab.2 hab.1
def sj (l:List Int)(i:Int)(r:Rec):(e8 l i r).length≤4:=by
 unfold e8 Dt;exact Nat.le_trans (List.length_filterMap_le _ _) (by simp)
def NdG (r:Rec):Prop:=∀m∈r.needs,(m.option=[]∨∃n,m.option=ie n)∧(m.any.length=1→∃n,m.any[0]!.name=cD n)
def xB {l:List Int}{i:Int}{r r2:Rec}{t:ah}(h:Lv l i r t)(hr:NdG r)(hn:r2.needs=r.needs)(hf:r2.feats=e8 l i r):iz r2.feats t=true∧iL r2 t=0∧t.length≤7:=by
 rcases h with⟨m,hm,h1,rfl⟩|⟨m,hm,h1,rfl⟩|⟨k,hk,h1,rfl⟩
 ·obtain⟨n,e⟩:=(hr m hm).1.resolve_left h1;have hx:=(xw n).2;have hl:=pQ n;rw[e];refine⟨by unfold iz;rw[hx];rfl, ?_,by simp only[List.length_append,List.length_cons,List.length_nil];omega⟩;unfold iL;rw[hx];have:GH r2.needs (ie n)=true:=by
   unfold GH;rw[List.any_eq_true];exact⟨m,by rw[hn];exact hm,by simp[e]⟩
  simp[this]
 ·obtain⟨n,e⟩:=(hr m hm).2 h1;have hx:=(zD _ (kn n).1).2.2;have hl:=iY n;rw[←(kn n).2]at hx;rw[e];generalize cD n=w at e hx hl;refine⟨by unfold iz;rw[hx];rfl, ?_,by simp only[List.length_append,List.length_cons,List.length_nil];omega⟩;have:AI r2.needs w=true:=by
   unfold AI;rw[List.any_eq_true];exact⟨m,by rw[hn];exact hm,by rw[e,h1];simp⟩
  unfold iL;rw[hx,if_neg (by simp),if_neg (by rw[this];simp)]
 ·have hx:=(xT (k+1) (by omega)).1;have hl:∀k,k<4→jc[k]!.length≤7:=by decide
  refine⟨?_,by unfold iL;rw[hx];simp,hl _ (by omega)⟩;have:JS r2.feats jc[k+1]! =true:=by
   unfold JS;rw[hf,Bool.or_eq_true];right;rw[decide_eq_true_eq];exact Bt (zi (k:=k+1) (by omega) (by rw[show i+((k+1:Nat):Int)=i+(k:Nat)+1 by omega];exact h1))
  unfold iz;rw[hx];dsimp only;rw[this];rfl
def Jh {α:Type} [Inhabited α]{R:α→α→Prop}{l:List α}(h:l.Pairwise R){i:Nat}(h0:0<i)(hi:i<l.length):R l[i-1]! l[i]! :=by
 rw[getElem!_pos l _ (by omega),getElem!_pos l _ hi];exact List.pairwise_iff_getElem.1 h _ _ (by omega) hi (by omega)
def Br {l:List Int}{i:Int}{r r2:Rec}(hr:NdG r)(hn:r2.needs=r.needs)(hf:r2.feats=e8 l i r):e7 r2.feats=true∧pJ r2=(0,0):=by
 have hit:∀f∈r2.feats,∀t∈f.of,iz r2.feats t=true∧iL r2 t=0∧t.length≤7:=fun f hf' t ht=>by
  obtain⟨k,_,_,_,_,h,_⟩:=nS (show f∈e8 l i r by rw[←hf];exact hf');exact xB (h t ht) hr hn hf
 constructor
 ·have hlen:=sj l i r;unfold e7;rw[Bool.and_eq_true,decide_eq_true_eq,dq];refine⟨by rw[hf];omega,fun j _ hj=>?_⟩;have hm:r2.feats[j]! ∈r2.feats:=bG hj;obtain⟨k,hk,e1,e2,e3,e4,e5⟩:=nS (show r2.feats[j]! ∈e8 l i r by rw[←hf];exact hm);unfold jV;rw[e1,(xT k hk).2,Bool.true_and,Bool.and_eq_true];constructor
  ·by_cases h0:0<j
   ·have:=Jh (Bz l i r) h0 (by rw[←hf];exact hj);rw[←hf,e1]at this;rw[this];simp
   ·simp[h0]
  ·unfold sC;rw[Bool.and_eq_true,Bool.and_eq_true,decide_eq_true_eq,dq];exact⟨⟨by omega,e3⟩,fun q _ hq=>(hit _ hm _ (bG hq)).1⟩
 ·unfold pJ;refine lW fun j hj=>?_
  unfold nU;exact qx fun q hq=>(hit _ (bG hj) _ (bG hq)).2.1
def kj {α:Type}{f:α→ah}{B:Nat}:∀{l:List α},(∀x∈l,(f x).length≤B)→((l.map f).flatten).length≤l.length*B
 |[],_=>by simp
 |a::r,h=>by
  have h1:=h a (.head _);have h2:=kj (l:=r) fun x hx=>h x (.tail _ hx)
  simp only[List.map_cons,List.flatten_cons,List.length_append,List.length_cons,Nat.succ_mul];omega
def ja {l:List ah}{B n:Nat}(h:∀t∈l,t.length≤B)(hn:l.length≤n):(bt l).length≤n*(B+1)+1:=by
 have h1:=iZ 32 B l h;have h2:=Nat.mul_le_mul_right (B+1) hn;simp only[bt,List.length_append,List.length_cons,List.length_nil];omega
def A4 (w:bw):Prop:=w.name.length≤3∧w.range.length≤8∧(w.feats=[]∨w.feats=vw.take 1∨w.feats=vw)
def CE (n:Nat):vw.take n=[]∨vw.take n=vw.take 1∨vw.take n=vw:=by
 match n with
 |0=>exact .inl rfl
 |1=>exact .inr (.inl rfl)
 |n+2=>exact .inr (.inr (List.take_of_length_le (by simp[vw])))
def ux (l:List Int)(i own:Int)(al:Bool):A4 (ic l i own al):=by
 refine⟨iY _,(rA l (i+1)).2.1, ?_⟩;show jY l i al=[]∨jY l i al=vw.take 1∨jY l i al=vw;unfold jY;split
 ·exact CE _
 ·exact .inl rfl
def Cx {w:bw}(h:A4 w):(bt (lu w)).length≤46:=by
 refine ja (B:=8) (n:=5) (fun t ht=>?_) (by simp[lu]);simp only[lu,List.mem_cons,List.not_mem_nil,or_false]at ht;rcases ht with rfl|rfl|rfl|rfl|rfl
 ·decide
 ·have:=h.1;omega
 ·rcases h.2.2 with e|e|e<;>rw[e]<;>decide
 ·split<;>decide
 ·exact h.2.1
def vl {s:ah}(h:s.length≤16):(gE s).length≤35:=by
 unfold gE;split
 ·simp
 ·exact ja (B:=16) (n:=2) (fun t ht=>by
   simp only[List.mem_cons,List.not_mem_nil,or_false]at ht;rcases ht with rfl|rfl
   ·decide
   ·exact h) (by simp)
def Ed {s:ah}(h:s.length≤6):(tV s).length≤15:=by
 unfold tV;split
 ·simp
 ·exact ja (B:=6) (n:=2) (fun t ht=>by
   simp only[List.mem_cons,List.not_mem_nil,or_false]at ht;rcases ht with rfl|rfl
   ·decide
   ·exact h) (by simp)
def BA (l:List Int)(i own:Int):(kr (dS l i own)).length≤160:=by
 have h1:=kj (f:=fun w=>bt (lu w)) (B:=46) (l:=(dS l i own).any) fun w hw=>by
  obtain⟨q,_,rfl⟩:=List.mem_map.1 (show w∈oN l i own (dj l i)from hw);exact Cx (ux _ _ _ _)
 have h2:(dS l i own).any.length≤2:=by rw[show(dS l i own).any.length=dj l i from xr _ _ _ _];exact sk l i
 have h3:=vl (ma l (i+14)).2.1;have h4:=Ed (s:=(dS l i own).option) (Nat.le_trans (pP l i own) (by decide));have h5:(bt [gD]).length≤6:=by decide
 unfold kr;simp only[List.length_append];show _+(((dS l i own).any.map fun w=>bt (lu w)).flatten).length+(gE (gw l (i+14))).length+_≤_;omega
def C5 {b:fZ}(h:b.name.length≤3∧b.range.length≤8∧b.when'.length≤16):(ow b).length≤63:=by
 have h1:=ja (B:=8) (n:=3) (l:=[iX,b.name,b.range]) (fun t ht=>by
  simp only[List.mem_cons,List.not_mem_nil,or_false]at ht;rcases ht with rfl|rfl|rfl
  ·decide
  ·omega
  ·exact h.2.1) (by simp)
 have h2:=vl h.2.2;unfold ow;rw[List.length_append];omega
def Dv (l:List Int)(i own:Int):(tO l i own).name.length≤3∧(tO l i own).range.length≤8∧(tO l i own).when'.length≤16:=⟨iY _,(rA l (i+47)).2.1,(ma l (i+50)).2.1⟩
def Bo {f:bo}(h:f.name.length≤7∧f.of.length≤5∧∀t∈f.of,t.length≤7):(oK f).length≤57:=by
 refine ja (B:=7) (n:=7) (fun t ht=>?_) (by simp;omega);simp only[List.mem_append,List.mem_cons,List.not_mem_nil,or_false]at ht;rcases ht with(rfl|rfl)|ht
 ·decide
 ·exact h.1
 ·exact h.2.2 t ht
structure pr (l:List Int)(i own:Int)(r:Rec):Prop where
 nm:r.name=cD own
 ns:r.needs=jX l i own
 v:eO r.v=true∧r.v.pre.length≤4∧r.v.build.length≤1
 bl:r.bars.length≤2
 b:∀b∈r.bars,qS r b=0∧b.name.length≤3∧b.range.length≤8∧b.when'.length≤16
 fs:e7 r.feats=true∧pJ r=(0,0)
 fl:r.feats.length≤4
 f:∀f∈r.feats,f.name.length≤7∧f.of.length≤5∧∀t∈f.of,t.length≤7
def sr (l:List Int)(i own:Int):(jX l i own).length≤2:=by rw[jX,F3];exact Hy l i
def pr.good {l:List Int}{i own:Int}{r:Rec}(h:pr l i own r):su r:=by
 have h1:=sr l i own;have h2:=h.bl;refine⟨⟨by rw[h.nm];exact(sn own).1,h.v.1⟩,⟨by rw[h.ns];omega,by omega⟩,sS (zC h.nm h.ns) ?_ h.fs.1 h.fs.2⟩;unfold qq;exact lW fun j hj=>(h.b _ (bG hj)).1
def pr.sm {l:List Int}{i own:Int}{r:Rec}(h:pr l i own r):jO r:=by
 refine⟨⟨by rw[h.nm];exact Nat.le_trans (iY own) (by decide),Nat.le_trans h.v.2.1 (by decide),Nat.le_trans h.v.2.2 (by decide)⟩,fun n hn=>?_,fun b hb=>?_,fun f hf=>?_⟩
 ·obtain⟨k,rfl⟩:=rB (show n∈yL l i own (gK l i)by rw[show yL l i own (gK l i)=r.needs from h.ns.symm];exact hn);refine⟨fun w hw=>?_,Nat.le_trans (ma l (k+14)).2.1 (by decide),Nat.le_trans (pP l k own) (by decide)⟩;obtain⟨q,_,rfl⟩:=List.mem_map.1 (show w∈oN l k own (dj l k)from hw);obtain⟨a,b,c⟩:=ux l (k+1+6*(q:Nat)) own (decide ((dj l k:Int)=1));refine⟨⟨Nat.le_trans a (by decide),Nat.le_trans b (by decide)⟩,fun t ht=>?_⟩;have hx:∀t∈vw,t.length≤1048576:=by decide
  rcases c with e|e|e<;>rw[e]at ht
  ·cases ht
  ·exact hx t (List.mem_of_mem_take ht)
  ·exact hx t ht
 ·obtain⟨_,a,b,c⟩:=h.b b hb;exact⟨Nat.le_trans a (by decide),Nat.le_trans b (by decide),Nat.le_trans c (by decide)⟩
 ·obtain⟨a,b,c⟩:=h.f f hf;exact⟨Nat.le_trans a (by decide),Nat.le_trans b (by decide),fun t ht=>Nat.le_trans (c t ht) (by decide)⟩
def E2 {v:dw}(h:eO v=true∧v.pre.length≤4∧v.build.length≤1):(mG v).length≤30:=by
 obtain⟨h1,h2,h3⟩:=h;have hv:=h1;simp only[eO,pN,Bool.and_eq_true,decide_eq_true_eq]at h1;have a:=dK 4 v.major.toNat (by omega) (by omega);have b:=dK 4 v.minor.toNat (by omega) (by omega);have c:=dK 4 v.patch.toNat (by omega) (by omega);unfold mG;rw[if_pos hv,Cu];have d:(coreS v).length≤14:=by
  unfold coreS;simp only[List.length_append,List.length_cons,List.length_nil];omega
 simp only[List.length_append];split<;>split<;>simp only[List.length_cons,List.length_nil]<;>omega
def pr.len {l:List Int}{i own:Int}{r:Rec}(h:pr l i own r):(iP r).length≤800:=by
 have h1:(lh r).length≤94:=ja (B:=30) (n:=3) (fun t ht=>by
  simp only[List.mem_cons,List.not_mem_nil,or_false]at ht;rcases ht with rfl|rfl|rfl
  ·decide
  ·rw[h.nm];exact Nat.le_trans (iY own) (by decide)
  ·exact E2 h.v) (by simp)
 have h2:=kj (f:=kr) (B:=160) (l:=r.needs) fun n hn=>by
  obtain⟨k,rfl⟩:=rB (show n∈yL l i own (gK l i)by rw[show yL l i own (gK l i)=r.needs from h.ns.symm];exact hn);exact BA l k own
 have h3:=kj (f:=ow) (B:=63) (l:=r.bars) fun b hb=>C5 (h.b b hb).2
 have h4:=kj (f:=oK) (B:=57) (l:=r.feats) fun f hf=>Bo (h.f f hf)
 have h5:=sr l i own;have h6:=h.bl;have h7:=h.fl;rw[h.ns]at h2;unfold iP;rw[h.ns];simp only[List.length_append];omega
def pr.check {l:List Int}{i own:Int}{r:Rec}(h:pr l i own r):cb r=(0,0):=by
 obtain⟨⟨a,b⟩,⟨c,d⟩,e⟩:=h.good;rw[r7 a b (by omega) (by omega) e,if_neg (by have:=h.len;omega)]
def pr.print {l:List Int}{i own:Int}{r:Rec}(h:pr l i own r):ju r=(iP r,0):=by
 unfold ju;rw[h.check,if_neg (by simp)]
def F4 (l:List Int)(i:Int):eO (BC l i)=true∧(BC l i).pre.length≤4∧(BC l i).build.length≤1:=by
 have a:=cl l i 3 (by decide);have b:=cl l (i+1) 2 (by decide);have key:∀x,x<3→∀y,y<2→∀p∈[([]:ah),EJ],∀q∈[([]:ah),[55]],eO ⟨(x:Nat),(y:Nat),0,p,q⟩=true:=by decide+kernel
 have hp:nT l i∈[([]:ah),EJ]:=by unfold nT;split<;>simp
 have hq:pO l i∈[([]:ah),[55]]:=by unfold pO;split<;>simp
 have h:=key (cY l i 3).toNat (by omega) (cY l (i+1) 2).toNat (by omega) _ hp _ hq;have e:(⟨((cY l i 3).toNat:Int),((cY l (i+1) 2).toNat:Int),0,nT l i,pO l i⟩:dw)=BC l i:=by
  unfold BC;simp only[show((cY l i 3).toNat:Int)=cY l i 3 by omega,show((cY l (i+1) 2).toNat:Int)=cY l (i+1) 2 by omega]
 rw[e]at h;refine⟨h, ?_, ?_⟩
 ·show(nT l i).length≤4;unfold nT;split<;>decide
 ·show(pO l i).length≤1;unfold pO;split<;>decide
def uv (l:List Int)(i own:Int):NdG (dk l i own):=by
 intro m hm;obtain⟨k,rfl⟩:=rB (show m∈yL l i own (gK l i)from hm);refine⟨Au l k own,fun h=>?_⟩;have h1:0<dj l k:=by have:=uu l k;omega
 have:=xq (l:=l) (i:=k) (own:=own) h1;exact⟨_,congrArg bw.name this⟩
def mV (l:List Int)(i own:Int):(fQ l i own).length≤1:=by unfold fQ;split<;>simp
def Gy:∀k,k<4→jc[k]!.length≤7:=by decide
def Dx (l:List Int)(i own:Int):pr l i own (lA l i own):=by
 have hf:=Br (r:=dk l i own) (r2:=lA l i own) (l:=l) (i:=i+52) (uv l i own) rfl rfl;refine⟨rfl,rfl,F4 l i,Nat.le_trans (mV l i own) (by decide),fun b hb=>?_,hf,sj _ _ _,fun f hf2=>?_⟩
 ·obtain rfl:=By (show b∈fQ l i own from hb);exact⟨C4 rfl l i,Dv l i own⟩
 ·obtain⟨k,hk,e,_,_,hi,hl⟩:=nS (show f∈e8 l (i+52) (dk l i own)from hf2);refine⟨by rw[e];exact Gy k hk,hl,fun t ht=>?_⟩;exact(xB (r2:=lA l i own) (hi t ht) (uv l i own) rfl rfl).2.2
def uw (l:List Int)(i own:Int):pr l i own (dk l i own):=by
 obtain⟨a,b,c,d,e,_,_,_⟩:=Dx l i own;exact⟨a,b,c,d,e,⟨rfl,rfl⟩,Nat.zero_le _,fun f hf=>by cases hf⟩
def qm:fZ:=⟨[122,111,111],[42],[]⟩
def td (l:List Int):Rec:={dk l 0 0 with bars:=fQ l 0 0++[qm]}
def Hf:ah:=[98,97,114,32,122,111,111,32,42,10]
def zN (l:List Int):pr l 0 0 (td l):=by
 obtain⟨a,b,c,d,e,_,_,_⟩:=uw l 0 0;have h1:=mV l 0 0;refine⟨a,b,c, ?_,fun x hx=>?_,⟨rfl,rfl⟩,Nat.zero_le _,fun f hf=>by cases hf⟩
 ·show(fQ l 0 0++[qm]).length≤2;rw[List.length_append];simpa using h1
 ·rcases List.mem_append.1 (show x∈fQ l 0 0++[qm]from hx)with hx|hx
  ·exact e x hx
  ·obtain rfl:=List.mem_singleton.1 hx;refine⟨?_,by decide,by decide,by decide⟩;have h:gF (td l) qm.name qm.range=0:=qj (by decide+kernel) (by show qm.name≠cD 0;decide+kernel) (by decide+kernel);unfold qS;rw[h,if_neg (by simp),if_neg (by rw[show jL qm.when'=true by decide+kernel];simp)]
def Fa (l:List Int):iP (td l)=iP (dk l 0 0)++Hf:=by
 have e:ow qm=Hf:=by decide
 show lh (dk l 0 0)++((jX l 0 0).map kr).flatten++((fQ l 0 0++[qm]).map ow).flatten++[]=lh (dk l 0 0)++((jX l 0 0).map kr).flatten++((fQ l 0 0).map ow).flatten++[]++Hf;simp only[List.map_append,List.flatten_append,List.map_cons,List.map_nil,List.flatten_cons,List.flatten_nil,List.append_nil,List.append_assoc,e]
end Go.Abs
section
namespace Go.Abs
open Go
end Go.Abs
end
section
namespace Go.Abs
open Go
end Go.Abs
end
section
namespace Go.Abs
open Go
end Go.Abs
end
section
namespace Go.Abs
def awT:ah:=[112,97,99,107,97,103,101,32,97,112,112,32,49,46,48,46,48,10,110,101,101,100,10,97,110,121,32,98,32,120,32,102,117,108,108,32,94,49,10,119,104,101,110,32,111,115,32,61,32,120,10,98,97,114,32,99,32,42,10,102,101,97,116,117,114,101,32,121,32,98,47,122,10]
def FG:ah:=[112,97,99,107,97,103,101,32,97,112,112,32,49,46,48,46,48,10,97,110,121,32,98,32,45,32,102,117,108,108,32,42,10]
def CF:Rec:=⟨[97,112,112],⟨1,0,0,[],[]⟩,[⟨[⟨[98],[94,49],[[120]],false⟩],[111,115,32,61,32,120],[]⟩],[⟨[99],[42],[]⟩],[⟨[121],[[98,47,122]]⟩]⟩
set_option maxRecDepth 100000 in
theorem aw1:fV awT=(CF,0,0):=by decide+kernel
set_option maxRecDepth 100000 in
theorem aw3:ju CF=(awT,0):=by decide+kernel
set_option maxRecDepth 100000 in
theorem aw2:(fV FG).2=(2,2):=by decide+kernel
def Iy:jO CF:=by
 refine⟨⟨by decide,by decide,by decide⟩,fun n hn=>?_,fun b hb=>?_,fun f hf=>?_⟩
 ·simp only[CF,List.mem_singleton]at hn;subst hn;refine⟨fun w hw=>?_,by decide,by decide⟩;simp only[List.mem_singleton]at hw;subst hw;exact⟨⟨by decide,by decide⟩,fun t ht=>by simp only[List.mem_singleton]at ht;subst ht;decide⟩
 ·simp only[CF,List.mem_singleton]at hb;subst hb;exact⟨by decide,by decide,by decide⟩
 ·simp only[CF,List.mem_singleton]at hf;subst hf;exact⟨by decide,by decide,fun t ht=>by simp only[List.mem_singleton]at ht;subst ht;decide⟩
end Go.Abs
end
section
namespace Go.Abs
open Go
def wv:aB:=⟨1,6,[⟨1,none⟩,⟨2,none⟩],iK,(sq (rg [gb 9 s0,gm cse,gm bD] [(3,0),(1,1),(2,2)]) (sq (sq (r1 [gk 9 true s3,gx 70 [l0] [[.a,.a,.a,.a,.a,.a,.sl 3 [.sl 4 [.a,.a,.sl 1 [.a],.a],.a,.a],.sl 3 [.a,.a,.a],.sl 2 [.a,.sl 1 [.a]]]],gm l1,ge l2 0,ge l2 1,gm l3,gm l4] 4 5) (sq (r1 [gm s4,ct l0 bD] 5 1) (.cond s5 (sq (rg [gm s4,gm cse,gm l0] [(1,1),(2,2)]) .ret) .skip))) (sq (rg [gk 9 true s3,gx 215 [l0] [[.a,.a,.a,.a,.a,.a,.sl 3 [.sl 4 [.a,.a,.sl 1 [.a],.a],.a,.a],.sl 3 [.a,.a,.a],.sl 2 [.a,.sl 1 [.a]]]],gm l1,gm bD] [(1,2),(2,3)]) .ret)))⟩
def w72 {Γ:Ctx}(hm:(Γ.at 0).bp)(h70:C70 Γ)(h215:HT Γ)(r:Rec)  (hp0:jO r):ef Γ wv (.tup [.str (ju r).1,.int .i64 (ju r).2]) [Rec.D r]:=by
 show bz _ _ _ [⟨_,_⟩,_,_,_,_,_] _;refine ak ?_;refine ba ?_;refine aj (hc:=h70 r hp0) ?_;refine fG ?_;refine cI (fun hc0=>?_) fun hc0=>?_
 ·refine ba ?_;refine b7 (aR (congrArg D.str ?_) (congrArg (D.int .i64) ?_));all_goals
   simp[ju,hc0]
 refine ay ?_;have hgd:=xc hc0;refine ax ?_;refine aj (hc:=h215 r ⟨hgd,hp0⟩) ?_;refine aA ?_;refine b7 (aR (congrArg D.str ?_) (congrArg (D.int .i64) ?_));all_goals
  simp[ju,hc0]
def C72 (Γ:Ctx):Prop:=∀(r:Rec),(jO r)→Γ.pre 72 [Rec.D r]∧Γ.val 72 [Rec.D r]=.tup [.str (ju r).1,.int .i64 (ju r).2]
end Go.Abs
end
section
namespace Go.Abs
open Go
def xI:aB:=⟨0,8,[⟨0,none⟩],cr,(sq (r1 [gm dx] 0 0) (sq (rg [gx 76 [(cs [112,97,99,107,97,103,101,32,97,112,112,32,49,46,48,46,48,10,110,101,101,100,10,97,110,121,32,98,32,120,32,102,117,108,108,32,94,49,10,119,104,101,110,32,111,115,32,61,32,120,10,98,97,114,32,99,32,42,10,102,101,97,116,117,114,101,32,121,32,98,47,122,10])] cr,gm l0,ge l1 0,ge l1 1,ge l1 2,gb 9 (.c (.agg [.str [],.int .i64 0,.int .i64 0,.int .i64 0,.str [],.str [],.ar,.ar,.ar])),gt 9 l5 l2,gm l3,gm l4] [(1,5),(2,7),(4,8)]) (sq (rg [gk 9 true s1,gx 72 [l0] [[.a,.a,.a,.a,.a,.a,.sl 3 [.sl 4 [.a,.a,.sl 1 [.a],.a],.a,.a],.sl 3 [.a,.a,.a],.sl 2 [.a,.sl 1 [.a]]]],gm l1,ge l2 0,ge l2 1,gm l3,gm l4] [(5,5),(3,6)]) (sq (rg [gx 76 [(cs [112,97,99,107,97,103,101,32,97,112,112,32,49,46,48,46,48,10,97,110,121,32,98,32,45,32,102,117,108,108,32,42,10])] cr,gm l0,ge l1 0,ge l1 1,ge l1 2,gb 9 (.c (.agg [.str [],.int .i64 0,.int .i64 0,.int .i64 0,.str [],.str [],.ar,.ar,.ar])),gt 9 l5 l2,gm l3,gm l4] [(6,7),(7,8)]) (sq (r1 [gm s2,aE l0 bD,gm l1,gmt 2 s3,cH 2 (cQ l3 bD),gy l2 l4,gm l5,gmt 6 s4,cH 6 (cQ l7 bD),gy l6 l8,gm l9,rC 10 6 s1,ph 10 jK,cH 10 (.len ll),cH 10 (cQ nn b8),gy l10 nX,gm pk,rC 16 7 s1,ph 16 wL,cH 16 (.len xF),cH 16 (cQ zp b8),gy rE BM,gm CI,gmt 22 s5,cH 22 (.lenS IV),cH 22 (cQ IW (i6 73)),gy Fh IX,gm JT,gmt 27 s6,cH 27 (cQ LK kp),gy LJ LL,gm l30,gmt 31 s7,cH 31 (cQ l32 kp),gy l31 l33,gm l34] 0 35) .ret)))))⟩
def w69 {Γ:Ctx}(hm:(Γ.at 0).bp)(h72:C72 Γ)(h76:C76 Γ)    :ef Γ xI (.bool true) []:=by
 show bz _ _ _ [_,_,_,_,_,_,_,_] _;refine ak ?_;refine az ?_;refine aj (v:=.tup [Rec.D CF,.int .i64 0,.int .i64 0]) (hc:=by have:=h76 awT;rw[aw1]at this;exact this) ?_;refine ax ?_;refine fC (Rec.D _) ?_;refine az ?_;refine aF (Rec.D CF) (he:=by exact rfl) ?_;refine aA ?_;refine cA (d:=Rec.D CF) ?_;refine aj (v:=.tup [.str awT,.int .i64 0]) (hc:=by have:=h72 CF Iy;rw[aw3]at this;exact this) ?_;refine ba ?_;refine aj (v:=.tup [Rec.D (fV FG).1,.int .i64 2,.int .i64 2]) (hc:=by have:=h76 FG;rw[aw2]at this;exact this) ?_;refine ax ?_;refine fC (Rec.D _) ?_;refine az ?_;refine aF (Rec.D (fV FG).1) (he:=by exact rfl) ?_;refine vz ?_;refine ch (v:=.sl 3 (CF.needs.map bc.D)) ?_;refine nr ?_;refine aA ?_;refine ch (v:=.sl 3 (CF.bars.map fZ.D)) ?_;refine nr ?_;refine aA ?_;refine nr ?_;refine lv ?_;refine bL ?_;decide
def C69 (Γ:Ctx):Prop:=Γ.pre 69 []∧Γ.val 69 []=.bool true
end Go.Abs
end
section
namespace Go.Abs
open Go
def oS:aB:=⟨1,8,j5,cr,(sq (r1 [gm dx] 1 0) (sq (r1 [gm s0,gx 79 [l0,bD,bD] [[.sl 1 [.a]],[.a],[.a]],gb 9 (.c (.agg [.str [],.int .i64 0,.int .i64 0,.int .i64 0,.str [],.str [],.ar,.ar,.ar])),gt 9 l2 l1] 2 2) (sq (rg [gf 8 s2,gt 1 l0 (.c (.ar))] []) (sq (rg [gk 9 true s2,gx 72 [l0] [[.a,.a,.a,.a,.a,.a,.sl 3 [.sl 4 [.a,.a,.sl 1 [.a],.a],.a,.a],.sl 3 [.a,.a,.a],.sl 2 [.a,.sl 1 [.a]]]],gm l1,ge l2 0,ge l2 1,gm l3,gm l4] [(7,5),(4,6)]) (sq (r1 [gk 9 true s2,gb 9 (.c (.agg [.str [],.int .i64 0,.int .i64 0,.int .i64 0,.str [],.str [],.ar,.ar,.ar])),gt 9 l1 l0] 3 1) (sq (rg [gf 7 s2,gd l0,gn (.app 3 (.c (.ar)) l1),gn (.build [.str [],.str [],.str []] [(0,1,(cs [122,111,111])),(1,1,(cs [42]))]),gn (.bsl 3 (.agg [.str [],.str [],.str []]) 1 [(0,l3)]),gn (.app 3 l2 l4),gf 7 s3,gt 1 l6 l5] []) (sq (rg [gk 9 true s3,gx 72 [l0] [[.a,.a,.a,.a,.a,.a,.sl 3 [.sl 4 [.a,.a,.sl 1 [.a],.a],.a,.a],.sl 3 [.a,.a,.a],.sl 2 [.a,.sl 1 [.a]]]],gm l1,ge l2 0,ge l2 1,gm l3,gm l4] [(6,5),(5,6)]) (sq (r1 [gx 69 [] [],gm l0,gmt 1 s4,cH 1 (cQ l2 bD),gy l1 l3,gm l4,gmt 5 s5,cH 5 (cQ l6 bD),gy l5 l7,gm l8,gmt 9 s6,gmt 9 s7,cH 9 (wY jK (cs [98,97,114,32,122,111,111,32,42,10])),cH 9 (cQ l10 ll),gy l9 nn,gm nX] 1 15) .ret))))))))⟩
def Mc {Γ:Ctx}(hm:(Γ.at 0).bp)(h69:C69 Γ)(h72:C72 Γ)(h79:C79 Γ)(l:List Int)   :ef Γ oS (.bool true) [.sl 1 (l.map (D.int .i64))]:=by
 show bz _ _ _ [⟨_,_⟩,_,_,_,_,_,_,_] _;refine ak ?_;refine aA ?_;refine aj (hc:=h79 l 0 0 (by decide) (by decide)) ?_;refine ax ?_;refine aF (Rec.D (lA l 0 0)) (he:=by exact rfl) ?_;refine az ?_;refine aF (.agg [.str (lA l 0 0).name,.int .i64 (lA l 0 0).v.major,.int .i64 (lA l 0 0).v.minor,.int .i64 (lA l 0 0).v.patch,.str (lA l 0 0).v.pre,.str (lA l 0 0).v.build,.sl 3 ((lA l 0 0).needs.map bc.D),.sl 3 ((lA l 0 0).bars.map fZ.D),.ar]) (he:=by exact rfl) ?_;refine ax ?_;refine kH [(3,.buf 9 [Rec.D (dk l 0 0)])] (.bf ae (.cons (.ag (.cons (.refl _) (.cons (.refl _) (.cons (.refl _) (.cons (.refl _) (.cons (.refl _) (.cons (.refl _) (.cons (.refl _) (.cons (.refl _) (.cons (.nil 2) .nil)))))))))) .nil) .nil) ?_;have hg:=uw l 0 0;have hz:=zN l;have hl0:=hg.len;refine ax ?_;refine cA (d:=Rec.D (dk l 0 0)) ?_;refine aj (v:=.tup [.str (iP (dk l 0 0)),.int .i64 0]) (hc:=by have:=h72 _ hg.sm;rw[hg.print]at this;exact this) ?_;refine ba ?_;refine cA (d:=Rec.D (dk l 0 0)) ?_;refine ax ?_;refine aF (Rec.D (dk l 0 0)) (he:=by exact rfl) ?_;refine az ?_;refine ch (v:=.sl 3 ((fQ l 0 0).map fZ.D)) ?_;refine Ey (n:=(fQ l 0 0).length) (he:=qn.sl) (hn:=by simp) (hb:=by have:=mV l 0 0;omega) ?_;refine bn (fZ.D qm) ?_;refine cg [fZ.D qm] ?_;refine gS (q:=fZ.D) (xs:=fQ l 0 0) (e:=qm) (hb:=by have:=mV l 0 0;omega) ?_;refine ax ?_;refine aF (.agg [.str (dk l 0 0).name,.int .i64 (dk l 0 0).v.major,.int .i64 (dk l 0 0).v.minor,.int .i64 (dk l 0 0).v.patch,.str (dk l 0 0).v.pre,.str (dk l 0 0).v.build,.sl 3 ((dk l 0 0).needs.map bc.D),.own 22 3 0 (fQ l 0 0++[qm]).length,.sl 2 ((dk l 0 0).feats.map bo.D)]) (he:=by exact rfl) ?_;refine ax ?_;refine dT 22 ?_;refine ax ?_;refine cA (d:=Rec.D (td l)) ?_;refine aj (v:=.tup [.str (iP (td l)),.int .i64 0]) (hc:=by have:=h72 _ hz.sm;rw[hz.print]at this;exact this) ?_;refine ba ?_;refine aj (hc:=h69) ?_;refine fG ?_;refine cS (hb:=fun _=>by simp only[List.length_cons,List.length_nil];omega) ?_;refine aQ ?_;refine bL ?_;simp[Fa,Hf]
end Go.Abs
end
section
namespace Go.Abs
def IA:List D→Nat
 |_::.int _ (.ofNat 4)::_=>3
 |_=>1
def A69 (T:RT):Prop:=T [] (.bool true)
def A70 (T:RT):Prop:=∀(r:Rec),(jO r)→T [Rec.D r] (.tup [.int .i64 (cb r).1,.int .i64 (cb r).2])
def A72 (T:RT):Prop:=∀(r:Rec),(jO r)→T [Rec.D r] (.tup [.str (ju r).1,.int .i64 (ju r).2])
def A76 (T:RT):Prop:=∀(s:ah),T [.str s] (.tup [Rec.D (fV s).1,.int .i64 (fV s).2.1,.int .i64 (fV s).2.2])
def A79 (T:RT):Prop:=∀(l:List Int)(i:Int)(own:Int),(0≤i∧i≤1000000)→(0≤own∧own≤100000)→T [.sl 1 (l.map (D.int .i64)),.int .i64 i,.int .i64 own] (Rec.D (lA l i own))
def JY (T:RT):Prop:=∀(s:ah)(b:UInt8),(s.length≤1048576)→T [.str s,.str [b]] (.sl 1 ((ai s b.toNat).map D.str))
def JZ (T:RT):Prop:=∀(s:ah),(s.length≤1048576)→T [.str s,.str [124,124]] (.sl 1 ((aJ s []).map D.str))
def A124 (T:RT):Prop:=JY T∧JZ T
def A208 (T:RT):Prop:=∀(s:ah),T [.str s] (.bool (ei s))
def A209 (T:RT):Prop:=∀(v:dw),(v.sm)→T [dw.D v] (.bool (eO v))
def A210 (T:RT):Prop:=∀(r:Rec)(n:bc),(n.sm)→T [Rec.D r,bc.D n] (.int .i64 (iM r n))
def A211 (T:RT):Prop:=∀(r:Rec)(name:ah)(rng:ah),(rng.length≤1048576)→T [Rec.D r,.str name,.str rng] (.int .i64 (gF r name rng))
def A212 (T:RT):Prop:=∀(s:ah),T [.str s] (.bool (jL s))
def A213 (T:RT):Prop:=∀(l:List bo),(ry l)→T [.sl 2 (l.map bo.D)] (.bool (e7 l))
def A214 (T:RT):Prop:=∀(r:Rec)(s:ah),(s.length≤1048576)→T [Rec.D r,.str s] (.int .i64 (iL r s))
def A215 (T:RT):Prop:=∀(r:Rec),(su r∧jO r)→T [Rec.D r] (.str (iP r))
def A217 (T:RT):Prop:=∀(v:dw),(v.sm)→T [dw.D v] (.bool (eO v))
def J0 (T:FT):Prop:=∀(r:Ld),(r.sm)→T (Ld.D r) [] (.tup [Rec.D (en r.rest).1,.bool (p9 r.rest).isSome]) (Ld.D (r.to (en r.rest).2))
def KV:rV (j0 J0):=FO
def A227 (T:RT):Prop:=∀(n:Int),T [.int .i64 n] (.str (cD n))
def A228 (T:RT):Prop:=∀(l:List Int)(i:Int)(n:Int),(0<n∧n≤9223372036854775807)→T [.sl 1 (l.map (D.int .i64)),.int .i64 i,.int .i64 n] (.int .i64 (cY l i n))
def A229 (T:RT):Prop:=∀(l:List Int)(i:Int)(own:Int),(0≤i∧i≤2000000)→(0≤own∧own≤1000000)→T [.sl 1 (l.map (D.int .i64)),.int .i64 i,.int .i64 own] (bc.D (dS l i own))
def A230 (T:RT):Prop:=∀(l:List Int)(i:Int),(0≤i∧i≤4000000)→T [.sl 1 (l.map (D.int .i64)),.int .i64 i] (.str (lZ l i))
def A231 (T:RT):Prop:=∀(l:List Int)(i:Int),(0≤i∧i≤4000000)→T [.sl 1 (l.map (D.int .i64)),.int .i64 i] (.str (gw l i))
def A232 (T:RT):Prop:=∀(l:List Int)(i:Int)(r:Rec),(0≤i∧i≤2000000)→(∀j:Nat,j<r.needs.length→r.needs[j]!.option.length≤100∧(r.needs[j]!.any.length=1→r.needs[j]!.any[0]!.name.length≤100))→T [.sl 1 (l.map (D.int .i64)),.int .i64 i,Rec.D r] (.sl 2 ((e8 l i r).map bo.D))
def A242 (T:RT):Prop:=∀(l:List ah)(sep:ah),(l.length≤1048600)→(sep.length≤4)→(∀t∈l,t.length≤2097200)→T [.sl 1 (l.map D.str),.str sep] (.str (aO sep l))
def A245 (T:RT):Prop:=∀(s:ah)(n:Int),(s.length≤1048576)→(n=-1∨(1≤n∧n≤1000))→T [.str s,.str [32],.int .i64 n] (.sl 1 ((fY n s).map D.str))
def A246 (T:RT):Prop:=∀(l:List ah)(x:ah),T [.sl 1 (l.map D.str),.str x] (.bool (decide (x∈l)))
def A249 (T:RT):Prop:=∀(l:List ah)(x:UInt8),((aO [x] l).length≤1099511627776)→T [.sl 1 (l.map D.str),.int .u8 (x.toNat:Nat)] (.str (aO [x] l))
def A254 (T:RT):Prop:=∀(s:ah)(p:ah),(s.length≤1048576)→(p.length≤1048576)→T [.str s,.str p] (.tup [.str (cR s p).1,.bool (cR s p).2])
def A336 (T:RT):Prop:=∀(n:Int),(0≤n∧n≤9999)→T [.int .i64 n] (.str (cC n.toNat))
def A349 (T:RT):Prop:=∀(s:ah),T [.str s] (.bool (bI s))
def A440 (T:RT):Prop:=∀(n:Int),T [.int .i64 n] (.bool (pN n))
def A441 (T:RT):Prop:=∀(s:ah),(s.length≤1048576)→T [.str s] (.bool (iO s true))
def A442 (T:RT):Prop:=∀(s:ah),(s.length≤1048576)→T [.str s] (.bool (iO s false))
def A443 (T:RT):Prop:=∀(r:Rec)(w:bw)(al:Bool),(w.sm)→T [Rec.D r,bw.D w,.bool al] (.int .i64 (jz r w al))
def A444 (T:RT):Prop:=∀(s:ah),(s.length≤1048576)→T [.str s] (.bool (m3 s))
def A445 (T:RT):Prop:=∀(s:ah),T [.str s] (.tup [jC (kT s).1,.int .i64 (kT s).2])
def A446 (T:RT):Prop:=∀(m:Ho),T [jC m] (.str (JV m))
def A447 (T:RT):Prop:=∀(l:List ah),T [.sl 1 (l.map D.str)] (.bool (rising l))
def A448 (T:RT):Prop:=∀(s:ah),(s.length≤1048576)→T [.str s] (.tup [.int .i64 (bZ s).1,.str (bZ s).2.1,.str (bZ s).2.2])
def A449 (T:RT):Prop:=∀(l:List bo)(nm:ah),T [.sl 2 (l.map bo.D),.str nm] (.bool (JS l nm))
def A451 (T:RT):Prop:=∀(v:dw),(v.sm)→T [dw.D v] (.str (mG v))
def A454 (T:RT):Prop:=∀(c:Int),T [.int .u8 c] (.bool (aM c))
def A455 (T:RT):Prop:=∀(n:Int),T [.int .i64 n] (.bool (pN n))
def A456 (T:RT):Prop:=∀(s:ah)(p:Bool),(s.length≤1048576)→T [.str s,.bool p] (.bool (mC s p))
def J1 (T:FT):Prop:=∀(r:Ld)(w:ah)(n:Nat)(op:Bool),(r.sm)→(n≤1000)→(op=true→1≤n)→T (Ld.D r) [.str w,.int .i64 (n:Nat),.bool op] (.tup [tT (bq w n op r.rest),.bool (bq w n op r.rest).isSome]) (Ld.D (r.after (bq w n op r.rest)))
def KW:rV (j0 J1):=FO
def A466 (T:RT):Prop:=∀(s:ah),(s.length≤1048576)→T [.str s] (.tup [dw.D ((lG s).getD iH),.int .i64 (tz s)])
def J2 (T:FT):Prop:=∀(r:Ld),(r.sm)→T (Ld.D r) [] (bc.D (cX r.rest).1) (Ld.D (r.to (cX r.rest).2))
def KX:rV (j0 J2):=FO
def J3 (T:FT):Prop:=∀(r:Ld),(r.sm)→T (Ld.D r) [] (.str (bj r.rest).1) (Ld.D (r.to (bj r.rest).2))
def KY:rV (j0 J3):=FO
def A469 (T:RT):Prop:=∀(l:List ah),(l.length≤1048600)→T [.sl 1 (l.map D.str)] (.sl 1 (l.map D.str))
def A470 (T:RT):Prop:=∀(s:ah)(b:Int),(s.length≤1048576)→T [.str s,.int .u8 b] (.sl 1 ((ai s b).map D.str))
def A478 (T:RT):Prop:=∀(v:Int)(n:Int),(0<n∧n≤9223372036854775807)→T [.int .i64 v,.int .i64 n] (.int .i64 (v%n))
def A479 (T:RT):Prop:=∀(l:List Int)(i:Int),T [.sl 1 (l.map (D.int .i64)),.int .i64 i] (.int .i64 (fH l i))
def A480 (T:RT):Prop:=∀(l:List Int)(i:Int)(own:Int)(alone:Bool),(0≤i∧i≤3000000)→(0≤own∧own≤1000000)→T [.sl 1 (l.map (D.int .i64)),.int .i64 i,.int .i64 own,.bool alone] (bw.D (ic l i own alone))
def A481 (T:RT):Prop:=∀(n:Int),T [.int .i64 n] (.str (ie n))
def A482 (T:RT):Prop:=∀(c:bU),(c.v.sm)→T [bU.D c] (.str (cP c))
def A483 (T:RT):Prop:=∀(l:List ah)(s:ah),(l.length≤1000)→T [.sl 1 (l.map D.str),.str s] (.sl 1 ((dE l s).map D.str))
def A487 (T:RT):Prop:=∀(s:ah)(b:UInt8),(s.length≤1048576)→T [.str s,.str [b]] (.tup [.str (dR s b).1,.str (dR s b).2.1,.bool (dR s b).2.2])
def A494 (T:RT):Prop:=∀(l:List ah)(x:ah),T [.sl 1 (l.map D.str),.str x] (.int .i64 (oO l x 0))
def A495 (T:RT):Prop:=∀(s:ah),(s.length≤1048576)→T [.str s] (.tup [gV (iF s).1,.int .i64 (iF s).2])
def A496 (T:RT):Prop:=∀(r:vC),(mA r)→T [gV r] (.str (uS r))
def A533 (T:RT):Prop:=∀(s:ah)(b:Int),(s.length≤1048576)→T [.str s,.int .u8 b] (.sl 1 ((ai s b).map D.str))
def A658 (T:RT):Prop:=∀(s:ah),T [.str s] (.tup [.int .i64 (cT s),.bool (dM s)])
def A659 (T:RT):Prop:=∀(t:ah),T [.str t] (.bool (dc t))
def A661 (T:RT):Prop:=∀(m:Ho),T [jC m] (.bool (tR m))
def A662 (T:RT):Prop:=∀(l:List Nd),(fe l∧l.length≤15)→T [.sl 5 (l.map Nd.D)] (.str (oe l))
def A663 (T:RT):Prop:=∀(l:List bo)(nm:ah),T [.sl 2 (l.map bo.D),.str nm] (.int .i64 (findF l nm 0))
def A665 (T:RT):Prop:=∀(n:Int),(0≤n∧n≤9999)→T [.int .i64 n] (.str (cC n.toNat))
def A666 (T:RT):Prop:=∀(t:ah),T [.str t] (.bool (lF t))
def A667 (T:RT):Prop:=∀(s:ah),T [.str s] (.tup [.int .i64 (cT s),.bool (dM s)])
def A668 (T:RT):Prop:=∀(t:ah),T [.str t] (.bool (dc t))
def A675 (T:RT):Prop:=∀(s:ah)(b:Int),T [.str s,.int .u8 b] (.tup [.str (dF s b).1,.str (dF s b).2])
def A676 (T:RT):Prop:=∀(c:bU),(c.v.sm)→T [bU.D c] (.bool (iy c))
def A678 (T:RT):Prop:=∀(op:Int),T [.int .i64 op] (.str (bM op))
def A682 (T:RT):Prop:=∀(s:ah),(s.length≤1048575)→T [.str s] (.tup [bU.D ((gv s).getD di),.int .i64 (if(gv s).isSome=true then 0 else 6)])
def A683 (T:RT):Prop:=∀(s:ah)(b:UInt8),(b=32)→(s.length≤1048576)→T [.str s,.str [b]] (.str (ea s))
def A684 (T:RT):Prop:=∀(r:vC),(mA r)→T [gV r] (.tup [.str (if jW r=true then Cl r else []),.bool (jW r)])
def A685 (T:RT):Prop:=∀(r:vC),(mA r)→T [gV r] (.bool (pV r))
def A734 (T:RT):Prop:=∀(n:Int),(0≤n∧n≤9999)→T [.int .i64 n] (.str (cC n.toNat))
def A810 (T:RT):Prop:=∀(l:List Nd),T [.sl 5 (l.map Nd.D)] (.bool (decide (l.length≤15)&&mE l))
def A811 (T:RT):Prop:=∀(l:List Nd)(i:Int),(fe l∧l.length≤15∧0≤i∧i<l.length)→T [.sl 5 (l.map Nd.D),.int .i64 i] (.str (j8 l i))
def u811:List D→Nat:=fun ds=>2*(match ds.getD 1 .any with| .int _ i=>i.toNat|_=>0)
def A819 (T:RT):Prop:=∀(s:ah),(s.length≤1048576)→T [.str s] (.tup [bU.D ((dC s).getD di),.bool (dC s).isSome])
def A827 (T:RT):Prop:=∀(c:bU),(c.v.sm)→T [bU.D c] (.bool (iy c))
def A828 (T:RT):Prop:=∀(c:bU),(c.v.sm)→T [bU.D c] (.str (cP c))
def A882 (T:RT):Prop:=∀(n:Nat),(n≤9999)→T [.int .u64 (n:Nat)] (.str (cC n))
def A946 (T:RT):Prop:=∀(w:List ah)(es:List D)(b:Bool),T [.ref 3 [dZ w (.sl 5 es) b] 0 0] (.str (bH w))
def A950 (T:RT):Prop:=T [] (.sl 1 (lj.map D.str))
def A951 (T:RT):Prop:=∀(l:List Nd)(i:Int)(b:Bool),(fe l∧l.length≤15∧0≤i∧i<l.length)→T [.sl 5 (l.map Nd.D),.int .i64 i,.bool b] (.str (jA (j8 l i) b))
def u951:List D→Nat:=fun ds=>2*(match ds.getD 1 .any with| .int _ i=>i.toNat|_=>0)+1
def A956 (T:RT):Prop:=∀(s:ah)(w:ah),T [.str s,.str w] (.bool (pC s w))
def A957 (T:RT):Prop:=∀(op:Int),T [.int .i64 op] (.str (bM op))
def Hg (T:RT):Prop:=∀(l:List Int),T [.sl 1 (l.map (D.int .i64))] (.bool true)
def KU:KZ (vY Hg):=bC
def a7:List (Nat×ng):=[(69,rP 16 A69),(70,rP 14 A70),(72,rP 15 A72),(76,rP 15 A76),(79,rP 10 A79),(124,rP 1 A124),(208,rP 1 A208),(209,rP 4 A209),(210,rP 13 A210),(211,rP 11 A211),(212,rP 6 A212),(213,rP 3 A213),(214,rP 3 A214),(215,rP 6 A215),(217,rP 4 A217),(222,rF 7 J0),(227,rP 2 A227),(228,rP 2 A228),(229,rP 9 A229),(230,rP 7 A230),(231,rP 3 A231),(232,rP 2 A232),(242,rP 1 A242),(245,rP 1 A245),(246,rP 2 A246),(249,rP 1 A249),(254,rP 1 A254),(336,rP 1 A336),(349,rP 1 A349),(440,rP 1 A440),(441,rP 3 A441),(442,rP 2 A442),(443,rP 12 A443),(444,rP 10 A444),(445,rP 5 A445),(446,rP 5 A446),(447,rP 1 A447),(448,rP 2 A448),(449,rP 2 A449),(450,rG 2 HZ),(451,rP 5 A451),(452,rG 1 H2),(454,rP 1 A454),(455,rP 1 A455),(456,rP 3 A456),(465,rFG 3 J1 Af),(466,rP 6 A466),(467,rF 5 J2),(468,rF 4 J3),(469,rP 1 A469),(470,rP 1 A470),(478,rP 1 A478),(479,rP 1 A479),(480,rP 8 A480),(481,rP 2 A481),(482,rP 6 A482),(483,rP 1 A483),(487,rP 1 A487),(489,rG 1 H5),(494,rP 1 A494),(495,rP 9 A495),(496,rP 8 A496),(533,rP 1 A533),(658,rP 1 A658),(659,rP 1 A659),(660,rG 4 H6 (DT fun _=>4)),(661,rP 4 A661),(662,rP 3 A662),(663,rP 1 A663),(664,rG 1 H9),(665,rP 2 A665),(666,rP 1 A666),(667,rP 2 A667),(668,rP 1 A668),(675,rP 1 A675),(676,rP 5 A676),(677,rG 3 Ib),(678,rP 1 A678),(682,rP 8 A682),(683,rP 1 A683),(684,rP 7 A684),(685,rP 8 A685),(734,rP 2 A734),(808,rG 4 C808 (DT IA)),(809,rG 4 C809 (DT fun _=>2)),(810,rP 2 A810),(811,rP 2 A811 u811),(819,rP 7 A819),(827,rP 5 A827),(828,rP 6 A828),(882,rP 1 A882),(946,rP 1 A946),(947,rG 2 A7),(948,rG 1 CU),(949,rG 4 C949 (DT fun _=>0)),(950,rP 1 A950),(951,rP 2 A951 u951),(956,rP 1 A956),(957,rP 1 A957),(1031,rG 3 CM),(1193,rP 17 Hg)]
variable {k u v:Nat}
def G69 (hk:16<k:=by decide):C69 (under a7 k u):=dA bC (.inl hk) fun T hT=>hT
def G70 (hk:14<k:=by decide):C70 (under a7 k u):=fun r hp0=>dA bC (.inl hk) fun T hT=>hT r hp0
def G72 (hk:15<k:=by decide):C72 (under a7 k u):=fun r hp0=>dA bC (.inl hk) fun T hT=>hT r hp0
def G76 (hk:15<k:=by decide):C76 (under a7 k u):=fun s=>dA bC (.inl hk) fun T hT=>hT s
def G79 (hk:10<k:=by decide):C79 (under a7 k u):=fun l i own hp0 hp1=>dA bC (.inl hk) fun T hT=>hT l i own hp0 hp1
def Fw (hk:1<k:=by decide):CN (under a7 k u):=fun s b hp=>dA bC (.inl hk) fun T h=>h.1 s b hp
def Lo (hk:1<k:=by decide):Hi (under a7 k u):=fun s hp=>dA bC (.inl hk) fun T h=>h.2 s hp
def Ii (hk:1<k:=by decide):Fm (under a7 k u):=fun s=>dA bC (.inl hk) fun T hT=>hT s
def Fx (hk:4<k:=by decide):CO (under a7 k u):=fun v hp0=>dA bC (.inl hk) fun T hT=>hT v hp0
def G210 (hk:13<k:=by decide):J4 (under a7 k u):=fun r n hp0=>dA bC (.inl hk) fun T hT=>hT r n hp0
def K1 (hk:11<k:=by decide):HR (under a7 k u):=fun r name rng hp0=>dA bC (.inl hk) fun T hT=>hT r name rng hp0
def K2 (hk:6<k:=by decide):HS (under a7 k u):=fun s=>dA bC (.inl hk) fun T hT=>hT s
def G213 (hk:3<k:=by decide):J5 (under a7 k u):=fun l hp0=>dA bC (.inl hk) fun T hT=>hT l hp0
def G214 (hk:3<k:=by decide):J6 (under a7 k u):=fun r s hp0=>dA bC (.inl hk) fun T hT=>hT r s hp0
def K3 (hk:6<k:=by decide):HT (under a7 k u):=fun r hp0=>dA bC (.inl hk) fun T hT=>hT r hp0
def G217 (hk:4<k:=by decide):J7 (under a7 k u):=fun v hp0=>dA bC (.inl hk) fun T hT=>hT v hp0
def G222 (hk:7<k:=by decide):J8 (under a7 k u):=fun r hp0=>okf KV hk fun T h=>h r hp0
def K4 (hk:2<k:=by decide):HU (under a7 k u):=fun n=>dA bC (.inl hk) fun T hT=>hT n
def CW (hk:2<k:=by decide):A6 (under a7 k u):=fun l i n hp0=>dA bC (.inl hk) fun T hT=>hT l i n hp0
def G229 (hk:9<k:=by decide):J9 (under a7 k u):=fun l i own hp0 hp1=>dA bC (.inl hk) fun T hT=>hT l i own hp0 hp1
def K5 (hk:7<k:=by decide):HV (under a7 k u):=fun l i hp0=>dA bC (.inl hk) fun T hT=>hT l i hp0
def K6 (hk:3<k:=by decide):HW (under a7 k u):=fun l i hp0=>dA bC (.inl hk) fun T hT=>hT l i hp0
def G232 (hk:2<k:=by decide):Ka (under a7 k u):=fun l i r hp0 hp1=>dA bC (.inl hk) fun T hT=>hT l i r hp0 hp1
def Ij (hk:1<k:=by decide):Fo (under a7 k u):=fun l sep hp0 hp1 hp2=>dA bC (.inl hk) fun T hT=>hT l sep hp0 hp1 hp2
def K7 (hk:1<k:=by decide):Kb (under a7 k u):=fun s n hp0 hp1=>dA bC (.inl hk) fun T hT=>hT s n hp0 hp1
def K8 (hk:2<k:=by decide):Kc (under a7 k u):=fun l x=>dA bC (.inl hk) fun T hT=>hT l x
def G249 (hk:1<k:=by decide):Kd (under a7 k u):=fun l x hp0=>dA bC (.inl hk) fun T hT=>hT l x hp0
def G254 (hk:1<k:=by decide):Ke (under a7 k u):=fun s p hp0 hp1=>dA bC (.inl hk) fun T hT=>hT s p hp0 hp1
def G336 (hk:1<k:=by decide):Kf (under a7 k u):=fun n hp0=>dA bC (.inl hk) fun T hT=>hT n hp0
def A9 (hk:1<k:=by decide):yO (under a7 k u):=fun s=>dA bC (.inl hk) fun T hT=>hT s
def G440 (hk:1<k:=by decide):Kg (under a7 k u):=fun n=>dA bC (.inl hk) fun T hT=>hT n
def G441 (hk:3<k:=by decide):Kh (under a7 k u):=fun s hp0=>dA bC (.inl hk) fun T hT=>hT s hp0
def K9 (hk:2<k:=by decide):HX (under a7 k u):=fun s hp0=>dA bC (.inl hk) fun T hT=>hT s hp0
def G443 (hk:12<k:=by decide):Ki (under a7 k u):=fun r w al hp0=>dA bC (.inl hk) fun T hT=>hT r w al hp0
def G444 (hk:10<k:=by decide):Kj (under a7 k u):=fun s hp0=>dA bC (.inl hk) fun T hT=>hT s hp0
def G445 (hk:5<k:=by decide):Kk (under a7 k u):=fun s=>dA bC (.inl hk) fun T hT=>hT s
def G446 (hk:5<k:=by decide):Kl (under a7 k u):=fun m=>dA bC (.inl hk) fun T hT=>hT m
def G447 (hk:1<k:=by decide):Km (under a7 k u):=fun l=>dA bC (.inl hk) fun T hT=>hT l
def La (hk:2<k:=by decide):HY (under a7 k u):=fun s hp0=>dA bC (.inl hk) fun T hT=>hT s hp0
def G449 (hk:2<k:=by decide):Kn (under a7 k u):=fun l nm=>dA bC (.inl hk) fun T hT=>hT l nm
def G450 (hk:2<k:=by decide):HZ (under a7 k u):=fun ws t l lw nx m K h1 h2 h3 h4 h5 hK=>zF (.inl hk) fun T _ h=>h ws t l lw nx m K h1 h2 h3 h4 h5 hK
def Lb (hk:5<k:=by decide):H0 (under a7 k u):=fun v hp0=>dA bC (.inl hk) fun T hT=>hT v hp0
def G452 (hk:1<k:=by decide):H2 (under a7 k u):=fun ds st K h1=>zF (.inl hk) fun T _ h=>h ds st K h1
def G454 (hk:1<k:=by decide):Ko (under a7 k u):=fun c=>dA bC (.inl hk) fun T hT=>hT c
def G455 (hk:1<k:=by decide):Kq (under a7 k u):=fun n=>dA bC (.inl hk) fun T hT=>hT n
def G456 (hk:3<k:=by decide):Kr (under a7 k u):=fun s p hp0=>dA bC (.inl hk) fun T hT=>hT s p hp0
def Lc (hk:3<k:=by decide):Fp (under a7 k u):=fun r w n op hp0 hp1 hp2=>okf KW hk fun T h=>h r w n op hp0 hp1 hp2
def Lp (hk:3<k:=by decide):Af (under a7 k u):=fun r w n op l nx m K h1 h2 h3 h4 hK=>zF (.inl hk) fun T _ h=>h r w n op l nx m K h1 h2 h3 h4 hK
def G466 (hk:6<k:=by decide):Ks (under a7 k u):=fun s hp0=>dA bC (.inl hk) fun T hT=>hT s hp0
def G467 (hk:5<k:=by decide):H3 (under a7 k u):=fun r hp0=>okf KX hk fun T h=>h r hp0
def Lg (hk:4<k:=by decide):Fq (under a7 k u):=fun r hp0=>okf KY hk fun T h=>h r hp0
def G469 (hk:1<k:=by decide):Kt (under a7 k u):=fun l hp0=>dA bC (.inl hk) fun T hT=>hT l hp0
def G470 (hk:1<k:=by decide):Ku (under a7 k u):=fun s b hp0=>dA bC (.inl hk) fun T hT=>hT s b hp0
def Fy (hk:1<k:=by decide):CP (under a7 k u):=fun v n hp0=>dA bC (.inl hk) fun T hT=>hT v n hp0
def Ik (hk:1<k:=by decide):Fs (under a7 k u):=fun l i=>dA bC (.inl hk) fun T hT=>hT l i
def G480 (hk:8<k:=by decide):Kv (under a7 k u):=fun l i own alone hp0 hp1=>dA bC (.inl hk) fun T hT=>hT l i own alone hp0 hp1
def Lh (hk:2<k:=by decide):H4 (under a7 k u):=fun n=>dA bC (.inl hk) fun T hT=>hT n
def G482 (hk:6<k:=by decide):Kw (under a7 k u):=fun c hp0=>dA bC (.inl hk) fun T hT=>hT c hp0
def G483 (hk:1<k:=by decide):Kx (under a7 k u):=fun l s hp0=>dA bC (.inl hk) fun T hT=>hT l s hp0
def G487 (hk:1<k:=by decide):Ky (under a7 k u):=fun s b hp0=>dA bC (.inl hk) fun T hT=>hT s b hp0
def G489 (hk:1<k:=by decide):H5 (under a7 k u):=fun ds st K h1=>zF (.inl hk) fun T _ h=>h ds st K h1
def G494 (hk:1<k:=by decide):Kz (under a7 k u):=fun l x=>dA bC (.inl hk) fun T hT=>hT l x
def G495 (hk:9<k:=by decide):KA (under a7 k u):=fun s hp0=>dA bC (.inl hk) fun T hT=>hT s hp0
def G496 (hk:8<k:=by decide):KB (under a7 k u):=fun r hp0=>dA bC (.inl hk) fun T hT=>hT r hp0
def Fz (hk:1<k:=by decide):CR (under a7 k u):=fun s b hp0=>dA bC (.inl hk) fun T hT=>hT s b hp0
def Il (hk:1<k:=by decide):Ft (under a7 k u):=fun s=>dA bC (.inl hk) fun T hT=>hT s
def G659 (hk:1<k:=by decide):KC (under a7 k u):=fun t=>dA bC (.inl hk) fun T hT=>hT t
def G660 (hk:4<k:=by decide):H6 (under a7 k u):=fun w nd hp0 nx lp ln m K h1 h2 h3 h4 hK=>zF (.inl hk) fun T _ h=>h w nd hp0 nx lp ln m K h1 h2 h3 h4 hK
def Li (hv:v≤u):Hh (under a7 4 u) v:=fun w nd hp0 hu nx lp ln m K h1 h2 h3 h4 hK=>zF (.inr ⟨rfl,by rw[show(lk a7 660 jv).muE=DT fun _=>4 from rfl,jq h1];exact Nat.lt_of_lt_of_le hu hv⟩) fun T _ h=>h w nd hp0 nx lp ln m K h1 h2 h3 h4 hK
def Lj (hk:4<k:=by decide):H7 (under a7 k u):=fun m=>dA bC (.inl hk) fun T hT=>hT m
def Lk (hk:3<k:=by decide):H8 (under a7 k u):=fun l hp0=>dA bC (.inl hk) fun T hT=>hT l hp0
def G663 (hk:1<k:=by decide):KD (under a7 k u):=fun l nm=>dA bC (.inl hk) fun T hT=>hT l nm
def G664 (hk:1<k:=by decide):H9 (under a7 k u):=fun ds st K h1=>zF (.inl hk) fun T _ h=>h ds st K h1
def Ll (hk:2<k:=by decide):Ia (under a7 k u):=fun n hp0=>dA bC (.inl hk) fun T hT=>hT n hp0
def G666 (hk:1<k:=by decide):KE (under a7 k u):=fun t=>dA bC (.inl hk) fun T hT=>hT t
def G667 (hk:2<k:=by decide):KF (under a7 k u):=fun s=>dA bC (.inl hk) fun T hT=>hT s
def G668 (hk:1<k:=by decide):KG (under a7 k u):=fun t=>dA bC (.inl hk) fun T hT=>hT t
def G675 (hk:1<k:=by decide):KH (under a7 k u):=fun s b=>dA bC (.inl hk) fun T hT=>hT s b
def G676 (hk:5<k:=by decide):KI (under a7 k u):=fun c hp0=>dA bC (.inl hk) fun T hT=>hT c hp0
def G677 (hk:3<k:=by decide):Ib (under a7 k u):=fun c hp0 nx m K hK=>zF (.inl hk) fun T _ h=>h c hp0 nx m K hK
def G678 (hk:1<k:=by decide):KJ (under a7 k u):=fun op=>dA bC (.inl hk) fun T hT=>hT op
def G682 (hk:8<k:=by decide):KK (under a7 k u):=fun s hp0=>dA bC (.inl hk) fun T hT=>hT s hp0
def G683 (hk:1<k:=by decide):KL (under a7 k u):=fun s b hp0 hp1=>dA bC (.inl hk) fun T hT=>hT s b hp0 hp1
def Im (hk:7<k:=by decide):Fu (under a7 k u):=fun r hp0=>dA bC (.inl hk) fun T hT=>hT r hp0
def G685 (hk:8<k:=by decide):KM (under a7 k u):=fun r hp0=>dA bC (.inl hk) fun T hT=>hT r hp0
def G734 (hk:2<k:=by decide):KN (under a7 k u):=fun n hp0=>dA bC (.inl hk) fun T hT=>hT n hp0
def Hl (hv:v≤u):CS (under a7 4 u) v:=⟨fun w nd hp0 hu nx lp ln m K h1 h2 h3 h4 hK=>zF (.inr ⟨rfl,by rw[show(lk a7 808 jv).muE=DT IA from rfl,jq h1];exact Nat.lt_of_lt_of_le hu hv⟩) fun T _ h=>h.1 w nd hp0 nx lp ln m K h1 h2 h3 h4 hK,fun w nd hp0 hu nx lp ln m K h1 h2 h3 h4 hK=>zF (.inr ⟨rfl,by rw[show(lk a7 808 jv).muE=DT IA from rfl,jq h1];exact Nat.lt_of_lt_of_le hu hv⟩) fun T _ h=>h.2 w nd hp0 nx lp ln m K h1 h2 h3 h4 hK⟩
def Lm (hv:v≤u):KO (under a7 4 u) v:=fun w nd hp0 hu nx lp ln m K h1 h2 h3 h4 hK=>zF (.inr ⟨rfl,by rw[show(lk a7 809 jv).muE=DT fun _=>2 from rfl,jq h1];exact Nat.lt_of_lt_of_le hu hv⟩) fun T _ h=>h w nd hp0 nx lp ln m K h1 h2 h3 h4 hK
def G810 (hk:2<k:=by decide):KP (under a7 k u):=fun l=>dA bC (.inl hk) fun T hT=>hT l
def G811 (hk:2<k:=by decide):KQ (under a7 k u):=fun l i hp0=>dA bC (.inl hk) fun T hT=>hT l i hp0
def Hm (hv:v≤u):CT (under a7 2 u) v:=fun l i hp0 hu=>dA bC (.inr ⟨rfl,Nat.lt_of_lt_of_le hu hv⟩) fun T hT=>hT l i hp0
def G819 (hk:7<k:=by decide):KR (under a7 k u):=fun s hp0=>dA bC (.inl hk) fun T hT=>hT s hp0
def Io (hk:5<k:=by decide):Fv (under a7 k u):=fun c hp0=>dA bC (.inl hk) fun T hT=>hT c hp0
def Ln (hk:6<k:=by decide):Ic (under a7 k u):=fun c hp0=>dA bC (.inl hk) fun T hT=>hT c hp0
def G882 (hk:1<k:=by decide):KS (under a7 k u):=fun n hp0=>dA bC (.inl hk) fun T hT=>hT n hp0
def Ip (hk:1<k:=by decide):Ie (under a7 k u):=fun w es b=>dA bC (.inl hk) fun T hT=>hT w es b
def FA (hk:2<k:=by decide):A7 (under a7 k u):=fun w nd b nx lp ln m K h1 h2 h3 h4 hK=>zF (.inl hk) fun T _ h=>h w nd b nx lp ln m K h1 h2 h3 h4 hK
def FB (hk:1<k:=by decide):CU (under a7 k u):=fun x w nd b hp0 nx lp ln m K h1 h2 h3 h4 hK=>zF (.inl hk) fun T _ h=>h x w nd b hp0 nx lp ln m K h1 h2 h3 h4 hK
def Hn (hv:v≤u):Hj (under a7 4 u) v:=fun w nd hp0 hu nx lp ln m K h1 h2 h3 h4 hK=>zF (.inr ⟨rfl,by rw[show(lk a7 949 jv).muE=DT fun _=>0 from rfl,jq h1];exact Nat.lt_of_lt_of_le hu hv⟩) fun T _ h=>h w nd hp0 nx lp ln m K h1 h2 h3 h4 hK
def Lq (hk:1<k:=by decide):Ig (under a7 k u):=dA bC (.inl hk) fun T hT=>hT
def Lr (hv:v≤u):Hk (under a7 2 u) v:=fun l i b hp0 hu=>dA bC (.inr ⟨rfl,Nat.lt_of_lt_of_le hu hv⟩) fun T hT=>hT l i b hp0
def G956 (hk:1<k:=by decide):KT (under a7 k u):=fun s w=>dA bC (.inl hk) fun T hT=>hT s w
def Ls (hk:1<k:=by decide):Ih (under a7 k u):=fun op=>dA bC (.inl hk) fun T hT=>hT op
def K0 (hk:3<k:=by decide):CM (under a7 k u):=fun k w nd b hp0 nx lp ln m K h1 h2 h3 h4 hK=>zF (.inl hk) fun T _ h=>h k w nd b hp0 nx lp ln m K h1 h2 h3 h4 hK
end Go.Abs
end
namespace Go.Abs
def q9:List (Nat×Nat):=[(7,1193),(12,69),(13,76),(17,79),(18,478),(19,228),(20,70),(21,72),(28,124),(29,222),(35,227),(36,229),(37,230),(38,231),(39,232),(40,479),(41,208),(42,209),(43,210),(44,211),(45,212),(46,213),(47,214),(48,215),(51,217),(61,465),(62,466),(63,467),(64,468),(65,469),(66,470),(77,249),(78,480),(79,481),(80,482),(81,483),(82,440),(83,441),(84,442),(85,443),(86,349),(87,444),(88,445),(89,446),(90,447),(91,448),(92,449),(93,450),(94,451),(95,242),(96,452),(98,454),(99,455),(100,456),(112,245),(113,246),(114,675),(115,533),(116,658),(119,676),(120,677),(121,678),(122,659),(123,495),(124,496),(125,660),(126,661),(127,662),(128,254),(129,487),(130,663),(131,489),(132,664),(133,665),(135,666),(136,667),(137,668),(150,494),(153,734),(154,682),(155,683),(156,684),(157,685),(158,808),(159,809),(160,810),(161,811),(165,336),(179,882),(180,819),(188,827),(189,828),(190,946),(191,947),(192,948),(193,949),(194,950),(195,951),(212,956),(213,957),(217,1031)]
def Dh:List Nat:=[219,1091,1354,1894,1896,1616,1320,1618,1898,2062,2066,2282,2068,2252,2194,2064,1904,900,931,937,935,445,978,1328,904,942,944,946,952,448,1000000133]
def bA:(Go.Proofs.Tryz.prog).follows .mixedOrders=true:=by kernel_rfl
abbrev Ow [bQ](f n:Nat):Prop:=JN Go.Proofs.Tryz.prog q9 Dh a7 f n
abbrev Cp (f:Nat)(a:aB):Prop:=CV Go.Proofs.Tryz.prog q9 Dh f a
def ck {f:Nat}{a:aB}(h:((Go.Proofs.Tryz.prog).funcs[f]?).map (fun f=>(compile Go.Proofs.Tryz.prog q9 Dh f,f.name== "runtime.NumGoroutine"))=some (some a,false):=by kernel_rfl):Cp f a:=h
end Go.Abs
section
namespace Go.Proofs
open Go.Shelf
def Tryz.FJ:Go.Shelf.Ren:=⟨fun|166=>131|167=>132|169=>96|240=>164|276=>197|n=>n,fun|70=>131|9=>9|0=>0|72=>133|37=>53|3=>3|5=>5|4=>4|20=>20|75=>172|80=>99|164=>215|127=>177|n=>n,fun|n=>n⟩
def Tryz.Ak:Go.Proofs.Lays.n166 Tryz.prog Tryz.FJ:={
 mixed:=by kernel_rfl
 f166:=Tryz.func131.trans (congrArg some (by kernel_rfl))
 f240:=Tryz.func164.trans (congrArg some (by kernel_rfl))
 f276:=Tryz.func197.trans (congrArg some (by kernel_rfl))
 t0:=Tryz.underlying0
 a0:=Tryz.isAgg0
 z0:=Tryz.sizeOf0
 v0:=Tryz.zeroValue0
 t3:=Tryz.underlying3
 a3:=Tryz.isAgg3
 z3:=Tryz.sizeOf3
 v3:=Tryz.zeroValue3
 t4:=Tryz.underlying4
 a4:=Tryz.isAgg4
 z4:=Tryz.sizeOf4
 v4:=Tryz.zeroValue4
 t9:=Tryz.underlying9
 a9:=Tryz.isAgg9
 z9:=Tryz.sizeOf9
 v9:=Tryz.zeroValue9
 t20:=Tryz.underlying20
 a20:=Tryz.isAgg20
 z20:=Tryz.sizeOf20
 v20:=Tryz.zeroValue20
 t37:=Tryz.underlying53
 a37:=Tryz.isAgg53
 z37:=Tryz.sizeOf53
 v37:=Tryz.zeroValue53
 t70:=Tryz.underlying131
 a70:=Tryz.isAgg131
 z70:=Tryz.sizeOf131
 v70:=Tryz.zeroValue131
 t72:=Tryz.underlying133
 a72:=Tryz.isAgg133
 z72:=Tryz.sizeOf133
 v72:=Tryz.zeroValue133
 t75:=Tryz.underlying172
 a75:=Tryz.isAgg172
 z75:=Tryz.sizeOf172
 v75:=Tryz.zeroValue172
 t164:=Tryz.underlying215
 a164:=Tryz.isAgg215
 z164:=Tryz.sizeOf215
 v164:=Tryz.zeroValue215}
def Tryz.Al:Go.Proofs.Lays.n167 Tryz.prog Tryz.FJ:={
 mixed:=by kernel_rfl
 f167:=Tryz.func132.trans (congrArg some (by kernel_rfl))
 f240:=Tryz.func164.trans (congrArg some (by kernel_rfl))
 f276:=Tryz.func197.trans (congrArg some (by kernel_rfl))
 t0:=Tryz.underlying0
 a0:=Tryz.isAgg0
 z0:=Tryz.sizeOf0
 v0:=Tryz.zeroValue0
 t4:=Tryz.underlying4
 a4:=Tryz.isAgg4
 z4:=Tryz.sizeOf4
 v4:=Tryz.zeroValue4
 t5:=Tryz.underlying5
 a5:=Tryz.isAgg5
 z5:=Tryz.sizeOf5
 v5:=Tryz.zeroValue5
 t9:=Tryz.underlying9
 a9:=Tryz.isAgg9
 z9:=Tryz.sizeOf9
 v9:=Tryz.zeroValue9
 t20:=Tryz.underlying20
 a20:=Tryz.isAgg20
 z20:=Tryz.sizeOf20
 v20:=Tryz.zeroValue20
 t37:=Tryz.underlying53
 a37:=Tryz.isAgg53
 z37:=Tryz.sizeOf53
 v37:=Tryz.zeroValue53
 t70:=Tryz.underlying131
 a70:=Tryz.isAgg131
 z70:=Tryz.sizeOf131
 v70:=Tryz.zeroValue131
 t72:=Tryz.underlying133
 a72:=Tryz.isAgg133
 z72:=Tryz.sizeOf133
 v72:=Tryz.zeroValue133
 t75:=Tryz.underlying172
 a75:=Tryz.isAgg172
 z75:=Tryz.sizeOf172
 v75:=Tryz.zeroValue172
 t164:=Tryz.underlying215
 a164:=Tryz.isAgg215
 z164:=Tryz.sizeOf215
 v164:=Tryz.zeroValue215}
def Tryz.Am:Go.Proofs.Lays.n169 Tryz.prog Tryz.FJ:={
 mixed:=by kernel_rfl
 f169:=Tryz.func96.trans (congrArg some (by kernel_rfl))
 t0:=Tryz.underlying0
 a0:=Tryz.isAgg0
 z0:=Tryz.sizeOf0
 v0:=Tryz.zeroValue0
 t3:=Tryz.underlying3
 a3:=Tryz.isAgg3
 z3:=Tryz.sizeOf3
 v3:=Tryz.zeroValue3
 t9:=Tryz.underlying9
 a9:=Tryz.isAgg9
 z9:=Tryz.sizeOf9
 v9:=Tryz.zeroValue9
 t37:=Tryz.underlying53
 a37:=Tryz.isAgg53
 z37:=Tryz.sizeOf53
 v37:=Tryz.zeroValue53
 t70:=Tryz.underlying131
 a70:=Tryz.isAgg131
 z70:=Tryz.sizeOf131
 v70:=Tryz.zeroValue131
 t72:=Tryz.underlying133
 a72:=Tryz.isAgg133
 z72:=Tryz.sizeOf133
 v72:=Tryz.zeroValue133
 t127:=Tryz.underlying177
 a127:=Tryz.isAgg177
 z127:=Tryz.sizeOf177
 v127:=Tryz.zeroValue177}
def Tryz.Iz:Builder.Extra Tryz.prog Tryz.FJ:={
 sizeBuilder:=by kernel_rfl
 liesBuilder:=by kernel_rfl
 t5:=Tryz.underlying5
 a5:=Tryz.isAgg5
 z5:=Tryz.sizeOf5
 v5:=Tryz.zeroValue5
 infoByte:=by kernel_rfl
 cellsByte:=by kernel_rfl
 sizeByte:=by kernel_rfl
 neB5:=by decide}
end Go.Proofs
end
section
namespace Go.Proofs
open Go.Shelf
def Tryz.lays156_ren:Go.Shelf.Ren:=⟨fun|156=>95|165=>134|166=>131|169=>96|240=>164|241=>166|276=>197|277=>199|n=>n,fun|31=>55|9=>9|3=>3|4=>4|0=>0|20=>20|72=>133|76=>173|70=>131|37=>53|75=>172|127=>177|164=>215|5=>5|80=>99|n=>n,fun|n=>n⟩
def Tryz.lays156:Go.Proofs.Lays.n156 Tryz.prog Tryz.lays156_ren:={
 mixed:=by kernel_rfl
 f156:=Tryz.func95.trans (congrArg some (by kernel_rfl))
 f165:=Tryz.func134.trans (congrArg some (by kernel_rfl))
 f166:=Tryz.func131.trans (congrArg some (by kernel_rfl))
 f169:=Tryz.func96.trans (congrArg some (by kernel_rfl))
 f240:=Tryz.func164.trans (congrArg some (by kernel_rfl))
 f241:=Tryz.func166.trans (congrArg some (by kernel_rfl))
 f276:=Tryz.func197.trans (congrArg some (by kernel_rfl))
 f277:=Tryz.func199.trans (congrArg some (by kernel_rfl))
 t0:=Tryz.underlying0
 a0:=Tryz.isAgg0
 z0:=Tryz.sizeOf0
 v0:=Tryz.zeroValue0
 t3:=Tryz.underlying3
 a3:=Tryz.isAgg3
 z3:=Tryz.sizeOf3
 v3:=Tryz.zeroValue3
 t4:=Tryz.underlying4
 a4:=Tryz.isAgg4
 z4:=Tryz.sizeOf4
 v4:=Tryz.zeroValue4
 t9:=Tryz.underlying9
 a9:=Tryz.isAgg9
 z9:=Tryz.sizeOf9
 v9:=Tryz.zeroValue9
 t20:=Tryz.underlying20
 a20:=Tryz.isAgg20
 z20:=Tryz.sizeOf20
 v20:=Tryz.zeroValue20
 t31:=Tryz.underlying55
 a31:=Tryz.isAgg55
 z31:=Tryz.sizeOf55
 v31:=Tryz.zeroValue55
 t37:=Tryz.underlying53
 a37:=Tryz.isAgg53
 z37:=Tryz.sizeOf53
 v37:=Tryz.zeroValue53
 t70:=Tryz.underlying131
 a70:=Tryz.isAgg131
 z70:=Tryz.sizeOf131
 v70:=Tryz.zeroValue131
 t72:=Tryz.underlying133
 a72:=Tryz.isAgg133
 z72:=Tryz.sizeOf133
 v72:=Tryz.zeroValue133
 t75:=Tryz.underlying172
 a75:=Tryz.isAgg172
 z75:=Tryz.sizeOf172
 v75:=Tryz.zeroValue172
 t76:=Tryz.underlying173
 a76:=Tryz.isAgg173
 z76:=Tryz.sizeOf173
 v76:=Tryz.zeroValue173
 t127:=Tryz.underlying177
 a127:=Tryz.isAgg177
 z127:=Tryz.sizeOf177
 v127:=Tryz.zeroValue177
 t164:=Tryz.underlying215
 a164:=Tryz.isAgg215
 z164:=Tryz.sizeOf215
 v164:=Tryz.zeroValue215}
def Tryz.Builder_Extra_156:Builder.Extra Tryz.prog Tryz.lays156_ren:={
 sizeBuilder:=by kernel_rfl
 liesBuilder:=by kernel_rfl
 t5:=Tryz.underlying5
 a5:=Tryz.isAgg5
 z5:=Tryz.sizeOf5
 v5:=Tryz.zeroValue5
 infoByte:=by kernel_rfl
 cellsByte:=by kernel_rfl
 sizeByte:=by kernel_rfl
 neB5:=by decide}
open Go.RowKit in
theorem Tryz.strings_Join_none (a:Option Addr)(c:Nat)(sep:ByteArray)(w:World):
  Calls Tryz.prog 95 #[.slice a 0 c,.string sep] w fun e w'=>e=.returned (.string ⟨#[]⟩)∧w'=w:=Any.strings_Join_none Tryz.lays156 Tryz.Builder_Extra_156 a c sep w
open Go.RowKit in
theorem Tryz.strings_Join (bk o c:Nat)(xs:List ByteArray)(sep:ByteArray)(w:World)(hcells:∀(j:Nat) x,xs[j]? =some x→w.cell? ⟨bk,o+j,none⟩=some (.string x))(hbk:bk<w.heap.size)(hN:xs.length≤140737488355328)(hcap:xs.length≤c)(hlen:(Lib.join (xs.map (·.data.toList)) sep.data.toList).length≤140737488355328):
  Calls Tryz.prog 95 #[.slice (some ⟨bk,o,none⟩) xs.length c,.string sep] w fun e w'=>e=.returned (.string ⟨(Lib.join (xs.map (·.data.toList)) sep.data.toList).toArray⟩)∧Below w.heap.size w w':=Any.strings_Join Tryz.lays156 Tryz.Builder_Extra_156 bk o c xs sep w hcells hbk hN hcap hlen
def Tryz.lays160_ren:Go.Shelf.Ren:=⟨fun|160=>155|232=>182|231=>181|227=>183|234=>185|233=>184|236=>187|235=>186|228=>214|271=>216|151=>215|197=>147|120=>228|152=>227|260=>174|137=>238|119=>239|224=>177|225=>176|217=>175|266=>210|n=>n,fun|9=>9|4=>4|3=>3|5=>5|117=>205|116=>204|0=>0|124=>208|21=>21|105=>181|46=>89|119=>222|139=>225|138=>224|n=>n,fun|3=>1|4=>2|n=>n⟩
def Tryz.lays160:Go.Proofs.Lays.n160 Tryz.prog Tryz.lays160_ren:={
 mixed:=by kernel_rfl
 f119:=Tryz.func239.trans (congrArg some (by kernel_rfl))
 f120:=Tryz.func228.trans (congrArg some (by kernel_rfl))
 f137:=Tryz.func238.trans (congrArg some (by kernel_rfl))
 f151:=Tryz.func215.trans (congrArg some (by kernel_rfl))
 f152:=Tryz.func227.trans (congrArg some (by kernel_rfl))
 f160:=Tryz.func155.trans (congrArg some (by kernel_rfl))
 f197:=Tryz.func147.trans (congrArg some (by kernel_rfl))
 f217:=Tryz.func175.trans (congrArg some (by kernel_rfl))
 f224:=Tryz.func177.trans (congrArg some (by kernel_rfl))
 f225:=Tryz.func176.trans (congrArg some (by kernel_rfl))
 f227:=Tryz.func183.trans (congrArg some (by kernel_rfl))
 f228:=Tryz.func214.trans (congrArg some (by kernel_rfl))
 f231:=Tryz.func181.trans (congrArg some (by kernel_rfl))
 f232:=Tryz.func182.trans (congrArg some (by kernel_rfl))
 f233:=Tryz.func184.trans (congrArg some (by kernel_rfl))
 f234:=Tryz.func185.trans (congrArg some (by kernel_rfl))
 f235:=Tryz.func186.trans (congrArg some (by kernel_rfl))
 f236:=Tryz.func187.trans (congrArg some (by kernel_rfl))
 f260:=Tryz.func174.trans (congrArg some (by kernel_rfl))
 f266:=Tryz.func210.trans (congrArg some (by kernel_rfl))
 f271:=Tryz.func216.trans (congrArg some (by kernel_rfl))
 t0:=Tryz.underlying0
 a0:=Tryz.isAgg0
 z0:=Tryz.sizeOf0
 v0:=Tryz.zeroValue0
 t3:=Tryz.underlying3
 a3:=Tryz.isAgg3
 z3:=Tryz.sizeOf3
 v3:=Tryz.zeroValue3
 t4:=Tryz.underlying4
 a4:=Tryz.isAgg4
 z4:=Tryz.sizeOf4
 v4:=Tryz.zeroValue4
 t5:=Tryz.underlying5
 a5:=Tryz.isAgg5
 z5:=Tryz.sizeOf5
 v5:=Tryz.zeroValue5
 t9:=Tryz.underlying9
 a9:=Tryz.isAgg9
 z9:=Tryz.sizeOf9
 v9:=Tryz.zeroValue9
 t21:=Tryz.underlying21
 a21:=Tryz.isAgg21
 z21:=Tryz.sizeOf21
 v21:=Tryz.zeroValue21
 t46:=Tryz.underlying89
 a46:=Tryz.isAgg89
 z46:=Tryz.sizeOf89
 v46:=Tryz.zeroValue89
 t105:=Tryz.underlying181
 a105:=Tryz.isAgg181
 z105:=Tryz.sizeOf181
 v105:=Tryz.zeroValue181
 t116:=Tryz.underlying204
 a116:=Tryz.isAgg204
 z116:=Tryz.sizeOf204
 t117:=Tryz.underlying205
 a117:=Tryz.isAgg205
 z117:=Tryz.sizeOf205
 v117:=Tryz.zeroValue205
 t119:=Tryz.underlying222
 a119:=Tryz.isAgg222
 z119:=Tryz.sizeOf222
 t124:=Tryz.underlying208
 a124:=Tryz.isAgg208
 z124:=Tryz.sizeOf208
 v124:=Tryz.zeroValue208
 t138:=Tryz.underlying224
 a138:=Tryz.isAgg224
 z138:=Tryz.sizeOf224
 v138:=Tryz.zeroValue224
 t139:=Tryz.underlying225
 a139:=Tryz.isAgg225
 z139:=Tryz.sizeOf225
 v139:=Tryz.zeroValue225
 g3:=by kernel_rfl
 g4:=by kernel_rfl}
open Go.RowKit in
theorem Tryz.strings_Trim_one (s:ByteArray)(c:UInt8)(hc:c.toNat<128)(w:World)(hs:s.size≤9223372036854775807):
  Calls Tryz.prog 155 #[.string s,.string ⟨#[c]⟩] w fun e w'=>e=.returned (.string ⟨(Lib.trimB s.data.toList c).toArray⟩)∧(w'=w∨w'=w.drew):=Any.strings_Trim_one Tryz.lays160 s c hc w hs
def Tryz.lays103_ren:Go.Shelf.Ren:=⟨fun|103=>128|210=>162|206=>196|n=>n,fun|9=>9|4=>4|24=>166|3=>3|n=>n,fun|n=>n⟩
def Tryz.lays103:Go.Proofs.Lays.n103 Tryz.prog Tryz.lays103_ren:={
 mixed:=by kernel_rfl
 f103:=Tryz.func128.trans (congrArg some (by kernel_rfl))
 f206:=Tryz.func196.trans (congrArg some (by kernel_rfl))
 f210:=Tryz.func162.trans (congrArg some (by kernel_rfl))
 t3:=Tryz.underlying3
 a3:=Tryz.isAgg3
 z3:=Tryz.sizeOf3
 v3:=Tryz.zeroValue3
 t4:=Tryz.underlying4
 a4:=Tryz.isAgg4
 z4:=Tryz.sizeOf4
 v4:=Tryz.zeroValue4
 t9:=Tryz.underlying9
 a9:=Tryz.isAgg9
 z9:=Tryz.sizeOf9
 v9:=Tryz.zeroValue9
 t24:=Tryz.underlying166
 a24:=Tryz.isAgg166
 z24:=Tryz.sizeOf166
 v24:=Tryz.zeroValue166}
open Go.RowKit in
theorem Tryz.strings_CutPrefix (s p:ByteArray)(w:World):
  Calls Tryz.prog 128 #[.string s,.string p] w fun e w'=>e=.returned (.tuple #[.string ⟨(Lib.trimPrefix s.data.toList p.data.toList).toArray⟩,.bool (Lib.hasPrefix s.data.toList p.data.toList)])∧w'=w:=Any.strings_CutPrefix Tryz.lays103 s p w
def Tryz.laysM171_ren:Go.Shelf.Ren:=⟨fun|171=>165|243=>198|246=>218|283=>229|284=>230|285=>231|286=>232|129=>241|317=>240|318=>242|319=>243|320=>244|337=>246|338=>247|n=>n,fun|3=>3|9=>9|2=>2|4=>4|171=>235|0=>0|53=>49|37=>53|5=>5|173=>238|212=>244|51=>226|20=>20|213=>245|46=>89|232=>248|233=>249|n=>n,fun|17=>3|18=>4|19=>5|n=>n⟩
def Tryz.laysM171:Go.Proofs.LaysM.n171 Tryz.prog Tryz.laysM171_ren:={
 mixed:=by kernel_rfl
 f129:=Tryz.func241.trans (congrArg some (by kernel_rfl))
 f171:=Tryz.func165.trans (congrArg some (by kernel_rfl))
 f243:=Tryz.func198.trans (congrArg some (by kernel_rfl))
 f246:=Tryz.func218.trans (congrArg some (by kernel_rfl))
 f283:=Tryz.func229.trans (congrArg some (by kernel_rfl))
 f284:=Tryz.func230.trans (congrArg some (by kernel_rfl))
 f285:=Tryz.func231.trans (congrArg some (by kernel_rfl))
 f286:=Tryz.func232.trans (congrArg some (by kernel_rfl))
 f317:=Tryz.func240.trans (congrArg some (by kernel_rfl))
 f318:=Tryz.func242.trans (congrArg some (by kernel_rfl))
 f319:=Tryz.func243.trans (congrArg some (by kernel_rfl))
 f320:=Tryz.func244.trans (congrArg some (by kernel_rfl))
 f337:=Tryz.func246.trans (congrArg some (by kernel_rfl))
 f338:=Tryz.func247.trans (congrArg some (by kernel_rfl))
 t0:=Tryz.underlying0
 a0:=Tryz.isAgg0
 z0:=Tryz.sizeOf0
 v0:=Tryz.zeroValue0
 t2:=Tryz.underlying2
 a2:=Tryz.isAgg2
 z2:=Tryz.sizeOf2
 v2:=Tryz.zeroValue2
 t3:=Tryz.underlying3
 a3:=Tryz.isAgg3
 z3:=Tryz.sizeOf3
 v3:=Tryz.zeroValue3
 t4:=Tryz.underlying4
 a4:=Tryz.isAgg4
 z4:=Tryz.sizeOf4
 v4:=Tryz.zeroValue4
 t5:=Tryz.underlying5
 a5:=Tryz.isAgg5
 z5:=Tryz.sizeOf5
 v5:=Tryz.zeroValue5
 t9:=Tryz.underlying9
 a9:=Tryz.isAgg9
 z9:=Tryz.sizeOf9
 v9:=Tryz.zeroValue9
 t20:=Tryz.underlying20
 a20:=Tryz.isAgg20
 z20:=Tryz.sizeOf20
 v20:=Tryz.zeroValue20
 t37:=Tryz.underlying53
 a37:=Tryz.isAgg53
 z37:=Tryz.sizeOf53
 v37:=Tryz.zeroValue53
 t46:=Tryz.underlying89
 a46:=Tryz.isAgg89
 z46:=Tryz.sizeOf89
 v46:=Tryz.zeroValue89
 t51:=Tryz.underlying226
 a51:=Tryz.isAgg226
 z51:=Tryz.sizeOf226
 v51:=Tryz.zeroValue226
 t53:=Tryz.underlying49
 a53:=Tryz.isAgg49
 z53:=Tryz.sizeOf49
 v53:=Tryz.zeroValue49
 t171:=Tryz.underlying235
 a171:=Tryz.isAgg235
 z171:=Tryz.sizeOf235
 v171:=Tryz.zeroValue235
 t173:=Tryz.underlying238
 a173:=Tryz.isAgg238
 z173:=Tryz.sizeOf238
 v173:=Tryz.zeroValue238
 t212:=Tryz.underlying244
 a212:=Tryz.isAgg244
 z212:=Tryz.sizeOf244
 v212:=Tryz.zeroValue244
 t213:=Tryz.underlying245
 a213:=Tryz.isAgg245
 z213:=Tryz.sizeOf245
 t232:=Tryz.underlying248
 a232:=Tryz.isAgg248
 z232:=Tryz.sizeOf248
 v232:=Tryz.zeroValue248
 t233:=Tryz.underlying249
 a233:=Tryz.isAgg249
 z233:=Tryz.sizeOf249
 v233:=Tryz.zeroValue249
 g17:=by kernel_rfl
 g18:=by kernel_rfl
 g19:=by kernel_rfl
 i0:=by kernel_rfl
 i2:=by kernel_rfl
 i3:=by kernel_rfl
 i4:=by kernel_rfl
 i5:=by kernel_rfl
 i9:=by kernel_rfl
 i20:=by kernel_rfl
 i37:=by kernel_rfl
 i46:=by kernel_rfl
 i51:=by kernel_rfl
 i53:=by kernel_rfl
 i171:=by kernel_rfl
 i173:=by kernel_rfl
 i212:=by kernel_rfl
 i232:=by kernel_rfl
 i233:=by kernel_rfl
 m17:=by kernel_rfl
 m18:=by kernel_rfl
 m19:=by kernel_rfl}
open Go.RowKit Go.Sort Go.Lib in
theorem Tryz.strconv_Itoa (n:Int)(h0:-9223372036854775808≤n)(h1:n≤9223372036854775807)(w:World)(htab:Lib.TabIs Tryz.prog w "internal/strconv.uint64pow10" .u64 Lib.pow10Tab):
  Calls Tryz.prog 165 #[.int .i64 n] w fun e w'=>e=.returned (.string ⟨(Lib.itoa n).toArray⟩)∧∃k os,w'=grow (w.drewN k) os:=Any.strconv_Itoa Tryz.laysM171 n h0 h1 w htab
def Tryz.lays145_ren:Go.Shelf.Ren:=⟨fun|145=>129|220=>163|219=>149|217=>175|225=>176|224=>177|267=>178|266=>210|314=>211|n=>n,fun|9=>9|4=>4|59=>168|3=>3|5=>5|46=>89|146=>227|51=>226|n=>n,fun|1=>0|n=>n⟩
def Tryz.lays145:Go.Proofs.Lays.n145 Tryz.prog Tryz.lays145_ren:={
 mixed:=by kernel_rfl
 f145:=Tryz.func129.trans (congrArg some (by kernel_rfl))
 f217:=Tryz.func175.trans (congrArg some (by kernel_rfl))
 f219:=Tryz.func149.trans (congrArg some (by kernel_rfl))
 f220:=Tryz.func163.trans (congrArg some (by kernel_rfl))
 f224:=Tryz.func177.trans (congrArg some (by kernel_rfl))
 f225:=Tryz.func176.trans (congrArg some (by kernel_rfl))
 f266:=Tryz.func210.trans (congrArg some (by kernel_rfl))
 f267:=Tryz.func178.trans (congrArg some (by kernel_rfl))
 f314:=Tryz.func211.trans (congrArg some (by kernel_rfl))
 t3:=Tryz.underlying3
 a3:=Tryz.isAgg3
 z3:=Tryz.sizeOf3
 v3:=Tryz.zeroValue3
 t4:=Tryz.underlying4
 a4:=Tryz.isAgg4
 z4:=Tryz.sizeOf4
 v4:=Tryz.zeroValue4
 t5:=Tryz.underlying5
 a5:=Tryz.isAgg5
 z5:=Tryz.sizeOf5
 v5:=Tryz.zeroValue5
 t9:=Tryz.underlying9
 a9:=Tryz.isAgg9
 z9:=Tryz.sizeOf9
 v9:=Tryz.zeroValue9
 t46:=Tryz.underlying89
 a46:=Tryz.isAgg89
 z46:=Tryz.sizeOf89
 v46:=Tryz.zeroValue89
 t51:=Tryz.underlying226
 a51:=Tryz.isAgg226
 z51:=Tryz.sizeOf226
 v51:=Tryz.zeroValue226
 t59:=Tryz.underlying168
 a59:=Tryz.isAgg168
 z59:=Tryz.sizeOf168
 v59:=Tryz.zeroValue168
 t146:=Tryz.underlying227
 a146:=Tryz.isAgg227
 z146:=Tryz.sizeOf227
 v146:=Tryz.zeroValue227
 g1:=by kernel_rfl}
open Go.RowKit Go.Lib in
theorem Tryz.strings_Cut (s sep:ByteArray)(m:Int)(w:World)(hs:s.size<4294967281)(hm:w.cell? ⟨0,0,none⟩=some (.int .i64 m)):
  Calls Tryz.prog 129 #[.string s,.string sep] w fun e w'=>e=.returned (.tuple #[.string ⟨(Lib.cut s.data.toList sep.data.toList).1.toArray⟩,.string ⟨(Lib.cut s.data.toList sep.data.toList).2.1.toArray⟩,.bool (Lib.cut s.data.toList sep.data.toList).2.2])∧∃n,w'=w.drewN n:=Any.strings_Cut Tryz.lays145 s sep m w hs hm
def Tryz.laysM219_ren:Go.Shelf.Ren:=⟨fun|219=>149|217=>175|225=>176|224=>177|267=>178|266=>210|314=>211|n=>n,fun|9=>9|3=>3|4=>4|5=>5|46=>89|146=>227|51=>226|n=>n,fun|1=>0|n=>n⟩
def Tryz.laysM219:Go.Proofs.LaysM.n219 Tryz.prog Tryz.laysM219_ren:={
 mixed:=by kernel_rfl
 f217:=Tryz.func175.trans (congrArg some (by kernel_rfl))
 f219:=Tryz.func149.trans (congrArg some (by kernel_rfl))
 f224:=Tryz.func177.trans (congrArg some (by kernel_rfl))
 f225:=Tryz.func176.trans (congrArg some (by kernel_rfl))
 f266:=Tryz.func210.trans (congrArg some (by kernel_rfl))
 f267:=Tryz.func178.trans (congrArg some (by kernel_rfl))
 f314:=Tryz.func211.trans (congrArg some (by kernel_rfl))
 t3:=Tryz.underlying3
 a3:=Tryz.isAgg3
 z3:=Tryz.sizeOf3
 v3:=Tryz.zeroValue3
 t4:=Tryz.underlying4
 a4:=Tryz.isAgg4
 z4:=Tryz.sizeOf4
 v4:=Tryz.zeroValue4
 t5:=Tryz.underlying5
 a5:=Tryz.isAgg5
 z5:=Tryz.sizeOf5
 v5:=Tryz.zeroValue5
 t9:=Tryz.underlying9
 a9:=Tryz.isAgg9
 z9:=Tryz.sizeOf9
 v9:=Tryz.zeroValue9
 t46:=Tryz.underlying89
 a46:=Tryz.isAgg89
 z46:=Tryz.sizeOf89
 v46:=Tryz.zeroValue89
 t51:=Tryz.underlying226
 a51:=Tryz.isAgg226
 z51:=Tryz.sizeOf226
 v51:=Tryz.zeroValue226
 t146:=Tryz.underlying227
 a146:=Tryz.isAgg227
 z146:=Tryz.sizeOf227
 v146:=Tryz.zeroValue227
 g1:=by kernel_rfl
 i3:=by kernel_rfl
 i4:=by kernel_rfl
 i5:=by kernel_rfl
 i9:=by kernel_rfl
 i46:=by kernel_rfl
 i51:=by kernel_rfl
 i146:=by kernel_rfl
 m1:=by kernel_rfl
 s1_3:=fun w h=>Go.Proofs.cell_of_shapedOpen_int (zero:=#[.int .i64 0]) (t:=3) h (of_decide_eq_true (by kernel_rfl)) (by kernel_rfl) rfl (by kernel_rfl) (by kernel_rfl) Tryz.underlying3}
def Tryz.lays221_ren:Go.Shelf.Ren:=⟨fun|221=>60|268=>109|138=>110|143=>111|195=>146|197=>147|218=>148|219=>149|260=>174|217=>175|225=>176|224=>177|267=>178|266=>210|314=>211|n=>n,fun|9=>9|3=>3|31=>55|4=>4|0=>0|105=>181|21=>21|5=>5|46=>89|119=>222|139=>225|138=>224|146=>227|51=>226|n=>n,fun|1=>0|3=>1|4=>2|n=>n⟩
def Tryz.lays221:Go.Proofs.Lays.n221 Tryz.prog Tryz.lays221_ren:={
 mixed:=by kernel_rfl
 f138:=Tryz.func110.trans (congrArg some (by kernel_rfl))
 f143:=Tryz.func111.trans (congrArg some (by kernel_rfl))
 f195:=Tryz.func146.trans (congrArg some (by kernel_rfl))
 f197:=Tryz.func147.trans (congrArg some (by kernel_rfl))
 f217:=Tryz.func175.trans (congrArg some (by kernel_rfl))
 f218:=Tryz.func148.trans (congrArg some (by kernel_rfl))
 f219:=Tryz.func149.trans (congrArg some (by kernel_rfl))
 f221:=Tryz.func60.trans (congrArg some (by kernel_rfl))
 f224:=Tryz.func177.trans (congrArg some (by kernel_rfl))
 f225:=Tryz.func176.trans (congrArg some (by kernel_rfl))
 f260:=Tryz.func174.trans (congrArg some (by kernel_rfl))
 f266:=Tryz.func210.trans (congrArg some (by kernel_rfl))
 f267:=Tryz.func178.trans (congrArg some (by kernel_rfl))
 f268:=Tryz.func109.trans (congrArg some (by kernel_rfl))
 f314:=Tryz.func211.trans (congrArg some (by kernel_rfl))
 t0:=Tryz.underlying0
 a0:=Tryz.isAgg0
 z0:=Tryz.sizeOf0
 v0:=Tryz.zeroValue0
 t3:=Tryz.underlying3
 a3:=Tryz.isAgg3
 z3:=Tryz.sizeOf3
 v3:=Tryz.zeroValue3
 t4:=Tryz.underlying4
 a4:=Tryz.isAgg4
 z4:=Tryz.sizeOf4
 v4:=Tryz.zeroValue4
 t5:=Tryz.underlying5
 a5:=Tryz.isAgg5
 z5:=Tryz.sizeOf5
 v5:=Tryz.zeroValue5
 t9:=Tryz.underlying9
 a9:=Tryz.isAgg9
 z9:=Tryz.sizeOf9
 v9:=Tryz.zeroValue9
 t21:=Tryz.underlying21
 a21:=Tryz.isAgg21
 z21:=Tryz.sizeOf21
 v21:=Tryz.zeroValue21
 t31:=Tryz.underlying55
 a31:=Tryz.isAgg55
 z31:=Tryz.sizeOf55
 v31:=Tryz.zeroValue55
 t46:=Tryz.underlying89
 a46:=Tryz.isAgg89
 z46:=Tryz.sizeOf89
 v46:=Tryz.zeroValue89
 t51:=Tryz.underlying226
 a51:=Tryz.isAgg226
 z51:=Tryz.sizeOf226
 v51:=Tryz.zeroValue226
 t105:=Tryz.underlying181
 a105:=Tryz.isAgg181
 z105:=Tryz.sizeOf181
 v105:=Tryz.zeroValue181
 t119:=Tryz.underlying222
 a119:=Tryz.isAgg222
 z119:=Tryz.sizeOf222
 t138:=Tryz.underlying224
 a138:=Tryz.isAgg224
 z138:=Tryz.sizeOf224
 v138:=Tryz.zeroValue224
 t139:=Tryz.underlying225
 a139:=Tryz.isAgg225
 z139:=Tryz.sizeOf225
 v139:=Tryz.zeroValue225
 t146:=Tryz.underlying227
 a146:=Tryz.isAgg227
 z146:=Tryz.sizeOf227
 v146:=Tryz.zeroValue227
 g1:=by kernel_rfl
 g3:=by kernel_rfl
 g4:=by kernel_rfl}
open Go.RowKit Go.Lib in
theorem Tryz.strings_genSplit (s sep:ByteArray)(sv:Nat)(n:Int)(N:Nat)(m:Int)(w:World)(hs:s.size<4294967281)(hm:w.cell? ⟨0,0,none⟩=some (.int .i64 m))(h1:1≤sep.size)(hsv:sv≤sep.size)(hn0:n≠0)(hn63:n≤9223372036854775807)(hN:(N:Int)=min (if n<0 then(Lib.countB s sep:Int)+1 else n) ((s.size:Int)+1)):
  Calls Tryz.prog 60 #[.string s,.string sep,.int .i64 sv,.int .i64 n] w fun e w'=>
   e=.returned (.slice (some ⟨w.heap.size,0,none⟩) (Lib.splitB sep sv (N-1) s).length N)∧w'=w.alloc (.cells (Lib.cellsOf (Lib.splitB sep sv (N-1) s) N) 9):=Any.strings_genSplit Tryz.lays221 (by kernel_rfl) s sep sv n N m w hs hm h1 hsv hn0 hn63 hN
def Tryz.lays146_ren:Go.Shelf.Ren:=⟨fun|146=>28|221=>60|268=>109|138=>110|143=>111|195=>146|197=>147|218=>148|219=>149|260=>174|217=>175|225=>176|224=>177|267=>178|266=>210|314=>211|n=>n,fun|9=>9|31=>55|3=>3|4=>4|0=>0|105=>181|21=>21|5=>5|46=>89|119=>222|139=>225|138=>224|146=>227|51=>226|n=>n,fun|1=>0|3=>1|4=>2|n=>n⟩
def Tryz.lays146:Go.Proofs.Lays.n146 Tryz.prog Tryz.lays146_ren:={
 mixed:=by kernel_rfl
 f138:=Tryz.func110.trans (congrArg some (by kernel_rfl))
 f143:=Tryz.func111.trans (congrArg some (by kernel_rfl))
 f146:=Tryz.func28.trans (congrArg some (by kernel_rfl))
 f195:=Tryz.func146.trans (congrArg some (by kernel_rfl))
 f197:=Tryz.func147.trans (congrArg some (by kernel_rfl))
 f217:=Tryz.func175.trans (congrArg some (by kernel_rfl))
 f218:=Tryz.func148.trans (congrArg some (by kernel_rfl))
 f219:=Tryz.func149.trans (congrArg some (by kernel_rfl))
 f221:=Tryz.func60.trans (congrArg some (by kernel_rfl))
 f224:=Tryz.func177.trans (congrArg some (by kernel_rfl))
 f225:=Tryz.func176.trans (congrArg some (by kernel_rfl))
 f260:=Tryz.func174.trans (congrArg some (by kernel_rfl))
 f266:=Tryz.func210.trans (congrArg some (by kernel_rfl))
 f267:=Tryz.func178.trans (congrArg some (by kernel_rfl))
 f268:=Tryz.func109.trans (congrArg some (by kernel_rfl))
 f314:=Tryz.func211.trans (congrArg some (by kernel_rfl))
 t0:=Tryz.underlying0
 a0:=Tryz.isAgg0
 z0:=Tryz.sizeOf0
 v0:=Tryz.zeroValue0
 t3:=Tryz.underlying3
 a3:=Tryz.isAgg3
 z3:=Tryz.sizeOf3
 v3:=Tryz.zeroValue3
 t4:=Tryz.underlying4
 a4:=Tryz.isAgg4
 z4:=Tryz.sizeOf4
 v4:=Tryz.zeroValue4
 t5:=Tryz.underlying5
 a5:=Tryz.isAgg5
 z5:=Tryz.sizeOf5
 v5:=Tryz.zeroValue5
 t9:=Tryz.underlying9
 a9:=Tryz.isAgg9
 z9:=Tryz.sizeOf9
 v9:=Tryz.zeroValue9
 t21:=Tryz.underlying21
 a21:=Tryz.isAgg21
 z21:=Tryz.sizeOf21
 v21:=Tryz.zeroValue21
 t31:=Tryz.underlying55
 a31:=Tryz.isAgg55
 z31:=Tryz.sizeOf55
 v31:=Tryz.zeroValue55
 t46:=Tryz.underlying89
 a46:=Tryz.isAgg89
 z46:=Tryz.sizeOf89
 v46:=Tryz.zeroValue89
 t51:=Tryz.underlying226
 a51:=Tryz.isAgg226
 z51:=Tryz.sizeOf226
 v51:=Tryz.zeroValue226
 t105:=Tryz.underlying181
 a105:=Tryz.isAgg181
 z105:=Tryz.sizeOf181
 v105:=Tryz.zeroValue181
 t119:=Tryz.underlying222
 a119:=Tryz.isAgg222
 z119:=Tryz.sizeOf222
 t138:=Tryz.underlying224
 a138:=Tryz.isAgg224
 z138:=Tryz.sizeOf224
 v138:=Tryz.zeroValue224
 t139:=Tryz.underlying225
 a139:=Tryz.isAgg225
 z139:=Tryz.sizeOf225
 v139:=Tryz.zeroValue225
 t146:=Tryz.underlying227
 a146:=Tryz.isAgg227
 z146:=Tryz.sizeOf227
 v146:=Tryz.zeroValue227
 g1:=by kernel_rfl
 g3:=by kernel_rfl
 g4:=by kernel_rfl}
open Go.RowKit Go.Lib in
theorem Tryz.strings_Split (s sep:ByteArray)(m:Int)(w:World)(hs:s.size<4294967281)(hm:w.cell? ⟨0,0,none⟩=some (.int .i64 m))(h1:1≤sep.size):
  Calls Tryz.prog 28 #[.string s,.string sep] w fun e w'=>
   e=.returned (.slice (some ⟨w.heap.size,0,none⟩) (Lib.countB s sep+1) (Lib.countB s sep+1))∧w'=w.alloc (.cells ((Lib.splitB sep 0 (Lib.countB s sep) s).map Value.string).toArray 9):=Any.strings_Split Tryz.lays146 (by kernel_rfl) s sep m w hs hm h1
def Tryz.lays147_ren:Go.Shelf.Ren:=⟨fun|147=>112|221=>60|268=>109|138=>110|143=>111|195=>146|197=>147|218=>148|219=>149|260=>174|217=>175|225=>176|224=>177|267=>178|266=>210|314=>211|n=>n,fun|9=>9|3=>3|31=>55|4=>4|0=>0|105=>181|21=>21|5=>5|46=>89|119=>222|139=>225|138=>224|146=>227|51=>226|n=>n,fun|1=>0|3=>1|4=>2|n=>n⟩
def Tryz.lays147:Go.Proofs.Lays.n147 Tryz.prog Tryz.lays147_ren:={
 mixed:=by kernel_rfl
 f138:=Tryz.func110.trans (congrArg some (by kernel_rfl))
 f143:=Tryz.func111.trans (congrArg some (by kernel_rfl))
 f147:=Tryz.func112.trans (congrArg some (by kernel_rfl))
 f195:=Tryz.func146.trans (congrArg some (by kernel_rfl))
 f197:=Tryz.func147.trans (congrArg some (by kernel_rfl))
 f217:=Tryz.func175.trans (congrArg some (by kernel_rfl))
 f218:=Tryz.func148.trans (congrArg some (by kernel_rfl))
 f219:=Tryz.func149.trans (congrArg some (by kernel_rfl))
 f221:=Tryz.func60.trans (congrArg some (by kernel_rfl))
 f224:=Tryz.func177.trans (congrArg some (by kernel_rfl))
 f225:=Tryz.func176.trans (congrArg some (by kernel_rfl))
 f260:=Tryz.func174.trans (congrArg some (by kernel_rfl))
 f266:=Tryz.func210.trans (congrArg some (by kernel_rfl))
 f267:=Tryz.func178.trans (congrArg some (by kernel_rfl))
 f268:=Tryz.func109.trans (congrArg some (by kernel_rfl))
 f314:=Tryz.func211.trans (congrArg some (by kernel_rfl))
 t0:=Tryz.underlying0
 a0:=Tryz.isAgg0
 z0:=Tryz.sizeOf0
 v0:=Tryz.zeroValue0
 t3:=Tryz.underlying3
 a3:=Tryz.isAgg3
 z3:=Tryz.sizeOf3
 v3:=Tryz.zeroValue3
 t4:=Tryz.underlying4
 a4:=Tryz.isAgg4
 z4:=Tryz.sizeOf4
 v4:=Tryz.zeroValue4
 t5:=Tryz.underlying5
 a5:=Tryz.isAgg5
 z5:=Tryz.sizeOf5
 v5:=Tryz.zeroValue5
 t9:=Tryz.underlying9
 a9:=Tryz.isAgg9
 z9:=Tryz.sizeOf9
 v9:=Tryz.zeroValue9
 t21:=Tryz.underlying21
 a21:=Tryz.isAgg21
 z21:=Tryz.sizeOf21
 v21:=Tryz.zeroValue21
 t31:=Tryz.underlying55
 a31:=Tryz.isAgg55
 z31:=Tryz.sizeOf55
 v31:=Tryz.zeroValue55
 t46:=Tryz.underlying89
 a46:=Tryz.isAgg89
 z46:=Tryz.sizeOf89
 v46:=Tryz.zeroValue89
 t51:=Tryz.underlying226
 a51:=Tryz.isAgg226
 z51:=Tryz.sizeOf226
 v51:=Tryz.zeroValue226
 t105:=Tryz.underlying181
 a105:=Tryz.isAgg181
 z105:=Tryz.sizeOf181
 v105:=Tryz.zeroValue181
 t119:=Tryz.underlying222
 a119:=Tryz.isAgg222
 z119:=Tryz.sizeOf222
 t138:=Tryz.underlying224
 a138:=Tryz.isAgg224
 z138:=Tryz.sizeOf224
 v138:=Tryz.zeroValue224
 t139:=Tryz.underlying225
 a139:=Tryz.isAgg225
 z139:=Tryz.sizeOf225
 v139:=Tryz.zeroValue225
 t146:=Tryz.underlying227
 a146:=Tryz.isAgg227
 z146:=Tryz.sizeOf227
 v146:=Tryz.zeroValue227
 g1:=by kernel_rfl
 g3:=by kernel_rfl
 g4:=by kernel_rfl}
open Go.RowKit Go.Lib in
theorem Tryz.strings_SplitN (s sep:ByteArray)(n:Nat)(m:Int)(w:World)(hs:s.size<4294967281)(hm:w.cell? ⟨0,0,none⟩=some (.int .i64 m))(h1:1≤sep.size)(hn:1≤n)(hn63:n≤9223372036854775807):
  Calls Tryz.prog 112 #[.string s,.string sep,.int .i64 n] w fun e w'=>
   e=.returned (.slice (some ⟨w.heap.size,0,none⟩) (Lib.splitB sep 0 (min n (s.size+1) -1) s).length (min n (s.size+1)))∧w'=w.alloc (.cells (Lib.cellsOf (Lib.splitB sep 0 (min n (s.size+1) -1) s) (min n (s.size+1))) 9):=Any.strings_SplitN Tryz.lays147 (by kernel_rfl) s sep n m w hs hm h1 hn hn63
def Tryz.laysNm216_ren:Go.Shelf.Ren:=⟨fun|16=>65|n=>n,fun|24=>55|9=>9|4=>4|n=>n,fun|n=>n⟩
def Tryz.laysNm216:Go.Proofs.Lays2.n16 Tryz.prog Tryz.laysNm216_ren:={
 mixed:=by kernel_rfl
 f16:=Tryz.func65.trans (congrArg some (by kernel_rfl))
 t4:=Tryz.underlying4
 a4:=Tryz.isAgg4
 z4:=Tryz.sizeOf4
 v4:=Tryz.zeroValue4
 t9:=Tryz.underlying9
 a9:=Tryz.isAgg9
 z9:=Tryz.sizeOf9
 v9:=Tryz.zeroValue9
 t24:=Tryz.underlying55
 a24:=Tryz.isAgg55
 z24:=Tryz.sizeOf55
 v24:=Tryz.zeroValue55
 i9:=by kernel_rfl}
open Go.RowKit Go.Lib in
theorem Tryz.slices_Clone_string (b off n c:Nat)(zs:List ByteArray)(w:World)(hz:n≤zs.length)(hbig:n*16≤140737488355328)(hc:∀j,j<zs.length→w.cell? ⟨b,off+j,none⟩=some (.string (zs.getD j ByteArray.empty))):
  Calls Tryz.prog 65 #[.slice (some ⟨b,off,none⟩) n c] w fun e w'=>∃v',e=.returned v'∧w'.ownsRow w.heap.size 9 1 v' n ((zs.take n).map (Value.string))∧v'≠.slice none 0 0∧Below w.heap.size w w':=Any.slices_Clone_string Tryz.laysNm216 b off n c zs w hz hbig hc
open Go.RowKit Go.Lib in
theorem Tryz.slices_Clone_string_nil (n c:Nat)(w:World):
  Calls Tryz.prog 65 #[.slice none n c] w fun e w'=>e=.returned (.slice none 0 0)∧w'=w:=Any.slices_Clone_string_nil Tryz.laysNm216 n c w
open Go.RowKit Go.Lib in
theorem Tryz.slices_Clone_string_zero (a:Addr)(c:Nat)(w:World):
  Calls Tryz.prog 65 #[.slice (some a) 0 c] w fun e w'=>∃v',e=.returned v'∧w'.ownsRow w.heap.size 9 1 v' 0 []∧v'≠.slice none 0 0∧Below w.heap.size w w':=Any.slices_Clone_string_zero Tryz.laysNm216 a c w
end Go.Proofs
end
namespace Go.Abs
def pre1 (b c:UInt8)(r:ah):([b]:ah).isPrefixOf (c::r)=(b==c):=by simp[List.isPrefixOf]
def HE:Option Nat→Int
 |some k=>(k:Int)
 |none=>-1
def sA:∀(s:ah)(b:UInt8),Lib.index s [b]=HE (s.findIdx? (fun c=>c==b))
 |[],b=>rfl
 |c::r,b=>by
  unfold Lib.index;rw[pre1,List.findIdx?_cons,sA r b];by_cases h:c=b
  ·subst h;simp[HE]
  ·have h1:(b==c)=false:=by simp[Ne.symm h]
   have h2:(c==b)=false:=by simp[h]
   simp only[h1,h2,Bool.false_eq_true,if_false];cases r.findIdx? (fun c=>c==b)with
   |none=>rfl
   |some k=>
    simp only[Option.map_some];rw[if_neg (by simp[HE])];simp[HE]
def IB (s:ah)(b:UInt8):Lib.cut s [b]=dR s b:=by
 unfold Lib.cut dR;rw[sA];cases s.findIdx? (fun c=>c==b)with
 |none=>simp[HE]
 |some k=>simp[HE]
def Bk (s p:ah):(Lib.trimPrefix s p,Lib.hasPrefix s p)=cR s p:=by
 unfold Lib.trimPrefix Lib.hasPrefix cR;split<;>rename_i h
 ·rw[h]
 ·simp only[Bool.not_eq_true]at h;rw[h]
def xE (b:ah):∀l,aO b l=Lib.join l b
 |[]=>rfl
 |[t]=>(Lib.join_one t b).symm
 |t::u::r=>by
  rw[eu _ _ _ (by simp),xE b (u::r),Lib.join_cons,Lib.join_cons];simp[Lib.joinTail]
def decDigits_eq (n:Nat):Lib.decDigits n=cC n:=by
 induction n using Nat.strongRecOn with
 |_ n ih=>
  rw[Lib.decDigits];by_cases h:n<10
  ·rw[dif_pos h,mP h];rfl
  ·rw[dif_neg h,mO (by omega),ih (n/10) (by omega)];rfl
def Gn {n:Int}(h:0≤n):Lib.itoa n=cC n.toNat:=by
 unfold Lib.itoa;rw[if_neg (by omega),decDigits_eq]
def qe (b:UInt8):∀(s cur:ah),s.findIdx? (fun c=>c==b)=none→a8 b.toNat s cur=[cur++s]
 |[],cur,_=>by simp[a8]
 |c::r,cur,h=>by
  rw[List.findIdx?_cons]at h;split at h
  ·cases h
  ·rename_i hc;have hr:r.findIdx? (fun c=>c==b)=none:=by
    cases hq:r.findIdx? (fun c=>c==b)with
    |none=>rfl
    |some k=>rw[hq]at h;cases h
   have hne:¬((c.toNat:Int)=(b.toNat:Int)):=fun e=>hc (by
    have:c.toNat=b.toNat:=by omega
    simp[UInt8.toNat_inj.1 this])
   simp only[a8,if_neg hne];rw[qe b r (cur++[c]) hr];simp
def n8 (b:UInt8):∀(s cur:ah)(k:Nat),s.findIdx? (fun c=>c==b)=some k→a8 b.toNat s cur=(cur++s.take k)::a8 b.toNat (s.drop (k+1)) []
 |[],cur,k,h=>by simp at h
 |c::r,cur,k,h=>by
  rw[List.findIdx?_cons]at h;split at h
  ·rename_i hc;have hk:k=0:=by simpa using h.symm
   subst hk;have hcb:c=b:=by simpa using hc
   subst hcb;simp[a8]
  ·rename_i hc;have hne:¬((c.toNat:Int)=(b.toNat:Int)):=fun e=>hc (by
    have:c.toNat=b.toNat:=by omega
    simp[UInt8.toNat_inj.1 this])
   cases hq:r.findIdx? (fun c=>c==b)with
   |none=>rw[hq]at h;cases h
   |some j=>
    rw[hq]at h;have hk:k=j+1:=by simpa using h.symm
    subst hk;simp only[a8,if_neg hne];rw[n8 b r (cur++[c]) j hq];simp
def uV (b:UInt8):∀(k:Nat)(s:ByteArray),Lib.countB s ⟨⟨[b]⟩⟩=k→(Lib.splitB ⟨⟨[b]⟩⟩ 0 k s).map (fun t=>t.data.toList)=ai s.data.toList b.toNat:=by
 intro k;induction k with
 |zero=>
  intro s h;rw[Lib.splitB_zero];have hi:Lib.indexB s ⟨⟨[b]⟩⟩=HE (s.data.toList.findIdx? (fun c=>c==b)):=sA _ b;cases hq:s.data.toList.findIdx? (fun c=>c==b)with
  |none=>simp[ai,qe b _ [] hq]
  |some j=>
   rw[hq]at hi;have:=Lib.countB_hit s ⟨⟨[b]⟩⟩ j (Nat.le_refl 1) hi;omega
 |succ k ih=>
  intro s h;have hi:Lib.indexB s ⟨⟨[b]⟩⟩=HE (s.data.toList.findIdx? (fun c=>c==b)):=sA _ b;cases hq:s.data.toList.findIdx? (fun c=>c==b)with
  |none=>
   rw[hq]at hi;have:=Lib.countB_miss s ⟨⟨[b]⟩⟩ hi;omega
  |some j=>
   rw[hq]at hi;have h1:1≤(⟨⟨[b]⟩⟩:ByteArray).size:=Nat.le_refl 1;have hc:=Lib.countB_hit s ⟨⟨[b]⟩⟩ j h1 hi;rw[Lib.splitB_hit _ _ _ _ j hi];simp only[List.map_cons];rw[ih _ (by omega)];have e1:(s.extract 0 (j+0)).data.toList=s.data.toList.take j:=by
    rw[Lib.extract_data];simp
   have e2:(s.extract (j+(⟨⟨[b]⟩⟩:ByteArray).size) s.size).data.toList=s.data.toList.drop (j+1):=by
    rw[Lib.extract_data];exact List.take_of_length_le (by rw[List.length_drop,Lib.size_eq];exact Nat.le_refl _)
   rw[e1,e2];simp only[ai];rw[n8 b _ [] j hq];simp
end Go.Abs
section
namespace Go.Abs
open Go.Proofs
def yq (sep:ah)(k:Nat)(s:ah)(h:Lib.index s sep=-1):Lib.splitK sep 0 k s=[s]:=by
 cases k with
 |zero=>rfl
 |succ k=>unfold Lib.splitK;rw[if_pos (beq_iff_eq.2 h)]
def zW (sep:ah)(k:Nat)(s:ah)(i:Nat)(h:Lib.index s sep=i):Lib.splitK sep 0 (k+1) s=s.take i::Lib.splitK sep 0 k (s.drop (i+sep.length)):=by
 have hm:¬(Lib.index s sep==-1)=true:=fun e=>by have:=beq_iff_eq.1 e;omega
 have e:(Lib.index s sep).toNat=i:=by omega
 rw[Lib.splitK,if_neg hm,e];rfl
def iV (b:UInt8):∀(s cur:ah),aO [b] (a8 b.toNat s cur)=cur++s
 |[],cur=>by simp[a8,aO]
 |c::r,cur=>by
  unfold a8;split
  ·rename_i h;have hc:c=b:=by
    have:c.toNat=b.toNat:=by omega
    exact UInt8.toNat_inj.1 this
   have hne:a8 b.toNat r []≠[]:=m7 r b.toNat;rw[eu _ _ _ hne,iV b r [],hc];simp
  ·rw[iV b r (cur++[c])];simp
def Bj (a:ah){l:List ah}(k:Nat)(hl:l≠[]):nM (k+2) (a::l)=a::nM (k+1) l:=by
 unfold nM;by_cases h:l.length≤k+1
 ·rw[if_pos h,if_pos (by simp only[List.length_cons];omega)]
 ·rw[if_neg h,if_neg (by simp only[List.length_cons];omega)];simp
def Cr:∀(k:Nat)(s:ah),Lib.splitK [32] 0 k s=nM (k+1) (ai s 32):=by
 intro k;induction k with
 |zero=>
  intro s;have hj:aO [32] (ai s 32)=s:=by
   have:=iV 32 s [];simpa[ai]using this
  unfold nM;split
  ·rename_i h;show [s]=_;have hne:ai s 32≠[]:=m7 _ _
   match hq:ai s 32,hne,h with
   |[t],_,_=>rw[hq]at hj;rw[←hj];rfl
   |_::_::_,_,h=>simp at h
  ·simp only[Nat.zero_add,Nat.sub_self,List.take_zero,List.drop_zero,List.nil_append,hj];rfl
 |succ k ih=>
  intro s;have hi:=sA s 32;cases hq:s.findIdx? (fun c=>c==32)with
  |none=>
   rw[hq]at hi;have hs:ai s 32=[s]:=by have:=qe 32 s [] hq;simpa[ai]using this
   rw[yq _ _ _ hi,hs];rfl
  |some j=>
   rw[hq]at hi;have hs:ai s 32=s.take j::ai (s.drop (j+1)) 32:=by have:=n8 32 s [] j hq;simpa[ai]using this
   rw[zW _ _ _ j hi,hs,Bj _ _ (m7 _ _),ih];rfl
def Ab (n:Nat)(h:1≤n)(s:ah):Lib.splitK [32] 0 (min n (s.length+1) -1) s=fY (n:Int) s:=by
 have hl:=cL s 32;rw[Cr];unfold fY;rw[if_neg (by omega),Int.toNat_natCast];by_cases hn:n≤s.length+1
 ·rw[show min n (s.length+1) -1+1=n by omega]
 ·rw[show min n (s.length+1) -1+1=s.length+1 by omega];unfold nM;rw[if_pos hl,if_pos (by omega)]
def LR (c d:UInt8)(r:ah):([124,124]:ah).isPrefixOf (c::d::r)=(decide (c=124)&&decide (d=124)):=by
 have e:∀x:UInt8,((124:UInt8)==x)=decide (x=124):=fun x=>by
  by_cases h:x=124
  ·subst h;rfl
  ·rw[decide_eq_false h];exact beq_eq_false_iff_ne.2 (Ne.symm h)
 simp only[List.isPrefixOf,Bool.and_true,e]
def uX:∀(s cur:ah),Lib.index s [124,124]=-1→aJ s cur=[cur++s]
 |[],cur,_=>by simp[aJ]
 |[c],cur,_=>rfl
 |c::d::r,cur,h=>by
  unfold Lib.index at h;rw[LR]at h;by_cases h2:c=124∧d=124
  ·simp[h2.1,h2.2]at h
  ·have h3:(decide (c=124)&&decide (d=124))=false:=by rw[←Bool.decide_and];exact decide_eq_false h2
   rw[h3,if_neg (by simp)]at h;have h4:Lib.index (d::r) [124,124]=-1:=by
    have:=Lib.index_ge (d::r) [124,124];split at h
    ·rename_i h5;exact beq_iff_eq.1 h5
    ·omega
   rw[aJ,if_neg h2,uX (d::r) _ h4];simp
def uW:∀(s cur:ah)(i:Nat),Lib.index s [124,124]=i→aJ s cur=(cur++s.take i)::aJ (s.drop (i+2)) []
 |[],cur,i,h=>by simp[Lib.index]at h
 |[c],cur,i,h=>by simp[Lib.index,List.isPrefixOf]at h
 |c::d::r,cur,i,h=>by
  unfold Lib.index at h;rw[LR]at h;by_cases h2:c=124∧d=124
  ·rw[h2.1,h2.2]at h;have hi:i=0:=by simp at h;omega
   subst hi;rw[aJ,if_pos h2];simp
  ·have h3:(decide (c=124)&&decide (d=124))=false:=by rw[←Bool.decide_and];exact decide_eq_false h2
   rw[h3,if_neg (by simp)]at h;split at h
   ·omega
   ·obtain⟨j,rfl⟩:∃j,i=j+1:=⟨i-1,by
     have:=Lib.index_ge (d::r) [124,124];rename_i h5;have:Lib.index (d::r) [124,124]≠-1:=fun e=>h5 (beq_iff_eq.2 e)
     omega⟩
    rw[aJ,if_neg h2,uW (d::r) _ j (by omega)];simp
def Cq:∀(k:Nat)(s:ByteArray),Lib.countB s ⟨⟨[124,124]⟩⟩=k→(Lib.splitB ⟨⟨[124,124]⟩⟩ 0 k s).map (fun t=>t.data.toList)=aJ s.data.toList []:=by
 intro k;induction k with
 |zero=>
  intro s h;rcases Lib.indexB_cases s ⟨⟨[124,124]⟩⟩with hi|⟨i,hi,_⟩
  ·rw[Lib.splitB_zero];rw[uX _ _ (show Lib.index s.data.toList [124,124]=-1 from hi)];rfl
  ·have:=Lib.countB_hit s ⟨⟨[124,124]⟩⟩ i (by decide) hi;omega
 |succ k ih=>
  intro s h;rcases Lib.indexB_cases s ⟨⟨[124,124]⟩⟩with hi|⟨i,hi,_⟩
  ·rw[Lib.countB_miss _ _ hi]at h;omega
  ·have hc:=Lib.countB_hit s ⟨⟨[124,124]⟩⟩ i (by decide) hi;rw[Lib.splitB_hit _ _ _ _ i hi,List.map_cons,ih _ (by omega),uW _ _ i (show Lib.index s.data.toList [124,124]=i from hi),Lib.extract_from_zero,Lib.extract_to_end];rfl
def vg {p:UInt8→Bool}:∀(l:ah),∀x∈l.takeWhile p,p x=true
 |[],x,h=>by cases h
 |a::r,x,h=>by
  rw[List.takeWhile_cons]at h;split at h
  ·rename_i ha;rcases List.mem_cons.1 h with rfl|h
   ·exact ha
   ·exact vg r x h
  ·cases h
def pG {p:UInt8→Bool}:∀(l:ah),(∀x∈l,p x=true)→l.dropWhile p=[]
 |[],_=>rfl
 |a::r,h=>by
  rw[List.dropWhile_cons,if_pos (h a (.head _))];exact pG r fun x hx=>h x (.tail _ hx)
def rY:∀s,ox s=s.dropWhile (· ==32)
 |[]=>rfl
 |c::r=>by
  unfold ox;by_cases h:c=32
  ·rw[if_pos h,rY r];simp[h]
  ·rw[if_neg h,List.dropWhile_cons,if_neg (by simpa using h)]
def C7 (s:ah):Lib.trimB s 32=ea s:=by
 unfold Lib.trimB Lib.trimLeftB Lib.trimRightB ea;rw[rY,rY];generalize hp:(fun c:UInt8=>c==32)=p;have hs:s=s.takeWhile p++s.dropWhile p:=(List.takeWhile_append_dropWhile).symm;generalize ha:s.takeWhile p=a at hs;generalize hm:s.dropWhile p=m at hs;have hall:∀x∈a,p x=true:=by rw[←ha];exact vg s
 subst hs;rw[List.reverse_append,List.dropWhile_append];cases m with
 |nil=>
  simp only[List.reverse_nil,List.dropWhile_nil,List.isEmpty_nil,if_true];rw[pG a.reverse (fun x hx=>hall x (List.mem_reverse.1 hx))];rfl
 |cons c r=>
  have hc:p c=false:=by
   have:=List.head_dropWhile_not p (l:=a++c::r) (by rw[hm];simp);simpa[hm]using this
  have hne:((c::r).reverse.dropWhile p)≠[]:=by
   rw[List.reverse_cons,List.dropWhile_append];split
   ·simp[hc]
   ·simp
  rw[if_neg (by simpa using hne),List.reverse_append,List.reverse_reverse,List.dropWhile_append,pG _ hall];simp only[List.isEmpty_nil,if_true];rw[List.reverse_cons,List.dropWhile_append];split
  ·simp[hc]
  ·simp[hc]
end Go.Abs
namespace Go.Proofs
open Go.Shelf Go.RowKit Go.Lib
set_option maxHeartbeats 1000000 in
/--strings.SplitN into all -/
theorem zY {P:Program}{ρ:Ren}(L:Lays.n147 P ρ)(hi9:(P.info? (ρ.t 9)).map (fun i=>(i.zero,i.size,i.bytes))=some (some (.string ByteArray.empty),1,16))(s sep:ByteArray)(m:Int)(w:World)
  (hs:s.size<4294967281) (hm:w.cell? ⟨(ρ.g 1),0,none⟩=some (.int .i64 m)) (h1:1≤sep.size):
  Calls P (ρ.f 147) #[.string s,.string sep,.int .i64 (-1)] w fun e w'=>
   e=.returned (.slice (some ⟨w.heap.size,0,none⟩) (Lib.splitB sep 0 (Lib.countB s sep) s).length (Lib.countB s sep+1))∧w'=w.alloc (.cells (Lib.cellsOf (Lib.splitB sep 0 (Lib.countB s sep) s) (Lib.countB s sep+1)) (ρ.t 9)):=by
 have hle:=Lib.countB_le sep h1 s.size s (Nat.le_refl _);have c:=Any.strings_genSplit {L with} hi9 s sep 0 (-1) (Lib.countB s sep+1) m w hs hm h1 (Nat.zero_le _) (by decide) (by decide) (by rw[if_pos (by decide)];omega);rw[Nat.add_sub_cancel]at c;have t3:=L.t3;have t9:=L.t9;have t31:=L.t31;have a3:=L.a3;have a9:=L.a9;have a31:=L.a31;have z3:=L.z3;have v3:=L.v3;have z9:=L.z9;have v9:=L.v9;have z31:=L.z31;have v31:=L.v31;have e221:∀args w,(callFunc (ρ.f 221) args).run P w=.ok (.enter (ρ.f 221) args) w:=enters_of L.f221 (by kernel_rfl) rfl
 go_enter L.f147,Body.n147_ntmps ρ
 go_wp2_with (go_at_fn (ρ.f 221);refine c.mono ?_;rintro e w' ⟨rfl,hw⟩;rw[hw])
 go_ret
 exact⟨rfl,rfl⟩
end Go.Proofs
end
section
namespace Go.Abs
open Go.Proofs Go.Shelf Go.RowKit
section
variable [bQ] {P:Program}
def iI (U:TypeId)(w:World)(v:Value)(s:List UInt8):Prop:=
 (v=.slice none 0 0∧s=[])∨∃g t c,v=.slice (some ⟨g,0,none⟩) s.length t∧w.heap[g]? =some (.cells c U (0,0))∧c.size=t∧t≤maxLen∧s.length≤t∧∀i,i<s.length→c.getD i undef=.int .u8 (s.getD i 0).toNat
def c7 (s:List UInt8):List Value:=s.map fun b=>Value.int .u8 b.toNat
def eo (s:List UInt8):(c7 s).length=s.length:=by simp[c7]
def nH (s:List UInt8)(i:Nat)(h:i<s.length):(c7 s).getD i undef=.int .u8 (s.getD i 0).toNat:=by simp[c7,List.getD,h]
def r5 (s:List UInt8):∀u∈c7 s,u.oneCell'=true:=by
 intro u hu;obtain⟨b,_,rfl⟩:=List.mem_map.1 hu;rfl
def AE {x y:List UInt8}{zs:Array Value}(i:Nat)(hi:i<(x++y).length):(((c7 x++c7 y).toArray++zs).getD i undef)=.int .u8 ((x++y).getD i 0).toNat:=by
 rw[←aY];simp only[Array.toList_append];rw[bF,if_pos (by simpa[c7]using hi)];have:c7 x++c7 y=c7 (x++y):=by simp[c7]
 rw[this,nH _ _ hi]
def FF {U t u ty:TypeId}{i:TypeInfo}{w:World}(ht:P.underlying t=some (.slice U))(hi:P.info? U=some i)(hz:i.zero=some (.int .u8 0))(hs:i.size=1)(hby:i.bytes=1){v xv:Value}{s s2:List UInt8}
  (hv:iI U w v s) (h0:s2≠[]) (hsrc:Go.Src P 1 u xv s2.length (c7 s2) w) (hle:s.length+s2.length≤1099511627776):
  ∃g' t' w',(Builtin.append_ #[t,u] ty #[v,xv]).run P w=.ok (.slice (some ⟨g',0,none⟩) (s++s2).length t') w'∧iI U w' (.slice (some ⟨g',0,none⟩) (s++s2).length t') (s++s2)∧w.grownBy w' v.ownBlock∧(v.ownBlock=some g'∨w.heap.size≤g')∧g'<w'.heap.size:=by
 have hp:0<s2.length:=List.length_pos_iff.2 h0;have hm:maxLen=9223372036854775807:=rfl;rw[←hs]at hsrc;rcases hv with⟨rfl,rfl⟩|⟨g,cap,c,rfl,hg,hcs,hcm,hle2,hc⟩
 ·have hr:=run_append_grow_src (P:=P) w t u ty U i _ ht hi hz none 0 0 [] (by simp[Builtin.firstCells,loadCells,loadCellsFrom]) xv s2.length (c7 s2) hsrc (by omega) (by simp only[List.length_nil]at hle;omega) (by rw[hby];exact growslice_fits (by omega) (by simp only[List.length_nil]at hle;omega));have hge:=grownCap_ge w (0+s2.length) 0 U;have hcm2:grownCap w (0+s2.length) 0 U≤maxLen:=grownCap_le_maxLen w (0+s2.length) 0 U (by simp only[List.length_nil]at hle;omega);simp only[Nat.zero_add,List.nil_append]at hr hge hcm2;refine⟨w.heap.size,_,_,hr,.inr ⟨w.heap.size,_,_,rfl,cz w.drew _, ?_,hcm2,hge,fun j hj=>?_⟩,⟨rfl,rfl,rfl, ?_,fun k hk _=>gZ w.drew _ k hk⟩,.inr (Nat.le_refl _), ?_⟩
  ·have hz1:(Value.int IntKind.u8 0).cells.size=1:=rfl;simp only[List.nil_append,Array.size_append,List.size_toArray,eo,size_zeroCells,hz1];omega
  ·exact AE (x:=[]) j hj
  ·show w.heap.size≤(w.drew.heap.push _).size;rw[Array.size_push];exact Nat.le_succ _
  ·show w.heap.size<(w.drew.heap.push _).size;rw[Array.size_push];exact Nat.lt_succ_self _
 ·by_cases hroom:s.length+s2.length≤cap
  ·have hr:=run_append_room_src (P:=P) w t u ty U i ht hi g 0 s.length cap xv s2.length (c7 s2) hsrc hroom (fun j hj=>by
    rw[hs,cell_of_heap hg (by rw[eo]at hj;omega)];rfl) (fun j hj=>by simp[World.frozen?,hg])
   obtain⟨c',s1,s3,s4⟩:=hH g (c7 s2) (0+s.length*i.size) w c U (0,0) hg (by rw[eo,hs];omega);obtain⟨f1,f2,f3,f4⟩:=fW g (c7 s2) (0+s.length*i.size) w;have hlt:g<w.heap.size:=by
    rcases Nat.lt_or_ge g w.heap.size with h|h
    ·exact h
    ·simp[Array.getElem?_eq_none h]at hg
   refine⟨g,cap,_,by simpa using hr,.inr ⟨g,cap,c',by simp,s1,by omega,hcm,by rw[List.length_append];exact hroom,fun j hj=>?_⟩,⟨f1,f2,f3,by omega,fun k _ hk=>fX g _ _ _ k (fun e=>hk (by simp[Value.ownBlock,e]))⟩,.inl rfl,by omega⟩;rw[s4,eo,hs];rw[List.length_append]at hj;by_cases hj2:j<s.length
   ·rw[if_neg (by omega),hc j hj2,bF,if_pos hj2]
   ·rw[if_pos (by omega),nH _ _ (by omega),bF,if_neg hj2];congr 4;omega
  ·have hold:(Builtin.firstCells i.size s.length (.slice (some ⟨g,0,none⟩) s.length cap)).run P w.drew=.ok (c7 s).toArray w.drew:=by
    refine run_firstCells_some w.drew i.size s.length _ s.length cap _ (by simp[eo,hs]) (fun j u' hj=>?_);have hj2:j<s.length:=by
     have:=(List.getElem?_eq_some_iff.1 hj).1;rwa [eo]at this
    have hg':w.drew.heap[g]? =some (.cells c U (0,0)):=hg;rw[Addr.qR,cell_of_heap hg' (by omega),Nat.zero_add,hc j hj2,←nH s j hj2];simp[List.getD,hj]
   have hr:=run_append_grow_src (P:=P) w t u ty U i _ ht hi hz (some ⟨g,0,none⟩) s.length cap (c7 s) hold xv s2.length (c7 s2) hsrc (by omega) (by omega) (by rw[hby];exact growslice_fits (by omega) (by omega));have hge:=grownCap_ge w (s.length+s2.length) cap U;have hcm2:grownCap w (s.length+s2.length) cap U≤maxLen:=grownCap_le_maxLen w (s.length+s2.length) cap U (by omega);refine⟨w.heap.size,_,_,by simpa using hr,.inr ⟨w.heap.size,_,_,by simp,cz w.drew _, ?_,hcm2,by simpa using hge,fun j hj=>?_⟩,⟨rfl,rfl,rfl, ?_,fun k hk _=>gZ w.drew _ k hk⟩,.inr (Nat.le_refl _), ?_⟩
   ·have hz1:(Value.int IntKind.u8 0).cells.size=1:=rfl;simp only[Array.size_append,List.size_toArray,List.length_append,eo,size_zeroCells,hz1];omega
   ·exact AE j hj
   ·show w.heap.size≤(w.drew.heap.push _).size;rw[Array.size_push];exact Nat.le_succ _
   ·show w.heap.size<(w.drew.heap.push _).size;rw[Array.size_push];exact Nat.lt_succ_self _
def tD {ops:Array Oper}{rest:List Oper}{o:Oper}{a:Act}{Q:Exit→Act→World→Prop}(hgd:o.guard=none)(sl x:Operand)(t u:TypeId)
  (ho:o.op=.call {callee:=.builtin .append,args:=#[sl,x],argTypes:=#[t,u]}) {U:TypeId} {i:TypeInfo} {w:World}
  (ht:P.underlying t=some (.slice U)) (hi:P.info? U=some i) (hz:i.zero=some (.int .u8 0)) (hsz:i.size=1) (hby:i.bytes=1) {v xv:Value} {s s2:List UInt8} (hs:a.eval sl=v) (hx:a.eval x=xv)
  (hv:iI U w v s) (h0:s2≠[]) (hsrc:Go.Src P 1 u xv s2.length (c7 s2) w) (hle:s.length+s2.length≤1099511627776)
  (h:∀g' t' w',iI U w' (.slice (some ⟨g',0,none⟩) (s++s2).length t') (s++s2)→w.grownBy w' v.ownBlock→(v.ownBlock=some g'∨w.heap.size≤g')→g'<w'.heap.size→wpList P ops Q rest (a.put o.dst (.slice (some ⟨g',0,none⟩) (s++s2).length t')) w'):wpList P ops Q (o::rest) a w:=by
 refine wpList_plain hgd fun K hK=>?_
 obtain⟨g',t',w',hr,h2,h3,h4,h5⟩:=FF (P:=P) (ty:=o.type) ht hi hz hsz hby hv h0 hsrc hle;unfold Oper.wp execOp;simp only[ho,resolve,invoke,builtin,Sem.run_bind,Sem.run_pure,Result.andThen_ok,List.map_toArray,List.map_cons,List.map_nil,hs,hx,hr];exact hK _ _ (h g' t' w' h2 h3 h4 h5)
def zh (w:World)(g n:Nat):(w.drew.freeze ⟨g,0,none⟩ n).os=w.os∧(w.drew.freeze ⟨g,0,none⟩ n).tape=w.tape∧(w.drew.freeze ⟨g,0,none⟩ n).output=w.output∧(w.drew.freeze ⟨g,0,none⟩ n).heap.size=w.heap.size∧∀k,k≠g→(w.drew.freeze ⟨g,0,none⟩ n).heap[k]? =w.heap[k]? :=by
 unfold World.freeze;split
 ·exact⟨rfl,rfl,rfl,rfl,fun _ _=>rfl⟩
 ·refine⟨rfl,rfl,rfl,by simp,fun k hk=>?_⟩;simp only[Array.getElem?_modify];rw[if_neg (fun e=>hk e.symm)];rfl
def nj (b:Nat)(u:Bool)(v:Value)(T:TypeId):Obj:=.cells #[.pointer (if u=true then some ⟨b,0,none⟩else none),v] T (0,0)
variable {ρ:Ren}
def ui (L:Lays.n240 P ρ)(X:Builder.X72 P ρ){b:Nat}{u:Bool}{v:Value}{w:World}(h:w.heap[b]? =some (nj b u v (ρ.t 72))):
  Calls P (ρ.f 240) #[.pointer (some ⟨b,0,none⟩)] w fun e w'=>e=.returned (.tuple #[])∧w'.heap[b]? =some (nj b true v (ρ.t 72))∧w.grownBy w' (some b):=by
 unfold nj at h;cases u with
 |true=>
  refine(Any.Builder_copyCheck_used L X b w (by rw[Lib.cell_of_heap h];rfl)).mono ?_;rintro e w' ⟨rfl,rfl⟩;exact⟨rfl,h,⟨rfl,rfl,rfl,Nat.le_refl _,fun _ _ _=>rfl⟩⟩
 |false=>
  refine(Any.Builder_copyCheck_fresh L X b w (by rw[Lib.cell_of_heap h];rfl) (by simp[World.shape?,h]) (Lib.frozen_of_heap h 0)).mono ?_;rintro e w' ⟨rfl,rfl⟩;exact⟨rfl,by simp[World.setCell,Array.getElem?_modify,h,nj],⟨rfl,rfl,rfl,by simp[World.setCell],fun k _ hk=>Below.heap_setCell _ _ _ _ (fun e=>hk (by simp[e]))⟩⟩
def wR (T U:TypeId)(b:Nat)(g:Option Nat)(s:List UInt8)(w w':World):Prop:=
 ∃g' t',w'.heap[b]? =some (nj b true (.slice (some ⟨g',0,none⟩) s.length t') T)∧iI U w' (.slice (some ⟨g',0,none⟩) s.length t') s∧(g=some g'∨w.heap.size≤g')∧g'<w'.heap.size∧g'≠b∧
  w'.os=w.os∧w'.tape=w.tape∧w'.output=w.output∧w.heap.size≤w'.heap.size∧∀k,k<w.heap.size→k≠b→some k≠g→w'.heap[k]? =w.heap[k]?
def iI.kR {U:TypeId}{w w':World}{v:Value}{s:List UInt8}(h:iI U w v s)(hk:∀g,v.ownBlock=some g→w'.heap[g]? =w.heap[g]?):iI U w' v s:=by
 rcases h with h|⟨g,t,c,rfl,hg,r⟩
 ·exact .inl h
 ·exact .inr ⟨g,t,c,rfl,(hk g rfl).trans hg,r⟩
def iI.lt {U:TypeId}{w:World}{v:Value}{s:List UInt8}(h:iI U w v s){g:Nat}(hg:v.ownBlock=some g):g<w.heap.size∧∃c,w.heap[g]? =some (.cells c U (0,0)):=by
 rcases h with⟨rfl,_⟩|⟨g',t,c,rfl,hg',r⟩
 ·cases hg
 ·simp only[Value.ownBlock,Option.some.injEq]at hg;subst hg;refine⟨?_,c,hg'⟩;rcases Nat.lt_or_ge g' w.heap.size with h|h
  ·exact h
  ·simp[Array.getElem?_eq_none h]at hg'
set_option maxHeartbeats 2000000 in
set_option maxRecDepth 100000 in
theorem qT (L:Lays.n166 P ρ)(X:Builder.Extra P ρ){b:Nat}{u:Bool}{v:Value}{s s2:List UInt8}{w:World}(h:w.heap[b]? =some (nj b u v (ρ.t 72)))(hv:iI (ρ.t 5) w v s)(h0:s2≠[])(hm2:s2.length≤maxLen)(hle:s.length+s2.length≤1099511627776):
  Calls P (ρ.f 166) #[.pointer (some ⟨b,0,none⟩),.string ⟨⟨s2⟩⟩] w fun e w'=>(∃r,e=.returned r)∧wR (ρ.t 72) (ρ.t 5) b v.ownBlock (s++s2) w w':=by
 obtain⟨i0,hi,hz0,hz1,hz2⟩:=info_parts X.infoByte;have mixed:=L.mixed;have t72:=L.t72;have a72:=L.a72;have z72:=L.z72;have v72:=L.v72;have u72:=run_underlying L.t72;have t70:=L.t70;have a70:=L.a70;have z70:=L.z70;have v70:=L.v70;have u70:=run_underlying L.t70;have t37:=L.t37;have a37:=L.a37;have z37:=L.z37;have v37:=L.v37;have u37:=run_underlying L.t37;have t3:=L.t3;have a3:=L.a3;have z3:=L.z3;have v3:=L.v3;have u3:=run_underlying L.t3;have t9:=L.t9;have a9:=L.a9;have z9:=L.z9;have v9:=L.v9;have u9:=run_underlying L.t9;have t4:=L.t4;have a4:=L.a4;have z4:=L.z4;have v4:=L.v4;have u4:=run_underlying L.t4;have t164:=L.t164;have a164:=L.a164;have z164:=L.z164;have v164:=L.v164;have u164:=run_underlying L.t164;have t5:=X.t5;have a5:=X.a5;have z5:=X.z5;have v5:=X.v5;have u5:=run_underlying X.t5;have e240:∀args w,(callFunc (ρ.f 240) args).run P w=.ok (.enter (ρ.f 240) args) w:=enters_of L.f240 (by kernel_rfl) rfl
 have hne:∀g,v.ownBlock=some g→g≠b:=by
  rintro g hg rfl;obtain⟨_,c,hc⟩:=hv.lt hg;rw[h]at hc;simp only[nj,Option.some.injEq,Obj.cells.injEq]at hc;exact X.neB5 hc.2.1
 go_enter L.f166,Body.n166_ntmps ρ
 go_wp2_with (go_at_fn (ρ.f 240);refine(ui {L with} X.toX72 h).mono ?_)
 rintro e w1 ⟨rfl,h1,hb1⟩;have hv1:iI (ρ.t 5) w1 v s:=hv.kR fun g hg=>hb1.block g (hv.lt hg).1 (fun e=>hne g hg (Option.some.inj e))
 have c0:w1.cell? ⟨b,0,none⟩=some (.pointer (some ⟨b,0,none⟩)):=by rw[Lib.cell_of_heap h1];rfl
 have c1:w1.cell? ⟨b,1,none⟩=some v:=by rw[Lib.cell_of_heap h1];rfl
 have hsrc:Go.Src P 1 (ρ.t 9) (.string ⟨⟨s2⟩⟩) s2.length (c7 s2) w1:=⟨.inr L.t9,fun _=>rfl,firstCells_string _ _,firstCells_string _ _,by rw[eo,Nat.mul_one],r5 s2⟩;have key:=fun ops rest o a Q hgd ho hs hx h=>tD (P:=P) (ops:=ops) (rest:=rest) (o:=o) (a:=a) (Q:=Q) hgd (.tmp 12) (.tmp 13) (ρ.t 37) (ρ.t 9) ho L.t37 hi hz0 hz1 hz2 (v:=v) (xv:=.string ⟨⟨s2⟩⟩) hs hx hv1 h0 hsrc hle h
 go_wp2_with (at_builtin;refine key _ _ _ _ _ rfl rfl rfl rfl ?_)
 clear key;intro g' t' w2 hown' hgrow hg' hlt';have hlt:b<w1.heap.size:=by
  rcases Nat.lt_or_ge b w1.heap.size with h'|h'
  ·exact h'
  ·simp[Array.getElem?_eq_none h']at h1
 have iK:w2.heap[b]? =some (nj b true v (ρ.t 72)):=by
  rw[hgrow.block b hlt (fun e=>hne b e.symm rfl)];exact h1
 have hgb:g'≠b:=by
  rcases hg' with h'|h'
  ·exact hne g' h'
  ·omega
 have d0:w2.cell? ⟨b,0,none⟩=some (.pointer (some ⟨b,0,none⟩)):=by rw[Lib.cell_of_heap iK];rfl
 have d1:w2.cell? ⟨b,1,none⟩=some v:=by rw[Lib.cell_of_heap iK];rfl
 have f1:w2.frozen? ⟨b,1,none⟩=false:=Lib.frozen_of_heap iK 1
 go_wp2
 go_ret2
 have hsz:=hb1.size;refine⟨⟨_,rfl⟩, ?_⟩;unfold wR;simp only[List.length_append]at hown'⊢;refine⟨g',t',by simp[World.setCell,Array.getElem?_modify,iK,nj],hown'.kR fun g hg=>Below.heap_setCell w2 ⟨b,1,none⟩ _ g (fun e=>hgb ((Option.some.inj hg).trans e)),hg'.imp id (fun h=>by omega),by simpa[World.setCell]using hlt',hgb,hgrow.os.trans hb1.os,hgrow.tape.trans hb1.tape,hgrow.output.trans hb1.output,by have:=hgrow.size;simp[World.setCell];omega,fun k hk h1' h2'=>?_⟩;rw[Below.heap_setCell w2 ⟨b,1,none⟩ _ k h1',hgrow.block k (by omega) h2',hb1.block k hk (fun e=>h1' (Option.some.inj e))]
set_option maxHeartbeats 2000000 in
set_option maxRecDepth 100000 in
theorem tI (L:Lays.n167 P ρ)(X:Builder.Extra P ρ){b:Nat}{u:Bool}{v:Value}{s:List UInt8}{c:UInt8}{w:World}(h:w.heap[b]? =some (nj b u v (ρ.t 72)))(hv:iI (ρ.t 5) w v s)(hle:s.length+1≤1099511627776):
  Calls P (ρ.f 167) #[.pointer (some ⟨b,0,none⟩),.int .u8 c.toNat] w fun e w'=>(∃r,e=.returned r)∧wR (ρ.t 72) (ρ.t 5) b v.ownBlock (s++[c]) w w':=by
 obtain⟨i0,hi,hz0,hz1,hz2⟩:=info_parts X.infoByte;have mixed:=L.mixed;have t72:=L.t72;have a72:=L.a72;have z72:=L.z72;have v72:=L.v72;have u72:=run_underlying L.t72;have t70:=L.t70;have a70:=L.a70;have z70:=L.z70;have v70:=L.v70;have u70:=run_underlying L.t70;have t37:=L.t37;have a37:=L.a37;have z37:=L.z37;have v37:=L.v37;have u37:=run_underlying L.t37;have t9:=L.t9;have a9:=L.a9;have z9:=L.z9;have v9:=L.v9;have u9:=run_underlying L.t9;have t4:=L.t4;have a4:=L.a4;have z4:=L.z4;have v4:=L.v4;have u4:=run_underlying L.t4;have t164:=L.t164;have a164:=L.a164;have z164:=L.z164;have v164:=L.v164;have u164:=run_underlying L.t164;have t5:=L.t5;have a5:=L.a5;have z5:=L.z5;have v5:=L.v5;have u5:=run_underlying L.t5;have e240:∀args w,(callFunc (ρ.f 240) args).run P w=.ok (.enter (ρ.f 240) args) w:=enters_of L.f240 (by kernel_rfl) rfl
 have hne:∀g,v.ownBlock=some g→g≠b:=by
  rintro g hg rfl;obtain⟨_,c,hc⟩:=hv.lt hg;rw[h]at hc;simp only[nj,Option.some.injEq,Obj.cells.injEq]at hc;exact X.neB5 hc.2.1
 go_enter L.f167,Body.n167_ntmps ρ
 go_wp2_with (go_at_fn (ρ.f 240);refine(ui {L with} X.toX72 h).mono ?_)
 rintro e w1 ⟨rfl,h1,hb1⟩;have hv1:iI (ρ.t 5) w1 v s:=hv.kR fun g hg=>hb1.block g (hv.lt hg).1 (fun e=>hne g hg (Option.some.inj e))
 have c0:w1.cell? ⟨b,0,none⟩=some (.pointer (some ⟨b,0,none⟩)):=by rw[Lib.cell_of_heap h1];rfl
 have c1:w1.cell? ⟨b,1,none⟩=some v:=by rw[Lib.cell_of_heap h1];rfl
 have key:=fun ob ops rest o a Q sl x hgd ho hs hx hv2 hsrc h=>tD (P:=P) (w:=w1.alloc ob) (ops:=ops) (rest:=rest) (o:=o) (a:=a) (Q:=Q) hgd sl x (ρ.t 37) (ρ.t 37) ho L.t37 hi hz0 hz1 hz2 (v:=v) (xv:=.slice (some ⟨w1.heap.size,0,none⟩) 1 1) (s:=s) (s2:=[c]) hs hx hv2 (List.cons_ne_nil _ _) hsrc hle h
 go_wp2_with (at_builtin;refine key _ _ _ _ _ _ _ _ rfl rfl rfl rfl (hv1.kR fun g hg=>Lib.alloc_old w1 _ g (hv1.lt hg).1) ?hs ?_)
 case hs=>
  refine Go.Src.ofSlice _ L.t37 ⟨w1.heap.size,0,none⟩ 1 1 _ rfl (fun j u hj=>?_) (r5 [c])
  match j,hj with
  |0,hj=>simp[c7]at hj;subst hj;simp[Addr.add]
 clear key;intro g' t' w2 hown' hgrow hg' hlt';have hlt:b<w1.heap.size:=by
  rcases Nat.lt_or_ge b w1.heap.size with h'|h'
  ·exact h'
  ·simp[Array.getElem?_eq_none h']at h1
 have iK:w2.heap[b]? =some (nj b true v (ρ.t 72)):=by
  rw[hgrow.block b (by simp;omega) (fun e=>hne b e.symm rfl),Lib.alloc_old w1 _ b hlt];exact h1
 have hgb:g'≠b:=by
  rcases hg' with h'|h'
  ·exact hne g' h'
  ·omega
 have d0:w2.cell? ⟨b,0,none⟩=some (.pointer (some ⟨b,0,none⟩)):=by rw[Lib.cell_of_heap iK];rfl
 have d1:w2.cell? ⟨b,1,none⟩=some v:=by rw[Lib.cell_of_heap iK];rfl
 have f1:w2.frozen? ⟨b,1,none⟩=false:=Lib.frozen_of_heap iK 1
 go_wp2
 go_ret
 have hsz:=hb1.size;refine⟨⟨_,rfl⟩, ?_⟩;unfold wR;simp only[List.length_append]at hown'⊢;refine⟨g',t',by simp[World.setCell,Array.getElem?_modify,iK,nj],hown'.kR fun g hg=>Below.heap_setCell w2 ⟨b,1,none⟩ _ g (fun e=>hgb ((Option.some.inj hg).trans e)),hg'.imp id (fun h=>by omega),by simpa[World.setCell]using hlt',hgb,hgrow.os.trans hb1.os,hgrow.tape.trans hb1.tape,hgrow.output.trans hb1.output,by have:=hgrow.size;simp at this;simp[World.setCell];omega,fun k hk h1' h2'=>?_⟩;rw[Below.heap_setCell w2 ⟨b,1,none⟩ _ k h1',hgrow.block k (by simp;omega) h2',Lib.alloc_old w1 _ k (by omega),hb1.block k hk (fun e=>h1' (Option.some.inj e))]
set_option maxHeartbeats 1000000 in
set_option maxRecDepth 100000 in
theorem y8 (L:Lays.n169 P ρ)(X:Builder.Extra P ρ){b g t:Nat}{u:Bool}{s:List UInt8}{w:World}(h:w.heap[b]? =some (nj b u (.slice (some ⟨g,0,none⟩) s.length t) (ρ.t 72)))(hv:iI (ρ.t 5) w (.slice (some ⟨g,0,none⟩) s.length t) s)(h0:s≠[]):
  Calls P (ρ.f 169) #[.pointer (some ⟨b,0,none⟩)] w fun e w'=>e=.returned (.string ⟨⟨s⟩⟩)∧w'.os=w.os∧w'.tape=w.tape∧w'.output=w.output∧w'.heap.size=w.heap.size∧∀k,k≠g→w'.heap[k]? =w.heap[k]? :=by
 have hl0:s.length≠0:=by simpa using h0
 obtain⟨c,hg,hcs,hcm,hle,hc⟩:∃c,w.heap[g]? =some (.cells c (ρ.t 5) (0,0))∧c.size=t∧t≤maxLen∧s.length≤t∧∀i,i<s.length→c.getD i undef=.int .u8 (s.getD i 0).toNat:=by
  rcases hv with⟨h1,_⟩|⟨g',t',c,h1,r⟩
  ·cases h1
  ·simp only[Value.slice.injEq,Option.some.injEq,Addr.mk.injEq]at h1;obtain⟨⟨rfl,_⟩,_,rfl⟩:=h1;exact⟨c,r⟩
 have c1:w.drew.cell? ⟨b,1,none⟩=some (.slice (some ⟨g,0,none⟩) s.length t):=by
  have:w.drew.heap[b]? =some (nj b u (.slice (some ⟨g,0,none⟩) s.length t) (ρ.t 72)):=h;rw[Lib.cell_of_heap this];rfl
 have hSD:(Builtin.unsafeSliceData_ #[(ρ.t 37)] (ρ.t 127) #[.slice (some ⟨g,0,none⟩) s.length t]).run P w.drew=.ok (.pointer (some ⟨g,0,none⟩)) w.drew:=
  Lib.run_unsafeSliceData_row _ _ _ _ _ _ (by omega)
 have hUS:(Builtin.unsafeString_ #[(ρ.t 127),(ρ.t 3)] (ρ.t 9) #[.pointer (some ⟨g,0,none⟩),.int .i64 s.length]).run P w.drew=.ok (.string ⟨s.toArray⟩) (w.drew.freeze ⟨g,0,none⟩ s.length):=by
  refine Lib.run_unsafeString_row w.drew (ρ.t 127) (ρ.t 3) (ρ.t 9) (ρ.t 5) L.t127 X.cellsByte g c.size (by have hg':w.drew.heap[g]? =some (.cells c (ρ.t 5) (0,0)):=hg;simp[World.shape?,hg']) s h0 (by omega) (by unfold maxLen at hcm;omega) ?_;intro j x hx;have hj:=(List.getElem?_eq_some_iff.1 hx).1;have hg':w.drew.heap[g]? =some (.cells c (ρ.t 5) (0,0)):=hg;rw[Addr.qR,cell_of_heap hg' (by omega),Nat.zero_add,hc j hj];simp[List.getD,hx]
 have mixed:=L.mixed;have t72:=L.t72;have a72:=L.a72;have z72:=L.z72;have v72:=L.v72;have u72:=run_underlying L.t72;have t70:=L.t70;have a70:=L.a70;have z70:=L.z70;have v70:=L.v70;have u70:=run_underlying L.t70;have t37:=L.t37;have a37:=L.a37;have z37:=L.z37;have v37:=L.v37;have u37:=run_underlying L.t37;have t127:=L.t127;have a127:=L.a127;have z127:=L.z127;have v127:=L.v127;have u127:=run_underlying L.t127;have t3:=L.t3;have a3:=L.a3;have z3:=L.z3;have v3:=L.v3;have u3:=run_underlying L.t3;have t9:=L.t9;have a9:=L.a9;have z9:=L.z9;have v9:=L.v9;have u9:=run_underlying L.t9;have t5:=X.t5;have a5:=X.a5;have z5:=X.z5;have v5:=X.v5;have u5:=run_underlying X.t5
 go_enter L.f169,Body.n169_ntmps ρ
 go_wp2
 go_region_o
 all_goals (go_wp2;go_ret;exact⟨rfl,zh _ _ _⟩)
end
end Go.Abs
end
