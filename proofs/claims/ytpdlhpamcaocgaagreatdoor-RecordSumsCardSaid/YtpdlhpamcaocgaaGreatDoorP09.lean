/- A part of the proofs of the statements: RGen2, G6, RGen3, RGen4, RGen5, RGen7, W2, W3, Y5, RSpec22, X6, Z1, G8, M0, M1, MB, SHELF, LLib, LLibR. -/
import Derived.Ground.Names2Prog
import Derived.KernelRfl
import Derived.Lib.CountLaws
import Derived.Lib.IndexMore
import Derived.Lib.ItoaNum
import Derived.Lib.Join
import Derived.Lib.Split
import Derived.Lib.SplitLaws
import Derived.Lib.Strings
import Derived.Lib.TrimByte
import Derived.Shelf.LaysM
import Derived.Shelf.Slices.Clone
import Derived.Shelf.Small.Strs
import Derived.Shelf.Small.Utf8
import Derived.Shelf.Small.Wraps
import Derived.Shelf.Strconv.Itoa0
import Derived.Shelf.Strconv.Itoa1
import Derived.Shelf.Strconv.Itoa2
import Derived.Shelf.Strconv.Itoa3
import Derived.Shelf.Strings.AsciiSet
import Derived.Shelf.Strings.Builder1
import Derived.Shelf.Strings.Builder2
import Derived.Shelf.Strings.Count
import Derived.Shelf.Strings.Cut
import Derived.Shelf.Strings.OnBuilder
import Derived.Shelf.Strings.Prefix
import Derived.Shelf.Strings.Runes
import Derived.Shelf.Strings.Search1
import Derived.Shelf.Strings.Search2
import Derived.Shelf.Strings.Search3
import Derived.Shelf.Strings.Shaped
import Derived.Shelf.Strings.Split
import Derived.Shelf.Strings.SplitShaped
import Derived.Shelf.Strings.Trim
import Derived.Shelf.Unicode.DecodeSlow
import Derived.Test.YtpdlhpamcaocgaaGreatDoorProg
import Derived.Test.YtpdlhpamcaocgaaGreatDoorP08
set_option linter.all false
set_option maxRecDepth 4000
namespace Go.Abs
def Ag:ah:=[114,99,46,49]
def lE (l:List Int)(i:Int):ah:=if cJ l (i+2) 9=1 then Ag else []
def nt (l:List Int)(i:Int):ah:=if cJ l (i+2) 9=2 then [55]else []
def zF (l:List Int)(i:Int):dq:=⟨cJ l i 3,cJ l (i+1) 2,0,lE l i,nt l i⟩
def gK (l:List Int)(i:Int):Nat:=(cJ l (i+3) 4%3).toNat
def Mo (l:List Int)(i:Int):(cJ l (i+3) 4).tmod 3=(gK l i:Int):=by
 have h:=bN l (i+3) 4 (by decide);rw[Int.tmod_eq_emod_of_nonneg h.1];unfold gK;omega
def H3 (l:List Int)(i:Int):gK l i≤2:=by unfold gK;omega
def yZ (l:List Int)(i own:Int)(n:Nat):List bg:=(List.range n).map fun(q:Nat)=>dR l (i+4+20*((gK l i-q:Nat):Int) -20) own
def D0 {l:List Int}{i own:Int}{k:Nat}(hk:k≤gK l i)(h0:0<k):yZ l i own (gK l i-(k-1))=yZ l i own (gK l i-k)++[dR l (i+4+20*(k:Int) -20) own]:=by
 rw[show gK l i-(k-1)=(gK l i-k)+1 by omega];unfold yZ;rw[List.range_succ,List.map_append,List.map_singleton,show gK l i-(gK l i-k)=k by omega]
def me (l:List Int)(i own:Int):List bg:=yZ l i own (gK l i)
def tS (l:List Int)(i own:Int):iy:=⟨cG (own+1+cJ l (i+46) 4),mc l (i+47),gz l (i+50)⟩
def nF (l:List Int)(i own:Int):List iy:=if cJ l (i+45) 5=1 then [tS l i own]else []
def ll (l:List Int)(i own:Int):Rec:=⟨cG own,zF l i,me l i own,nF l i own,[]⟩
def kj (l:List Int)(i own:Int):Rec:={ll l i own with feats:=fj l (i+52) (ll l i own)}
def B1 {l:List Int}{i own:Int}{k:Nat}{w:bz}(h:w∈oU l i own k):w.name.length≤3:=by
 obtain⟨q,_,rfl⟩:=List.mem_map.1 h;exact ja _
def pS (l:List Int)(i own:Int):(dR l i own).option.length≤3:=by
 show(if _ then _ else _:ah).length≤3;split
 ·exact pT _
 ·simp
def B7 (l:List Int)(i own:Int):∀j:Nat,j<(ll l i own).needs.length→(ll l i own).needs[j]!.option.length≤100∧((ll l i own).needs[j]!.any.length=1→(ll l i own).needs[j]!.any[0]!.name.length≤100):=by
 intro j hj;have hm:=bG hj;obtain⟨q,_,hq⟩:=List.mem_map.1 hm;rw[←hq];generalize i+4+20*((gK l i-q:Nat):Int) -20=x;refine⟨Nat.le_trans (pS _ _ _) (by decide),fun h=>?_⟩;have h2:=bG (l:=(dR l x own).any) (i:=0) (by omega);exact Nat.le_trans (B1 (k:=dm l x) h2) (by decide)
end Go.Abs
section
namespace Go.Abs
open Go
def xT:aB:=⟨3,10,[⟨3,some (9,true)⟩],[[.a,.a,.a,.a,.a,.a,.sl 3 [.sl 4 [.a,.a,.sl 1 [.a],.a],.a,.a],.sl 3 [.a,.a,.a],.sl 2 [.a,.sl 1 [.a]]]],(sq (r1 [gb 9 (.c (.agg [.str [],.int .i64 0,.int .i64 0,.int .i64 0,.str [],.str [],.au,.au,.au]))] 3 0) (sq (r1 [gm s2,gx 227 [l0] cn,gm s0,gm s1,gx 228 [l2,l3,j7] [[.sl 1 [.a]],[.a],[.a]],gm s0,gm s1,av l6 b9,gx 228 [l5,l7,kn] [[.sl 1 [.a]],[.a],[.a]],gn (.build [.int .i64 0,.int .i64 0,.int .i64 0,.str [],.str []] [(0,1,l4),(1,1,l8)]),gn (.build [.str [],.int .i64 0,.int .i64 0,.int .i64 0,.str [],.str [],.au,.au,.au] [(0,1,l1),(1,5,l9)]),gb 9 (.c (.agg [.str [],.int .i64 0,.int .i64 0,.int .i64 0,.str [],.str [],.au,.au,.au])),gt 9 jK l10] 5 11) (sq (sq (r1 [gm s0,gm s1,av l1 kn,gx 228 [l0,l2,A0] [[.sl 1 [.a]],[.a],[.a]],aE l3 b9] 4 4) (.cond s4 (rg [gf 1 s5,gf 3 l0,gt 1 l1 (cs [114,99,46,49])] []) .skip)) (sq (sq (r1 [gm s0,gm s1,av l1 kn,gx 228 [l0,l2,A0] [[.sl 1 [.a]],[.a],[.a]],aE l3 kn] 6 4) (.cond s6 (rg [gf 1 s5,gf 4 l0,gt 1 l1 (cs [55])] []) .skip)) (sq (sq (r1 [gm s0,gm s1,av l1 j7,gx 228 [l0,l2,tJ] [[.sl 1 [.a]],[.a],[.a]],gn (.bin .rem l3 j7),gm l4] 7 5) (.block 0 (.loop (sq (sq (r1 [gm s7,dz l0 bD] 8 1) (iN s8 0)) (sq (.block 1 (rt [gf 6 s5,gd l0,gm s0,gm s1,av l3 tJ,gm s7,gn (.bin .mul (i6 20) l5),av l4 l6,eQ l7 (i6 20),gm s2,gx 229 [l2,l8,l9] [[.sl 1 [.a]],[.a],[.a]],gn (.bsl 3 (.agg [.au,.str [],.str []]) 1 [(0,l10)]),gn (.app 3 l1 jK),gf 6 s5,gt 1 nu lu] [])) (r1 [gm s7,eQ l0 b9,gm l1] 7 2)))))) (sq (sq (r1 [gm s0,gm s1,av l1 (i6 45),gx 228 [l0,l2,AZ] [[.sl 1 [.a]],[.a],[.a]],aE l3 b9] 9 4) (.cond s9 (rt [gf 7 s5,gd l0,gm s2,av l2 b9,gm s0,gm s1,av l5 (i6 46),gx 228 [l4,l6,tJ] [[.sl 1 [.a]],[.a],[.a]],av l3 l7,gx 227 [l8] cn,gm s0,gm s1,av jK (i6 47),gx 230 [l10,lu] [[.sl 1 [.a]],[.a]],gm s0,gm s1,av oY (i6 50),gx 231 [n7,q9] [[.sl 1 [.a]],[.a]],gn (.build [.str [],.str [],.str []] [(0,1,l9),(1,1,nu),(2,1,wo)]),gn (.bsl 3 (.agg [.str [],.str [],.str []]) 1 [(0,wX)]),gn (.app 3 l1 y5),gf 7 s5,gt 1 Ch A3] []) .skip)) (sq (rg [gm s0,gm s1,av l1 (i6 52),gk 9 true s5,gx 232 [l0,l2,l3] [[.sl 1 [.a]],[.a],[.a,.a,.a,.a,.a,.a,.sl 3 [.sl 4 [.a,.a,.sl 1 [.a],.a],.a,.a],.sl 3 [.a,.a,.a],.sl 2 [.a,.sl 1 [.a]]]],gf 8 s5,gt 1 l5 l4] []) (sq (rg [gk 9 true s5,gt 9 s3 l0] []) .ret))))))))⟩
def w79 {Γ:Ctx}(hm:(Γ.at 0).bm)(h227:Iw Γ)(h228:BA Γ)(h229:KQ Γ)(h230:Ix Γ)(h231:Iy Γ)(h232:KR Γ)(l:List Int)(i:Int)(own:Int)  (hp0:0≤i∧i≤1000000)(hp1:0≤own∧own≤100000):dS Γ xT (Rec.D (kj l i own)) [.sl 1 (l.map (D.int .i64)),.int .i64 i,.int .i64 own]:=by
 show bx _ _ _ [⟨_,_⟩,⟨_,_⟩,⟨_,_⟩,_,_,_,_,_,_,_] _;refine ak ?_;refine aA ?_;refine aj (hc:=h227 own) ?_;refine ay ?_;refine aj (hc:=h228 l (i) 3 (by decide)) ?_;refine az ?_;refine aj (hc:=h228 l (i+1) 2 (by decide)) ?_;refine br (dq.D ⟨cJ l i 3,cJ l (i+1) 2,0,[],[]⟩) ?_;refine br (.agg [.str (cG own),.int .i64 (cJ l i 3),.int .i64 (cJ l (i+1) 2),.int .i64 0,.str [],.str [],.au,.au,.au]) ?_;refine ax ?_;refine aF (.agg [.str (cG own),.int .i64 (cJ l i 3),.int .i64 (cJ l (i+1) 2),.int .i64 0,.str [],.str [],.au,.au,.au]) (he:=by exact rfl) ?_;refine aT ?_;refine aj (hc:=h228 l (i+2) 9 (by decide)) ?_;refine ay ?_;refine ow hm (ι:=Unit) (fun _=>[⟨true,.sl 1 (l.map (D.int .i64))⟩,⟨true,.int .i64 i⟩,⟨true,.int .i64 own⟩,⟨true,.ptr 0 9 0 0⟩,.un,⟨true,.ptr 12 9 0 0⟩,.un,.un,.un,.un]) (fun _=>[(0,.buf 9 [cU]),(12,.buf 9 [(.agg [.str (cG own),.int .i64 (cJ l i 3),.int .i64 (cJ l (i+1) 2),.int .i64 0,.str (lE l i),.str [],.au,.au,.au])])]) 30 (fun _=>True) ?_ ?_
 ·refine fQ (fun hc0=>?_) fun hc0=>?_
  ·refine az ?_;refine aF (.agg [.str (cG own),.int .i64 (cJ l i 3),.int .i64 (cJ l (i+1) 2),.int .i64 0,.str Ag,.str [],.au,.au,.au]) (he:=by exact rfl) ?_;refine ay ?_;have hp:lE l i=Ag:=if_pos hc0;rw[hp];exact⟨(),trivial,(aL.to [(0,0),(12,12)] ae ae kV (by repeat(first|exact aC.nil|refine aC.cZ ae ae bT ?_|refine aC.lK ae ae ae ?_)))⟩
  refine ay ?_;have hp:lE l i=[]:=if_neg hc0;rw[hp];exact⟨(),trivial,(aL.to [(0,0),(12,12)] ae ae kV (by repeat(first|exact aC.nil|refine aC.cZ ae ae bT ?_|refine aC.lK ae ae ae ?_)))⟩
 ·rintro _-
  refine aR ?_;refine aj (hc:=h228 l (i+2) 9 (by decide)) ?_;refine ay ?_;refine ow hm (ι:=Unit) (fun _=>[⟨true,.sl 1 (l.map (D.int .i64))⟩,⟨true,.int .i64 i⟩,⟨true,.int .i64 own⟩,⟨true,.ptr 0 9 0 0⟩,.un,⟨true,.ptr 12 9 0 0⟩,.un,.un,.un,.un]) (fun _=>[(0,.buf 9 [cU]),(12,.buf 9 [(.agg [.str (cG own),.int .i64 (cJ l i 3),.int .i64 (cJ l (i+1) 2),.int .i64 0,.str (lE l i),.str (nt l i),.au,.au,.au])])]) 40 (fun _=>True) ?_ ?_
  ·refine fQ (fun hc1=>?_) fun hc1=>?_
   ·refine az ?_;refine aF (.agg [.str (cG own),.int .i64 (cJ l i 3),.int .i64 (cJ l (i+1) 2),.int .i64 0,.str (lE l i),.str [55],.au,.au,.au]) (he:=by exact rfl) ?_;refine ay ?_;have hp:nt l i=[55]:=if_pos hc1;rw[hp];exact⟨(),trivial,(aL.to [(0,0),(12,12)] ae ae kV (by repeat(first|exact aC.nil|refine aC.cZ ae ae bT ?_|refine aC.lK ae ae ae ?_)))⟩
   refine ay ?_;have hp:nt l i=[]:=if_neg hc1;rw[hp];exact⟨(),trivial,(aL.to [(0,0),(12,12)] ae ae kV (by repeat(first|exact aC.nil|refine aC.cZ ae ae bT ?_|refine aC.lK ae ae ae ?_)))⟩
  ·rintro _-
   have hK:=H3 l i;refine aR ?_;refine aj (hc:=h228 l (i+3) 4 (by decide)) ?_;refine yj ((gK l i:Nat):Int) (hn:=by intro _;omega) (hb:=fun _=>Mo l i) ?_;refine ay ?_;refine bq hm (ι:=(Nat×List bg)) (fun p=>[⟨true,.sl 1 (l.map (D.int .i64))⟩,⟨true,.int .i64 i⟩,⟨true,.int .i64 own⟩,⟨true,.ptr 0 9 0 0⟩,.un,⟨true,.ptr 12 9 0 0⟩,.un,⟨true,.int .i64 (p.1:Nat)⟩,.un,.un]) (fun p=>[(0,.buf 9 [cU]),(12,.buf 9 [(.agg [.str (cG own),.int .i64 (cJ l i 3),.int .i64 (cJ l (i+1) 2),.int .i64 0,.str (lE l i),.str (nt l i),.own 1 3 0 p.2.length,.au,.au])]),(1,.buf 3 (p.2.map bg.D))]) 60 (fun p=>p.1≤gK l i∧p.2=yZ l i own (gK l i-p.1)) (fun p=>p.1) (gK l i,[]) ⟨Nat.le_refl _,by dsimp only;rw[Nat.sub_self];rfl⟩ (aL.to [(0,0),(12,12)] ae ae kV (by refine aC.cZ ae ae bT ?_;refine aC.ni 12 ae ae (by exact⟨_,_,rfl,⟨_,rfl,⟨_,_,rfl,⟨rfl,rfl⟩,⟨_,_,rfl,⟨rfl,rfl⟩,⟨_,_,rfl,⟨rfl,rfl⟩,⟨_,_,rfl,⟨rfl,rfl⟩,⟨_,_,rfl,⟨rfl,rfl⟩,⟨_,_,rfl,⟨rfl,rfl⟩,⟨_,_,rfl,Or.inr ⟨_,_,_,rfl⟩,⟨_,_,rfl,Or.inl rfl,⟨_,_,rfl,Or.inl rfl,rfl⟩⟩⟩⟩⟩⟩⟩⟩⟩⟩,rfl⟩) ?_;refine aC.mt ae ae ae ae ?_;exact aC.nil)) ?_;rintro⟨k,ns⟩ ⟨hk,hn⟩;dsimp only at hk hn⊢;have hnl:ns.length≤3:=by rw[hn];simp[yZ];omega
   refine aR ?_;refine aq (fun hc2=>?_) (fun hc2=>?_)
   ·try simp only[hO]at hc2
    refine dh ?_;refine rR ?_;refine az ?_;refine aj (hc:=h229 l (i+4+20*(k:Int) -20) own (by omega) (by omega)) ?_;refine ct [bg.D (dR l (i+4+20*(k:Int) -20) own)] ?_;refine iH (q:=bg.D) (xs:=ns) (e:=dR l (i+4+20*(k:Int) -20) own) ?_;refine ax ?_;refine aF (.agg [.str (cG own),.int .i64 (cJ l i 3),.int .i64 (cJ l (i+1) 2),.int .i64 0,.str (lE l i),.str (nt l i),.own 74 3 0 (ns++[dR l (i+4+20*(k:Int) -20) own]).length,.au,.au]) (he:=by exact rfl) ?_;refine b6 ?_;exact⟨(k-1,ns++[dR l (i+4+20*(k:Int) -20) own]),⟨by dsimp only;omega,by dsimp only;rw[D0 hk (by omega),hn]⟩,by dsimp only;omega,(aL.to [(0,0),(12,12),(74,1)] ae ae (by repeat(first|exact cV.nil|refine cV.un ?_|refine cV.eq ae ?_|refine cV.nl (congrArg (D.int .i64) (show((k-1:Nat):Int)=(k:Int) -1 by omega)) ae ?_)) (by refine aC.cZ ae ae bT ?_;refine aC.lK ae ae ae ?_;refine aC.nl 74 ae ae rfl (bn (fun _=>rfl) _) ?_;exact aC.nil))⟩
   simp only[decide_eq_false_iff_not]at hc2;obtain rfl:k=0:=by omega
   obtain rfl:ns=me l i own:=by rw[hn];rfl
   refine az ?_;refine ee 1 ?_;refine aA ?_;refine aj (hc:=h228 l (i+45) 5 (by decide)) ?_;refine ay ?_;refine ow hm (ι:=Unit) (fun _=>[⟨true,.sl 1 (l.map (D.int .i64))⟩,⟨true,.int .i64 i⟩,⟨true,.int .i64 own⟩,⟨true,.ptr 0 9 0 0⟩,.un,⟨true,.ptr 12 9 0 0⟩,.un,.un,.un,.un]) (fun _=>[(0,.buf 9 [cU]),(12,.buf 9 [(.agg [.str (cG own),.int .i64 (cJ l i 3),.int .i64 (cJ l (i+1) 2),.int .i64 0,.str (lE l i),.str (nt l i),(.sl 3 ((me l i own).map bg.D)),(.own 2 3 0 (nF l i own).length),.au])]),(2,.buf 3 ((nF l i own).map iy.D))]) 100 (fun _=>True) ?_ ?_
   ·refine fQ (fun hc3=>?_) fun hc3=>?_
    ·refine ax ?_;have hr46:=bN l (i+46) 4 (by decide);refine ax ?_;refine ch (v:=.au) ?_;refine aR ?_;refine aj (hc:=h228 l (i+46) 4 (by decide)) ?_;refine ax ?_;refine aj (hc:=h227 (own+1+cJ l (i+46) 4)) ?_;refine az ?_;refine aj (hc:=h230 l (i+47) (by omega)) ?_;refine az ?_;refine aj (hc:=h231 l (i+50) (by omega)) ?_;refine br (iy.D (tS l i own)) ?_;refine ct [iy.D (tS l i own)] ?_;refine JS (n:=1) (ys:=[iy.D (tS l i own)]) (he:=qR.all ae rfl) (hn:=rfl) ?_;refine ax ?_;refine aF (.agg [.str (cG own),.int .i64 (cJ l i 3),.int .i64 (cJ l (i+1) 2),.int .i64 0,.str (lE l i),.str (nt l i),(.sl 3 ((me l i own).map bg.D)),(.own 87 3 0 1),.au]) (he:=by exact rfl) ?_;refine ay ?_;have hb:nF l i own=[tS l i own]:=if_pos hc3;rw[hb];exact⟨(),trivial,(aL.to [(0,0),(12,12),(87,2)] ae ae kV (by refine aC.cZ ae ae bT ?_;refine aC.lK ae ae ae ?_;refine aC.nl 87 ae ae ae ae ?_;exact aC.nil))⟩
    refine ay ?_;have hb:nF l i own=[]:=if_neg hc3;rw[hb];exact⟨(),trivial,(aL.to [(0,0),(12,12)] ae ae kV (by refine aC.cZ ae ae bT ?_;refine aC.ni 12 ae ae (by exact⟨_,_,rfl,⟨_,rfl,⟨_,_,rfl,⟨rfl,rfl⟩,⟨_,_,rfl,⟨rfl,rfl⟩,⟨_,_,rfl,⟨rfl,rfl⟩,⟨_,_,rfl,⟨rfl,rfl⟩,⟨_,_,rfl,⟨rfl,rfl⟩,⟨_,_,rfl,⟨rfl,rfl⟩,⟨_,_,rfl,⟨rfl,rfl⟩,⟨_,_,rfl,Or.inr ⟨_,_,_,rfl⟩,⟨_,_,rfl,Or.inl rfl,rfl⟩⟩⟩⟩⟩⟩⟩⟩⟩⟩,rfl⟩) ?_;refine aC.mt ae ae ae ae ?_;exact aC.nil))⟩
   ·rintro _-
    refine ee 2 ?_;refine lA [(0,.buf 9 [cU]),(12,.buf 9 [Rec.D (ll l i own)])] (.id ae (.bf ae (.cons (.ag (.cons (.refl _) (.cons (.refl _) (.cons (.refl _) (.cons (.refl _) (.cons (.refl _) (.cons (.refl _) (.cons (.refl _) (.cons (.refl _) (.cons (.nil 2) .nil)))))))))) .nil) .nil)) ?_;refine aA ?_;refine cy (d:=Rec.D (ll l i own)) ?_;refine aj (hc:=h232 l (i+52) (ll l i own) (by omega) (B7 l i own)) ?_;refine ax ?_;refine aF (Rec.D (kj l i own)) (he:=by exact rfl) ?_;refine ay ?_;refine cy (d:=Rec.D (kj l i own)) ?_;refine aF (Rec.D (kj l i own)) (he:=by exact rfl) ?_;refine ay ?_;refine bX (?_);rfl
def C79 (Γ:Ctx):Prop:=∀(l:List Int)(i:Int)(own:Int),(0≤i∧i≤1000000)→(0≤own∧own≤100000)→Γ.pre 79 [.sl 1 (l.map (D.int .i64)),.int .i64 i,.int .i64 own]∧Γ.val 79 [.sl 1 (l.map (D.int .i64)),.int .i64 i,.int .i64 own]=Rec.D (kj l i own)
end Go.Abs
end
namespace Go.Abs
def xX:∀a b:ah,Op.bytesLess a b=false→a≠b→Op.bytesLess b a=true
 |[],[],_,h=>absurd rfl h
 |[],_::_,h,_=>by simp[Op.bytesLess]at h
 |_::_,[],_,_=>by simp[Op.bytesLess]
 |x::a,y::b,h,hn=>by
  simp only[Op.bytesLess,Bool.or_eq_false_iff,decide_eq_false_iff_not,Bool.and_eq_false_iff,beq_eq_false_iff_ne]at h;simp only[Op.bytesLess,Bool.or_eq_true,decide_eq_true_eq,Bool.and_eq_true,beq_iff_eq];obtain⟨h1,h2⟩:=h;by_cases e:x=y
  ·subst e;refine .inr ⟨rfl,xX a b (h2.resolve_left fun h=>h rfl) fun e=>hn (by rw[e])⟩
  ·left;have h3:¬x.toNat<y.toNat:=fun h=>h1 (UInt8.lt_iff_toNat_lt.2 h)
   have h4:x.toNat≠y.toNat:=fun h=>e (UInt8.toNat_inj.1 h)
   exact UInt8.lt_iff_toNat_lt.2 (by omega)
def ta {l:List ah}{s t:ah}(h:t∈dD l s):t∈l∨t=s:=by
 unfold dD at h;split at h
 ·exact .inl h
 ·simp only[List.mem_append,List.mem_singleton]at h;rcases h with(h|h)|h
  ·exact .inl (List.mem_of_mem_take h)
  ·exact .inr h
  ·exact .inl (List.mem_of_mem_drop h)
def An (l:List ah):rising l=true↔∀i,1≤i→i<l.length→Op.bytesLess l[i-1]! l[i]! =true:=by
 unfold rising;rw[dr]
def my {l:List ah}{s:ah}(h:rising l=true):rising (dD l s)=true:=by
 unfold dD;split
 ·exact h
 ·rename_i hn;rw[An]at h⊢;have hl:=wB s l;have hlt:=wC s l;have hst:=qc s l;generalize gQ s l=k at hn hl hlt hst⊢;have hlen:(l.take k++[s]++l.drop k).length=l.length+1:=by
   simp only[List.length_append,List.length_take,List.length_drop,List.length_cons,List.length_nil];omega
  have g1:∀j,j<k→(l.take k++[s]++l.drop k)[j]! =l[j]! :=fun j hj=>by
   have a:j<(l.take k).length:=by rw[List.length_take];omega
   have b:j<l.length:=by omega
   rw[List.append_assoc,getElem!_pos _ _ (by rw[List.length_append];omega),List.getElem_append_left a,List.getElem_take,getElem!_pos l j b]
  have g2:(l.take k++[s]++l.drop k)[k]! =s:=by
   have a:(l.take k).length=k:=by rw[List.length_take];omega
   rw[List.append_assoc,getElem!_pos _ _ (by simp only[List.length_append,a,List.length_cons];omega),List.getElem_append_right (by omega)];simp[a]
  have g3:∀j,k<j→j<l.length+1→(l.take k++[s]++l.drop k)[j]! =l[j-1]! :=fun j hj hj2=>by
   have a:(l.take k).length=k:=by rw[List.length_take];omega
   have b:(l.take k++[s]).length=k+1:=by rw[List.length_append,a];rfl
   rw[getElem!_pos _ _ (by rw[hlen];omega),List.getElem_append_right (by omega),List.getElem_drop,getElem!_pos l (j-1) (by omega)];congr 1;omega
  intro i h1 h2;rw[hlen]at h2;rcases Nat.lt_trichotomy i k with hik|hik|hik
  ·rw[g1 i hik,g1 (i-1) (by omega)];exact h i h1 (by omega)
  ·subst hik;rw[g2,g1 (i-1) (by omega)];exact hlt _ (by omega)
  ·rw[g3 i hik h2];by_cases he:i=k+1
   ·subst he;rw[show k+1-1=k from rfl,g2];exact xX _ _ (hst (by omega)) fun e=>hn ⟨by omega,e⟩
   ·rw[g3 (i-1) (by omega) (by omega)];exact h (i-1) (by omega) (by omega)
def zY:∀k,k<5→ek Eu[k]! =true∧Eu[k]!.length≤3∧b7 (Eu[k]! ++[47]++[120])=((3:Int),Eu[k]!,([120]:ah)):=by decide+kernel
def JF:∀a,a<5→∀b,b<5→a≠b→Eu[a]! ≠Eu[b]! :=by decide+kernel
def Ko:∀k,k<4→bI HI[k]! =true∧b7 (([63]:ah)++HI[k]!)=((2:Int),HI[k]!,([]:ah)):=by decide+kernel
def Jj (k a b:Nat):ah:=if Aa[k]! =9 then [42]else cR ⟨Aa[k]!,3,⟨(a:Nat),(b:Nat),0,[],[]⟩⟩
def Hw (s:ah):Prop:=m5 s=true∧s.length≤8∧s≠[]∧(∀c∈s,c≠10)
instance (s:ah):Decidable (Hw s):=by unfold Hw;infer_instance
def x6 (s:ah):Prop:=kR s=true∧s.length≤16∧(∀c∈s,c≠10)
instance (s:ah):Decidable (x6 s):=by unfold x6;infer_instance
def Gp:∀k,k<6→∀a,a<3→∀b,b<2→Hw (Jj k a b):=by decide+kernel
def FC:∀k,k<3→∀a,a<2→∀b,b<4→x6 (uJ[k]! ++BP[a]! ++HI[b]!):=by decide+kernel
def ki (n:Int):(n%5).toNat<5∧cG n=Eu[(n%5).toNat]! :=by
 have:=jd n 5 (by decide);exact⟨by omega,rfl⟩
def sy (n:Int):ek (cG n)=true∧(cG n).length≤3:=⟨(zY _ (ki n).1).1,(zY _ (ki n).1).2.1⟩
def xI (own d:Int)(h0:0≤d)(h1:d<4):cG (own+1+d)≠cG own:=by
 have a:=ki (own+1+d);have b:=ki own;rw[a.2,b.2];exact JF _ a.1 _ b.1 (by omega)
def xJ (n:Int):(n%4).toNat<4∧ib n=HI[(n%4).toNat]! :=by
 have:=jd n 4 (by decide);exact⟨by omega,rfl⟩
def xK (n:Int):bI (ib n)=true∧b7 (([63]:ah)++ib n)=((2:Int),ib n,([]:ah)):=Ko _ (xJ n).1
def rH (l:List Int)(i:Int):Hw (mc l i):=by
 have a:=bN l i 6 (by decide);have b:=bN l (i+1) 3 (by decide);have c:=bN l (i+2) 2 (by decide);have:=Gp (cJ l i 6).toNat (by omega) (cJ l (i+1) 3).toNat (by omega) (cJ l (i+2) 2).toNat (by omega);have e:Jj (cJ l i 6).toNat (cJ l (i+1) 3).toNat (cJ l (i+2) 2).toNat=mc l i:=by
  unfold Jj mc qW;simp only[show((cJ l (i+1) 3).toNat:Int)=cJ l (i+1) 3 by omega,show((cJ l (i+2) 2).toNat:Int)=cJ l (i+2) 2 by omega]
 rwa [e]at this
def Cw:x6 []:=by decide+kernel
def mf (l:List Int)(i:Int):x6 (gz l i):=by
 unfold gz;split
 ·exact Cw
 ·rename_i h;have a:=bN l i 6 (by decide);have b:=bN l (i+1) 2 (by decide);have c:=xJ (1+cJ l (i+1) 3);rw[c.2];exact FC _ (by omega) _ (by omega) _ c.1
def qz {f:Nat→Int}{n:Nat}(h:∀j,j<n→f j=0):fR f 0 n=0:=by
 have:∀k i,i+k=n→fR f i n=0:=by
  intro k;induction k with
  |zero=>intro i e;exact pO (by omega)
  |succ k ih=>intro i e;rw[pP (by omega) (h i (by omega))];exact ih (i+1) (by omega)
 exact this n 0 (by omega)
def lZ {f:Nat→Int}{n:Nat}(h:∀j,j<n→f j=0):eO f 0 n=(0,0):=by
 have:∀k i,i+k=n→eO f i n=(0,0):=by
  intro k;induction k with
  |zero=>intro i e;exact mV (by omega)
  |succ k ih=>intro i e;rw[mW (by omega) (h i (by omega))];exact ih (i+1) (by omega)
 exact this n 0 (by omega)
def vB {r:Rec}{nm rg:ah}(h1:ek nm=true)(h2:nm≠r.name)(h3:m5 rg=true):iw r nm rg=0:=by
 unfold iw;rw[if_neg (by simp[h1]),if_neg h2,if_neg (by simp[h3])]
def FH:∀n,jR (vJ.take n) true=true
 |0=>by decide
 |1=>by decide
 |n+2=>by
  have:vJ.take (n+2)=vJ:=List.take_of_length_le (by simp[vJ]);rw[this];decide
def B8 (l:List Int)(i:Int)(al:Bool):jR (jW l i al) al=true:=by
 unfold jW;split
 ·rename_i h;rw[h.1];exact FH _
 ·cases al<;>decide
def C3 {r:Rec}{own:Int}(hr:r.name=cG own)(l:List Int)(i:Int)(al:Bool):jA r (hZ l i own al) al=0:=by
 have h:=bN l i 4 (by decide);have h1:=vB (r:=r) (sy (own+1+cJ l i 4)).1 (by rw[hr];exact xI own _ h.1 h.2) (rH l (i+1)).1;unfold jA;show(if iw r (cG (own+1+cJ l i 4)) (mc l (i+1))≠0 then _ else if jR (jW l i al) al=false then _ else _)=_;rw[h1,if_neg (by simp),B8,if_neg (by simp)]
def xG (l:List Int)(i own:Int)(k:Nat):(oU l i own k).length=k:=by simp[oU]
def xF {l:List Int}{i own:Int}{k j:Nat}(h:j<k):(oU l i own k)[j]! =hZ l (i+1+6*(j:Nat)) own (decide ((dm l i:Int)=1)):=by
 unfold oU;rw[getElem!_pos _ _ (by simpa using h)];simp
def uC (l:List Int)(i:Int):1≤dm l i:=by unfold dm;split<;>omega
def AX (l:List Int)(i own:Int):(dR l i own).option=[]∨∃n,(dR l i own).option=ib n:=by
 show(if _ then _ else _:ah)=[]∨_;split
 ·rename_i h;exact .inr ⟨fL l (i+17),if_pos h⟩
 ·exact .inl rfl
def Cx {r:Rec}{own:Int}(hr:r.name=cG own)(l:List Int)(i:Int):iP r (dR l i own)=0:=by
 have hl:(dR l i own).any.length=dm l i:=xG _ _ _ _;have h1:=uC l i;have h2:=sx l i;unfold iP;rw[if_neg (by rw[hl];omega),if_neg (by rw[hl];omega)];have hw:k8 r (dR l i own).any=0:=by
  unfold k8;refine qz fun j hj=>?_
  rw[hl]at hj⊢;show jA r (oU l i own (dm l i))[j]! _=0;rw[xF hj];exact C3 hr l _ _
 rw[hw,if_neg (by simp),if_neg (by rw[show(dR l i own).when'=gz l (i+14)from rfl,(mf l (i+14)).1];simp)];rcases AX l i own with h|⟨n,h⟩
 ·rw[if_neg (by rw[h];simp)]
 ·rw[if_neg (by rw[h,(xK n).1];simp)]
def Gz (l:List Int)(i own:Int)(n:Nat):(yZ l i own n).length=n:=by simp[yZ]
def rI {l:List Int}{i own:Int}{n:Nat}{x:bg}(h:x∈yZ l i own n):∃k:Int,x=dR l k own:=by
 obtain⟨q,_,rfl⟩:=List.mem_map.1 h;exact⟨_,rfl⟩
def zX {r:Rec}{l:List Int}{i own:Int}(hr:r.name=cG own)(hn:r.needs=me l i own):jt r=(0,0):=by
 unfold jt;refine lZ fun j hj=>?_
 obtain⟨k,hk⟩:=rI (show r.needs[j]! ∈yZ l i own (gK l i)by rw[show yZ l i own (gK l i)=r.needs from hn.symm];exact bG hj);rw[hk];exact Cx hr l k
def Dx {r:Rec}{own:Int}(hr:r.name=cG own)(l:List Int)(i:Int):r6 r (tS l i own)=0:=by
 have h:=bN l (i+46) 4 (by decide);have h1:=vB (r:=r) (sy (own+1+cJ l (i+46) 4)).1 (by rw[hr];exact xI own _ h.1 h.2) (rH l (i+47)).1;unfold r6;show(if iw r (cG (own+1+cJ l (i+46) 4)) (mc l (i+47))≠0 then _ else if kR (gz l (i+50))=false then _ else _)=_;rw[h1,if_neg (by simp),(mf l (i+50)).1,if_neg (by simp)]
def B4 {l:List Int}{i own:Int}{b:iy}(h:b∈nF l i own):b=tS l i own:=by
 unfold nF at h;split at h
 ·simpa using h
 ·cases h
def Mh (l:List Int)(i:Int)(r:Rec)(t:ah):Prop:=(∃m∈r.needs,m.option≠[]∧t=[63]++m.option)∨(∃m∈r.needs,m.any.length=1∧t=m.any[0]!.name++[47]++[120])∨∃k,k<3∧¬fL l (i+(k:Nat)+1)%3=0∧t=je[k+1]!
def DY (l:List Int)(i:Int)(r:Rec)(n:Int):∀j,j≤r.needs.length→rising (lh r n j)=true∧∀t∈lh r n j,Mh l i r t
 |0,_=>⟨rfl,fun t ht=>by simp[lh]at ht⟩
 |j+1,hj=>by
  obtain⟨h1,h2⟩:=DY l i r n j (by omega);have hm:r.needs[j]! ∈r.needs:=bG (by omega);have hA:rising (DW r n (lh r n j) j)=true∧∀t∈DW r n (lh r n j) j,Mh l i r t:=by
   unfold DW;split
   ·rename_i h;refine⟨my h1,fun t ht=>?_⟩;rcases ta ht with ht|rfl
    ·exact h2 t ht
    ·exact .inl ⟨_,hm,h.1,rfl⟩
   ·exact⟨h1,h2⟩
  obtain⟨h3,h4⟩:=hA;rw[kg,H2];unfold H0;split
  ·rename_i h;refine⟨my h3,fun t ht=>?_⟩;rcases ta ht with ht|rfl
   ·exact h4 t ht
   ·exact .inr (.inl ⟨_,hm,h.1,rfl⟩)
  ·exact⟨h3,h4⟩
def Jk (l:List Int)(i:Int)(r:Rec)(n:Int)(k j:Nat)(hj:j≤r.needs.length):rising (Gy l i n k (lh r n j))=true∧(∀t∈Gy l i n k (lh r n j),Mh l i r t)∧(Gy l i n k (lh r n j)).length≤2*j+1:=by
 obtain⟨h1,h2⟩:=DY l i r n j hj;have h3:=wc r n j;unfold Gy;split
 ·rename_i h;refine⟨my h1,fun t ht=>?_,Nat.le_trans (mw _ _) (by omega)⟩;rcases ta ht with ht|rfl
  ·exact h2 t ht
  ·exact .inr (.inr ⟨k,h.1.1,h.2,rfl⟩)
 ·exact⟨h1,h2,by omega⟩
def n3 {l:List Int}{i:Int}{r:Rec}{f:bp}(h:f∈fj l i r):∃k,k<4∧f.name=je[k]! ∧¬fL l (i+(k:Nat))%3=0∧rising f.of=true∧(∀t∈f.of,Mh l i r t)∧f.of.length≤5:=by
 obtain⟨k,hk,he⟩:=List.mem_filterMap.1 h;rw[List.mem_range]at hk;unfold Jl at he;split at he
 ·cases he
 ·rename_i hn;obtain rfl:=Option.some.inj he;obtain⟨a,b,c⟩:=Jk l i r (fL l (i+(k:Nat))) k (min r.needs.length 2) (by omega);exact⟨k,hk,rfl,hn,a,b,by dsimp only;omega⟩
def zE {l:List Int}{i:Int}{r:Rec}{k:Nat}(hk:k<4)(h:¬fL l (i+(k:Nat))%3=0):∃f∈fj l i r,f.name=je[k]! :=by
 have e:Jl l i r k=some ⟨je[k]!,Gy l i (fL l (i+(k:Nat))) k (lh r (fL l (i+(k:Nat))) (min r.needs.length 2))⟩:=if_neg h;exact⟨_,List.mem_filterMap.2 ⟨k,List.mem_range.2 hk,e⟩,rfl⟩
def BY {fs:List bp}{nm:ah}(h:∃f∈fs,f.name=nm):0≤findF fs nm 0:=by
 unfold findF;rw[List.drop_zero];cases e:fs.findIdx? (fun x=>decide (x.name=nm))with
 |some k=>simp
 |none=>
  rw[List.findIdx?_eq_none_iff]at e;obtain⟨f,hf,hn⟩:=h;have:=e f hf;simp[hn]at this
def ya:∀k,k<4→b7 je[k]! =((1:Int),je[k]!,([]:ah))∧bI je[k]! =true:=by decide+kernel
def Ev:∀a,a<4→∀b,b<4→a<b→Op.bytesLess je[a]! je[b]! =true:=by decide+kernel
def B5 (l:List Int)(i:Int)(r:Rec):(fj l i r).Pairwise fun a b=>Op.bytesLess a.name b.name=true:=by
 unfold fj DX;refine List.Pairwise.filterMap _ (R:=fun a b=>a<b∧b<4) ?_ (by decide);intro a b hab x hx y hy;have e:∀{k:Nat} {z:bp},Jl l i r k=some z→z.name=je[k]! :=fun {k z} h=>by
  unfold Jl at h;split at h
  ·cases h
  ·rw[←Option.some.inj h]
 rw[e hx,e hy];exact Ev a (by omega) b hab.2 hab.1
def sw (l:List Int)(i:Int)(r:Rec):(fj l i r).length≤4:=by
 unfold fj DX;exact Nat.le_trans (List.length_filterMap_le _ _) (by simp)
def NdG (r:Rec):Prop:=∀m∈r.needs,(m.option=[]∨∃n,m.option=ib n)∧(m.any.length=1→∃n,m.any[0]!.name=cG n)
def xQ {l:List Int}{i:Int}{r r2:Rec}{t:ah}(h:Mh l i r t)(hr:NdG r)(hn:r2.needs=r.needs)(hf:r2.feats=fj l i r):iB r2.feats t=true∧iO r2 t=0∧t.length≤7:=by
 rcases h with⟨m,hm,h1,rfl⟩|⟨m,hm,h1,rfl⟩|⟨k,hk,h1,rfl⟩
 ·obtain⟨n,e⟩:=(hr m hm).1.resolve_left h1;have hx:=(xK n).2;have hl:=pT n;rw[e];refine⟨by unfold iB;rw[hx];rfl, ?_,by simp only[List.length_append,List.length_cons,List.length_nil];omega⟩;unfold iO;rw[hx];have:Hc r2.needs (ib n)=true:=by
   unfold Hc;rw[List.any_eq_true];exact⟨m,by rw[hn];exact hm,by simp[e]⟩
  simp[this]
 ·obtain⟨n,e⟩:=(hr m hm).2 h1;have hx:=(zY _ (ki n).1).2.2;have hl:=ja n;rw[←(ki n).2]at hx;rw[e];generalize cG n=w at e hx hl;refine⟨by unfold iB;rw[hx];rfl, ?_,by simp only[List.length_append,List.length_cons,List.length_nil];omega⟩;have:Bc r2.needs w=true:=by
   unfold Bc;rw[List.any_eq_true];exact⟨m,by rw[hn];exact hm,by rw[e,h1];simp⟩
  unfold iO;rw[hx,if_neg (by simp),if_neg (by rw[this];simp)]
 ·have hx:=(ya (k+1) (by omega)).1;have hl:∀k,k<4→je[k]!.length≤7:=by decide
  refine⟨?_,by unfold iO;rw[hx];simp,hl _ (by omega)⟩;have:Ky r2.feats je[k+1]! =true:=by
   unfold Ky;rw[hf,Bool.or_eq_true];right;rw[decide_eq_true_eq];exact BY (zE (k:=k+1) (by omega) (by rw[show i+((k+1:Nat):Int)=i+(k:Nat)+1 by omega];exact h1))
  unfold iB;rw[hx];dsimp only;rw[this];rfl
def JR {α:Type} [Inhabited α]{R:α→α→Prop}{l:List α}(h:l.Pairwise R){i:Nat}(h0:0<i)(hi:i<l.length):R l[i-1]! l[i]! :=by
 rw[getElem!_pos l _ (by omega),getElem!_pos l _ hi];exact List.pairwise_iff_getElem.1 h _ _ (by omega) hi (by omega)
def BW {l:List Int}{i:Int}{r r2:Rec}(hr:NdG r)(hn:r2.needs=r.needs)(hf:r2.feats=fj l i r):fh r2.feats=true∧pN r2=(0,0):=by
 have hit:∀f∈r2.feats,∀t∈f.of,iB r2.feats t=true∧iO r2 t=0∧t.length≤7:=fun f hf' t ht=>by
  obtain⟨k,_,_,_,_,h,_⟩:=n3 (show f∈fj l i r by rw[←hf];exact hf');exact xQ (h t ht) hr hn hf
 constructor
 ·have hlen:=sw l i r;unfold fh;rw[Bool.and_eq_true,decide_eq_true_eq,dr];refine⟨by rw[hf];omega,fun j _ hj=>?_⟩;have hm:r2.feats[j]! ∈r2.feats:=bG hj;obtain⟨k,hk,e1,e2,e3,e4,e5⟩:=n3 (show r2.feats[j]! ∈fj l i r by rw[←hf];exact hm);unfold jU;rw[e1,(ya k hk).2,Bool.true_and,Bool.and_eq_true];constructor
  ·by_cases h0:0<j
   ·have:=JR (B5 l i r) h0 (by rw[←hf];exact hj);rw[←hf,e1]at this;rw[this];simp
   ·simp[h0]
  ·unfold sE;rw[Bool.and_eq_true,Bool.and_eq_true,decide_eq_true_eq,dr];exact⟨⟨by omega,e3⟩,fun q _ hq=>(hit _ hm _ (bG hq)).1⟩
 ·unfold pN;refine lZ fun j hj=>?_
  unfold n4;exact qz fun q hq=>(hit _ (bG hj) _ (bG hq)).2.1
def kf {α:Type}{f:α→ah}{B:Nat}:∀{l:List α},(∀x∈l,(f x).length≤B)→((l.map f).flatten).length≤l.length*B
 |[],_=>by simp
 |a::r,h=>by
  have h1:=h a (.head _);have h2:=kf (l:=r) fun x hx=>h x (.tail _ hx)
  simp only[List.map_cons,List.flatten_cons,List.length_append,List.length_cons,Nat.succ_mul];omega
def jc {l:List ah}{B n:Nat}(h:∀t∈l,t.length≤B)(hn:l.length≤n):(bt l).length≤n*(B+1)+1:=by
 have h1:=jb 32 B l h;have h2:=Nat.mul_le_mul_right (B+1) hn;simp only[bt,List.length_append,List.length_cons,List.length_nil];omega
def Bx (w:bz):Prop:=w.name.length≤3∧w.range.length≤8∧(w.feats=[]∨w.feats=vJ.take 1∨w.feats=vJ)
def Da (n:Nat):vJ.take n=[]∨vJ.take n=vJ.take 1∨vJ.take n=vJ:=by
 match n with
 |0=>exact .inl rfl
 |1=>exact .inr (.inl rfl)
 |n+2=>exact .inr (.inr (List.take_of_length_le (by simp[vJ])))
def uE (l:List Int)(i own:Int)(al:Bool):Bx (hZ l i own al):=by
 refine⟨ja _,(rH l (i+1)).2.1, ?_⟩;show jW l i al=[]∨jW l i al=vJ.take 1∨jW l i al=vJ;unfold jW;split
 ·exact Da _
 ·exact .inl rfl
def C4 {w:bz}(h:Bx w):(bt (lz w)).length≤46:=by
 refine jc (B:=8) (n:=5) (fun t ht=>?_) (by simp[lz]);simp only[lz,List.mem_cons,List.not_mem_nil,or_false]at ht;rcases ht with rfl|rfl|rfl|rfl|rfl
 ·decide
 ·have:=h.1;omega
 ·rcases h.2.2 with e|e|e<;>rw[e]<;>decide
 ·split<;>decide
 ·exact h.2.1
def vA {s:ah}(h:s.length≤16):(gF s).length≤35:=by
 unfold gF;split
 ·simp
 ·exact jc (B:=16) (n:=2) (fun t ht=>by
   simp only[List.mem_cons,List.not_mem_nil,or_false]at ht;rcases ht with rfl|rfl
   ·decide
   ·exact h) (by simp)
def EJ {s:ah}(h:s.length≤6):(ud s).length≤15:=by
 unfold ud;split
 ·simp
 ·exact jc (B:=6) (n:=2) (fun t ht=>by
   simp only[List.mem_cons,List.not_mem_nil,or_false]at ht;rcases ht with rfl|rfl
   ·decide
   ·exact h) (by simp)
def B6 (l:List Int)(i own:Int):(lv (dR l i own)).length≤160:=by
 have h1:=kf (f:=fun w=>bt (lz w)) (B:=46) (l:=(dR l i own).any) fun w hw=>by
  obtain⟨q,_,rfl⟩:=List.mem_map.1 (show w∈oU l i own (dm l i)from hw);exact C4 (uE _ _ _ _)
 have h2:(dR l i own).any.length≤2:=by rw[show(dR l i own).any.length=dm l i from xG _ _ _ _];exact sx l i
 have h3:=vA (mf l (i+14)).2.1;have h4:=EJ (s:=(dR l i own).option) (Nat.le_trans (pS l i own) (by decide));have h5:(bt [gE]).length≤6:=by decide
 unfold lv;simp only[List.length_append];show _+(((dR l i own).any.map fun w=>bt (lz w)).flatten).length+(gF (gz l (i+14))).length+_≤_;omega
def Dy {b:iy}(h:b.name.length≤3∧b.range.length≤8∧b.when'.length≤16):(qU b).length≤63:=by
 have h1:=jc (B:=8) (n:=3) (l:=[iZ,b.name,b.range]) (fun t ht=>by
  simp only[List.mem_cons,List.not_mem_nil,or_false]at ht;rcases ht with rfl|rfl|rfl
  ·decide
  ·omega
  ·exact h.2.1) (by simp)
 have h2:=vA h.2.2;unfold qU;rw[List.length_append];omega
def DZ (l:List Int)(i own:Int):(tS l i own).name.length≤3∧(tS l i own).range.length≤8∧(tS l i own).when'.length≤16:=⟨ja _,(rH l (i+47)).2.1,(mf l (i+50)).2.1⟩
def BT {f:bp}(h:f.name.length≤7∧f.of.length≤5∧∀t∈f.of,t.length≤7):(nE f).length≤57:=by
 refine jc (B:=7) (n:=7) (fun t ht=>?_) (by simp;omega);simp only[List.mem_append,List.mem_cons,List.not_mem_nil,or_false]at ht;rcases ht with(rfl|rfl)|ht
 ·decide
 ·exact h.1
 ·exact h.2.2 t ht
structure oA (l:List Int)(i own:Int)(r:Rec):Prop where
 nm:r.name=cG own
 ns:r.needs=me l i own
 v:eh r.v=true∧r.v.pre.length≤4∧r.v.build.length≤1
 bl:r.bars.length≤2
 b:∀b∈r.bars,r6 r b=0∧b.name.length≤3∧b.range.length≤8∧b.when'.length≤16
 fs:fh r.feats=true∧pN r=(0,0)
 fl:r.feats.length≤4
 f:∀f∈r.feats,f.name.length≤7∧f.of.length≤5∧∀t∈f.of,t.length≤7
def sz (l:List Int)(i own:Int):(me l i own).length≤2:=by rw[me,Gz];exact H3 l i
def oA.good {l:List Int}{i own:Int}{r:Rec}(h:oA l i own r):sB r:=by
 have h1:=sz l i own;have h2:=h.bl;refine⟨⟨by rw[h.nm];exact(sy own).1,h.v.1⟩,⟨by rw[h.ns];omega,by omega⟩,sU (zX h.nm h.ns) ?_ h.fs.1 h.fs.2⟩;unfold qu;exact lZ fun j hj=>(h.b _ (bG hj)).1
def oA.sm {l:List Int}{i own:Int}{r:Rec}(h:oA l i own r):il r:=by
 refine⟨⟨by rw[h.nm];exact Nat.le_trans (ja own) (by decide),Nat.le_trans h.v.2.1 (by decide),Nat.le_trans h.v.2.2 (by decide)⟩,fun n hn=>?_,fun b hb=>?_,fun f hf=>?_⟩
 ·obtain⟨k,rfl⟩:=rI (show n∈yZ l i own (gK l i)by rw[show yZ l i own (gK l i)=r.needs from h.ns.symm];exact hn);refine⟨fun w hw=>?_,Nat.le_trans (mf l (k+14)).2.1 (by decide),Nat.le_trans (pS l k own) (by decide)⟩;obtain⟨q,_,rfl⟩:=List.mem_map.1 (show w∈oU l k own (dm l k)from hw);obtain⟨a,b,c⟩:=uE l (k+1+6*(q:Nat)) own (decide ((dm l k:Int)=1));refine⟨⟨Nat.le_trans a (by decide),Nat.le_trans b (by decide)⟩,fun t ht=>?_⟩;have hx:∀t∈vJ,t.length≤1048576:=by decide
  rcases c with e|e|e<;>rw[e]at ht
  ·cases ht
  ·exact hx t (List.mem_of_mem_take ht)
  ·exact hx t ht
 ·obtain⟨_,a,b,c⟩:=h.b b hb;exact⟨Nat.le_trans a (by decide),Nat.le_trans b (by decide),Nat.le_trans c (by decide)⟩
 ·obtain⟨a,b,c⟩:=h.f f hf;exact⟨Nat.le_trans a (by decide),Nat.le_trans b (by decide),fun t ht=>Nat.le_trans (c t ht) (by decide)⟩
def FA {v:dq}(h:eh v=true∧v.pre.length≤4∧v.build.length≤1):(kY v).length≤30:=by
 obtain⟨h1,h2,h3⟩:=h;have hv:=h1;simp only[eh,pR,Bool.and_eq_true,decide_eq_true_eq]at h1;have a:=dJ 4 v.major.toNat (by omega) (by omega);have b:=dJ 4 v.minor.toNat (by omega) (by omega);have c:=dJ 4 v.patch.toNat (by omega) (by omega);unfold kY;rw[if_pos hv,vx];have d:(coreS v).length≤14:=by
  unfold coreS;simp only[List.length_append,List.length_cons,List.length_nil];omega
 simp only[List.length_append];split<;>split<;>simp only[List.length_cons,List.length_nil]<;>omega
def oA.len {l:List Int}{i own:Int}{r:Rec}(h:oA l i own r):(eZ r).length≤800:=by
 have h1:(mh r).length≤94:=jc (B:=30) (n:=3) (fun t ht=>by
  simp only[List.mem_cons,List.not_mem_nil,or_false]at ht;rcases ht with rfl|rfl|rfl
  ·decide
  ·rw[h.nm];exact Nat.le_trans (ja own) (by decide)
  ·exact FA h.v) (by simp)
 have h2:=kf (f:=lv) (B:=160) (l:=r.needs) fun n hn=>by
  obtain⟨k,rfl⟩:=rI (show n∈yZ l i own (gK l i)by rw[show yZ l i own (gK l i)=r.needs from h.ns.symm];exact hn);exact B6 l k own
 have h3:=kf (f:=qU) (B:=63) (l:=r.bars) fun b hb=>Dy (h.b b hb).2
 have h4:=kf (f:=nE) (B:=57) (l:=r.feats) fun f hf=>BT (h.f f hf)
 have h5:=sz l i own;have h6:=h.bl;have h7:=h.fl;rw[h.ns]at h2;unfold eZ;rw[h.ns];simp only[List.length_append];omega
def oA.check {l:List Int}{i own:Int}{r:Rec}(h:oA l i own r):cd r=(0,0):=by
 obtain⟨⟨a,b⟩,⟨c,d⟩,e⟩:=h.good;rw[sc a b (by omega) (by omega) e,if_neg (by have:=h.len;omega)]
def oA.print {l:List Int}{i own:Int}{r:Rec}(h:oA l i own r):ez r=(eZ r,0):=by
 unfold ez;rw[h.check,if_neg (by simp)]
def AY (l:List Int)(i:Int):eh (zF l i)=true∧(zF l i).pre.length≤4∧(zF l i).build.length≤1:=by
 have a:=bN l i 3 (by decide);have b:=bN l (i+1) 2 (by decide);have key:∀x,x<3→∀y,y<2→∀p∈[([]:ah),Ag],∀q∈[([]:ah),[55]],eh ⟨(x:Nat),(y:Nat),0,p,q⟩=true:=by decide+kernel
 have hp:lE l i∈[([]:ah),Ag]:=by unfold lE;split<;>simp
 have hq:nt l i∈[([]:ah),[55]]:=by unfold nt;split<;>simp
 have h:=key (cJ l i 3).toNat (by omega) (cJ l (i+1) 2).toNat (by omega) _ hp _ hq;have e:(⟨((cJ l i 3).toNat:Int),((cJ l (i+1) 2).toNat:Int),0,lE l i,nt l i⟩:dq)=zF l i:=by
  unfold zF;simp only[show((cJ l i 3).toNat:Int)=cJ l i 3 by omega,show((cJ l (i+1) 2).toNat:Int)=cJ l (i+1) 2 by omega]
 rw[e]at h;refine⟨h, ?_, ?_⟩
 ·show(lE l i).length≤4;unfold lE;split<;>decide
 ·show(nt l i).length≤1;unfold nt;split<;>decide
def uD (l:List Int)(i own:Int):NdG (ll l i own):=by
 intro m hm;obtain⟨k,rfl⟩:=rI (show m∈yZ l i own (gK l i)from hm);refine⟨AX l k own,fun h=>?_⟩;have h1:0<dm l k:=by have:=uC l k;omega
 have:=xF (l:=l) (i:=k) (own:=own) h1;exact⟨_,congrArg bz.name this⟩
def B3 (l:List Int)(i own:Int):(nF l i own).length≤1:=by unfold nF;split<;>simp
def G5:∀k,k<4→je[k]!.length≤7:=by decide
def sA (l:List Int)(i own:Int):oA l i own (kj l i own):=by
 have hf:=BW (r:=ll l i own) (r2:=kj l i own) (l:=l) (i:=i+52) (uD l i own) rfl rfl;refine⟨rfl,rfl,AY l i,Nat.le_trans (B3 l i own) (by decide),fun b hb=>?_,hf,sw _ _ _,fun f hf2=>?_⟩
 ·obtain rfl:=B4 (show b∈nF l i own from hb);exact⟨Dx rfl l i,DZ l i own⟩
 ·obtain⟨k,hk,e,_,_,hi,hl⟩:=n3 (show f∈fj l (i+52) (ll l i own)from hf2);refine⟨by rw[e];exact G5 k hk,hl,fun t ht=>?_⟩;exact(xQ (r2:=kj l i own) (hi t ht) (uD l i own) rfl rfl).2.2
end Go.Abs
section
namespace Go.Abs
def bvS (x:BitVec 64):BitVec 64:=(x<<<13 |||x>>>51)*18397679294719823053#64
def G1 (x:BitVec 64):x*18397679294719823053#64*5725274745694666757#64=x:=by
 rw[BitVec.mul_assoc,show(18397679294719823053#64*5725274745694666757#64:BitVec 64)=1#64 by decide,BitVec.mul_one]
def yx (x:BitVec 64):(x<<<13 |||x>>>51)<<<51 |||(x<<<13 |||x>>>51)>>>13=x:=by
 apply BitVec.eq_of_getLsbD_eq;intro i hi;simp only[BitVec.getLsbD_or,BitVec.getLsbD_shiftLeft,BitVec.getLsbD_ushiftRight];by_cases h:i<51
 ·have h1:¬51≤i:=by omega
  have h2:13+i<64:=by omega
  have h3:x.getLsbD (51+(13+i))=false:=BitVec.getLsbD_of_ge _ _ (by omega);simp[h,h1,h2,h3,hi]
 ·have h2:i-51<13:=by omega
  have h3:x.getLsbD (51+(i-51))=x.getLsbD i:=by congr 1;omega
  have h4:¬13+i<64:=by omega
  have h5:x.getLsbD (51+(13+i))=false:=BitVec.getLsbD_of_ge _ _ (by omega);simp[h,h2,h3,h4,h5,hi]
def AN {x y:BitVec 64}(h:bvS x=bvS y):x=y:=by
 unfold bvS at h;have h1:=congrArg (· *5725274745694666757#64) h;simp only[G1]at h1;rw[←yx x,h1,yx]
def yU (x:BitVec 64):(x^^^x>>>29)^^^(x^^^x>>>29)>>>29^^^(x^^^x>>>29)>>>58=x:=by
 apply BitVec.eq_of_getLsbD_eq;intro i hi;simp only[BitVec.getLsbD_xor,BitVec.getLsbD_ushiftRight];have h1:x.getLsbD (29+(58+i))=false:=BitVec.getLsbD_of_ge _ _ (by omega);have h2:x.getLsbD (29+(29+i))=x.getLsbD (58+i):=by congr 1;omega
 rw[h1,h2];cases x.getLsbD i<;>cases x.getLsbD (29+i)<;>cases x.getLsbD (58+i)<;>rfl
def y0 (a:Int):Prop:=0≤a∧a<18446744073709551616
def zr {a b:Int}(ha:y0 a)(hb:y0 b)(h:BitVec.ofInt 64 a=BitVec.ofInt 64 b):a=b:=by
 have:=congrArg BitVec.toNat h;rw[BitVec.toNat_ofInt,BitVec.toNat_ofInt]at this;obtain⟨a1,a2⟩:=ha;obtain⟨b1,b2⟩:=hb;have e:((2^64:Nat):Int)=18446744073709551616:=by decide
 rw[e,Int.emod_eq_of_lt a1 a2,Int.emod_eq_of_lt b1 b2]at this;omega
def By (a:Int):y0 (IntKind.u64.wrap a):=by
 rw[IntKind.wrap_u64];exact⟨Int.emod_nonneg _ (by decide),Int.emod_lt_of_pos _ (by decide)⟩
def rz (a:Int):BitVec.ofInt 64 (IntKind.u64.wrap a)=BitVec.ofInt 64 a:=by
 rw[IntKind.wrap_u64];apply BitVec.eq_of_toNat_eq;rw[BitVec.toNat_ofInt,BitVec.toNat_ofInt];have e:((2^64:Nat):Int)=18446744073709551616:=by decide
 rw[e,Int.emod_emod_of_dvd _ (Int.dvd_refl _)]
def DB (x:BitVec 64):BitVec.ofInt 64 (x.toNat:Int)=x:=by
 rw[BitVec.ofInt_natCast,BitVec.ofNat_toNat];simp
def zu (a b:Int):BitVec.ofInt 64 (vH a b)=BitVec.ofInt 64 a^^^BitVec.ofInt 64 b:=by
 unfold vH;rw[rz,DB]
def Mn (a b:Int):BitVec.ofInt 64 (JO a b)=BitVec.ofInt 64 a |||BitVec.ofInt 64 b:=by
 unfold JO;rw[rz,DB]
def Jd (a:Int)(k:Nat):BitVec.ofInt 64 (Bo a k)=BitVec.ofInt 64 a<<<k:=by
 unfold Bo;rw[rz,BitVec.ofInt_mul,BitVec.shiftLeft_eq_mul_twoPow];congr 1;apply BitVec.eq_of_toNat_eq;rw[BitVec.toNat_ofInt,BitVec.toNat_twoPow];have:((2:Int)^k)=((2^k:Nat):Int):=by rw[Int.natCast_pow];rfl
 rw[this,←Int.natCast_emod,Int.toNat_natCast]
def zt {a:Int}(ha:y0 a)(k:Nat):BitVec.ofInt 64 (ve a k)=BitVec.ofInt 64 a>>>k:=by
 obtain⟨n,rfl⟩:∃n:Nat,a=n:=⟨a.toNat,by have:=ha.1;omega⟩
 have hn:n<2^64:=by have:=ha.2;omega
 unfold ve;have:((2:Int)^k)=((2^k:Nat):Int):=by rw[Int.natCast_pow];rfl
 rw[this,Int.fdiv_eq_ediv_of_nonneg _ (Int.natCast_nonneg _),←Int.natCast_ediv];apply BitVec.eq_of_toNat_eq;rw[BitVec.ofInt_natCast,BitVec.ofInt_natCast,BitVec.toNat_ofNat,BitVec.toNat_ushiftRight,BitVec.toNat_ofNat,Nat.shiftRight_eq_div_pow,Nat.mod_eq_of_lt hn,Nat.mod_eq_of_lt (Nat.lt_of_le_of_lt (Nat.div_le_self _ _) hn)]
def Ks (a b:Int):y0 (vH a b):=By _
def po (h c:Int):y0 (fe h c):=By _
def ry (h c:Int):BitVec.ofInt 64 (fe h c)=bvS (BitVec.ofInt 64 h^^^BitVec.ofInt 64 c):=by
 unfold fe KC;rw[rz,BitVec.ofInt_mul,Mn,Jd,zt (Ks h c),zu];rfl
def Kj {h h':Int}(c:Int)(a:y0 h)(b:y0 h')(e:fe h c=fe h' c):h=h':=by
 have:=congrArg (BitVec.ofInt 64) e;rw[ry,ry]at this;have:=AN this;exact zr a b (by rw[←BitVec.xor_zero (x:=BitVec.ofInt 64 h),←BitVec.xor_self (x:=BitVec.ofInt 64 c),←BitVec.xor_assoc,this,BitVec.xor_assoc,BitVec.xor_self,BitVec.xor_zero])
def Ki {c c':Int}(h:Int)(a:y0 c)(b:y0 c')(e:fe h c=fe h c'):c=c':=by
 have:=congrArg (BitVec.ofInt 64) e;rw[ry,ry]at this;have:=AN this;exact zr a b (by rw[←BitVec.zero_xor (x:=BitVec.ofInt 64 c),←BitVec.xor_self (x:=BitVec.ofInt 64 h),BitVec.xor_assoc,this,←BitVec.xor_assoc,BitVec.xor_self,BitVec.zero_xor])
def AU:∀(s:ah)(h:Int),y0 h→y0 (s.foldl (fun h c=>fe h c.toNat) h)
 |[],h,a=>a
 |c::r,h,a=>AU r _ (po _ _)
def xD:∀(s:ah){h h':Int},y0 h→y0 h'→s.foldl (fun h c=>fe h c.toNat) h=s.foldl (fun h c=>fe h c.toNat) h'→h=h'
 |[],_,_,_,_,e=>e
 |c::r,_,_,a,b,e=>Kj _ a b (xD r (po _ _) (po _ _) e)
def rU (s:ah):y0 (pr s):=AU s _ ⟨by decide,by decide⟩
def Fm {s t:ah}(e:ou s=ou t):pr s=pr t:=by
 have:=congrArg (BitVec.ofInt 64) e;unfold ou at this;rw[zu,zu,zt (rU s),zt (rU t)]at this;exact zr (rU s) (rU t) (by rw[←yU (BitVec.ofInt 64 (pr s)),this,yU])
def Fo {p q:ah}{x y:UInt8}(h:x≠y):ou (p++x::q)≠ou (p++y::q):=by
 intro e;have h1:=Fm e;unfold pr at h1;rw[List.foldl_append,List.foldl_append,List.foldl_cons,List.foldl_cons]at h1;have h2:=xD q (po _ _) (po _ _) h1;have hx:∀z:UInt8,y0 (z.toNat:Int):=fun z=>by have:=z.toNat_lt;exact⟨by omega,by omega⟩
 have h3:=Ki _ (hx x) (hx y) h2;exact h (UInt8.toNat_inj.1 (by omega))
end Go.Abs
namespace Go.Abs
def nJ (l:List Int):Rec:={kj l 0 0 with v:={zF l 0 with major:=cJ l 0 3+1}}
def D1 (l:List Int):eh (nJ l).v=true∧(nJ l).v.pre.length≤4∧(nJ l).v.build.length≤1:=by
 have a:=bN l 0 3 (by decide);have b:=bN l (0+1) 2 (by decide);have key:∀x,x<4→∀y,y<2→∀p∈[([]:ah),Ag],∀q∈[([]:ah),[55]],eh ⟨(x:Nat),(y:Nat),0,p,q⟩=true:=by decide+kernel
 have hp:lE l 0∈[([]:ah),Ag]:=by unfold lE;split<;>simp
 have hq:nt l 0∈[([]:ah),[55]]:=by unfold nt;split<;>simp
 have h:=key (cJ l 0 3+1).toNat (by omega) (cJ l (0+1) 2).toNat (by omega) _ hp _ hq;have e:(⟨((cJ l 0 3+1).toNat:Int),((cJ l (0+1) 2).toNat:Int),0,lE l 0,nt l 0⟩:dq)=(nJ l).v:=by
  simp only[show((cJ l 0 3+1).toNat:Int)=cJ l 0 3+1 by omega,show((cJ l (0+1) 2).toNat:Int)=cJ l (0+1) 2 by omega];rfl
 rw[e]at h;exact⟨h,(AY l 0).2⟩
def uX (l:List Int):oA l 0 0 (nJ l):=by
 obtain⟨a,b,_,d,e,f,g,h⟩:=sA l 0 0;exact⟨a,b,D1 l,d,e,f,g,h⟩
def Fq (v:dq):ah:=[46]++cv v.minor.toNat++[46]++cv v.patch.toNat++(if v.pre=[]then []else 45::v.pre)++(if v.build=[]then []else 43::v.build)
def HG {v:dq}(h:eh v=true)(hm:v.major.toNat<10):kY v=dg v.major.toNat::Fq v:=by
 unfold kY;rw[if_pos h,vx];have:∀n,n<10→cv n=[dg n]:=by decide
 have:=this _ hm;unfold coreS Fq;rw[this];simp
def Ih (r:Rec):ah:=[10]++(r.needs.map lv).flatten++(r.bars.map qU).flatten++(r.feats.map nE).flatten
def Bs {r:Rec}(h:eh r.v=true)(hm:r.v.major.toNat<10):eZ r=(de++[32]++(r.name++[32]))++dg r.v.major.toNat::(Fq r.v++Ih r):=by
 unfold eZ mh bt;simp only[aP];rw[HG h hm];unfold Ih;simp
def Jh:∀a,a<10→∀b,b<10→a≠b→dg a≠dg b:=by decide
def HC (l:List Int):ou (eZ (nJ l))≠ou (eZ (kj l 0 0)):=by
 have a:=bN l 0 3 (by decide);have h1:(kj l 0 0).v.major.toNat<10:=by show(cJ l 0 3).toNat<10;omega
 have h2:(nJ l).v.major.toNat<10:=by show(cJ l 0 3+1).toNat<10;omega
 rw[Bs (sA l 0 0).v.1 h1,Bs (uX l).v.1 h2];refine Fo (Jh _ h2 _ h1 ?_);show(cJ l 0 3+1).toNat≠(cJ l 0 3).toNat;omega
def oA.sum {l:List Int}{i own:Int}{r:Rec}(h:oA l i own r):Au r=ou (eZ r):=by
 unfold Au;rw[h.print,if_neg (by simp)]
end Go.Abs
end
section
namespace Go.Abs
open Go
end Go.Abs
end
section
namespace Go.Abs
open Go
end Go.Abs
end
section
namespace Go.Abs
open Go
end Go.Abs
end
section
namespace Go.Abs
def awT:ah:=[112,97,99,107,97,103,101,32,97,112,112,32,49,46,48,46,48,10,110,101,101,100,10,97,110,121,32,98,32,120,32,102,117,108,108,32,94,49,10,119,104,101,110,32,111,115,32,61,32,120,10,98,97,114,32,99,32,42,10,102,101,97,116,117,114,101,32,121,32,98,47,122,10]
def Gb:ah:=[112,97,99,107,97,103,101,32,97,112,112,32,49,46,48,46,48,10,97,110,121,32,98,32,45,32,102,117,108,108,32,42,10]
def Db:Rec:=⟨[97,112,112],⟨1,0,0,[],[]⟩,[⟨[⟨[98],[94,49],[[120]],false⟩],[111,115,32,61,32,120],[]⟩],[⟨[99],[42],[]⟩],[⟨[121],[[98,47,122]]⟩]⟩
set_option maxRecDepth 100000 in
theorem aw1:fX awT=(Db,0,0):=by decide+kernel
set_option maxRecDepth 100000 in
theorem aw3:ez Db=(awT,0):=by decide+kernel
set_option maxRecDepth 100000 in
theorem aw2:(fX Gb).2=(2,2):=by decide+kernel
def Jb:il Db:=by
 refine⟨⟨by decide,by decide,by decide⟩,fun n hn=>?_,fun b hb=>?_,fun f hf=>?_⟩
 ·simp only[Db,List.mem_singleton]at hn;subst hn;refine⟨fun w hw=>?_,by decide,by decide⟩;simp only[List.mem_singleton]at hw;subst hw;exact⟨⟨by decide,by decide⟩,fun t ht=>by simp only[List.mem_singleton]at ht;subst ht;decide⟩
 ·simp only[Db,List.mem_singleton]at hb;subst hb;exact⟨by decide,by decide,by decide⟩
 ·simp only[Db,List.mem_singleton]at hf;subst hf;exact⟨by decide,by decide,fun t ht=>by simp only[List.mem_singleton]at ht;subst ht;decide⟩
end Go.Abs
end
section
namespace Go.Abs
open Go
def wI:aB:=⟨1,6,[⟨1,none⟩,⟨2,none⟩],iz,(sq (rg [gb 9 s0,gm cse,gm bD] [(3,0),(1,1),(2,2)]) (sq (sq (r1 [gk 9 true s3,gx 70 [l0] [[.a,.a,.a,.a,.a,.a,.sl 3 [.sl 4 [.a,.a,.sl 1 [.a],.a],.a,.a],.sl 3 [.a,.a,.a],.sl 2 [.a,.sl 1 [.a]]]],gm l1,ge l2 0,ge l2 1,gm l3,gm l4] 4 5) (sq (r1 [gm s4,cl l0 bD] 5 1) (.cond s5 (sq (rg [gm s4,gm cse,gm l0] [(1,1),(2,2)]) .ret) .skip))) (sq (rg [gk 9 true s3,gx 215 [l0] [[.a,.a,.a,.a,.a,.a,.sl 3 [.sl 4 [.a,.a,.sl 1 [.a],.a],.a,.a],.sl 3 [.a,.a,.a],.sl 2 [.a,.sl 1 [.a]]]],gm l1,gm bD] [(1,2),(2,3)]) .ret)))⟩
def w72 {Γ:Ctx}(hm:(Γ.at 0).bm)(h70:C70 Γ)(h215:Iu Γ)(r:Rec)  (hp0:il r):dS Γ wI (.tup [.str (ez r).1,.int .i64 (ez r).2]) [Rec.D r]:=by
 show bx _ _ _ [⟨_,_⟩,_,_,_,_,_] _;refine ak ?_;refine ba ?_;refine aj (hc:=h70 r hp0) ?_;refine fK ?_;refine cF (fun hc0=>?_) fun hc0=>?_
 ·refine ba ?_;refine bX (aO (congrArg D.str ?_) (congrArg (D.int .i64) ?_));all_goals
   simp[ez,hc0]
 refine ay ?_;have hgd:=xn hc0;refine ax ?_;refine aj (hc:=h215 r ⟨hgd,hp0⟩) ?_;refine aA ?_;refine bX (aO (congrArg D.str ?_) (congrArg (D.int .i64) ?_));all_goals
  simp[ez,hc0]
def C72 (Γ:Ctx):Prop:=∀(r:Rec),(il r)→Γ.pre 72 [Rec.D r]∧Γ.val 72 [Rec.D r]=.tup [.str (ez r).1,.int .i64 (ez r).2]
def Ah:aB:=⟨1,7,[⟨1,none⟩,⟨2,none⟩],iz,(sq (rg [gb 9 s0,gm (iu 0),gm bD] [(3,0),(1,1),(2,2)]) (sq (rg [gk 9 true s3,gx 72 [l0] [[.a,.a,.a,.a,.a,.a,.sl 3 [.sl 4 [.a,.a,.sl 1 [.a],.a],.a,.a],.sl 3 [.a,.a,.a],.sl 2 [.a,.sl 1 [.a]]]],gm l1,ge l2 0,ge l2 1,gm l3,gm l4] [(6,5),(4,6)]) (sq (sq (r1 [gm s4,cl l0 bD] 5 1) (.cond s5 (sq (rg [gm s4,gm (iu 0),gm l0] [(1,1),(2,2)]) .ret) .skip)) (sq (rg [gm s6,gn (.s2b l0),gx 220 [l1] [[.sl 1 [.a]]],gm l2,gm bD] [(1,3),(2,4)]) .ret))))⟩
def w74 {Γ:Ctx}(hm:(Γ.at 0).bm)(h72:C72 Γ)(h220:Iv Γ)(r:Rec)  (hp0:il r):dS Γ Ah (.tup [.int .u64 (Au r),.int .i64 (ez r).2]) [Rec.D r]:=by
 show bx _ _ _ [⟨_,_⟩,_,_,_,_,_,_] _;refine ak ?_;refine aT ?_;refine aj (hc:=h72 r hp0) ?_;refine fK ?_;refine cF (fun hc0=>?_) fun hc0=>?_
 ·refine ba ?_;refine bX (aO (congrArg (D.int .u64) ?_) (congrArg (D.int .i64) ?_));all_goals
   simp[Au,hc0]
 refine aA ?_;refine aj (hc:=h220 (ez r).1) (ha:=fun _=>congrArg (fun d=>[d]) (nj (q:=fun b:UInt8=>D.int .u8 b.toNat) (fun _=>rfl) ae)) (hp:=fun _=>⟨kF (q:=fun b:UInt8=>D.int .u8 b.toNat) (fun _=>rfl) ae,trivial⟩) ?_;refine aA ?_;refine bX (aO (congrArg (D.int .u64) ?_) (congrArg (D.int .i64) ?_));all_goals
  simp[Au,hc0]
def C74 (Γ:Ctx):Prop:=∀(r:Rec),(il r)→Γ.pre 74 [Rec.D r]∧Γ.val 74 [Rec.D r]=.tup [.int .u64 (Au r),.int .i64 (ez r).2]
end Go.Abs
end
section
namespace Go.Abs
open Go
def xU:aB:=⟨0,8,[⟨0,none⟩],cn,(sq (r1 [gm dx] 0 0) (sq (rg [gx 76 [(cs [112,97,99,107,97,103,101,32,97,112,112,32,49,46,48,46,48,10,110,101,101,100,10,97,110,121,32,98,32,120,32,102,117,108,108,32,94,49,10,119,104,101,110,32,111,115,32,61,32,120,10,98,97,114,32,99,32,42,10,102,101,97,116,117,114,101,32,121,32,98,47,122,10])] cn,gm l0,ge l1 0,ge l1 1,ge l1 2,gb 9 (.c (.agg [.str [],.int .i64 0,.int .i64 0,.int .i64 0,.str [],.str [],.au,.au,.au])),gt 9 l5 l2,gm l3,gm l4] [(1,5),(2,7),(4,8)]) (sq (rg [gk 9 true s1,gx 72 [l0] [[.a,.a,.a,.a,.a,.a,.sl 3 [.sl 4 [.a,.a,.sl 1 [.a],.a],.a,.a],.sl 3 [.a,.a,.a],.sl 2 [.a,.sl 1 [.a]]]],gm l1,ge l2 0,ge l2 1,gm l3,gm l4] [(5,5),(3,6)]) (sq (rg [gx 76 [(cs [112,97,99,107,97,103,101,32,97,112,112,32,49,46,48,46,48,10,97,110,121,32,98,32,45,32,102,117,108,108,32,42,10])] cn,gm l0,ge l1 0,ge l1 1,ge l1 2,gb 9 (.c (.agg [.str [],.int .i64 0,.int .i64 0,.int .i64 0,.str [],.str [],.au,.au,.au])),gt 9 l5 l2,gm l3,gm l4] [(6,7),(7,8)]) (sq (r1 [gm s2,aE l0 bD,gm l1,gmt 2 s3,cE 2 (cP l3 bD),gp l2 l4,gm l5,gmt 6 s4,cE 6 (cP l7 bD),gp l6 l8,gm l9,rJ 10 6 s1,px 10 jK,cE 10 (.len lu),cE 10 (cP nu b9),gp l10 n7,gm oY,rJ 16 7 s1,px 16 wo,cE 16 (.len wX),cE 16 (cP y5 b9),gp q9 A3,gm Ch,gmt 22 s5,cE 22 (.lenS Ia),cE 22 (cP Ib (i6 73)),gp Ee Jv,gm Kz,gmt 27 s6,cE 27 (cP Mw kn),gp Mv Mx,gm l30,gmt 31 s7,cE 31 (cP l32 kn),gp l31 l33,gm l34] 0 35) .ret)))))⟩
def w69 {Γ:Ctx}(hm:(Γ.at 0).bm)(h72:C72 Γ)(h76:C76 Γ)    :dS Γ xU (.bool true) []:=by
 show bx _ _ _ [_,_,_,_,_,_,_,_] _;refine ak ?_;refine az ?_;refine aj (v:=.tup [Rec.D Db,.int .i64 0,.int .i64 0]) (hc:=by have:=h76 awT;rw[aw1]at this;exact this) ?_;refine ax ?_;refine fG (Rec.D _) ?_;refine az ?_;refine aF (Rec.D Db) (he:=by exact rfl) ?_;refine aA ?_;refine cy (d:=Rec.D Db) ?_;refine aj (v:=.tup [.str awT,.int .i64 0]) (hc:=by have:=h72 Db Jb;rw[aw3]at this;exact this) ?_;refine ba ?_;refine aj (v:=.tup [Rec.D (fX Gb).1,.int .i64 2,.int .i64 2]) (hc:=by have:=h76 Gb;rw[aw2]at this;exact this) ?_;refine ax ?_;refine fG (Rec.D _) ?_;refine az ?_;refine aF (Rec.D (fX Gb).1) (he:=by exact rfl) ?_;refine tH ?_;refine ch (v:=.sl 3 (Db.needs.map bg.D)) ?_;refine ny ?_;refine aA ?_;refine ch (v:=.sl 3 (Db.bars.map iy.D)) ?_;refine ny ?_;refine aA ?_;refine ny ?_;refine lB ?_;refine bL ?_;decide
def C69 (Γ:Ctx):Prop:=Γ.pre 69 []∧Γ.val 69 []=.bool true
end Go.Abs
end
section
namespace Go.Abs
open Go
def pX:aB:=⟨1,10,jN,cn,(sq (r1 [gm dx] 1 0) (sq (r1 [gm s0,gx 79 [l0,bD,bD] [[.sl 1 [.a]],[.a],[.a]],gb 9 (.c (.agg [.str [],.int .i64 0,.int .i64 0,.int .i64 0,.str [],.str [],.au,.au,.au])),gt 9 l2 l1] 2 2) (sq (rg [gk 9 true s2,gx 72 [l0] [[.a,.a,.a,.a,.a,.a,.sl 3 [.sl 4 [.a,.a,.sl 1 [.a],.a],.a,.a],.sl 3 [.a,.a,.a],.sl 2 [.a,.sl 1 [.a]]]],gm l1,ge l2 0,ge l2 1,gm l3,gm l4] [(8,5),(4,6)]) (sq (rg [gk 9 true s2,gx 74 [l0] [[.a,.a,.a,.a,.a,.a,.sl 3 [.sl 4 [.a,.a,.sl 1 [.a],.a],.a,.a],.sl 3 [.a,.a,.a],.sl 2 [.a,.sl 1 [.a]]]],gm l1,ge l2 0,ge l2 1,gm l3,gm l4] [(7,5),(5,6)]) (sq (r1 [gk 9 true s2,gb 9 (.c (.agg [.str [],.int .i64 0,.int .i64 0,.int .i64 0,.str [],.str [],.au,.au,.au])),gt 9 l1 l0] 3 1) (sq (rg [gf 1 s2,gf 0 l0,gd l1,av l2 b9,gn (.bin .rem l3 (i6 10)),gf 1 s3,gf 0 l5,gt 1 l6 l4] []) (sq (rg [gk 9 true s3,gx 74 [l0] [[.a,.a,.a,.a,.a,.a,.sl 3 [.sl 4 [.a,.a,.sl 1 [.a],.a],.a,.a],.sl 3 [.a,.a,.a],.sl 2 [.a,.sl 1 [.a]]]],gm l1,ge l2 0,ge l2 1,gm l3,gm l4] [(9,5),(6,6)]) (sq (r1 [gx 69 [] [],gm l0,gmt 1 s4,cE 1 (cP l2 bD),gp l1 l3,gm l4,gmt 5 s5,cE 5 (cP l6 bD),gp l5 l7,gm l8,gmt 9 s6,cE 9 (cP l10 bD),gp l9 jK,gm lu,gmt 13 s7,gmt 13 s8,cE 13 (.s2b oY),cE 13 (.call 220 [q9] [[.sl 1 [.a]]]),cE 13 (cP n7 wo),gp nu wX,gm y5,gmt 20 s9,gmt 20 s7,cE 20 (eJ Ch Ee),gp A3 Ia,gm Ib] 1 25) .ret))))))))⟩
def MY {Γ:Ctx}(hm:(Γ.at 0).bm)(h69:C69 Γ)(h72:C72 Γ)(h74:C74 Γ)(h79:C79 Γ)(h220:Iv Γ)(l:List Int)   :dS Γ pX (.bool true) [.sl 1 (l.map (D.int .i64))]:=by
 show bx _ _ _ [⟨_,_⟩,_,_,_,_,_,_,_,_,_] _;refine ak ?_;refine aA ?_;refine aj (hc:=h79 l 0 0 (by decide) (by decide)) ?_;refine ax ?_;refine aF (Rec.D (kj l 0 0)) (he:=by exact rfl) ?_;refine ax ?_;have hg:=sA l 0 0;have hu:=uX l;have hr:=bN l 0 3 (by decide);refine ax ?_;refine cy (d:=Rec.D (kj l 0 0)) ?_;refine aj (v:=.tup [.str (eZ (kj l 0 0)),.int .i64 0]) (hc:=by have:=h72 _ hg.sm;rw[hg.print]at this;exact this) ?_;refine ba ?_;refine cy (d:=Rec.D (kj l 0 0)) ?_;refine aj (v:=.tup [.int .u64 (ou (eZ (kj l 0 0))),.int .i64 0]) (hc:=by have:=h74 _ hg.sm;rw[hg.sum,hg.print]at this;exact this) ?_;refine ba ?_;refine cy (d:=Rec.D (kj l 0 0)) ?_;refine ax ?_;refine aF (Rec.D (kj l 0 0)) (he:=by exact rfl) ?_;refine aA ?_;refine ch (v:=.int .i64 (cJ l 0 3)) ?_;refine ax ?_;refine yj (cJ l 0 3+1) (hn:=by intro _;omega) (hb:=fun _=>by rw[Int.tmod_eq_emod_of_nonneg (by omega)];omega) ?_;refine ay ?_;refine aF (Rec.D (nJ l)) (he:=by exact rfl) ?_;refine ay ?_;refine cy (d:=Rec.D (nJ l)) ?_;refine aj (v:=.tup [.int .u64 (ou (eZ (nJ l))),.int .i64 0]) (hc:=by have:=h74 _ hu.sm;rw[hu.sum,hu.print]at this;exact this) ?_;refine ba ?_;refine aj (hc:=h69) ?_;refine tH ?_;refine en (hc:=fun hf=>h220 (eZ (kj l 0 0))) (ha:=fun _=>congrArg (fun d=>[d]) (nj (q:=fun b:UInt8=>D.int .u8 b.toNat) (fun _=>rfl) ae)) (hp:=fun _=>⟨kF (q:=fun b:UInt8=>D.int .u8 b.toNat) (fun _=>rfl) ae,trivial⟩) ?_;refine iT ?_;refine bL ?_;have hne:=HC l;simp[hne]
end Go.Abs
end
section
namespace Go.Abs
def Je:List D→Nat
 |_::.int _ (.ofNat 4)::_=>3
 |_=>1
def A69 (T:RT):Prop:=T [] (.bool true)
def A70 (T:RT):Prop:=∀(r:Rec),(il r)→T [Rec.D r] (.tup [.int .i64 (cd r).1,.int .i64 (cd r).2])
def A72 (T:RT):Prop:=∀(r:Rec),(il r)→T [Rec.D r] (.tup [.str (ez r).1,.int .i64 (ez r).2])
def A74 (T:RT):Prop:=∀(r:Rec),(il r)→T [Rec.D r] (.tup [.int .u64 (Au r),.int .i64 (ez r).2])
def A76 (T:RT):Prop:=∀(s:ah),T [.str s] (.tup [Rec.D (fX s).1,.int .i64 (fX s).2.1,.int .i64 (fX s).2.2])
def A79 (T:RT):Prop:=∀(l:List Int)(i:Int)(own:Int),(0≤i∧i≤1000000)→(0≤own∧own≤100000)→T [.sl 1 (l.map (D.int .i64)),.int .i64 i,.int .i64 own] (Rec.D (kj l i own))
def KF (T:RT):Prop:=∀(s:ah)(b:UInt8),(s.length≤1048576)→T [.str s,.str [b]] (.sl 1 ((ai s b.toNat).map D.str))
def KG (T:RT):Prop:=∀(s:ah),(s.length≤1048576)→T [.str s,.str [124,124]] (.sl 1 ((aJ s []).map D.str))
def A124 (T:RT):Prop:=KF T∧KG T
def A208 (T:RT):Prop:=∀(s:ah),T [.str s] (.bool (ek s))
def A209 (T:RT):Prop:=∀(v:dq),(v.sm)→T [dq.D v] (.bool (eh v))
def A210 (T:RT):Prop:=∀(r:Rec)(n:bg),(n.sm)→T [Rec.D r,bg.D n] (.int .i64 (iP r n))
def A211 (T:RT):Prop:=∀(r:Rec)(name:ah)(rng:ah),(rng.length≤1048576)→T [Rec.D r,.str name,.str rng] (.int .i64 (iw r name rng))
def A212 (T:RT):Prop:=∀(s:ah),T [.str s] (.bool (kR s))
def A213 (T:RT):Prop:=∀(l:List bp),(rD l)→T [.sl 2 (l.map bp.D)] (.bool (fh l))
def A214 (T:RT):Prop:=∀(r:Rec)(s:ah),(s.length≤1048576)→T [Rec.D r,.str s] (.int .i64 (iO r s))
def A215 (T:RT):Prop:=∀(r:Rec),(sB r∧il r)→T [Rec.D r] (.str (eZ r))
def A217 (T:RT):Prop:=∀(v:dq),(v.sm)→T [dq.D v] (.bool (eh v))
def A220 (T:RT):Prop:=∀(s:ah),T [.sl 1 ((s).map fun b=>D.int .u8 b.toNat)] (.int .u64 (ou s))
def KH (T:FT):Prop:=∀(r:Ld),(r.sm)→T (Ld.D r) [] (.tup [Rec.D (eo r.rest).1,.bool (qf r.rest).isSome]) (Ld.D (r.to (eo r.rest).2))
def LG:rZ (jY KH):=Gk
def A227 (T:RT):Prop:=∀(n:Int),T [.int .i64 n] (.str (cG n))
def A228 (T:RT):Prop:=∀(l:List Int)(i:Int)(n:Int),(0<n∧n≤9223372036854775807)→T [.sl 1 (l.map (D.int .i64)),.int .i64 i,.int .i64 n] (.int .i64 (cJ l i n))
def A229 (T:RT):Prop:=∀(l:List Int)(i:Int)(own:Int),(0≤i∧i≤2000000)→(0≤own∧own≤1000000)→T [.sl 1 (l.map (D.int .i64)),.int .i64 i,.int .i64 own] (bg.D (dR l i own))
def A230 (T:RT):Prop:=∀(l:List Int)(i:Int),(0≤i∧i≤4000000)→T [.sl 1 (l.map (D.int .i64)),.int .i64 i] (.str (mc l i))
def A231 (T:RT):Prop:=∀(l:List Int)(i:Int),(0≤i∧i≤4000000)→T [.sl 1 (l.map (D.int .i64)),.int .i64 i] (.str (gz l i))
def A232 (T:RT):Prop:=∀(l:List Int)(i:Int)(r:Rec),(0≤i∧i≤2000000)→(∀j:Nat,j<r.needs.length→r.needs[j]!.option.length≤100∧(r.needs[j]!.any.length=1→r.needs[j]!.any[0]!.name.length≤100))→T [.sl 1 (l.map (D.int .i64)),.int .i64 i,Rec.D r] (.sl 2 ((fj l i r).map bp.D))
def A242 (T:RT):Prop:=∀(l:List ah)(sep:ah),(l.length≤1048600)→(sep.length≤4)→(∀t∈l,t.length≤2097200)→T [.sl 1 (l.map D.str),.str sep] (.str (aP sep l))
def A245 (T:RT):Prop:=∀(s:ah)(n:Int),(s.length≤1048576)→(n=-1∨(1≤n∧n≤1000))→T [.str s,.str [32],.int .i64 n] (.sl 1 ((gh n s).map D.str))
def A246 (T:RT):Prop:=∀(l:List ah)(x:ah),T [.sl 1 (l.map D.str),.str x] (.bool (decide (x∈l)))
def A249 (T:RT):Prop:=∀(l:List ah)(x:UInt8),((aP [x] l).length≤1099511627776)→T [.sl 1 (l.map D.str),.int .u8 (x.toNat:Nat)] (.str (aP [x] l))
def A254 (T:RT):Prop:=∀(s:ah)(p:ah),(s.length≤1048576)→(p.length≤1048576)→T [.str s,.str p] (.tup [.str (cS s p).1,.bool (cS s p).2])
def A336 (T:RT):Prop:=∀(n:Int),(0≤n∧n≤9999)→T [.int .i64 n] (.str (cv n.toNat))
def A349 (T:RT):Prop:=∀(s:ah),T [.str s] (.bool (bI s))
def A440 (T:RT):Prop:=∀(n:Int),T [.int .i64 n] (.bool (pR n))
def A441 (T:RT):Prop:=∀(s:ah),(s.length≤1048576)→T [.str s] (.bool (iR s true))
def A442 (T:RT):Prop:=∀(s:ah),(s.length≤1048576)→T [.str s] (.bool (iR s false))
def A443 (T:RT):Prop:=∀(r:Rec)(w:bz)(al:Bool),(w.sm)→T [Rec.D r,bz.D w,.bool al] (.int .i64 (jA r w al))
def A444 (T:RT):Prop:=∀(s:ah),(s.length≤1048576)→T [.str s] (.bool (m5 s))
def A445 (T:RT):Prop:=∀(s:ah),T [.str s] (.tup [jC (kT s).1,.int .i64 (kT s).2])
def A446 (T:RT):Prop:=∀(m:HS),T [jC m] (.str (KB m))
def A447 (T:RT):Prop:=∀(l:List ah),T [.sl 1 (l.map D.str)] (.bool (rising l))
def A448 (T:RT):Prop:=∀(s:ah),(s.length≤1048576)→T [.str s] (.tup [.int .i64 (b7 s).1,.str (b7 s).2.1,.str (b7 s).2.2])
def A449 (T:RT):Prop:=∀(l:List bp)(nm:ah),T [.sl 2 (l.map bp.D),.str nm] (.bool (Ky l nm))
def A451 (T:RT):Prop:=∀(v:dq),(v.sm)→T [dq.D v] (.str (kY v))
def A454 (T:RT):Prop:=∀(c:Int),T [.int .u8 c] (.bool (aM c))
def A455 (T:RT):Prop:=∀(n:Int),T [.int .i64 n] (.bool (pR n))
def A456 (T:RT):Prop:=∀(s:ah)(p:Bool),(s.length≤1048576)→T [.str s,.bool p] (.bool (mG s p))
def A463 (T:RT):Prop:=∀(h:Int)(k:Nat),(k=13)→T [.int .u64 h,.int .i64 (k:Nat)] (.int .u64 (KC h k))
def KI (T:FT):Prop:=∀(r:Ld)(w:ah)(n:Nat)(op:Bool),(r.sm)→(n≤1000)→(op=true→1≤n)→T (Ld.D r) [.str w,.int .i64 (n:Nat),.bool op] (.tup [uc (bo w n op r.rest),.bool (bo w n op r.rest).isSome]) (Ld.D (r.after (bo w n op r.rest)))
def LH:rZ (jY KI):=Gk
def A466 (T:RT):Prop:=∀(s:ah),(s.length≤1048576)→T [.str s] (.tup [dq.D ((lJ s).getD iK),.int .i64 (tD s)])
def KJ (T:FT):Prop:=∀(r:Ld),(r.sm)→T (Ld.D r) [] (bg.D (cY r.rest).1) (Ld.D (r.to (cY r.rest).2))
def LI:rZ (jY KJ):=Gk
def KK (T:FT):Prop:=∀(r:Ld),(r.sm)→T (Ld.D r) [] (.str (bj r.rest).1) (Ld.D (r.to (bj r.rest).2))
def LJ:rZ (jY KK):=Gk
def A469 (T:RT):Prop:=∀(l:List ah),(l.length≤1048600)→T [.sl 1 (l.map D.str)] (.sl 1 (l.map D.str))
def A470 (T:RT):Prop:=∀(s:ah)(b:Int),(s.length≤1048576)→T [.str s,.int .u8 b] (.sl 1 ((ai s b).map D.str))
def A478 (T:RT):Prop:=∀(v:Int)(n:Int),(0<n∧n≤9223372036854775807)→T [.int .i64 v,.int .i64 n] (.int .i64 (v%n))
def A479 (T:RT):Prop:=∀(l:List Int)(i:Int),T [.sl 1 (l.map (D.int .i64)),.int .i64 i] (.int .i64 (fL l i))
def A480 (T:RT):Prop:=∀(l:List Int)(i:Int)(own:Int)(alone:Bool),(0≤i∧i≤3000000)→(0≤own∧own≤1000000)→T [.sl 1 (l.map (D.int .i64)),.int .i64 i,.int .i64 own,.bool alone] (bz.D (hZ l i own alone))
def A481 (T:RT):Prop:=∀(n:Int),T [.int .i64 n] (.str (ib n))
def A482 (T:RT):Prop:=∀(c:bW),(c.v.sm)→T [bW.D c] (.str (cR c))
def A483 (T:RT):Prop:=∀(l:List ah)(s:ah),(l.length≤1000)→T [.sl 1 (l.map D.str),.str s] (.sl 1 ((dD l s).map D.str))
def A487 (T:RT):Prop:=∀(s:ah)(b:UInt8),(s.length≤1048576)→T [.str s,.str [b]] (.tup [.str (dQ s b).1,.str (dQ s b).2.1,.bool (dQ s b).2.2])
def A494 (T:RT):Prop:=∀(l:List ah)(x:ah),T [.sl 1 (l.map D.str),.str x] (.int .i64 (oV l x 0))
def A495 (T:RT):Prop:=∀(s:ah),(s.length≤1048576)→T [.str s] (.tup [gT (iI s).1,.int .i64 (iI s).2])
def A496 (T:RT):Prop:=∀(r:vO),(mE r)→T [gT r] (.str (vb r))
def A533 (T:RT):Prop:=∀(s:ah)(b:Int),(s.length≤1048576)→T [.str s,.int .u8 b] (.sl 1 ((ai s b).map D.str))
def A658 (T:RT):Prop:=∀(s:ah),T [.str s] (.tup [.int .i64 (cT s),.bool (dL s)])
def A659 (T:RT):Prop:=∀(t:ah),T [.str t] (.bool (dc t))
def A661 (T:RT):Prop:=∀(m:HS),T [jC m] (.bool (ua m))
def A662 (T:RT):Prop:=∀(l:List Nd),(fk l∧l.length≤15)→T [.sl 5 (l.map Nd.D)] (.str (ov l))
def A663 (T:RT):Prop:=∀(l:List bp)(nm:ah),T [.sl 2 (l.map bp.D),.str nm] (.int .i64 (findF l nm 0))
def A665 (T:RT):Prop:=∀(n:Int),(0≤n∧n≤9999)→T [.int .i64 n] (.str (cv n.toNat))
def A666 (T:RT):Prop:=∀(t:ah),T [.str t] (.bool (lI t))
def A667 (T:RT):Prop:=∀(s:ah),T [.str s] (.tup [.int .i64 (cT s),.bool (dL s)])
def A668 (T:RT):Prop:=∀(t:ah),T [.str t] (.bool (dc t))
def A675 (T:RT):Prop:=∀(s:ah)(b:Int),T [.str s,.int .u8 b] (.tup [.str (dE s b).1,.str (dE s b).2])
def A676 (T:RT):Prop:=∀(c:bW),(c.v.sm)→T [bW.D c] (.bool (iA c))
def A678 (T:RT):Prop:=∀(op:Int),T [.int .i64 op] (.str (bM op))
def A682 (T:RT):Prop:=∀(s:ah),(s.length≤1048575)→T [.str s] (.tup [bW.D ((gy s).getD dk),.int .i64 (if(gy s).isSome=true then 0 else 6)])
def A683 (T:RT):Prop:=∀(s:ah)(b:UInt8),(b=32)→(s.length≤1048576)→T [.str s,.str [b]] (.str (dZ s))
def A684 (T:RT):Prop:=∀(r:vO),(mE r)→T [gT r] (.tup [.str (if jV r=true then CT r else []),.bool (jV r)])
def A685 (T:RT):Prop:=∀(r:vO),(mE r)→T [gT r] (.bool (pZ r))
def A734 (T:RT):Prop:=∀(n:Int),(0≤n∧n≤9999)→T [.int .i64 n] (.str (cv n.toNat))
def A810 (T:RT):Prop:=∀(l:List Nd),T [.sl 5 (l.map Nd.D)] (.bool (decide (l.length≤15)&&mI l))
def A811 (T:RT):Prop:=∀(l:List Nd)(i:Int),(fk l∧l.length≤15∧0≤i∧i<l.length)→T [.sl 5 (l.map Nd.D),.int .i64 i] (.str (j5 l i))
def u811:List D→Nat:=fun ds=>2*(match ds.getD 1 .any with| .int _ i=>i.toNat|_=>0)
def A819 (T:RT):Prop:=∀(s:ah),(s.length≤1048576)→T [.str s] (.tup [bW.D ((dA s).getD dk),.bool (dA s).isSome])
def A827 (T:RT):Prop:=∀(c:bW),(c.v.sm)→T [bW.D c] (.bool (iA c))
def A828 (T:RT):Prop:=∀(c:bW),(c.v.sm)→T [bW.D c] (.str (cR c))
def A882 (T:RT):Prop:=∀(n:Nat),(n≤9999)→T [.int .u64 (n:Nat)] (.str (cv n))
def A946 (T:RT):Prop:=∀(w:List ah)(es:List D)(b:Bool),T [.ref 3 [dY w (.sl 5 es) b] 0 0] (.str (bH w))
def A950 (T:RT):Prop:=T [] (.sl 1 (lr.map D.str))
def A951 (T:RT):Prop:=∀(l:List Nd)(i:Int)(b:Bool),(fk l∧l.length≤15∧0≤i∧i<l.length)→T [.sl 5 (l.map Nd.D),.int .i64 i,.bool b] (.str (jB (j5 l i) b))
def u951:List D→Nat:=fun ds=>2*(match ds.getD 1 .any with| .int _ i=>i.toNat|_=>0)+1
def A956 (T:RT):Prop:=∀(s:ah)(w:ah),T [.str s,.str w] (.bool (pG s w))
def A957 (T:RT):Prop:=∀(op:Int),T [.int .i64 op] (.str (bM op))
def HK (T:RT):Prop:=∀(l:List Int),T [.sl 1 (l.map (D.int .i64))] (.bool true)
def LF:LK (wu HK):=bC
def aZ:List (Nat×nn):=[(69,rP 16 A69),(70,rP 14 A70),(72,rP 15 A72),(74,rP 16 A74),(76,rP 15 A76),(79,rP 10 A79),(124,rP 1 A124),(208,rP 1 A208),(209,rP 4 A209),(210,rP 13 A210),(211,rP 11 A211),(212,rP 6 A212),(213,rP 3 A213),(214,rP 3 A214),(215,rP 6 A215),(217,rP 4 A217),(220,rP 2 A220),(222,rF 7 KH),(227,rP 2 A227),(228,rP 2 A228),(229,rP 9 A229),(230,rP 7 A230),(231,rP 3 A231),(232,rP 2 A232),(242,rP 1 A242),(245,rP 1 A245),(246,rP 2 A246),(249,rP 1 A249),(254,rP 1 A254),(336,rP 1 A336),(349,rP 1 A349),(440,rP 1 A440),(441,rP 3 A441),(442,rP 2 A442),(443,rP 12 A443),(444,rP 10 A444),(445,rP 5 A445),(446,rP 5 A446),(447,rP 1 A447),(448,rP 2 A448),(449,rP 2 A449),(450,rG 2 IB),(451,rP 5 A451),(452,rG 1 ID),(454,rP 1 A454),(455,rP 1 A455),(456,rP 3 A456),(463,rP 1 A463),(465,rFG 3 KI AE),(466,rP 6 A466),(467,rF 5 KJ),(468,rF 4 KK),(469,rP 1 A469),(470,rP 1 A470),(478,rP 1 A478),(479,rP 1 A479),(480,rP 8 A480),(481,rP 2 A481),(482,rP 6 A482),(483,rP 1 A483),(487,rP 1 A487),(489,rG 1 IG),(494,rP 1 A494),(495,rP 9 A495),(496,rP 8 A496),(533,rP 1 A533),(658,rP 1 A658),(659,rP 1 A659),(660,rG 4 IH (En fun _=>4)),(661,rP 4 A661),(662,rP 3 A662),(663,rP 1 A663),(664,rG 1 IK),(665,rP 2 A665),(666,rP 1 A666),(667,rP 2 A667),(668,rP 1 A668),(675,rP 1 A675),(676,rP 5 A676),(677,rG 3 IM),(678,rP 1 A678),(682,rP 8 A682),(683,rP 1 A683),(684,rP 7 A684),(685,rP 8 A685),(734,rP 2 A734),(808,rG 4 C808 (En Je)),(809,rG 4 C809 (En fun _=>2)),(810,rP 2 A810),(811,rP 2 A811 u811),(819,rP 7 A819),(827,rP 5 A827),(828,rP 6 A828),(882,rP 1 A882),(946,rP 1 A946),(947,rG 2 BB),(948,rG 1 Dn),(949,rG 4 C949 (En fun _=>0)),(950,rP 1 A950),(951,rP 2 A951 u951),(956,rP 1 A956),(957,rP 1 A957),(1031,rG 3 Dg),(1194,rP 17 HK)]
variable {k u v:Nat}
def G69 (hk:16<k:=by decide):C69 (under aZ k u):=dw bC (.inl hk) fun T hT=>hT
def G70 (hk:14<k:=by decide):C70 (under aZ k u):=fun r hp0=>dw bC (.inl hk) fun T hT=>hT r hp0
def G72 (hk:15<k:=by decide):C72 (under aZ k u):=fun r hp0=>dw bC (.inl hk) fun T hT=>hT r hp0
def G74 (hk:16<k:=by decide):C74 (under aZ k u):=fun r hp0=>dw bC (.inl hk) fun T hT=>hT r hp0
def G76 (hk:15<k:=by decide):C76 (under aZ k u):=fun s=>dw bC (.inl hk) fun T hT=>hT s
def G79 (hk:10<k:=by decide):C79 (under aZ k u):=fun l i own hp0 hp1=>dw bC (.inl hk) fun T hT=>hT l i own hp0 hp1
def F1 (hk:1<k:=by decide):Dh (under aZ k u):=fun s b hp=>dw bC (.inl hk) fun T h=>h.1 s b hp
def Ma (hk:1<k:=by decide):HM (under aZ k u):=fun s hp=>dw bC (.inl hk) fun T h=>h.2 s hp
def IW (hk:1<k:=by decide):FR (under aZ k u):=fun s=>dw bC (.inl hk) fun T hT=>hT s
def F2 (hk:4<k:=by decide):Di (under aZ k u):=fun v hp0=>dw bC (.inl hk) fun T hT=>hT v hp0
def G210 (hk:13<k:=by decide):KL (under aZ k u):=fun r n hp0=>dw bC (.inl hk) fun T hT=>hT r n hp0
def LM (hk:11<k:=by decide):Is (under aZ k u):=fun r name rng hp0=>dw bC (.inl hk) fun T hT=>hT r name rng hp0
def LN (hk:6<k:=by decide):It (under aZ k u):=fun s=>dw bC (.inl hk) fun T hT=>hT s
def G213 (hk:3<k:=by decide):KM (under aZ k u):=fun l hp0=>dw bC (.inl hk) fun T hT=>hT l hp0
def G214 (hk:3<k:=by decide):KN (under aZ k u):=fun r s hp0=>dw bC (.inl hk) fun T hT=>hT r s hp0
def LO (hk:6<k:=by decide):Iu (under aZ k u):=fun r hp0=>dw bC (.inl hk) fun T hT=>hT r hp0
def G217 (hk:4<k:=by decide):KO (under aZ k u):=fun v hp0=>dw bC (.inl hk) fun T hT=>hT v hp0
def LP (hk:2<k:=by decide):Iv (under aZ k u):=fun s=>dw bC (.inl hk) fun T hT=>hT s
def G222 (hk:7<k:=by decide):KP (under aZ k u):=fun r hp0=>okf LG hk fun T h=>h r hp0
def LR (hk:2<k:=by decide):Iw (under aZ k u):=fun n=>dw bC (.inl hk) fun T hT=>hT n
def Dq (hk:2<k:=by decide):BA (under aZ k u):=fun l i n hp0=>dw bC (.inl hk) fun T hT=>hT l i n hp0
def G229 (hk:9<k:=by decide):KQ (under aZ k u):=fun l i own hp0 hp1=>dw bC (.inl hk) fun T hT=>hT l i own hp0 hp1
def LU (hk:7<k:=by decide):Ix (under aZ k u):=fun l i hp0=>dw bC (.inl hk) fun T hT=>hT l i hp0
def LV (hk:3<k:=by decide):Iy (under aZ k u):=fun l i hp0=>dw bC (.inl hk) fun T hT=>hT l i hp0
def G232 (hk:2<k:=by decide):KR (under aZ k u):=fun l i r hp0 hp1=>dw bC (.inl hk) fun T hT=>hT l i r hp0 hp1
def IX (hk:1<k:=by decide):FU (under aZ k u):=fun l sep hp0 hp1 hp2=>dw bC (.inl hk) fun T hT=>hT l sep hp0 hp1 hp2
def LW (hk:1<k:=by decide):KS (under aZ k u):=fun s n hp0 hp1=>dw bC (.inl hk) fun T hT=>hT s n hp0 hp1
def LX (hk:2<k:=by decide):KT (under aZ k u):=fun l x=>dw bC (.inl hk) fun T hT=>hT l x
def G249 (hk:1<k:=by decide):KU (under aZ k u):=fun l x hp0=>dw bC (.inl hk) fun T hT=>hT l x hp0
def G254 (hk:1<k:=by decide):KV (under aZ k u):=fun s p hp0 hp1=>dw bC (.inl hk) fun T hT=>hT s p hp0 hp1
def G336 (hk:1<k:=by decide):KW (under aZ k u):=fun n hp0=>dw bC (.inl hk) fun T hT=>hT n hp0
def BD (hk:1<k:=by decide):y8 (under aZ k u):=fun s=>dw bC (.inl hk) fun T hT=>hT s
def G440 (hk:1<k:=by decide):KX (under aZ k u):=fun n=>dw bC (.inl hk) fun T hT=>hT n
def G441 (hk:3<k:=by decide):KY (under aZ k u):=fun s hp0=>dw bC (.inl hk) fun T hT=>hT s hp0
def LY (hk:2<k:=by decide):Iz (under aZ k u):=fun s hp0=>dw bC (.inl hk) fun T hT=>hT s hp0
def G443 (hk:12<k:=by decide):KZ (under aZ k u):=fun r w al hp0=>dw bC (.inl hk) fun T hT=>hT r w al hp0
def G444 (hk:10<k:=by decide):K0 (under aZ k u):=fun s hp0=>dw bC (.inl hk) fun T hT=>hT s hp0
def G445 (hk:5<k:=by decide):K1 (under aZ k u):=fun s=>dw bC (.inl hk) fun T hT=>hT s
def G446 (hk:5<k:=by decide):K2 (under aZ k u):=fun m=>dw bC (.inl hk) fun T hT=>hT m
def G447 (hk:1<k:=by decide):K3 (under aZ k u):=fun l=>dw bC (.inl hk) fun T hT=>hT l
def LZ (hk:2<k:=by decide):IA (under aZ k u):=fun s hp0=>dw bC (.inl hk) fun T hT=>hT s hp0
def G449 (hk:2<k:=by decide):K4 (under aZ k u):=fun l nm=>dw bC (.inl hk) fun T hT=>hT l nm
def G450 (hk:2<k:=by decide):IB (under aZ k u):=fun ws t l lw nx m K h1 h2 h3 h4 h5 hK=>z6 (.inl hk) fun T _ h=>h ws t l lw nx m K h1 h2 h3 h4 h5 hK
def L0 (hk:5<k:=by decide):IC (under aZ k u):=fun v hp0=>dw bC (.inl hk) fun T hT=>hT v hp0
def G452 (hk:1<k:=by decide):ID (under aZ k u):=fun ds st K h1=>z6 (.inl hk) fun T _ h=>h ds st K h1
def G454 (hk:1<k:=by decide):K5 (under aZ k u):=fun c=>dw bC (.inl hk) fun T hT=>hT c
def G455 (hk:1<k:=by decide):K6 (under aZ k u):=fun n=>dw bC (.inl hk) fun T hT=>hT n
def G456 (hk:3<k:=by decide):K7 (under aZ k u):=fun s p hp0=>dw bC (.inl hk) fun T hT=>hT s p hp0
def G463 (hk:1<k:=by decide):K8 (under aZ k u):=fun h k hp0=>dw bC (.inl hk) fun T hT=>hT h k hp0
def L1 (hk:3<k:=by decide):FV (under aZ k u):=fun r w n op hp0 hp1 hp2=>okf LH hk fun T h=>h r w n op hp0 hp1 hp2
def Mb (hk:3<k:=by decide):AE (under aZ k u):=fun r w n op l nx m K h1 h2 h3 h4 hK=>z6 (.inl hk) fun T _ h=>h r w n op l nx m K h1 h2 h3 h4 hK
def G466 (hk:6<k:=by decide):K9 (under aZ k u):=fun s hp0=>dw bC (.inl hk) fun T hT=>hT s hp0
def G467 (hk:5<k:=by decide):IE (under aZ k u):=fun r hp0=>okf LI hk fun T h=>h r hp0
def L2 (hk:4<k:=by decide):FW (under aZ k u):=fun r hp0=>okf LJ hk fun T h=>h r hp0
def G469 (hk:1<k:=by decide):La (under aZ k u):=fun l hp0=>dw bC (.inl hk) fun T hT=>hT l hp0
def G470 (hk:1<k:=by decide):Lb (under aZ k u):=fun s b hp0=>dw bC (.inl hk) fun T hT=>hT s b hp0
def F3 (hk:1<k:=by decide):Dj (under aZ k u):=fun v n hp0=>dw bC (.inl hk) fun T hT=>hT v n hp0
def IY (hk:1<k:=by decide):FX (under aZ k u):=fun l i=>dw bC (.inl hk) fun T hT=>hT l i
def G480 (hk:8<k:=by decide):Lc (under aZ k u):=fun l i own alone hp0 hp1=>dw bC (.inl hk) fun T hT=>hT l i own alone hp0 hp1
def L3 (hk:2<k:=by decide):IF (under aZ k u):=fun n=>dw bC (.inl hk) fun T hT=>hT n
def G482 (hk:6<k:=by decide):Lg (under aZ k u):=fun c hp0=>dw bC (.inl hk) fun T hT=>hT c hp0
def G483 (hk:1<k:=by decide):Lh (under aZ k u):=fun l s hp0=>dw bC (.inl hk) fun T hT=>hT l s hp0
def G487 (hk:1<k:=by decide):Li (under aZ k u):=fun s b hp0=>dw bC (.inl hk) fun T hT=>hT s b hp0
def G489 (hk:1<k:=by decide):IG (under aZ k u):=fun ds st K h1=>z6 (.inl hk) fun T _ h=>h ds st K h1
def G494 (hk:1<k:=by decide):Lj (under aZ k u):=fun l x=>dw bC (.inl hk) fun T hT=>hT l x
def G495 (hk:9<k:=by decide):Lk (under aZ k u):=fun s hp0=>dw bC (.inl hk) fun T hT=>hT s hp0
def G496 (hk:8<k:=by decide):Ll (under aZ k u):=fun r hp0=>dw bC (.inl hk) fun T hT=>hT r hp0
def F4 (hk:1<k:=by decide):Dk (under aZ k u):=fun s b hp0=>dw bC (.inl hk) fun T hT=>hT s b hp0
def IZ (hk:1<k:=by decide):FY (under aZ k u):=fun s=>dw bC (.inl hk) fun T hT=>hT s
def G659 (hk:1<k:=by decide):Lm (under aZ k u):=fun t=>dw bC (.inl hk) fun T hT=>hT t
def G660 (hk:4<k:=by decide):IH (under aZ k u):=fun w nd hp0 nx lp ln m K h1 h2 h3 h4 hK=>z6 (.inl hk) fun T _ h=>h w nd hp0 nx lp ln m K h1 h2 h3 h4 hK
def L4 (hv:v≤u):HL (under aZ 4 u) v:=fun w nd hp0 hu nx lp ln m K h1 h2 h3 h4 hK=>z6 (.inr ⟨rfl,by rw[show(lk aZ 660 jx).muE=En fun _=>4 from rfl,js h1];exact Nat.lt_of_lt_of_le hu hv⟩) fun T _ h=>h w nd hp0 nx lp ln m K h1 h2 h3 h4 hK
def L5 (hk:4<k:=by decide):II (under aZ k u):=fun m=>dw bC (.inl hk) fun T hT=>hT m
def L6 (hk:3<k:=by decide):IJ (under aZ k u):=fun l hp0=>dw bC (.inl hk) fun T hT=>hT l hp0
def G663 (hk:1<k:=by decide):Ln (under aZ k u):=fun l nm=>dw bC (.inl hk) fun T hT=>hT l nm
def G664 (hk:1<k:=by decide):IK (under aZ k u):=fun ds st K h1=>z6 (.inl hk) fun T _ h=>h ds st K h1
def L7 (hk:2<k:=by decide):IL (under aZ k u):=fun n hp0=>dw bC (.inl hk) fun T hT=>hT n hp0
def G666 (hk:1<k:=by decide):Lo (under aZ k u):=fun t=>dw bC (.inl hk) fun T hT=>hT t
def G667 (hk:2<k:=by decide):Lp (under aZ k u):=fun s=>dw bC (.inl hk) fun T hT=>hT s
def G668 (hk:1<k:=by decide):Lq (under aZ k u):=fun t=>dw bC (.inl hk) fun T hT=>hT t
def G675 (hk:1<k:=by decide):Lr (under aZ k u):=fun s b=>dw bC (.inl hk) fun T hT=>hT s b
def G676 (hk:5<k:=by decide):Ls (under aZ k u):=fun c hp0=>dw bC (.inl hk) fun T hT=>hT c hp0
def G677 (hk:3<k:=by decide):IM (under aZ k u):=fun c hp0 nx m K hK=>z6 (.inl hk) fun T _ h=>h c hp0 nx m K hK
def G678 (hk:1<k:=by decide):Lt (under aZ k u):=fun op=>dw bC (.inl hk) fun T hT=>hT op
def G682 (hk:8<k:=by decide):Lu (under aZ k u):=fun s hp0=>dw bC (.inl hk) fun T hT=>hT s hp0
def G683 (hk:1<k:=by decide):Lv (under aZ k u):=fun s b hp0 hp1=>dw bC (.inl hk) fun T hT=>hT s b hp0 hp1
def I0 (hk:7<k:=by decide):FZ (under aZ k u):=fun r hp0=>dw bC (.inl hk) fun T hT=>hT r hp0
def G685 (hk:8<k:=by decide):Lw (under aZ k u):=fun r hp0=>dw bC (.inl hk) fun T hT=>hT r hp0
def G734 (hk:2<k:=by decide):Lx (under aZ k u):=fun n hp0=>dw bC (.inl hk) fun T hT=>hT n hp0
def HP (hv:v≤u):Dl (under aZ 4 u) v:=⟨fun w nd hp0 hu nx lp ln m K h1 h2 h3 h4 hK=>z6 (.inr ⟨rfl,by rw[show(lk aZ 808 jx).muE=En Je from rfl,js h1];exact Nat.lt_of_lt_of_le hu hv⟩) fun T _ h=>h.1 w nd hp0 nx lp ln m K h1 h2 h3 h4 hK,fun w nd hp0 hu nx lp ln m K h1 h2 h3 h4 hK=>z6 (.inr ⟨rfl,by rw[show(lk aZ 808 jx).muE=En Je from rfl,js h1];exact Nat.lt_of_lt_of_le hu hv⟩) fun T _ h=>h.2 w nd hp0 nx lp ln m K h1 h2 h3 h4 hK⟩
def L8 (hv:v≤u):Ly (under aZ 4 u) v:=fun w nd hp0 hu nx lp ln m K h1 h2 h3 h4 hK=>z6 (.inr ⟨rfl,by rw[show(lk aZ 809 jx).muE=En fun _=>2 from rfl,js h1];exact Nat.lt_of_lt_of_le hu hv⟩) fun T _ h=>h w nd hp0 nx lp ln m K h1 h2 h3 h4 hK
def G810 (hk:2<k:=by decide):Lz (under aZ k u):=fun l=>dw bC (.inl hk) fun T hT=>hT l
def G811 (hk:2<k:=by decide):LA (under aZ k u):=fun l i hp0=>dw bC (.inl hk) fun T hT=>hT l i hp0
def HQ (hv:v≤u):Dm (under aZ 2 u) v:=fun l i hp0 hu=>dw bC (.inr ⟨rfl,Nat.lt_of_lt_of_le hu hv⟩) fun T hT=>hT l i hp0
def G819 (hk:7<k:=by decide):LB (under aZ k u):=fun s hp0=>dw bC (.inl hk) fun T hT=>hT s hp0
def I1 (hk:5<k:=by decide):F0 (under aZ k u):=fun c hp0=>dw bC (.inl hk) fun T hT=>hT c hp0
def L9 (hk:6<k:=by decide):IP (under aZ k u):=fun c hp0=>dw bC (.inl hk) fun T hT=>hT c hp0
def G882 (hk:1<k:=by decide):LC (under aZ k u):=fun n hp0=>dw bC (.inl hk) fun T hT=>hT n hp0
def I2 (hk:1<k:=by decide):IQ (under aZ k u):=fun w es b=>dw bC (.inl hk) fun T hT=>hT w es b
def F5 (hk:2<k:=by decide):BB (under aZ k u):=fun w nd b nx lp ln m K h1 h2 h3 h4 hK=>z6 (.inl hk) fun T _ h=>h w nd b nx lp ln m K h1 h2 h3 h4 hK
def F6 (hk:1<k:=by decide):Dn (under aZ k u):=fun x w nd b hp0 nx lp ln m K h1 h2 h3 h4 hK=>z6 (.inl hk) fun T _ h=>h x w nd b hp0 nx lp ln m K h1 h2 h3 h4 hK
def HR (hv:v≤u):HN (under aZ 4 u) v:=fun w nd hp0 hu nx lp ln m K h1 h2 h3 h4 hK=>z6 (.inr ⟨rfl,by rw[show(lk aZ 949 jx).muE=En fun _=>0 from rfl,js h1];exact Nat.lt_of_lt_of_le hu hv⟩) fun T _ h=>h w nd hp0 nx lp ln m K h1 h2 h3 h4 hK
def Mc (hk:1<k:=by decide):IU (under aZ k u):=dw bC (.inl hk) fun T hT=>hT
def Md (hv:v≤u):HO (under aZ 2 u) v:=fun l i b hp0 hu=>dw bC (.inr ⟨rfl,Nat.lt_of_lt_of_le hu hv⟩) fun T hT=>hT l i b hp0
def G956 (hk:1<k:=by decide):LD (under aZ k u):=fun s w=>dw bC (.inl hk) fun T hT=>hT s w
def Me (hk:1<k:=by decide):IV (under aZ k u):=fun op=>dw bC (.inl hk) fun T hT=>hT op
def LL (hk:3<k:=by decide):Dg (under aZ k u):=fun k w nd b hp0 nx lp ln m K h1 h2 h3 h4 hK=>z6 (.inl hk) fun T _ h=>h k w nd b hp0 nx lp ln m K h1 h2 h3 h4 hK
end Go.Abs
end
namespace Go.Abs
def rh:List (Nat×Nat):=[(9,1194),(12,69),(13,76),(17,79),(18,478),(19,228),(20,70),(21,72),(24,74),(26,220),(28,124),(29,222),(35,227),(36,229),(37,230),(38,231),(39,232),(40,479),(41,208),(42,209),(43,210),(44,211),(45,212),(46,213),(47,214),(48,215),(51,217),(54,463),(61,465),(62,466),(63,467),(64,468),(65,469),(66,470),(77,249),(78,480),(79,481),(80,482),(81,483),(82,440),(83,441),(84,442),(85,443),(86,349),(87,444),(88,445),(89,446),(90,447),(91,448),(92,449),(93,450),(94,451),(95,242),(96,452),(98,454),(99,455),(100,456),(112,245),(113,246),(114,675),(115,533),(116,658),(119,676),(120,677),(121,678),(122,659),(123,495),(124,496),(125,660),(126,661),(127,662),(128,254),(129,487),(130,663),(131,489),(132,664),(133,665),(135,666),(136,667),(137,668),(150,494),(153,734),(154,682),(155,683),(156,684),(157,685),(158,808),(159,809),(160,810),(161,811),(165,336),(179,882),(180,819),(188,827),(189,828),(190,946),(191,947),(192,948),(193,949),(194,950),(195,951),(212,956),(213,957),(217,1031)]
def DM:List Nat:=[219,1091,1354,1894,1896,1616,1320,1618,1898,2062,2066,2282,2068,2252,2194,2064,1904,900,931,937,935,445,978,1328,904,942,944,946,952,448,1000000133]
def bw:(Go.Proofs.Tryz.prog).follows .mixedOrders=true:=by kernel_rfl
abbrev Ow [bS](f n:Nat):Prop:=Kt Go.Proofs.Tryz.prog rh DM aZ f n
abbrev Cp (f:Nat)(a:aB):Prop:=Dp Go.Proofs.Tryz.prog rh DM f a
def ck {f:Nat}{a:aB}(h:((Go.Proofs.Tryz.prog).funcs[f]?).map (fun f=>(compile Go.Proofs.Tryz.prog rh DM f,f.name== "runtime.NumGoroutine"))=some (some a,false):=by kernel_rfl):Cp f a:=h
end Go.Abs
section
namespace Go.Proofs
open Go.Shelf
def Tryz.Ge:Go.Shelf.Ren:=⟨fun|166=>131|167=>132|169=>96|240=>164|276=>197|n=>n,fun|70=>131|9=>9|0=>0|72=>133|37=>53|3=>3|5=>5|4=>4|20=>20|75=>172|80=>99|164=>215|127=>177|n=>n,fun|n=>n⟩
def Tryz.AK:Go.Proofs.Lays.n166 Tryz.prog Tryz.Ge:={
 mixed:=by kernel_rfl
 f166:=Tryz.func131.trans (congrArg some (by kernel_rfl))
 f240:=Tryz.func164.trans (congrArg some (by kernel_rfl))
 f276:=Tryz.func197.trans (congrArg some (by kernel_rfl))
 t0:=Tryz.underlying0
 a0:=Tryz.isAgg0
 z0:=Tryz.sizeOf0
 v0:=Tryz.zeroValue0
 t3:=Tryz.underlying3
 a3:=Tryz.isAgg3
 z3:=Tryz.sizeOf3
 v3:=Tryz.zeroValue3
 t4:=Tryz.underlying4
 a4:=Tryz.isAgg4
 z4:=Tryz.sizeOf4
 v4:=Tryz.zeroValue4
 t9:=Tryz.underlying9
 a9:=Tryz.isAgg9
 z9:=Tryz.sizeOf9
 v9:=Tryz.zeroValue9
 t20:=Tryz.underlying20
 a20:=Tryz.isAgg20
 z20:=Tryz.sizeOf20
 v20:=Tryz.zeroValue20
 t37:=Tryz.underlying53
 a37:=Tryz.isAgg53
 z37:=Tryz.sizeOf53
 v37:=Tryz.zeroValue53
 t70:=Tryz.underlying131
 a70:=Tryz.isAgg131
 z70:=Tryz.sizeOf131
 v70:=Tryz.zeroValue131
 t72:=Tryz.underlying133
 a72:=Tryz.isAgg133
 z72:=Tryz.sizeOf133
 v72:=Tryz.zeroValue133
 t75:=Tryz.underlying172
 a75:=Tryz.isAgg172
 z75:=Tryz.sizeOf172
 v75:=Tryz.zeroValue172
 t164:=Tryz.underlying215
 a164:=Tryz.isAgg215
 z164:=Tryz.sizeOf215
 v164:=Tryz.zeroValue215}
def Tryz.AL:Go.Proofs.Lays.n167 Tryz.prog Tryz.Ge:={
 mixed:=by kernel_rfl
 f167:=Tryz.func132.trans (congrArg some (by kernel_rfl))
 f240:=Tryz.func164.trans (congrArg some (by kernel_rfl))
 f276:=Tryz.func197.trans (congrArg some (by kernel_rfl))
 t0:=Tryz.underlying0
 a0:=Tryz.isAgg0
 z0:=Tryz.sizeOf0
 v0:=Tryz.zeroValue0
 t4:=Tryz.underlying4
 a4:=Tryz.isAgg4
 z4:=Tryz.sizeOf4
 v4:=Tryz.zeroValue4
 t5:=Tryz.underlying5
 a5:=Tryz.isAgg5
 z5:=Tryz.sizeOf5
 v5:=Tryz.zeroValue5
 t9:=Tryz.underlying9
 a9:=Tryz.isAgg9
 z9:=Tryz.sizeOf9
 v9:=Tryz.zeroValue9
 t20:=Tryz.underlying20
 a20:=Tryz.isAgg20
 z20:=Tryz.sizeOf20
 v20:=Tryz.zeroValue20
 t37:=Tryz.underlying53
 a37:=Tryz.isAgg53
 z37:=Tryz.sizeOf53
 v37:=Tryz.zeroValue53
 t70:=Tryz.underlying131
 a70:=Tryz.isAgg131
 z70:=Tryz.sizeOf131
 v70:=Tryz.zeroValue131
 t72:=Tryz.underlying133
 a72:=Tryz.isAgg133
 z72:=Tryz.sizeOf133
 v72:=Tryz.zeroValue133
 t75:=Tryz.underlying172
 a75:=Tryz.isAgg172
 z75:=Tryz.sizeOf172
 v75:=Tryz.zeroValue172
 t164:=Tryz.underlying215
 a164:=Tryz.isAgg215
 z164:=Tryz.sizeOf215
 v164:=Tryz.zeroValue215}
def Tryz.AM:Go.Proofs.Lays.n169 Tryz.prog Tryz.Ge:={
 mixed:=by kernel_rfl
 f169:=Tryz.func96.trans (congrArg some (by kernel_rfl))
 t0:=Tryz.underlying0
 a0:=Tryz.isAgg0
 z0:=Tryz.sizeOf0
 v0:=Tryz.zeroValue0
 t3:=Tryz.underlying3
 a3:=Tryz.isAgg3
 z3:=Tryz.sizeOf3
 v3:=Tryz.zeroValue3
 t9:=Tryz.underlying9
 a9:=Tryz.isAgg9
 z9:=Tryz.sizeOf9
 v9:=Tryz.zeroValue9
 t37:=Tryz.underlying53
 a37:=Tryz.isAgg53
 z37:=Tryz.sizeOf53
 v37:=Tryz.zeroValue53
 t70:=Tryz.underlying131
 a70:=Tryz.isAgg131
 z70:=Tryz.sizeOf131
 v70:=Tryz.zeroValue131
 t72:=Tryz.underlying133
 a72:=Tryz.isAgg133
 z72:=Tryz.sizeOf133
 v72:=Tryz.zeroValue133
 t127:=Tryz.underlying177
 a127:=Tryz.isAgg177
 z127:=Tryz.sizeOf177
 v127:=Tryz.zeroValue177}
def Tryz.Jc:Builder.Extra Tryz.prog Tryz.Ge:={
 sizeBuilder:=by kernel_rfl
 liesBuilder:=by kernel_rfl
 t5:=Tryz.underlying5
 a5:=Tryz.isAgg5
 z5:=Tryz.sizeOf5
 v5:=Tryz.zeroValue5
 infoByte:=by kernel_rfl
 cellsByte:=by kernel_rfl
 sizeByte:=by kernel_rfl
 neB5:=by decide}
end Go.Proofs
end
section
namespace Go.Proofs
open Go.Shelf
def Tryz.lays156_ren:Go.Shelf.Ren:=⟨fun|156=>95|165=>134|166=>131|169=>96|240=>164|241=>166|276=>197|277=>199|n=>n,fun|31=>55|9=>9|3=>3|4=>4|0=>0|20=>20|72=>133|76=>173|70=>131|37=>53|75=>172|127=>177|164=>215|5=>5|80=>99|n=>n,fun|n=>n⟩
def Tryz.lays156:Go.Proofs.Lays.n156 Tryz.prog Tryz.lays156_ren:={
 mixed:=by kernel_rfl
 f156:=Tryz.func95.trans (congrArg some (by kernel_rfl))
 f165:=Tryz.func134.trans (congrArg some (by kernel_rfl))
 f166:=Tryz.func131.trans (congrArg some (by kernel_rfl))
 f169:=Tryz.func96.trans (congrArg some (by kernel_rfl))
 f240:=Tryz.func164.trans (congrArg some (by kernel_rfl))
 f241:=Tryz.func166.trans (congrArg some (by kernel_rfl))
 f276:=Tryz.func197.trans (congrArg some (by kernel_rfl))
 f277:=Tryz.func199.trans (congrArg some (by kernel_rfl))
 t0:=Tryz.underlying0
 a0:=Tryz.isAgg0
 z0:=Tryz.sizeOf0
 v0:=Tryz.zeroValue0
 t3:=Tryz.underlying3
 a3:=Tryz.isAgg3
 z3:=Tryz.sizeOf3
 v3:=Tryz.zeroValue3
 t4:=Tryz.underlying4
 a4:=Tryz.isAgg4
 z4:=Tryz.sizeOf4
 v4:=Tryz.zeroValue4
 t9:=Tryz.underlying9
 a9:=Tryz.isAgg9
 z9:=Tryz.sizeOf9
 v9:=Tryz.zeroValue9
 t20:=Tryz.underlying20
 a20:=Tryz.isAgg20
 z20:=Tryz.sizeOf20
 v20:=Tryz.zeroValue20
 t31:=Tryz.underlying55
 a31:=Tryz.isAgg55
 z31:=Tryz.sizeOf55
 v31:=Tryz.zeroValue55
 t37:=Tryz.underlying53
 a37:=Tryz.isAgg53
 z37:=Tryz.sizeOf53
 v37:=Tryz.zeroValue53
 t70:=Tryz.underlying131
 a70:=Tryz.isAgg131
 z70:=Tryz.sizeOf131
 v70:=Tryz.zeroValue131
 t72:=Tryz.underlying133
 a72:=Tryz.isAgg133
 z72:=Tryz.sizeOf133
 v72:=Tryz.zeroValue133
 t75:=Tryz.underlying172
 a75:=Tryz.isAgg172
 z75:=Tryz.sizeOf172
 v75:=Tryz.zeroValue172
 t76:=Tryz.underlying173
 a76:=Tryz.isAgg173
 z76:=Tryz.sizeOf173
 v76:=Tryz.zeroValue173
 t127:=Tryz.underlying177
 a127:=Tryz.isAgg177
 z127:=Tryz.sizeOf177
 v127:=Tryz.zeroValue177
 t164:=Tryz.underlying215
 a164:=Tryz.isAgg215
 z164:=Tryz.sizeOf215
 v164:=Tryz.zeroValue215}
def Tryz.Builder_Extra_156:Builder.Extra Tryz.prog Tryz.lays156_ren:={
 sizeBuilder:=by kernel_rfl
 liesBuilder:=by kernel_rfl
 t5:=Tryz.underlying5
 a5:=Tryz.isAgg5
 z5:=Tryz.sizeOf5
 v5:=Tryz.zeroValue5
 infoByte:=by kernel_rfl
 cellsByte:=by kernel_rfl
 sizeByte:=by kernel_rfl
 neB5:=by decide}
open Go.RowKit in
theorem Tryz.strings_Join_none (a:Option Addr)(c:Nat)(sep:ByteArray)(w:World):
  Calls Tryz.prog 95 #[.slice a 0 c,.string sep] w fun e w'=>e=.returned (.string ⟨#[]⟩)∧w'=w:=Any.strings_Join_none Tryz.lays156 Tryz.Builder_Extra_156 a c sep w
open Go.RowKit in
theorem Tryz.strings_Join (bk o c:Nat)(xs:List ByteArray)(sep:ByteArray)(w:World)(hcells:∀(j:Nat) x,xs[j]? =some x→w.cell? ⟨bk,o+j,none⟩=some (.string x))(hbk:bk<w.heap.size)(hN:xs.length≤140737488355328)(hcap:xs.length≤c)(hlen:(Lib.join (xs.map (·.data.toList)) sep.data.toList).length≤140737488355328):
  Calls Tryz.prog 95 #[.slice (some ⟨bk,o,none⟩) xs.length c,.string sep] w fun e w'=>e=.returned (.string ⟨(Lib.join (xs.map (·.data.toList)) sep.data.toList).toArray⟩)∧Below w.heap.size w w':=Any.strings_Join Tryz.lays156 Tryz.Builder_Extra_156 bk o c xs sep w hcells hbk hN hcap hlen
def Tryz.lays160_ren:Go.Shelf.Ren:=⟨fun|160=>155|232=>182|231=>181|227=>183|234=>185|233=>184|236=>187|235=>186|228=>214|271=>216|151=>215|197=>147|120=>228|152=>227|260=>174|137=>238|119=>239|224=>177|225=>176|217=>175|266=>210|n=>n,fun|9=>9|4=>4|3=>3|5=>5|117=>205|116=>204|0=>0|124=>208|21=>21|105=>181|46=>89|119=>222|139=>225|138=>224|n=>n,fun|3=>1|4=>2|n=>n⟩
def Tryz.lays160:Go.Proofs.Lays.n160 Tryz.prog Tryz.lays160_ren:={
 mixed:=by kernel_rfl
 f119:=Tryz.func239.trans (congrArg some (by kernel_rfl))
 f120:=Tryz.func228.trans (congrArg some (by kernel_rfl))
 f137:=Tryz.func238.trans (congrArg some (by kernel_rfl))
 f151:=Tryz.func215.trans (congrArg some (by kernel_rfl))
 f152:=Tryz.func227.trans (congrArg some (by kernel_rfl))
 f160:=Tryz.func155.trans (congrArg some (by kernel_rfl))
 f197:=Tryz.func147.trans (congrArg some (by kernel_rfl))
 f217:=Tryz.func175.trans (congrArg some (by kernel_rfl))
 f224:=Tryz.func177.trans (congrArg some (by kernel_rfl))
 f225:=Tryz.func176.trans (congrArg some (by kernel_rfl))
 f227:=Tryz.func183.trans (congrArg some (by kernel_rfl))
 f228:=Tryz.func214.trans (congrArg some (by kernel_rfl))
 f231:=Tryz.func181.trans (congrArg some (by kernel_rfl))
 f232:=Tryz.func182.trans (congrArg some (by kernel_rfl))
 f233:=Tryz.func184.trans (congrArg some (by kernel_rfl))
 f234:=Tryz.func185.trans (congrArg some (by kernel_rfl))
 f235:=Tryz.func186.trans (congrArg some (by kernel_rfl))
 f236:=Tryz.func187.trans (congrArg some (by kernel_rfl))
 f260:=Tryz.func174.trans (congrArg some (by kernel_rfl))
 f266:=Tryz.func210.trans (congrArg some (by kernel_rfl))
 f271:=Tryz.func216.trans (congrArg some (by kernel_rfl))
 t0:=Tryz.underlying0
 a0:=Tryz.isAgg0
 z0:=Tryz.sizeOf0
 v0:=Tryz.zeroValue0
 t3:=Tryz.underlying3
 a3:=Tryz.isAgg3
 z3:=Tryz.sizeOf3
 v3:=Tryz.zeroValue3
 t4:=Tryz.underlying4
 a4:=Tryz.isAgg4
 z4:=Tryz.sizeOf4
 v4:=Tryz.zeroValue4
 t5:=Tryz.underlying5
 a5:=Tryz.isAgg5
 z5:=Tryz.sizeOf5
 v5:=Tryz.zeroValue5
 t9:=Tryz.underlying9
 a9:=Tryz.isAgg9
 z9:=Tryz.sizeOf9
 v9:=Tryz.zeroValue9
 t21:=Tryz.underlying21
 a21:=Tryz.isAgg21
 z21:=Tryz.sizeOf21
 v21:=Tryz.zeroValue21
 t46:=Tryz.underlying89
 a46:=Tryz.isAgg89
 z46:=Tryz.sizeOf89
 v46:=Tryz.zeroValue89
 t105:=Tryz.underlying181
 a105:=Tryz.isAgg181
 z105:=Tryz.sizeOf181
 v105:=Tryz.zeroValue181
 t116:=Tryz.underlying204
 a116:=Tryz.isAgg204
 z116:=Tryz.sizeOf204
 t117:=Tryz.underlying205
 a117:=Tryz.isAgg205
 z117:=Tryz.sizeOf205
 v117:=Tryz.zeroValue205
 t119:=Tryz.underlying222
 a119:=Tryz.isAgg222
 z119:=Tryz.sizeOf222
 t124:=Tryz.underlying208
 a124:=Tryz.isAgg208
 z124:=Tryz.sizeOf208
 v124:=Tryz.zeroValue208
 t138:=Tryz.underlying224
 a138:=Tryz.isAgg224
 z138:=Tryz.sizeOf224
 v138:=Tryz.zeroValue224
 t139:=Tryz.underlying225
 a139:=Tryz.isAgg225
 z139:=Tryz.sizeOf225
 v139:=Tryz.zeroValue225
 g3:=by kernel_rfl
 g4:=by kernel_rfl}
open Go.RowKit in
theorem Tryz.strings_Trim_one (s:ByteArray)(c:UInt8)(hc:c.toNat<128)(w:World)(hs:s.size≤9223372036854775807):
  Calls Tryz.prog 155 #[.string s,.string ⟨#[c]⟩] w fun e w'=>e=.returned (.string ⟨(Lib.trimB s.data.toList c).toArray⟩)∧(w'=w∨w'=w.drew):=Any.strings_Trim_one Tryz.lays160 s c hc w hs
def Tryz.lays103_ren:Go.Shelf.Ren:=⟨fun|103=>128|210=>162|206=>196|n=>n,fun|9=>9|4=>4|24=>166|3=>3|n=>n,fun|n=>n⟩
def Tryz.lays103:Go.Proofs.Lays.n103 Tryz.prog Tryz.lays103_ren:={
 mixed:=by kernel_rfl
 f103:=Tryz.func128.trans (congrArg some (by kernel_rfl))
 f206:=Tryz.func196.trans (congrArg some (by kernel_rfl))
 f210:=Tryz.func162.trans (congrArg some (by kernel_rfl))
 t3:=Tryz.underlying3
 a3:=Tryz.isAgg3
 z3:=Tryz.sizeOf3
 v3:=Tryz.zeroValue3
 t4:=Tryz.underlying4
 a4:=Tryz.isAgg4
 z4:=Tryz.sizeOf4
 v4:=Tryz.zeroValue4
 t9:=Tryz.underlying9
 a9:=Tryz.isAgg9
 z9:=Tryz.sizeOf9
 v9:=Tryz.zeroValue9
 t24:=Tryz.underlying166
 a24:=Tryz.isAgg166
 z24:=Tryz.sizeOf166
 v24:=Tryz.zeroValue166}
open Go.RowKit in
theorem Tryz.strings_CutPrefix (s p:ByteArray)(w:World):
  Calls Tryz.prog 128 #[.string s,.string p] w fun e w'=>e=.returned (.tuple #[.string ⟨(Lib.trimPrefix s.data.toList p.data.toList).toArray⟩,.bool (Lib.hasPrefix s.data.toList p.data.toList)])∧w'=w:=Any.strings_CutPrefix Tryz.lays103 s p w
def Tryz.laysM171_ren:Go.Shelf.Ren:=⟨fun|171=>165|243=>198|246=>218|283=>229|284=>230|285=>231|286=>232|129=>241|317=>240|318=>242|319=>243|320=>244|337=>246|338=>247|n=>n,fun|3=>3|9=>9|2=>2|4=>4|171=>235|0=>0|53=>49|37=>53|5=>5|173=>238|212=>244|51=>226|20=>20|213=>245|46=>89|232=>248|233=>249|n=>n,fun|17=>3|18=>4|19=>5|n=>n⟩
def Tryz.laysM171:Go.Proofs.LaysM.n171 Tryz.prog Tryz.laysM171_ren:={
 mixed:=by kernel_rfl
 f129:=Tryz.func241.trans (congrArg some (by kernel_rfl))
 f171:=Tryz.func165.trans (congrArg some (by kernel_rfl))
 f243:=Tryz.func198.trans (congrArg some (by kernel_rfl))
 f246:=Tryz.func218.trans (congrArg some (by kernel_rfl))
 f283:=Tryz.func229.trans (congrArg some (by kernel_rfl))
 f284:=Tryz.func230.trans (congrArg some (by kernel_rfl))
 f285:=Tryz.func231.trans (congrArg some (by kernel_rfl))
 f286:=Tryz.func232.trans (congrArg some (by kernel_rfl))
 f317:=Tryz.func240.trans (congrArg some (by kernel_rfl))
 f318:=Tryz.func242.trans (congrArg some (by kernel_rfl))
 f319:=Tryz.func243.trans (congrArg some (by kernel_rfl))
 f320:=Tryz.func244.trans (congrArg some (by kernel_rfl))
 f337:=Tryz.func246.trans (congrArg some (by kernel_rfl))
 f338:=Tryz.func247.trans (congrArg some (by kernel_rfl))
 t0:=Tryz.underlying0
 a0:=Tryz.isAgg0
 z0:=Tryz.sizeOf0
 v0:=Tryz.zeroValue0
 t2:=Tryz.underlying2
 a2:=Tryz.isAgg2
 z2:=Tryz.sizeOf2
 v2:=Tryz.zeroValue2
 t3:=Tryz.underlying3
 a3:=Tryz.isAgg3
 z3:=Tryz.sizeOf3
 v3:=Tryz.zeroValue3
 t4:=Tryz.underlying4
 a4:=Tryz.isAgg4
 z4:=Tryz.sizeOf4
 v4:=Tryz.zeroValue4
 t5:=Tryz.underlying5
 a5:=Tryz.isAgg5
 z5:=Tryz.sizeOf5
 v5:=Tryz.zeroValue5
 t9:=Tryz.underlying9
 a9:=Tryz.isAgg9
 z9:=Tryz.sizeOf9
 v9:=Tryz.zeroValue9
 t20:=Tryz.underlying20
 a20:=Tryz.isAgg20
 z20:=Tryz.sizeOf20
 v20:=Tryz.zeroValue20
 t37:=Tryz.underlying53
 a37:=Tryz.isAgg53
 z37:=Tryz.sizeOf53
 v37:=Tryz.zeroValue53
 t46:=Tryz.underlying89
 a46:=Tryz.isAgg89
 z46:=Tryz.sizeOf89
 v46:=Tryz.zeroValue89
 t51:=Tryz.underlying226
 a51:=Tryz.isAgg226
 z51:=Tryz.sizeOf226
 v51:=Tryz.zeroValue226
 t53:=Tryz.underlying49
 a53:=Tryz.isAgg49
 z53:=Tryz.sizeOf49
 v53:=Tryz.zeroValue49
 t171:=Tryz.underlying235
 a171:=Tryz.isAgg235
 z171:=Tryz.sizeOf235
 v171:=Tryz.zeroValue235
 t173:=Tryz.underlying238
 a173:=Tryz.isAgg238
 z173:=Tryz.sizeOf238
 v173:=Tryz.zeroValue238
 t212:=Tryz.underlying244
 a212:=Tryz.isAgg244
 z212:=Tryz.sizeOf244
 v212:=Tryz.zeroValue244
 t213:=Tryz.underlying245
 a213:=Tryz.isAgg245
 z213:=Tryz.sizeOf245
 t232:=Tryz.underlying248
 a232:=Tryz.isAgg248
 z232:=Tryz.sizeOf248
 v232:=Tryz.zeroValue248
 t233:=Tryz.underlying249
 a233:=Tryz.isAgg249
 z233:=Tryz.sizeOf249
 v233:=Tryz.zeroValue249
 g17:=by kernel_rfl
 g18:=by kernel_rfl
 g19:=by kernel_rfl
 i0:=by kernel_rfl
 i2:=by kernel_rfl
 i3:=by kernel_rfl
 i4:=by kernel_rfl
 i5:=by kernel_rfl
 i9:=by kernel_rfl
 i20:=by kernel_rfl
 i37:=by kernel_rfl
 i46:=by kernel_rfl
 i51:=by kernel_rfl
 i53:=by kernel_rfl
 i171:=by kernel_rfl
 i173:=by kernel_rfl
 i212:=by kernel_rfl
 i232:=by kernel_rfl
 i233:=by kernel_rfl
 m17:=by kernel_rfl
 m18:=by kernel_rfl
 m19:=by kernel_rfl}
open Go.RowKit Go.Sort Go.Lib in
theorem Tryz.strconv_Itoa (n:Int)(h0:-9223372036854775808≤n)(h1:n≤9223372036854775807)(w:World)(htab:Lib.TabIs Tryz.prog w "internal/strconv.uint64pow10" .u64 Lib.pow10Tab):
  Calls Tryz.prog 165 #[.int .i64 n] w fun e w'=>e=.returned (.string ⟨(Lib.itoa n).toArray⟩)∧∃k os,w'=grow (w.drewN k) os:=Any.strconv_Itoa Tryz.laysM171 n h0 h1 w htab
def Tryz.lays145_ren:Go.Shelf.Ren:=⟨fun|145=>129|220=>163|219=>149|217=>175|225=>176|224=>177|267=>178|266=>210|314=>211|n=>n,fun|9=>9|4=>4|59=>168|3=>3|5=>5|46=>89|146=>227|51=>226|n=>n,fun|1=>0|n=>n⟩
def Tryz.lays145:Go.Proofs.Lays.n145 Tryz.prog Tryz.lays145_ren:={
 mixed:=by kernel_rfl
 f145:=Tryz.func129.trans (congrArg some (by kernel_rfl))
 f217:=Tryz.func175.trans (congrArg some (by kernel_rfl))
 f219:=Tryz.func149.trans (congrArg some (by kernel_rfl))
 f220:=Tryz.func163.trans (congrArg some (by kernel_rfl))
 f224:=Tryz.func177.trans (congrArg some (by kernel_rfl))
 f225:=Tryz.func176.trans (congrArg some (by kernel_rfl))
 f266:=Tryz.func210.trans (congrArg some (by kernel_rfl))
 f267:=Tryz.func178.trans (congrArg some (by kernel_rfl))
 f314:=Tryz.func211.trans (congrArg some (by kernel_rfl))
 t3:=Tryz.underlying3
 a3:=Tryz.isAgg3
 z3:=Tryz.sizeOf3
 v3:=Tryz.zeroValue3
 t4:=Tryz.underlying4
 a4:=Tryz.isAgg4
 z4:=Tryz.sizeOf4
 v4:=Tryz.zeroValue4
 t5:=Tryz.underlying5
 a5:=Tryz.isAgg5
 z5:=Tryz.sizeOf5
 v5:=Tryz.zeroValue5
 t9:=Tryz.underlying9
 a9:=Tryz.isAgg9
 z9:=Tryz.sizeOf9
 v9:=Tryz.zeroValue9
 t46:=Tryz.underlying89
 a46:=Tryz.isAgg89
 z46:=Tryz.sizeOf89
 v46:=Tryz.zeroValue89
 t51:=Tryz.underlying226
 a51:=Tryz.isAgg226
 z51:=Tryz.sizeOf226
 v51:=Tryz.zeroValue226
 t59:=Tryz.underlying168
 a59:=Tryz.isAgg168
 z59:=Tryz.sizeOf168
 v59:=Tryz.zeroValue168
 t146:=Tryz.underlying227
 a146:=Tryz.isAgg227
 z146:=Tryz.sizeOf227
 v146:=Tryz.zeroValue227
 g1:=by kernel_rfl}
open Go.RowKit Go.Lib in
theorem Tryz.strings_Cut (s sep:ByteArray)(m:Int)(w:World)(hs:s.size<4294967281)(hm:w.cell? ⟨0,0,none⟩=some (.int .i64 m)):
  Calls Tryz.prog 129 #[.string s,.string sep] w fun e w'=>e=.returned (.tuple #[.string ⟨(Lib.cut s.data.toList sep.data.toList).1.toArray⟩,.string ⟨(Lib.cut s.data.toList sep.data.toList).2.1.toArray⟩,.bool (Lib.cut s.data.toList sep.data.toList).2.2])∧∃n,w'=w.drewN n:=Any.strings_Cut Tryz.lays145 s sep m w hs hm
def Tryz.laysM219_ren:Go.Shelf.Ren:=⟨fun|219=>149|217=>175|225=>176|224=>177|267=>178|266=>210|314=>211|n=>n,fun|9=>9|3=>3|4=>4|5=>5|46=>89|146=>227|51=>226|n=>n,fun|1=>0|n=>n⟩
def Tryz.laysM219:Go.Proofs.LaysM.n219 Tryz.prog Tryz.laysM219_ren:={
 mixed:=by kernel_rfl
 f217:=Tryz.func175.trans (congrArg some (by kernel_rfl))
 f219:=Tryz.func149.trans (congrArg some (by kernel_rfl))
 f224:=Tryz.func177.trans (congrArg some (by kernel_rfl))
 f225:=Tryz.func176.trans (congrArg some (by kernel_rfl))
 f266:=Tryz.func210.trans (congrArg some (by kernel_rfl))
 f267:=Tryz.func178.trans (congrArg some (by kernel_rfl))
 f314:=Tryz.func211.trans (congrArg some (by kernel_rfl))
 t3:=Tryz.underlying3
 a3:=Tryz.isAgg3
 z3:=Tryz.sizeOf3
 v3:=Tryz.zeroValue3
 t4:=Tryz.underlying4
 a4:=Tryz.isAgg4
 z4:=Tryz.sizeOf4
 v4:=Tryz.zeroValue4
 t5:=Tryz.underlying5
 a5:=Tryz.isAgg5
 z5:=Tryz.sizeOf5
 v5:=Tryz.zeroValue5
 t9:=Tryz.underlying9
 a9:=Tryz.isAgg9
 z9:=Tryz.sizeOf9
 v9:=Tryz.zeroValue9
 t46:=Tryz.underlying89
 a46:=Tryz.isAgg89
 z46:=Tryz.sizeOf89
 v46:=Tryz.zeroValue89
 t51:=Tryz.underlying226
 a51:=Tryz.isAgg226
 z51:=Tryz.sizeOf226
 v51:=Tryz.zeroValue226
 t146:=Tryz.underlying227
 a146:=Tryz.isAgg227
 z146:=Tryz.sizeOf227
 v146:=Tryz.zeroValue227
 g1:=by kernel_rfl
 i3:=by kernel_rfl
 i4:=by kernel_rfl
 i5:=by kernel_rfl
 i9:=by kernel_rfl
 i46:=by kernel_rfl
 i51:=by kernel_rfl
 i146:=by kernel_rfl
 m1:=by kernel_rfl
 s1_3:=fun w h=>Go.Proofs.cell_of_shapedOpen_int (zero:=#[.int .i64 0]) (t:=3) h (of_decide_eq_true (by kernel_rfl)) (by kernel_rfl) rfl (by kernel_rfl) (by kernel_rfl) Tryz.underlying3}
def Tryz.lays221_ren:Go.Shelf.Ren:=⟨fun|221=>60|268=>109|138=>110|143=>111|195=>146|197=>147|218=>148|219=>149|260=>174|217=>175|225=>176|224=>177|267=>178|266=>210|314=>211|n=>n,fun|9=>9|3=>3|31=>55|4=>4|0=>0|105=>181|21=>21|5=>5|46=>89|119=>222|139=>225|138=>224|146=>227|51=>226|n=>n,fun|1=>0|3=>1|4=>2|n=>n⟩
def Tryz.lays221:Go.Proofs.Lays.n221 Tryz.prog Tryz.lays221_ren:={
 mixed:=by kernel_rfl
 f138:=Tryz.func110.trans (congrArg some (by kernel_rfl))
 f143:=Tryz.func111.trans (congrArg some (by kernel_rfl))
 f195:=Tryz.func146.trans (congrArg some (by kernel_rfl))
 f197:=Tryz.func147.trans (congrArg some (by kernel_rfl))
 f217:=Tryz.func175.trans (congrArg some (by kernel_rfl))
 f218:=Tryz.func148.trans (congrArg some (by kernel_rfl))
 f219:=Tryz.func149.trans (congrArg some (by kernel_rfl))
 f221:=Tryz.func60.trans (congrArg some (by kernel_rfl))
 f224:=Tryz.func177.trans (congrArg some (by kernel_rfl))
 f225:=Tryz.func176.trans (congrArg some (by kernel_rfl))
 f260:=Tryz.func174.trans (congrArg some (by kernel_rfl))
 f266:=Tryz.func210.trans (congrArg some (by kernel_rfl))
 f267:=Tryz.func178.trans (congrArg some (by kernel_rfl))
 f268:=Tryz.func109.trans (congrArg some (by kernel_rfl))
 f314:=Tryz.func211.trans (congrArg some (by kernel_rfl))
 t0:=Tryz.underlying0
 a0:=Tryz.isAgg0
 z0:=Tryz.sizeOf0
 v0:=Tryz.zeroValue0
 t3:=Tryz.underlying3
 a3:=Tryz.isAgg3
 z3:=Tryz.sizeOf3
 v3:=Tryz.zeroValue3
 t4:=Tryz.underlying4
 a4:=Tryz.isAgg4
 z4:=Tryz.sizeOf4
 v4:=Tryz.zeroValue4
 t5:=Tryz.underlying5
 a5:=Tryz.isAgg5
 z5:=Tryz.sizeOf5
 v5:=Tryz.zeroValue5
 t9:=Tryz.underlying9
 a9:=Tryz.isAgg9
 z9:=Tryz.sizeOf9
 v9:=Tryz.zeroValue9
 t21:=Tryz.underlying21
 a21:=Tryz.isAgg21
 z21:=Tryz.sizeOf21
 v21:=Tryz.zeroValue21
 t31:=Tryz.underlying55
 a31:=Tryz.isAgg55
 z31:=Tryz.sizeOf55
 v31:=Tryz.zeroValue55
 t46:=Tryz.underlying89
 a46:=Tryz.isAgg89
 z46:=Tryz.sizeOf89
 v46:=Tryz.zeroValue89
 t51:=Tryz.underlying226
 a51:=Tryz.isAgg226
 z51:=Tryz.sizeOf226
 v51:=Tryz.zeroValue226
 t105:=Tryz.underlying181
 a105:=Tryz.isAgg181
 z105:=Tryz.sizeOf181
 v105:=Tryz.zeroValue181
 t119:=Tryz.underlying222
 a119:=Tryz.isAgg222
 z119:=Tryz.sizeOf222
 t138:=Tryz.underlying224
 a138:=Tryz.isAgg224
 z138:=Tryz.sizeOf224
 v138:=Tryz.zeroValue224
 t139:=Tryz.underlying225
 a139:=Tryz.isAgg225
 z139:=Tryz.sizeOf225
 v139:=Tryz.zeroValue225
 t146:=Tryz.underlying227
 a146:=Tryz.isAgg227
 z146:=Tryz.sizeOf227
 v146:=Tryz.zeroValue227
 g1:=by kernel_rfl
 g3:=by kernel_rfl
 g4:=by kernel_rfl}
open Go.RowKit Go.Lib in
theorem Tryz.strings_genSplit (s sep:ByteArray)(sv:Nat)(n:Int)(N:Nat)(m:Int)(w:World)(hs:s.size<4294967281)(hm:w.cell? ⟨0,0,none⟩=some (.int .i64 m))(h1:1≤sep.size)(hsv:sv≤sep.size)(hn0:n≠0)(hn63:n≤9223372036854775807)(hN:(N:Int)=min (if n<0 then(Lib.countB s sep:Int)+1 else n) ((s.size:Int)+1)):
  Calls Tryz.prog 60 #[.string s,.string sep,.int .i64 sv,.int .i64 n] w fun e w'=>
   e=.returned (.slice (some ⟨w.heap.size,0,none⟩) (Lib.splitB sep sv (N-1) s).length N)∧w'=w.alloc (.cells (Lib.cellsOf (Lib.splitB sep sv (N-1) s) N) 9):=Any.strings_genSplit Tryz.lays221 (by kernel_rfl) s sep sv n N m w hs hm h1 hsv hn0 hn63 hN
def Tryz.lays146_ren:Go.Shelf.Ren:=⟨fun|146=>28|221=>60|268=>109|138=>110|143=>111|195=>146|197=>147|218=>148|219=>149|260=>174|217=>175|225=>176|224=>177|267=>178|266=>210|314=>211|n=>n,fun|9=>9|31=>55|3=>3|4=>4|0=>0|105=>181|21=>21|5=>5|46=>89|119=>222|139=>225|138=>224|146=>227|51=>226|n=>n,fun|1=>0|3=>1|4=>2|n=>n⟩
def Tryz.lays146:Go.Proofs.Lays.n146 Tryz.prog Tryz.lays146_ren:={
 mixed:=by kernel_rfl
 f138:=Tryz.func110.trans (congrArg some (by kernel_rfl))
 f143:=Tryz.func111.trans (congrArg some (by kernel_rfl))
 f146:=Tryz.func28.trans (congrArg some (by kernel_rfl))
 f195:=Tryz.func146.trans (congrArg some (by kernel_rfl))
 f197:=Tryz.func147.trans (congrArg some (by kernel_rfl))
 f217:=Tryz.func175.trans (congrArg some (by kernel_rfl))
 f218:=Tryz.func148.trans (congrArg some (by kernel_rfl))
 f219:=Tryz.func149.trans (congrArg some (by kernel_rfl))
 f221:=Tryz.func60.trans (congrArg some (by kernel_rfl))
 f224:=Tryz.func177.trans (congrArg some (by kernel_rfl))
 f225:=Tryz.func176.trans (congrArg some (by kernel_rfl))
 f260:=Tryz.func174.trans (congrArg some (by kernel_rfl))
 f266:=Tryz.func210.trans (congrArg some (by kernel_rfl))
 f267:=Tryz.func178.trans (congrArg some (by kernel_rfl))
 f268:=Tryz.func109.trans (congrArg some (by kernel_rfl))
 f314:=Tryz.func211.trans (congrArg some (by kernel_rfl))
 t0:=Tryz.underlying0
 a0:=Tryz.isAgg0
 z0:=Tryz.sizeOf0
 v0:=Tryz.zeroValue0
 t3:=Tryz.underlying3
 a3:=Tryz.isAgg3
 z3:=Tryz.sizeOf3
 v3:=Tryz.zeroValue3
 t4:=Tryz.underlying4
 a4:=Tryz.isAgg4
 z4:=Tryz.sizeOf4
 v4:=Tryz.zeroValue4
 t5:=Tryz.underlying5
 a5:=Tryz.isAgg5
 z5:=Tryz.sizeOf5
 v5:=Tryz.zeroValue5
 t9:=Tryz.underlying9
 a9:=Tryz.isAgg9
 z9:=Tryz.sizeOf9
 v9:=Tryz.zeroValue9
 t21:=Tryz.underlying21
 a21:=Tryz.isAgg21
 z21:=Tryz.sizeOf21
 v21:=Tryz.zeroValue21
 t31:=Tryz.underlying55
 a31:=Tryz.isAgg55
 z31:=Tryz.sizeOf55
 v31:=Tryz.zeroValue55
 t46:=Tryz.underlying89
 a46:=Tryz.isAgg89
 z46:=Tryz.sizeOf89
 v46:=Tryz.zeroValue89
 t51:=Tryz.underlying226
 a51:=Tryz.isAgg226
 z51:=Tryz.sizeOf226
 v51:=Tryz.zeroValue226
 t105:=Tryz.underlying181
 a105:=Tryz.isAgg181
 z105:=Tryz.sizeOf181
 v105:=Tryz.zeroValue181
 t119:=Tryz.underlying222
 a119:=Tryz.isAgg222
 z119:=Tryz.sizeOf222
 t138:=Tryz.underlying224
 a138:=Tryz.isAgg224
 z138:=Tryz.sizeOf224
 v138:=Tryz.zeroValue224
 t139:=Tryz.underlying225
 a139:=Tryz.isAgg225
 z139:=Tryz.sizeOf225
 v139:=Tryz.zeroValue225
 t146:=Tryz.underlying227
 a146:=Tryz.isAgg227
 z146:=Tryz.sizeOf227
 v146:=Tryz.zeroValue227
 g1:=by kernel_rfl
 g3:=by kernel_rfl
 g4:=by kernel_rfl}
open Go.RowKit Go.Lib in
theorem Tryz.strings_Split (s sep:ByteArray)(m:Int)(w:World)(hs:s.size<4294967281)(hm:w.cell? ⟨0,0,none⟩=some (.int .i64 m))(h1:1≤sep.size):
  Calls Tryz.prog 28 #[.string s,.string sep] w fun e w'=>
   e=.returned (.slice (some ⟨w.heap.size,0,none⟩) (Lib.countB s sep+1) (Lib.countB s sep+1))∧w'=w.alloc (.cells ((Lib.splitB sep 0 (Lib.countB s sep) s).map Value.string).toArray 9):=Any.strings_Split Tryz.lays146 (by kernel_rfl) s sep m w hs hm h1
def Tryz.lays147_ren:Go.Shelf.Ren:=⟨fun|147=>112|221=>60|268=>109|138=>110|143=>111|195=>146|197=>147|218=>148|219=>149|260=>174|217=>175|225=>176|224=>177|267=>178|266=>210|314=>211|n=>n,fun|9=>9|3=>3|31=>55|4=>4|0=>0|105=>181|21=>21|5=>5|46=>89|119=>222|139=>225|138=>224|146=>227|51=>226|n=>n,fun|1=>0|3=>1|4=>2|n=>n⟩
def Tryz.lays147:Go.Proofs.Lays.n147 Tryz.prog Tryz.lays147_ren:={
 mixed:=by kernel_rfl
 f138:=Tryz.func110.trans (congrArg some (by kernel_rfl))
 f143:=Tryz.func111.trans (congrArg some (by kernel_rfl))
 f147:=Tryz.func112.trans (congrArg some (by kernel_rfl))
 f195:=Tryz.func146.trans (congrArg some (by kernel_rfl))
 f197:=Tryz.func147.trans (congrArg some (by kernel_rfl))
 f217:=Tryz.func175.trans (congrArg some (by kernel_rfl))
 f218:=Tryz.func148.trans (congrArg some (by kernel_rfl))
 f219:=Tryz.func149.trans (congrArg some (by kernel_rfl))
 f221:=Tryz.func60.trans (congrArg some (by kernel_rfl))
 f224:=Tryz.func177.trans (congrArg some (by kernel_rfl))
 f225:=Tryz.func176.trans (congrArg some (by kernel_rfl))
 f260:=Tryz.func174.trans (congrArg some (by kernel_rfl))
 f266:=Tryz.func210.trans (congrArg some (by kernel_rfl))
 f267:=Tryz.func178.trans (congrArg some (by kernel_rfl))
 f268:=Tryz.func109.trans (congrArg some (by kernel_rfl))
 f314:=Tryz.func211.trans (congrArg some (by kernel_rfl))
 t0:=Tryz.underlying0
 a0:=Tryz.isAgg0
 z0:=Tryz.sizeOf0
 v0:=Tryz.zeroValue0
 t3:=Tryz.underlying3
 a3:=Tryz.isAgg3
 z3:=Tryz.sizeOf3
 v3:=Tryz.zeroValue3
 t4:=Tryz.underlying4
 a4:=Tryz.isAgg4
 z4:=Tryz.sizeOf4
 v4:=Tryz.zeroValue4
 t5:=Tryz.underlying5
 a5:=Tryz.isAgg5
 z5:=Tryz.sizeOf5
 v5:=Tryz.zeroValue5
 t9:=Tryz.underlying9
 a9:=Tryz.isAgg9
 z9:=Tryz.sizeOf9
 v9:=Tryz.zeroValue9
 t21:=Tryz.underlying21
 a21:=Tryz.isAgg21
 z21:=Tryz.sizeOf21
 v21:=Tryz.zeroValue21
 t31:=Tryz.underlying55
 a31:=Tryz.isAgg55
 z31:=Tryz.sizeOf55
 v31:=Tryz.zeroValue55
 t46:=Tryz.underlying89
 a46:=Tryz.isAgg89
 z46:=Tryz.sizeOf89
 v46:=Tryz.zeroValue89
 t51:=Tryz.underlying226
 a51:=Tryz.isAgg226
 z51:=Tryz.sizeOf226
 v51:=Tryz.zeroValue226
 t105:=Tryz.underlying181
 a105:=Tryz.isAgg181
 z105:=Tryz.sizeOf181
 v105:=Tryz.zeroValue181
 t119:=Tryz.underlying222
 a119:=Tryz.isAgg222
 z119:=Tryz.sizeOf222
 t138:=Tryz.underlying224
 a138:=Tryz.isAgg224
 z138:=Tryz.sizeOf224
 v138:=Tryz.zeroValue224
 t139:=Tryz.underlying225
 a139:=Tryz.isAgg225
 z139:=Tryz.sizeOf225
 v139:=Tryz.zeroValue225
 t146:=Tryz.underlying227
 a146:=Tryz.isAgg227
 z146:=Tryz.sizeOf227
 v146:=Tryz.zeroValue227
 g1:=by kernel_rfl
 g3:=by kernel_rfl
 g4:=by kernel_rfl}
open Go.RowKit Go.Lib in
theorem Tryz.strings_SplitN (s sep:ByteArray)(n:Nat)(m:Int)(w:World)(hs:s.size<4294967281)(hm:w.cell? ⟨0,0,none⟩=some (.int .i64 m))(h1:1≤sep.size)(hn:1≤n)(hn63:n≤9223372036854775807):
  Calls Tryz.prog 112 #[.string s,.string sep,.int .i64 n] w fun e w'=>
   e=.returned (.slice (some ⟨w.heap.size,0,none⟩) (Lib.splitB sep 0 (min n (s.size+1) -1) s).length (min n (s.size+1)))∧w'=w.alloc (.cells (Lib.cellsOf (Lib.splitB sep 0 (min n (s.size+1) -1) s) (min n (s.size+1))) 9):=Any.strings_SplitN Tryz.lays147 (by kernel_rfl) s sep n m w hs hm h1 hn hn63
def Tryz.laysNm216_ren:Go.Shelf.Ren:=⟨fun|16=>65|n=>n,fun|24=>55|9=>9|4=>4|n=>n,fun|n=>n⟩
def Tryz.laysNm216:Go.Proofs.Lays2.n16 Tryz.prog Tryz.laysNm216_ren:={
 mixed:=by kernel_rfl
 f16:=Tryz.func65.trans (congrArg some (by kernel_rfl))
 t4:=Tryz.underlying4
 a4:=Tryz.isAgg4
 z4:=Tryz.sizeOf4
 v4:=Tryz.zeroValue4
 t9:=Tryz.underlying9
 a9:=Tryz.isAgg9
 z9:=Tryz.sizeOf9
 v9:=Tryz.zeroValue9
 t24:=Tryz.underlying55
 a24:=Tryz.isAgg55
 z24:=Tryz.sizeOf55
 v24:=Tryz.zeroValue55
 i9:=by kernel_rfl}
open Go.RowKit Go.Lib in
theorem Tryz.slices_Clone_string (b off n c:Nat)(zs:List ByteArray)(w:World)(hz:n≤zs.length)(hbig:n*16≤140737488355328)(hc:∀j,j<zs.length→w.cell? ⟨b,off+j,none⟩=some (.string (zs.getD j ByteArray.empty))):
  Calls Tryz.prog 65 #[.slice (some ⟨b,off,none⟩) n c] w fun e w'=>∃v',e=.returned v'∧w'.ownsRow w.heap.size 9 1 v' n ((zs.take n).map (Value.string))∧v'≠.slice none 0 0∧Below w.heap.size w w':=Any.slices_Clone_string Tryz.laysNm216 b off n c zs w hz hbig hc
open Go.RowKit Go.Lib in
theorem Tryz.slices_Clone_string_nil (n c:Nat)(w:World):
  Calls Tryz.prog 65 #[.slice none n c] w fun e w'=>e=.returned (.slice none 0 0)∧w'=w:=Any.slices_Clone_string_nil Tryz.laysNm216 n c w
open Go.RowKit Go.Lib in
theorem Tryz.slices_Clone_string_zero (a:Addr)(c:Nat)(w:World):
  Calls Tryz.prog 65 #[.slice (some a) 0 c] w fun e w'=>∃v',e=.returned v'∧w'.ownsRow w.heap.size 9 1 v' 0 []∧v'≠.slice none 0 0∧Below w.heap.size w w':=Any.slices_Clone_string_zero Tryz.laysNm216 a c w
end Go.Proofs
end
namespace Go.Abs
def pre1 (b c:UInt8)(r:ah):([b]:ah).isPrefixOf (c::r)=(b==c):=by simp[List.isPrefixOf]
def H9:Option Nat→Int
 |some k=>(k:Int)
 |none=>-1
def sC:∀(s:ah)(b:UInt8),Lib.index s [b]=H9 (s.findIdx? (fun c=>c==b))
 |[],b=>rfl
 |c::r,b=>by
  unfold Lib.index;rw[pre1,List.findIdx?_cons,sC r b];by_cases h:c=b
  ·subst h;simp[H9]
  ·have h1:(b==c)=false:=by simp[Ne.symm h]
   have h2:(c==b)=false:=by simp[h]
   simp only[h1,h2,Bool.false_eq_true,if_false];cases r.findIdx? (fun c=>c==b)with
   |none=>rfl
   |some k=>
    simp only[Option.map_some];rw[if_neg (by simp[H9])];simp[H9]
def Jf (s:ah)(b:UInt8):Lib.cut s [b]=dQ s b:=by
 unfold Lib.cut dQ;rw[sC];cases s.findIdx? (fun c=>c==b)with
 |none=>simp[H9]
 |some k=>simp[H9]
def BO (s p:ah):(Lib.trimPrefix s p,Lib.hasPrefix s p)=cS s p:=by
 unfold Lib.trimPrefix Lib.hasPrefix cS;split<;>rename_i h
 ·rw[h]
 ·simp only[Bool.not_eq_true]at h;rw[h]
def xS (b:ah):∀l,aP b l=Lib.join l b
 |[]=>rfl
 |[t]=>(Lib.join_one t b).symm
 |t::u::r=>by
  rw[ew _ _ _ (by simp),xS b (u::r),Lib.join_cons,Lib.join_cons];simp[Lib.joinTail]
def decDigits_eq (n:Nat):Lib.decDigits n=cv n:=by
 induction n using Nat.strongRecOn with
 |_ n ih=>
  rw[Lib.decDigits];by_cases h:n<10
  ·rw[dif_pos h,mS h];rfl
  ·rw[dif_neg h,mR (by omega),ih (n/10) (by omega)];rfl
def GV {n:Int}(h:0≤n):Lib.itoa n=cv n.toNat:=by
 unfold Lib.itoa;rw[if_neg (by omega),decDigits_eq]
def qj (b:UInt8):∀(s cur:ah),s.findIdx? (fun c=>c==b)=none→bc b.toNat s cur=[cur++s]
 |[],cur,_=>by simp[bc]
 |c::r,cur,h=>by
  rw[List.findIdx?_cons]at h;split at h
  ·cases h
  ·rename_i hc;have hr:r.findIdx? (fun c=>c==b)=none:=by
    cases hq:r.findIdx? (fun c=>c==b)with
    |none=>rfl
    |some k=>rw[hq]at h;cases h
   have hne:¬((c.toNat:Int)=(b.toNat:Int)):=fun e=>hc (by
    have:c.toNat=b.toNat:=by omega
    simp[UInt8.toNat_inj.1 this])
   simp only[bc,if_neg hne];rw[qj b r (cur++[c]) hr];simp
def oe (b:UInt8):∀(s cur:ah)(k:Nat),s.findIdx? (fun c=>c==b)=some k→bc b.toNat s cur=(cur++s.take k)::bc b.toNat (s.drop (k+1)) []
 |[],cur,k,h=>by simp at h
 |c::r,cur,k,h=>by
  rw[List.findIdx?_cons]at h;split at h
  ·rename_i hc;have hk:k=0:=by simpa using h.symm
   subst hk;have hcb:c=b:=by simpa using hc
   subst hcb;simp[bc]
  ·rename_i hc;have hne:¬((c.toNat:Int)=(b.toNat:Int)):=fun e=>hc (by
    have:c.toNat=b.toNat:=by omega
    simp[UInt8.toNat_inj.1 this])
   cases hq:r.findIdx? (fun c=>c==b)with
   |none=>rw[hq]at h;cases h
   |some j=>
    rw[hq]at h;have hk:k=j+1:=by simpa using h.symm
    subst hk;simp only[bc,if_neg hne];rw[oe b r (cur++[c]) j hq];simp
def vi (b:UInt8):∀(k:Nat)(s:ByteArray),Lib.countB s ⟨⟨[b]⟩⟩=k→(Lib.splitB ⟨⟨[b]⟩⟩ 0 k s).map (fun t=>t.data.toList)=ai s.data.toList b.toNat:=by
 intro k;induction k with
 |zero=>
  intro s h;rw[Lib.splitB_zero];have hi:Lib.indexB s ⟨⟨[b]⟩⟩=H9 (s.data.toList.findIdx? (fun c=>c==b)):=sC _ b;cases hq:s.data.toList.findIdx? (fun c=>c==b)with
  |none=>simp[ai,qj b _ [] hq]
  |some j=>
   rw[hq]at hi;have:=Lib.countB_hit s ⟨⟨[b]⟩⟩ j (Nat.le_refl 1) hi;omega
 |succ k ih=>
  intro s h;have hi:Lib.indexB s ⟨⟨[b]⟩⟩=H9 (s.data.toList.findIdx? (fun c=>c==b)):=sC _ b;cases hq:s.data.toList.findIdx? (fun c=>c==b)with
  |none=>
   rw[hq]at hi;have:=Lib.countB_miss s ⟨⟨[b]⟩⟩ hi;omega
  |some j=>
   rw[hq]at hi;have h1:1≤(⟨⟨[b]⟩⟩:ByteArray).size:=Nat.le_refl 1;have hc:=Lib.countB_hit s ⟨⟨[b]⟩⟩ j h1 hi;rw[Lib.splitB_hit _ _ _ _ j hi];simp only[List.map_cons];rw[ih _ (by omega)];have e1:(s.extract 0 (j+0)).data.toList=s.data.toList.take j:=by
    rw[Lib.extract_data];simp
   have e2:(s.extract (j+(⟨⟨[b]⟩⟩:ByteArray).size) s.size).data.toList=s.data.toList.drop (j+1):=by
    rw[Lib.extract_data];exact List.take_of_length_le (by rw[List.length_drop,Lib.size_eq];exact Nat.le_refl _)
   rw[e1,e2];simp only[ai];rw[oe b _ [] j hq];simp
end Go.Abs
section
namespace Go.Abs
open Go.Proofs
def yE (sep:ah)(k:Nat)(s:ah)(h:Lib.index s sep=-1):Lib.splitK sep 0 k s=[s]:=by
 cases k with
 |zero=>rfl
 |succ k=>unfold Lib.splitK;rw[if_pos (beq_iff_eq.2 h)]
def Aq (sep:ah)(k:Nat)(s:ah)(i:Nat)(h:Lib.index s sep=i):Lib.splitK sep 0 (k+1) s=s.take i::Lib.splitK sep 0 k (s.drop (i+sep.length)):=by
 have hm:¬(Lib.index s sep==-1)=true:=fun e=>by have:=beq_iff_eq.1 e;omega
 have e:(Lib.index s sep).toNat=i:=by omega
 rw[Lib.splitK,if_neg hm,e];rfl
def iX (b:UInt8):∀(s cur:ah),aP [b] (bc b.toNat s cur)=cur++s
 |[],cur=>by simp[bc,aP]
 |c::r,cur=>by
  unfold bc;split
  ·rename_i h;have hc:c=b:=by
    have:c.toNat=b.toNat:=by omega
    exact UInt8.toNat_inj.1 this
   have hne:bc b.toNat r []≠[]:=m9 r b.toNat;rw[ew _ _ _ hne,iX b r [],hc];simp
  ·rw[iX b r (cur++[c])];simp
def BN (a:ah){l:List ah}(k:Nat)(hl:l≠[]):nU (k+2) (a::l)=a::nU (k+1) l:=by
 unfold nU;by_cases h:l.length≤k+1
 ·rw[if_pos h,if_pos (by simp only[List.length_cons];omega)]
 ·rw[if_neg h,if_neg (by simp only[List.length_cons];omega)];simp
def CY:∀(k:Nat)(s:ah),Lib.splitK [32] 0 k s=nU (k+1) (ai s 32):=by
 intro k;induction k with
 |zero=>
  intro s;have hj:aP [32] (ai s 32)=s:=by
   have:=iX 32 s [];simpa[ai]using this
  unfold nU;split
  ·rename_i h;show [s]=_;have hne:ai s 32≠[]:=m9 _ _
   match hq:ai s 32,hne,h with
   |[t],_,_=>rw[hq]at hj;rw[←hj];rfl
   |_::_::_,_,h=>simp at h
  ·simp only[Nat.zero_add,Nat.sub_self,List.take_zero,List.drop_zero,List.nil_append,hj];rfl
 |succ k ih=>
  intro s;have hi:=sC s 32;cases hq:s.findIdx? (fun c=>c==32)with
  |none=>
   rw[hq]at hi;have hs:ai s 32=[s]:=by have:=qj 32 s [] hq;simpa[ai]using this
   rw[yE _ _ _ hi,hs];rfl
  |some j=>
   rw[hq]at hi;have hs:ai s 32=s.take j::ai (s.drop (j+1)) 32:=by have:=oe 32 s [] j hq;simpa[ai]using this
   rw[Aq _ _ _ j hi,hs,BN _ _ (m9 _ _),ih];rfl
def Az (n:Nat)(h:1≤n)(s:ah):Lib.splitK [32] 0 (min n (s.length+1) -1) s=gh (n:Int) s:=by
 have hl:=cM s 32;rw[CY];unfold gh;rw[if_neg (by omega),Int.toNat_natCast];by_cases hn:n≤s.length+1
 ·rw[show min n (s.length+1) -1+1=n by omega]
 ·rw[show min n (s.length+1) -1+1=s.length+1 by omega];unfold nU;rw[if_pos hl,if_pos (by omega)]
def MD (c d:UInt8)(r:ah):([124,124]:ah).isPrefixOf (c::d::r)=(decide (c=124)&&decide (d=124)):=by
 have e:∀x:UInt8,((124:UInt8)==x)=decide (x=124):=fun x=>by
  by_cases h:x=124
  ·subst h;rfl
  ·rw[decide_eq_false h];exact beq_eq_false_iff_ne.2 (Ne.symm h)
 simp only[List.isPrefixOf,Bool.and_true,e]
def vk:∀(s cur:ah),Lib.index s [124,124]=-1→aJ s cur=[cur++s]
 |[],cur,_=>by simp[aJ]
 |[c],cur,_=>rfl
 |c::d::r,cur,h=>by
  unfold Lib.index at h;rw[MD]at h;by_cases h2:c=124∧d=124
  ·simp[h2.1,h2.2]at h
  ·have h3:(decide (c=124)&&decide (d=124))=false:=by rw[←Bool.decide_and];exact decide_eq_false h2
   rw[h3,if_neg (by simp)]at h;have h4:Lib.index (d::r) [124,124]=-1:=by
    have:=Lib.index_ge (d::r) [124,124];split at h
    ·rename_i h5;exact beq_iff_eq.1 h5
    ·omega
   rw[aJ,if_neg h2,vk (d::r) _ h4];simp
def vj:∀(s cur:ah)(i:Nat),Lib.index s [124,124]=i→aJ s cur=(cur++s.take i)::aJ (s.drop (i+2)) []
 |[],cur,i,h=>by simp[Lib.index]at h
 |[c],cur,i,h=>by simp[Lib.index,List.isPrefixOf]at h
 |c::d::r,cur,i,h=>by
  unfold Lib.index at h;rw[MD]at h;by_cases h2:c=124∧d=124
  ·rw[h2.1,h2.2]at h;have hi:i=0:=by simp at h;omega
   subst hi;rw[aJ,if_pos h2];simp
  ·have h3:(decide (c=124)&&decide (d=124))=false:=by rw[←Bool.decide_and];exact decide_eq_false h2
   rw[h3,if_neg (by simp)]at h;split at h
   ·omega
   ·obtain⟨j,rfl⟩:∃j,i=j+1:=⟨i-1,by
     have:=Lib.index_ge (d::r) [124,124];rename_i h5;have:Lib.index (d::r) [124,124]≠-1:=fun e=>h5 (beq_iff_eq.2 e)
     omega⟩
    rw[aJ,if_neg h2,vj (d::r) _ j (by omega)];simp
def CX:∀(k:Nat)(s:ByteArray),Lib.countB s ⟨⟨[124,124]⟩⟩=k→(Lib.splitB ⟨⟨[124,124]⟩⟩ 0 k s).map (fun t=>t.data.toList)=aJ s.data.toList []:=by
 intro k;induction k with
 |zero=>
  intro s h;rcases Lib.indexB_cases s ⟨⟨[124,124]⟩⟩with hi|⟨i,hi,_⟩
  ·rw[Lib.splitB_zero];rw[vk _ _ (show Lib.index s.data.toList [124,124]=-1 from hi)];rfl
  ·have:=Lib.countB_hit s ⟨⟨[124,124]⟩⟩ i (by decide) hi;omega
 |succ k ih=>
  intro s h;rcases Lib.indexB_cases s ⟨⟨[124,124]⟩⟩with hi|⟨i,hi,_⟩
  ·rw[Lib.countB_miss _ _ hi]at h;omega
  ·have hc:=Lib.countB_hit s ⟨⟨[124,124]⟩⟩ i (by decide) hi;rw[Lib.splitB_hit _ _ _ _ i hi,List.map_cons,ih _ (by omega),vj _ _ i (show Lib.index s.data.toList [124,124]=i from hi),Lib.extract_from_zero,Lib.extract_to_end];rfl
def vv {p:UInt8→Bool}:∀(l:ah),∀x∈l.takeWhile p,p x=true
 |[],x,h=>by cases h
 |a::r,x,h=>by
  rw[List.takeWhile_cons]at h;split at h
  ·rename_i ha;rcases List.mem_cons.1 h with rfl|h
   ·exact ha
   ·exact vv r x h
  ·cases h
def pK {p:UInt8→Bool}:∀(l:ah),(∀x∈l,p x=true)→l.dropWhile p=[]
 |[],_=>rfl
 |a::r,h=>by
  rw[List.dropWhile_cons,if_pos (h a (.head _))];exact pK r fun x hx=>h x (.tail _ hx)
def r7:∀s,oE s=s.dropWhile (· ==32)
 |[]=>rfl
 |c::r=>by
  unfold oE;by_cases h:c=32
  ·rw[if_pos h,r7 r];simp[h]
  ·rw[if_neg h,List.dropWhile_cons,if_neg (by simpa using h)]
def DA (s:ah):Lib.trimB s 32=dZ s:=by
 unfold Lib.trimB Lib.trimLeftB Lib.trimRightB dZ;rw[r7,r7];generalize hp:(fun c:UInt8=>c==32)=p;have hs:s=s.takeWhile p++s.dropWhile p:=(List.takeWhile_append_dropWhile).symm;generalize ha:s.takeWhile p=a at hs;generalize hm:s.dropWhile p=m at hs;have hall:∀x∈a,p x=true:=by rw[←ha];exact vv s
 subst hs;rw[List.reverse_append,List.dropWhile_append];cases m with
 |nil=>
  simp only[List.reverse_nil,List.dropWhile_nil,List.isEmpty_nil,if_true];rw[pK a.reverse (fun x hx=>hall x (List.mem_reverse.1 hx))];rfl
 |cons c r=>
  have hc:p c=false:=by
   have:=List.head_dropWhile_not p (l:=a++c::r) (by rw[hm];simp);simpa[hm]using this
  have hne:((c::r).reverse.dropWhile p)≠[]:=by
   rw[List.reverse_cons,List.dropWhile_append];split
   ·simp[hc]
   ·simp
  rw[if_neg (by simpa using hne),List.reverse_append,List.reverse_reverse,List.dropWhile_append,pK _ hall];simp only[List.isEmpty_nil,if_true];rw[List.reverse_cons,List.dropWhile_append];split
  ·simp[hc]
  ·simp[hc]
end Go.Abs
namespace Go.Proofs
open Go.Shelf Go.RowKit Go.Lib
set_option maxHeartbeats 1000000 in
/--strings.SplitN into all -/
theorem As {P:Program}{ρ:Ren}(L:Lays.n147 P ρ)(hi9:(P.info? (ρ.t 9)).map (fun i=>(i.zero,i.size,i.bytes))=some (some (.string ByteArray.empty),1,16))(s sep:ByteArray)(m:Int)(w:World)
  (hs:s.size<4294967281) (hm:w.cell? ⟨(ρ.g 1),0,none⟩=some (.int .i64 m)) (h1:1≤sep.size):
  Calls P (ρ.f 147) #[.string s,.string sep,.int .i64 (-1)] w fun e w'=>
   e=.returned (.slice (some ⟨w.heap.size,0,none⟩) (Lib.splitB sep 0 (Lib.countB s sep) s).length (Lib.countB s sep+1))∧w'=w.alloc (.cells (Lib.cellsOf (Lib.splitB sep 0 (Lib.countB s sep) s) (Lib.countB s sep+1)) (ρ.t 9)):=by
 have hle:=Lib.countB_le sep h1 s.size s (Nat.le_refl _);have c:=Any.strings_genSplit {L with} hi9 s sep 0 (-1) (Lib.countB s sep+1) m w hs hm h1 (Nat.zero_le _) (by decide) (by decide) (by rw[if_pos (by decide)];omega);rw[Nat.add_sub_cancel]at c;have t3:=L.t3;have t9:=L.t9;have t31:=L.t31;have a3:=L.a3;have a9:=L.a9;have a31:=L.a31;have z3:=L.z3;have v3:=L.v3;have z9:=L.z9;have v9:=L.v9;have z31:=L.z31;have v31:=L.v31;have e221:∀args w,(callFunc (ρ.f 221) args).run P w=.ok (.enter (ρ.f 221) args) w:=enters_of L.f221 (by kernel_rfl) rfl
 go_enter L.f147,Body.n147_ntmps ρ
 go_wp2_with (go_at_fn (ρ.f 221);refine c.mono ?_;rintro e w' ⟨rfl,hw⟩;rw[hw])
 go_ret
 exact⟨rfl,rfl⟩
end Go.Proofs
end
