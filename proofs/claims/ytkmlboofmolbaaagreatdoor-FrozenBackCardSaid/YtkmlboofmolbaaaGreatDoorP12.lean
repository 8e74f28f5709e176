/- A part of the proofs. -/
import Derived.Test.YtkmlboofmolbaaaGreatDoorP09
set_option linter.all false
set_option maxRecDepth 60000
set_option maxHeartbeats 2000000
noncomputable section
namespace Go.Abs
variable {Y:Ctx}(hm:(Y.at 0).bV)
def sg:aj:=⟨3,17,[⟨3,none⟩,⟨4,none⟩],[[.sl 8 [.a,.a,.a,.a,.a,.a,.sl 1 [.sl 3 [.a,.sl 14 [.a,.a],.sl 14 [.a,.a]]],.sl 3 [.a,.sl 14 [.a,.a,.a,.a,.a,.a],.sl 14 [.a,.a,.a,.a,.a,.a]]]],[.a]],(sq (rg [gb 8 s0,gb 2 s2,gm (.c (.aK)),gm cbF] [(7,0),(5,1),(3,2),(4,3)]) (sq (sq (r1 [gk 2 true s5,gn (.build [.str [],.str []] []),gn (.eqA false true [.s,.s] l0 l1)] 6 2) (.cond s6 (sq (rg [gm s1,gk 8 true s7,gn (.callM 751 [l1]),gx 750 [l0,l2] [[.sl 2 [.a,.a]],[.sl 1 [.sl 4 [.a,.a,.sl 14 [.a,.a,.a,.a,.a,.a,.a,.a,.a,.a,.a,.a,.a,.a],.sl 14 [.a,.a,.a,.a,.a,.a,.a,.a,.a,.a,.a,.a,.a,.a]]]]],gn (.build [.int .i64 0,.int .i64 0,.int .i64 0,.str [],.str [],.int .i64 0,.aK,.aK] [(5,1,(.c (.int .i64 (-1)))),(6,1,l3)]),gn (.bsl 8 (.agg [.int .i64 0,.int .i64 0,.int .i64 0,.str [],.str [],.int .i64 0,.aK,.aK]) 1 [(0,l4)]),gm l5,gm cbT] [(3,6),(4,7)]) .ret) .skip)) (sq (r1 [gm (.c (.aK))] 16 0) (sq (sq (rg [gk 8 true s7,gk 2 true s5,gn (.callM 752 [l0,l1]),gl l2,gm x8] [(11,2),(9,3),(8,4)]) (.block 0 (.loop (sq (r1 [nX s8 s9] 10 0) (sq (gce Un 0) (sq (.block 1 (sq (r1 [ga 10 s11 s8,gk 10 true l0,gb 10 (.c (.agg [.str [],.int .i64 0,.int .i64 0,.int .i64 0,.str [],.str [],.aK,.aK,.aK,.int .i64 0])),gt 10 l2 l1] 12 2) (sq (r2 [gf 0 Zb,gf 1 l0,gk 5 true l1,gf 9 Zb,gd l3,gm s1,gf 0 Zb,gk 9 true l6,gf 2 s7,gk 3 true l8,gf 1 s5,gd l10,gx 753 [l7,l9,l11] [zzh1,[.a,.a,.a],[.a]],gx 750 [l5,l12] [[.sl 2 [.a,.a]],[.sl 1 [.sl 4 [.a,.a,.sl 14 [.a,.a,.a,.a,.a,.a,.a,.a,.a,.a,.a,.a,.a,.a],.sl 14 [.a,.a,.a,.a,.a,.a,.a,.a,.a,.a,.a,.a,.a,.a]]]]],gn (.build [.int .i64 0,.int .i64 0,.int .i64 0,.str [],.str [],.int .i64 0,.aK,.aK] [(0,5,l2),(5,1,l4),(6,1,l13)]),gb 8 (.c (.agg [.int .i64 0,.int .i64 0,.int .i64 0,.str [],.str [],.int .i64 0,.aK,.aK])),gt 8 l15 l14] 14 15) (sq (sq (r1 [gf 1 s5,gd l0,G7 l1 cse] 13 2) (.cond s13 (rg [gm s1,gf 0 Zb,gk 9 true l1,gf 2 s7,gk 3 true l3,gx 754 [l0,l2,l4] [[.sl 2 [.a,.a]],zzh1,[.a,.a,.a]],gf 7 s14,gt 1 l6 l5] []) .skip)) (sq (sq (r1 [gf 6 s14,gd l0,gl l1,Xu l2 (i6 24),gm l3,gff 4 7 s14,gdf 4 l5,A8 4 (.len l6),A8 4 (b_gtr l7 (i6 24)),go1 l4 l8] 15 9) (.cond s15 (sq (rg [gm (.c (.aK)),gm cbF] [(3,0),(4,1)]) .ret) .skip)) (r1 [gm s16,gk 8 true s14,gn (.bsl 8 (.agg [.int .i64 0,.int .i64 0,.int .i64 0,.str [],.str [],.int .i64 0,.aK,.aK]) 1 [(0,l1)]),gn (.app 8 l0 l2),gm l3] 16 4)))))) (r1 [qu s8 Tk,gm l0] 8 1))))))) (sq (rg [gm s16,gk 8 true s7,gf 0 s5,gd l2,gn (.callM 755 [l1,l3]),gl l4,aiO l5 (i6 16),gm l0,gm l6] [(3,7),(4,8)]) .ret)))))⟩
def w583 {Y:Ctx}(hm:(Y.at 3).bV)(y:cx)(ns:List av)(all:List Key)(k:Key)(hA:C750 (Y.at 3))(hB:C751 (Y.at 3))(hC:C752 (Y.at 3))(hD:C753 (Y.at 3))(hE:C754 (Y.at 3))(hF:C755 (Y.at 3))(hp0:qa y/\kX y.e)(hp1:ns.length<=990):dn (Y.at 3) sg.body (uc sg (Kj y (jk ns k) (rB y all k)):Ex->List aX->St->Prop) (fI sg [cx.D y (.ptr 0 2 0 0),.sl 2 (all.map Key.D),Key.D k]) ⟨3,[(0,.buf 2 [eG 1 2 ns.length]),(1,.buf 1 (ns.map D.str)),(2,.buf 1 (de y ns))]⟩:=by
 show dn _ _ _ [⟨true,cx.D y (.ptr 0 2 0 0)⟩,⟨true,.sl 2 (all.map Key.D)⟩,⟨true,Key.D k⟩,.un,.un,.un,.un,.un,.un,.un,.un,.un,.un,.un,.un,.un,.un] ⟨3,[(0,.buf 2 [eG 1 2 ns.length]),(1,.buf 1 (ns.map D.str)),(2,.buf 1 (de y ns))]⟩;refine aP ?_;refine p9 ?_;refine a8 (Key.D fD) ?_;refine zc ?_ ?_<;>intro hc0
 .refine cU ?_;have hrl:=HT hp0.1.p;refine cU ?_;refine dA (nx':=12) (v:=.sl 1 ((eC y.l).map dL)) (m':=[(12,.buf 1 ((ns).map D.str)),(13,.buf 1 (de y (ns))),(0,.buf 2 [eG 12 13 (ns).length]),(3,.buf 8 [cx.D y (.ptr 0 2 0 0)]),(4,.buf 2 [Key.D k])]) (hc:=fun K' hK=>hB y ns hp0.1.m (Sf hp0.1.p) _ 0 1 2 _ K' eo eo eo aU ⟨rfl,rfl,rfl⟩ hK) (hn:=aU) ?_;refine cV ?_;refine a8 (.agg [.int .i64 (⟨zV,-1,dy all (eC y.l),[]⟩:en).v.major,.int .i64 (⟨zV,-1,dy all (eC y.l),[]⟩:en).v.minor,.int .i64 (⟨zV,-1,dy all (eC y.l),[]⟩:en).v.patch,.str (⟨zV,-1,dy all (eC y.l),[]⟩:en).v.pre,.str (⟨zV,-1,dy all (eC y.l),[]⟩:en).v.build,.int .i64 (⟨zV,-1,dy all (eC y.l),[]⟩:en).sh,.sl 1 ((⟨zV,-1,dy all (eC y.l),[]⟩:en).needs.map jv),.aK]) ?_;refine bc [.agg [.int .i64 (⟨zV,-1,dy all (eC y.l),[]⟩:en).v.major,.int .i64 (⟨zV,-1,dy all (eC y.l),[]⟩:en).v.minor,.int .i64 (⟨zV,-1,dy all (eC y.l),[]⟩:en).v.patch,.str (⟨zV,-1,dy all (eC y.l),[]⟩:en).v.pre,.str (⟨zV,-1,dy all (eC y.l),[]⟩:en).v.build,.int .i64 (⟨zV,-1,dy all (eC y.l),[]⟩:en).sh,.sl 1 ((⟨zV,-1,dy all (eC y.l),[]⟩:en).needs.map jv),.aK]] ?_;refine dD ?_;refine Ak [(0,.buf 2 [eG 12 13 (ns).length]),(12,.buf 1 ((ns).map D.str)),(13,.buf 1 (de y (ns))),(17,.buf 8 [en.D (⟨zV,-1,dy all (eC y.l),[]⟩:en)])] ((.id ai (.id ai (.id ai (.bf ai (.cons (.ag ((.cons (.refl _) (.cons (.refl _) (.cons (.refl _) (.cons (.refl _) (.cons (.refl _) (.cons (.refl _) (.cons (.refl _) (.cons (.nil 3) .nil)))))))))) .nil) .nil))))) ?_;refine bB 17 ?_;refine zg ?_;refine dY trivial jo (dc ai (?_)) ai ⟨by first|(rw[rB,KD hc0];done)|(rw[rB,KD hc0];exact rfl),12,13,⟨ae,ae,ae⟩,by rw[W2 hc0];exact sF⟩;rfl
 refine p9 ?_;refine dA (nx':=13) (v:=uj (eF y k)) (m':=[(13,.buf 1 ((eL ns k.n).map D.str)),(14,.buf 1 (de y (eL ns k.n))),(0,.buf 2 [eG 13 14 (eL ns k.n).length]),(3,.buf 8 [cx.D y (.ptr 0 2 0 0)]),(4,.buf 2 [Key.D k])]) (hc:=fun K' hK=>hC y ns k hp0.1.p ae _ 0 1 2 _ K' eo eo eo aU ⟨rfl,rfl,rfl⟩ hK) (hn:=aU) ?_;refine cU ?_;intro u0;refine bp (env':=[_,_,_,_,_,_,_,_,⟨_,(.int _ _)⟩,⟨_,(.int _ _)⟩,_,⟨_,(.sl _ _)⟩,_,_,_,_,_]) ?_;refine zf hm (fun i=>[.u 1,.m 2 all Key.D,.u 3,.p 4 2,.u 1,.p 3 8,.i i,.i ((eF y k).length:Nat),.u 1,.m 10 (eF y k) ub.D,.u 4,.o 7 8 (((eF y k).take i).map (dM y all k)).length]) (fun i=>[(0,.buf 2 [eG 5 6 (eL ns k.n).length]),(5,.buf 1 ((eL ns k.n).map D.str)),(6,.buf 1 (de y (eL ns k.n))),(3,.buf 8 [cx.D y (.ptr 0 2 0 0)]),(4,.buf 2 [Key.D k]),(7,.buf 8 ((((eF y k).take i).map (dM y all k)).map en.D))]) 20 (fun i=>i<=(eF y k).length/\(((eF y k).take i).map (dM y all k)).any oe=false) (fun i=>(eF y k).length-i) ⟨ae,rfl⟩ [(13,5),(14,6),(3,3),(4,4)] ?_;rintro i ⟨hi,hwd⟩;have hof:=(wY hp0.1.p k).1;have hcl:(((eF y k).take i).map (dM y all k)).length<=i:=by rw[bg,ek];omega
 refine zc ?_ ?_<;>intro hc1
 .refine dD ?_;obtain⟨hxp,hxv⟩:=aeR hp0.1 (k:=k) (i:=i) ae;obtain⟨hql,hq3⟩:=lA (e:=y.e) (ft:=k.f) hxp;refine dD ?_;refine cy _ ?_;refine ib ?_;refine cU ?_;refine a8 (.agg [.int .i64 (⟨(eF y k)[i]!.r.v,(eF y k)[i]!.sh,dy all (cH (eF y k)[i]!.r y.e k.f),[]⟩:en).v.major,.int .i64 (⟨(eF y k)[i]!.r.v,(eF y k)[i]!.sh,dy all (cH (eF y k)[i]!.r y.e k.f),[]⟩:en).v.minor,.int .i64 (⟨(eF y k)[i]!.r.v,(eF y k)[i]!.sh,dy all (cH (eF y k)[i]!.r y.e k.f),[]⟩:en).v.patch,.str (⟨(eF y k)[i]!.r.v,(eF y k)[i]!.sh,dy all (cH (eF y k)[i]!.r y.e k.f),[]⟩:en).v.pre,.str (⟨(eF y k)[i]!.r.v,(eF y k)[i]!.sh,dy all (cH (eF y k)[i]!.r y.e k.f),[]⟩:en).v.build,.int .i64 (⟨(eF y k)[i]!.r.v,(eF y k)[i]!.sh,dy all (cH (eF y k)[i]!.r y.e k.f),[]⟩:en).sh,.sl 1 ((⟨(eF y k)[i]!.r.v,(eF y k)[i]!.sh,dy all (cH (eF y k)[i]!.r y.e k.f),[]⟩:en).needs.map jv),.aK]) ?_;refine dD ?_;refine Ak [(0,.buf 2 [eG 5 6 (eL ns k.n).length]),(5,.buf 1 ((eL ns k.n).map D.str)),(6,.buf 1 (de y (eL ns k.n))),(3,.buf 8 [cx.D y (.ptr 0 2 0 0)]),(4,.buf 2 [Key.D k]),(7,.buf 8 ((((eF y k).take i).map (dM y all k)).map en.D)),(23,.buf 10 [ub.D (eF y k)[i]!]),(40,.buf 8 [en.D (⟨(eF y k)[i]!.r.v,(eF y k)[i]!.sh,dy all (cH (eF y k)[i]!.r y.e k.f),[]⟩:en)])] ((.id ai (.id ai (.id ai (.id ai (.id ai (.id ai (.id ai (.bf ai (.cons (.ag ((.cons (.refl _) (.cons (.refl _) (.cons (.refl _) (.cons (.refl _) (.cons (.refl _) (.cons (.refl _) (.cons (.refl _) (.cons (.nil 3) .nil)))))))))) .nil) .nil))))))))) ?_;refine zc ?_ ?_<;>intro hc2
  .refine p9 ?_;refine cy (en.D (⟨(eF y k)[i]!.r.v,(eF y k)[i]!.sh,dy all (cH (eF y k)[i]!.r y.e k.f),we all (eF y k)[i]!.r y.e⟩:en)) (he:=cY) ?_;refine cU ?_;rw[show(⟨(eF y k)[i]!.r.v,(eF y k)[i]!.sh,dy all (cH (eF y k)[i]!.r y.e k.f),we all (eF y k)[i]!.r y.e⟩:en)=(dM y all k (eF y k)[i]!)from abx hc2];refine zg ?_;intro u1;refine dG ?_ ?_<;>intro hc3
   .refine kV ?_;refine hR (aY.nz _ [_,_,_,⟨true,.sl 8 []⟩,_,_,_,_,_,_,_,_,_,_,_,_,_] _ _ [(0,.buf 2 [eG 5 6 (eL ns k.n).length]),(5,.buf 1 ((eL ns k.n).map D.str)),(6,.buf 1 (de y (eL ns k.n)))] ⟨⟨rfl,.refl _⟩,⟨rfl,.refl _⟩,⟨rfl,.refl _⟩,⟨rfl,.nil 8⟩,⟨rfl,.refl _⟩,⟨rfl,.refl _⟩,⟨rfl,.refl _⟩,⟨rfl,.refl _⟩,⟨rfl,.refl _⟩,⟨rfl,.refl _⟩,⟨rfl,.refl _⟩,⟨rfl,.refl _⟩,⟨rfl,.refl _⟩,⟨rfl,.refl _⟩,⟨rfl,.refl _⟩,⟨rfl,.refl _⟩,⟨rfl,.refl _⟩,trivial⟩ (.id ai (.id ai (.id ai .nil)))) ?_;refine zg ?_;refine dY trivial jo (dc ai (?_)) ai ⟨aaq,5,6,⟨ae,ae,ae⟩,aao⟩;rfl
   refine fk ?_;refine bc [en.D (dM y all k (eF y k)[i]!)] ?_;refine cI (q:=en.D) (xs:=(((eF y k).take i).map (dM y all k))) (e:=(dM y all k (eF y k)[i]!)) (hb:=ae) ?_;refine zg ?_;rw[<-map_take (f:=dM y all k) (l:=eF y k) (i:=i) ae];refine gD (i+1) [(3,3),(4,4),(5,5),(6,6),(66,7)] ?_;exact Qw ae hwd ae
  refine cU ?_;rw[show(⟨(eF y k)[i]!.r.v,(eF y k)[i]!.sh,dy all (cH (eF y k)[i]!.r y.e k.f),[]⟩:en)=(dM y all k (eF y k)[i]!)from abw hc2];refine zg ?_;intro u1;refine dG ?_ ?_<;>intro hc3
  .refine kV ?_;refine hR (aY.nz _ [_,_,_,⟨true,.sl 8 []⟩,_,_,_,_,_,_,_,_,_,_,_,_,_] _ _ [(0,.buf 2 [eG 5 6 (eL ns k.n).length]),(5,.buf 1 ((eL ns k.n).map D.str)),(6,.buf 1 (de y (eL ns k.n)))] ⟨⟨rfl,.refl _⟩,⟨rfl,.refl _⟩,⟨rfl,.refl _⟩,⟨rfl,.nil 8⟩,⟨rfl,.refl _⟩,⟨rfl,.refl _⟩,⟨rfl,.refl _⟩,⟨rfl,.refl _⟩,⟨rfl,.refl _⟩,⟨rfl,.refl _⟩,⟨rfl,.refl _⟩,⟨rfl,.refl _⟩,⟨rfl,.refl _⟩,⟨rfl,.refl _⟩,⟨rfl,.refl _⟩,⟨rfl,.refl _⟩,⟨rfl,.refl _⟩,trivial⟩ (.id ai (.id ai (.id ai .nil)))) ?_;refine zg ?_;refine dY trivial jo (dc ai (?_)) ai ⟨aaq,5,6,⟨ae,ae,ae⟩,aao⟩;rfl
  refine fk ?_;refine bc [en.D (dM y all k (eF y k)[i]!)] ?_;refine cI (q:=en.D) (xs:=(((eF y k).take i).map (dM y all k))) (e:=(dM y all k (eF y k)[i]!)) (hb:=ae) ?_;refine zg ?_;rw[<-map_take (f:=dM y all k) (l:=eF y k) (i:=i) ae];refine gD (i+1) [(3,3),(4,4),(5,5),(6,6),(58,7)] ?_;exact Qw ae hwd ae
 refine cU ?_;obtain rfl:i=(eF y k).length:=ae;rw[List.take_length]at hwd⊢;refine bB 7 ?_ (he:=Z0) (hm:=Z0);refine kV ?_;refine dA (nx':=23) (v:=uj (dE y k.n)) (m':=[(25,.buf 1 ((eL (eL ns k.n) k.n).map D.str)),(26,.buf 1 (de y (eL (eL ns k.n) k.n))),(0,.buf 2 [eG 25 26 (eL (eL ns k.n) k.n).length]),(3,.buf 8 [cx.D y (.ptr 0 2 0 0)]),(4,.buf 2 [Key.D k])]) (hc:=fun K' hK=>hF y (eL ns k.n) k.n hp0.1.p (by have:=Kv ns k.n;omega) _ 0 5 6 _ K' eo eo eo aU ⟨rfl,rfl,rfl⟩ hK) (hn:=aU) ?_;refine zg ?_;intro u2;refine dY trivial jo (dc ai (?_)) ai ⟨by first|(rw[rB,KB hc0 hwd];done)|(rw[rB,KB hc0 hwd];simp),25,26,⟨ae,ae,ae⟩,by rw[show jk ns k=eL (eL ns k.n) k.n by rw[N6 hc0,SN]];exact sF⟩;rw[gK aF,show decide ((dE y k.n).length<=16)=decide (((dE y k.n).length:Int)<=16)from lI.2 ae];rfl
def K2:aj:=ba 118
def w533:tK (cq Y K2):=fun s b hp0=>by
 refine zg ?_;intro u0;refine fX hm (ι:=(Nat×Nat×List av)) (fun p:Nat×Nat×List av=>[⟨true,.str s⟩,⟨true,.int .u8 b⟩,.un,⟨true,.int .i64 (p.1:Nat)⟩,⟨true,.int .i64 (s.length:Nat)⟩,.un,.un,.un,⟨true,.own 0 1 0 p.2.2.length⟩,⟨true,.int .i64 (p.2.1:Nat)⟩]) (fun p=>[(0,.buf 1 (p.2.2.map D.str))]) 6 (fun p=>p.1<=s.length/\p.2.1<=p.1/\p.2.2.length<=p.1/\a7 s b=p.2.2++fj b (s.drop p.1) ((s.take p.1).drop p.2.1)) (fun p=>s.length-p.1) (0,0,[]) ⟨aF,aF,aF,rfl⟩ (aY.to [] ai ai aaj (by repeat(first|exact bm.nil|refine bm.mt ai ai ai ai ?_))) ?_;rintro⟨i,fr,acc⟩ ⟨hi,hf,ha,hr⟩;dsimp only at hi hf ha hr⊢;refine zc ?_ ?_<;>intro hc0
 .refine zg ?_;refine wp_cond (fun hc1=>?_) (fun hc1=>?_)
  .try simp only[gF]at hc1
   refine kn ?_;refine bc [(.str _)] ?_;refine zg ?_;exact⟨(i+1,i+1,acc++[(s.take i).drop fr]),⟨mz,mz,fo,by rw[hr,FQ ae hc1];simp⟩,mz,(aY.to [(20,0)] ai ai qqq6 (by refine bm.nl 20 ai ai ai dS ?_;exact bm.nil))⟩
  simp only[cv]at hc1;refine zg ?_;exact⟨(i+1,fr,acc),⟨mz,mz,mz,by rw[hr,FR ae ae hc1]⟩,mz,(aY.to [(0,0)] ai ai qqq6 JW)⟩
 refine qL ?_;refine bc [(.str _)] ?_;refine dD ?_;refine bB 12 ?_;refine zr ?_;have hs:a7 s b=acc++[s.drop fr]:=by rw[hr,Dv ae]
 rw[hs];exact rfl
def AU:aj:=ba 163
def w659:tQ (cq Y AU):=fun t=>by
 refine zg ?_;intro u0;refine zf hm (fun i=>[.e (.str t),.u 1,.i i,.i t.length,.u 3]) (fun i=>[]) 4 (fun i=>i<=t.length/\bU (fun i=>bH (at8 t i)) 0 t.length=bU (fun i=>bH (at8 t i)) i t.length) (fun i=>t.length-i) ⟨ae,rfl⟩ [] ?_;rintro i ⟨hi,hr⟩;refine zc ?_ ?_<;>intro hc0
 .refine zc ?_ ?_<;>intro hc1
  .refine zr ?_;simp only[cK];rw[hr,az ae];rcases hc1 with h|h<;>simp[bH]<;>omega
  refine gD (i+1) [] ?_;rw[hr,az ae];rw[show bH (at8 t i)=true by simp only[bH,aD,aW];omega];rfl
 refine zr ?_;simp only[cK];rw[hr,bA ae];cases t<;>simp
def H9:aj:=ba 113
def w440 {Y:Ctx}(hm:(Y.at 0).bV):tE (cq Y H9):=fun n=>by
 exact my
def Ia:aj:=ba 115
def w442 (hA:UW Y):IV (cq Y Ia):=fun s hp0=>by
 refine zg ?_;intro u0 u1;refine zf hm (fun i=>[.u 2,.m 1 (a7 s 46) D.str,.i i,.i ((a7 s 46).length:Nat),.u 1,.m 1 (a7 s 46) D.str,.u 7,.e (.bool (decide (((a7 s 46).length:Int)<=4)))]) (fun i=>[]) 11 (fun i=>i<=(a7 s 46).length/\sv s false=(decide ((a7 s 46).length<=4)&&bU (fun i=>jc false (a7 s 46)[i]!) i (a7 s 46).length)) (fun i=>(a7 s 46).length-i) ⟨ae,rfl⟩ [] ?_;rintro i ⟨hi,hr⟩;refine zc ?_ ?_<;>intro hc0
 .refine x9 ?_;generalize ht:(a7 s 46)[i]! =t;refine zc ?_ ?_<;>intro hc1
  .refine zr ?_;first
    |(rw[hr,bA ae,gL];exact lI.2 ae)
    |(have hb:vM t=false:=by
       first
       |(simp only[vM];rcases hc1 with h|h
         .subst h;simp
         .rw[bG (by omega:¬t.length<=8)];simp)
       |(have hz:mZ (at8 t j)=false:=by
          rcases hcw with⟨_,h,_⟩|⟨_,h⟩<;>(simp only[mZ,jH,bH,eW,ed,cv];omega)
         rw[hj,az hnx,hz];rfl)
      rw[hr,az ae,show jc false (a7 s 46)[i]! =false from(by simp only[jc,ht,hb,Bool.false_and])];simp)
  refine zg ?_;have hT:vM t=bU (fun i=>mZ (at8 t i)) 0 t.length:=by
   have:=List.length_pos_iff.2 hc1.1;simp only[vM];rw[bo ae,bo ae];rfl
  refine ZT hm (fun j=>[.u 2,.m 1 (a7 s 46) D.str,.i i,.i ((a7 s 46).length:Nat),.u 1,.m 1 (a7 s 46) D.str,.u 2,.e (.it 23),.u 4,.e (.bool (decide (((a7 s 46).length:Int)<=4)))]) (fun j=>[(23,.iter t j)]) 24 (fun j=>j<=t.length/\vM t=bU (fun i=>mZ (at8 t i)) j t.length) (fun j=>t.length-j) ⟨ae,hT⟩ [(23,23)] ?_;rintro j ⟨hj0,hj⟩;refine zg ?_;by_cases hnx:j<t.length
  .obtain⟨c,w,hdec,hw,hcw⟩:=wy t j hnx;refine Hv c w (hp:=hnx) (hc:=hdec) ?_;refine zg ?_;refine aQ (t:=true) (fun _=>?_) (fun h=>bZ);refine fP ?_;refine lG ?_ hm;refine aP ?_;refine kL (.int _ _) ?_;refine bE ?_;refine bp (env':=[_,_,_,_,_,_,_,_,_,_,_,_,⟨_,(.int _ _)⟩,_,_]) ?_;refine aP ?_;refine bE ?_;refine yO ?_;refine bE ?_;refine bE ?_;refine oS ?_;refine LW ?_;refine bE ?_;refine bE ?_;refine yO ?_;refine bE ?_;refine bE ?_;refine oS ?_;refine LW ?_;refine uD ?_;refine bE ?_;refine bE ?_;refine oT ?_;refine uD ?_;refine bp (env':=[_,_,_,_,_,_,_,_,_,_,_,_,_,⟨_,(.bool _)⟩,_]) ?_;refine A3 ?_ ?_<;>intro hc3
   .refine zg ?_;refine rrrb ?_;first
     |(rw[hr,bA ae,gL];exact lI.2 ae)
     |(have hb:vM t=false:=by
        first
        |(simp only[vM];rcases hc1 with h|h
          .subst h;simp
          .rw[bG (by omega:¬t.length<=8)];simp)
        |(have hz:mZ (at8 t j)=false:=by
           rcases hcw with⟨_,h,_⟩|⟨_,h⟩<;>(simp only[mZ,jH,bH,eW,ed,cv];omega)
          rw[hj,az hnx,hz];rfl)
       rw[hr,az ae,show jc false (a7 s 46)[i]! =false from(by simp only[jc,ht,hb,Bool.false_and])];simp)
   refine dD ?_;obtain⟨rfl,hat,-⟩:w=1/\(c:Int)=at8 t j/\c<128:=by
    rcases hcw with h|h
    .exact h
    .omega
   have hz:mZ (at8 t j)=true:=by
    simp only[mZ,jH,bH,dC,aD,aW];omega
   refine gD (j+1) [(23,23)] ?_;rw[hj,az hnx,hz];rfl
  .refine Hu (hp:=hnx) ?_;refine zg ?_;refine aQ (t:=false) (fun h=>bZ) (fun _=>?_);refine gD (i+1) [] ?_;rw[hr,az ae];rw[show jc false (a7 s 46)[i]! =true from(by simp only[jc,Bool.false_and,Bool.not_false,gL];rw[ht,hj,bA ae])];rfl
 refine zr ?_;first
  |(rw[hr,bA ae,gL];exact lI.2 ae)
  |(have hb:vM t=false:=by
     first
     |(simp only[vM];rcases hc1 with h|h
       .subst h;simp
       .rw[bG (by omega:¬t.length<=8)];simp)
     |(have hz:mZ (at8 t j)=false:=by
        rcases hcw with⟨_,h,_⟩|⟨_,h⟩<;>(simp only[mZ,jH,bH,eW,ed,cv];omega)
       rw[hj,az hnx,hz];rfl)
    rw[hr,az ae,show jc false (a7 s 46)[i]! =false from(by simp only[jc,ht,hb,Bool.false_and])];simp)
def L2:aj:=ba 236
def w211 (hA:Sz Y)(hB:C444 Y):It (cq Y L2):=fun r name rng hp0=>by
 refine zc ?_ ?_<;>intro hc0
 .refine zr ?_;rw[gB,ak hc0]
 refine zc ?_ ?_<;>intro hc1
 .refine zr ?_;rw[gB,ah jB,ak hc1]
 refine zc ?_ ?_<;>intro hc2
 .refine zr ?_;rw[gB,ah jB,ah hc1,ak hc2]
 refine zr ?_;rw[gB,ah jB,ah hc1,ah (by simp[hc2])]
def L3:aj:=ba 268
def w443 (hA:C211 Y)(hB:SB Y):tF (cq Y L3):=fun r w al hp0=>by
 refine Ii ?_;refine aE (hc:=hA r w.name w.range hp0.1.2) ?_;refine zc ?_ ?_<;>intro hc0
 .refine zr ?_;rw[lh,ak hc0]
 refine zg ?_;intro u0;refine aQ (fun hc1=>?_) (fun hc1=>?_)
 .have hq:(decide (w.feats.length<=6)&&(al ||decide (w.feats.length=0)))=false:=by rw[<-cz,<-ZH];exact hc1
  refine zr ?_;rw[lh,ah jB,ak (by unfold nu;rw[hq];rfl)]
 have hq:(decide (w.feats.length<=6)&&(al ||decide (w.feats.length=0)))=true:=by rw[<-df,<-ZH];exact hc1
 refine zg ?_;intro u1;refine zf hm (fun i=>[.u 2,.e (.bool al),.u 1,.p 0 9,.p 1 4,.u 3,.i i,.i w.feats.length,.u 1,.m 1 w.feats D.str,.u 3]) (fun i=>[(0,.buf 9 [Rec.D r]),(1,.buf 4 [cZ.D w])]) 30 (fun i=>i<=w.feats.length/\nu w.feats al=bU (wfB w.feats) i w.feats.length) (fun i=>w.feats.length-i) ⟨ae,by unfold nu;rw[hq,ew]⟩ [(0,0),(1,1)] ?_;rintro i ⟨hi,hr⟩;refine zc ?_ ?_<;>intro hc2
 .refine ib ?_;refine qL ?_;refine cF (i-1) ?_;refine zg ?_;refine wp_cond (fun hc3=>?_) (fun hc3=>?_)
  .have hz:wfB w.feats i=false:=by rw[<-cz,<-wf_c];exact hc3
   refine zr ?_;rw[lh,ah jB,ak (by rw[hr,az ae,hz];rfl)]
  have hz:wfB w.feats i=true:=by rw[<-df,<-wf_c];exact hc3
  refine gD (i+1) [(0,0),(1,1)] ?_;rw[hr,az ae,hz];rfl
 refine zr ?_;rw[lh,ah jB,ah (by rw[hr,bA ae];simp)]
def L0:aj:=ba 235
def w210 (hA:C212 Y)(hB:SB Y)(hC:C443 Y):tq (cq Y L0):=fun r n hp0=>by
 refine zg ?_;intro u0;refine dG ?_ ?_<;>intro hc0
 .refine zr ?_;rw[js,ak ae]
 refine zg ?_;intro u1;refine dG ?_ ?_<;>intro hc1
 .refine zr ?_;rw[js,ah ae,ak ae]
 refine zg ?_;intro u2;refine zf hm (fun i=>[.u 3,.p 1 3,.u 2,.i i,.i n.any.length,.u 1,.m 4 n.any cZ.D,.p 0 9,.u 5]) (fun i=>[(0,.buf 9 [Rec.D r]),(1,.buf 3 [bj.D n])]) 15 (fun i=>i<=n.any.length/\nv r n.any=fM (fun i=>lh r n.any[i]! (decide ((n.any.length:Int)=1))) i n.any.length) (fun i=>n.any.length-i) ⟨ae,rfl⟩ [(0,0),(1,1)] ?_;rintro i ⟨hi,hr⟩;refine zc ?_ ?_<;>intro hc2
 .refine DU ?_;intro u3;refine aE (hc:=hC r n.any[i]! _ (hp0.1 _ (aq ae))) ?_;refine zc ?_ ?_<;>intro hc3
  .refine zr ?_;have hw:nv r n.any=lh r n.any[i]! (decide ((n.any.length:Int)=1)):=by rw[hr,lq ae hc3]
   rw[js,ah ae,ah ae,ak (by rw[hw];exact hc3),hw]
  refine gD (i+1) [(0,0),(1,1)] ?_;rw[hr,py ae hc3]
 refine fk ?_;have hw0:nv r n.any=0:=by rw[hr,px ae]
 refine cU ?_;refine aE (hc:=hA n.when' hp0.2.1) ?_;refine zg ?_;refine aQ (fun hc4=>?_) (fun hc4=>?_)
 .try simp only[gF]at hc4
  refine zr ?_;rw[js,ah ae,ah ae,ah lR,ak hc4]
 simp only[df]at hc4;refine zg ?_;refine aQ (fun hc5=>?_) (fun hc5=>?_)
 .try simp only[gF]at hc5
  refine zr ?_;rw[js,ah ae,ah ae,ah lR,ah (by simp[hc4]),ak hc5]
 simp only[ed,df,aW]at hc5;refine zr ?_;rw[js,ah ae,ah ae,ah lR,ah (by simp[hc4]),ah (by rintro⟨g1,g2⟩;rcases hc5 with h|h;exact g1 h;rw[g2]at h;cases h)]
def LZ:aj:=ba 239
def w214 (hA:C448 Y):Iu (cq Y LZ):=fun r s hp0=>by
 refine zg ?_;intro u0;refine zf hm (fun i=>[.u 3,.p 0 9,.i i,.i r.needs.length,.u 1,.m 3 r.needs bj.D,.i (bI s).1,.u 1,.e (.str (bI s).2.1),.u 4]) (fun i=>[(0,.buf 9 [Rec.D r])]) 15 (fun i=>i<=r.needs.length/\nQ r s=(if(r.needs.drop i).any (itC (bI s).1 (bI s).2.1)=true then 0 else itE (bI s).1)) (fun i=>r.needs.length-i) ⟨ae,WY r s⟩ [(0,0)] ?_;rintro i ⟨hi,hr⟩;refine zc ?_ ?_<;>intro hc0
 .refine ib ?_;refine ib ?_;refine cV ?_;refine cF 0 (hb:=fun h=>J9) ?_;refine cV ?_;refine c7 (q:=cZ.D) (xs:=r.needs[i]!.any) (i:=0) (hi:=fun h=>J9) (v:=(.str r.needs[i]!.any[0]!.name)) ?_;refine zg ?_;refine wp_cond (fun hc1=>?_) (fun hc1=>?_)
  .have hz:itC (bI s).1 (bI s).2.1 r.needs[i]! =true:=hc1;refine zr ?_;rw[hr,v8 ae hz];rfl
  have hz:itC (bI s).1 (bI s).2.1 r.needs[i]! =false:=hc1;refine gD (i+1) [(0,0)] ?_;rw[hr,BB ae hz]
 refine fk ?_;have he:nQ r s=itE (bI s).1:=by rw[hr,v7 ae];rfl
 refine zc ?_ ?_<;>intro hc2
 .refine zr ?_;rw[he,itE,ak hc2]
 refine zc ?_ ?_<;>intro hc3
 .refine zr ?_;rw[he,itE,ah hc2,ak hc3]
 refine zr ?_;rw[he,itE,ah hc2,ah hc3]
def sj:aj:=ba 60
def w362 {Y:Ctx}(hm:(Y.at 1).bV)(y:cx)(hA:C582 (Y.at 1))(hB:C583 (Y.at 1))(hp0:qa y/\kX y.e):dn (Y.at 1) sj.body (uc sj (WldQ y):Ex->List aX->St->Prop) (fI sj [cx.D y (.ptr 0 2 0 0)]) ⟨1,[(0,.buf 2 [.agg [.aK,.aK]])]⟩:=by
 show dn _ _ _ [⟨true,cx.D y (.ptr 0 2 0 0)⟩,.un,.un,.un,.un,.un,.un,.un,.un,.un,.un] ⟨1,[(0,.buf 2 [.agg [.aK,.aK]])]⟩;refine aP ?_;refine qL ?_;refine hR (aY.to [(1,3),(2,1),(4,2)] (nx':=8) rfl ai (env':=[.un,⟨true,.ptr 1 1 0 0⟩,⟨true,.bool false⟩,⟨true,.ptr 3 8 0 0⟩,.un,.un,.un,.un,.un,⟨true,.ptr 2 1 0 0⟩,.un]) (m':=[(0,.buf 2 [eG 5 6 ([]:List av).length]),(5,.buf 1 (([]:List av).map D.str)),(6,.buf 1 (de y [])),(3,.buf 8 [cx.D y (.ptr 0 2 0 0)]),(1,.buf 1 [.agg [.aK]]),(2,.buf 1 [.agg [.aK]])]) eD (by refine bm.ni 0 ai ai (by exact⟨_,_,rfl,⟨_,rfl,⟨_,_,rfl,.inr ⟨_,_,_,rfl⟩,⟨_,_,rfl,.inr ⟨_,_,_,rfl⟩,rfl⟩⟩⟩,rfl⟩) ?_;refine bm.mt ai ai ai ai ?_;refine bm.mt ai ai ai ai ?_;refine bm.eq 1 ai ai ai ?_;refine bm.eq 2 ai ai ai ?_;refine bm.eq 4 ai ai ai ?_;exact bm.nil)) ?_;refine cU ?_;refine dA (nx':=10) (v:=.tup [.sl 2 ((iF y).map Key.D),.bool (okY y)]) (m':=[(9,.buf 1 ((sb y 49 nq []).map D.str)),(10,.buf 1 (de y (sb y 49 nq []))),(0,.buf 2 [eG 9 10 (sb y 49 nq []).length]),(3,.buf 8 [cx.D y (.ptr 0 2 0 0)]),(1,.buf 1 [.agg [.aK]]),(2,.buf 1 [.agg [.aK]])]) (hc:=fun K' hK=>(FC y▸hA y [] hp0 aF) _ 0 5 6 _ K' eo eo eo aU ⟨rfl,rfl,rfl⟩ hK) (hn:=aU) ?_;refine qL ?_;have hal:=Vt y;have hok0:okY y=XF y 0:=by unfold XF;rw[nw,gL]
 rw[hok0];refine zg ?_;refine fX hm (ι:=Nat) (fun i=>[.un,⟨true,.ptr 1 1 0 0⟩,.un,⟨true,.ptr 3 8 0 0⟩,⟨true,.int .i64 (i:Nat)⟩,⟨true,.sl 2 (((iF y)).map Key.D)⟩,⟨true,.bool ((XF y i))⟩,.un,.un,⟨true,.ptr 2 1 0 0⟩,.un]) (fun i=>[(0,.buf 2 [eG 5 6 (XB y i).length]),(5,.buf 1 ((XB y i).map D.str)),(6,.buf 1 (de y (XB y i))),(3,.buf 8 [cx.D y (.ptr 0 2 0 0)]),(1,.buf 1 [.agg [.aK]]),(2,.buf 1 [.agg [.own 7 3 0 (xQ y i).length]]),(7,.buf 3 ((xQ y i).map cL.D))]) 20 (fun i=>i<=(iF y).length) (fun i=>(iF y).length-i) 0 ae (aY.to [(1,1),(2,2),(3,3),(9,5),(10,6)] ai ai eD (by repeat(first|exact bm.nil|refine bm.AA ai ai dS ?_|refine bm.Nj ai ai ai ?_|refine bm.Nk ai ai ai ai ?_|refine bm.AA ai ai (by exact iZ _ _) ?_|refine bm.nl 0 ai ai ai qN ?_|refine bm.eq 0 ai ai ai ?_|refine bm.nl 9 ai ai ai qN ?_|refine bm.eq 9 ai ai ai ?_|refine bm.nl 10 ai ai ai qN ?_|refine bm.eq 10 ai ai ai ?_|refine bm.nl 3 ai ai ai qN ?_|refine bm.eq 3 ai ai ai ?_|refine bm.nl 1 ai ai ai qN ?_|refine bm.eq 1 ai ai ai ?_|refine bm.ni 2 ai ai (by exact⟨_,_,rfl,⟨_,rfl,⟨_,_,rfl,.inr ⟨_,_,_,rfl⟩,rfl⟩⟩,rfl⟩) ?_|refine bm.mt ai ai ai ai ?_))) ?_;intro i hi;have hnl:=ac0 y i;have hul:=M1 (y:=y) i;refine zg ?_;intro u0;refine dG ?_ ?_<;>intro hc0
 .refine x9 ?_;refine dA (nx':=29) (v:=.tup [.sl 8 ((eh y (iF y) (iF y)[i]!).1.map en.D),.bool (eh y (iF y) (iF y)[i]!).2]) (m':=[(33,.buf 1 ((jk (XB y i) (iF y)[i]!).map D.str)),(34,.buf 1 (de y (jk (XB y i) (iF y)[i]!))),(0,.buf 2 [eG 33 34 (jk (XB y i) (iF y)[i]!).length]),(3,.buf 8 [cx.D y (.ptr 0 2 0 0)]),(1,.buf 1 [.agg [.aK]]),(2,.buf 1 [.agg [.own 7 3 0 (xQ y i).length]]),(7,.buf 3 ((xQ y i).map cL.D))]) (hc:=fun K' hK=>hB y (XB y i) (iF y) (iF y)[i]! hp0 ae _ 0 5 6 _ K' eo eo eo aU ⟨rfl,rfl,rfl⟩ hK) (hn:=aU) ?_;refine ib ?_;refine uq ?_;refine a8 (cL.D (rj y (iF y) (iF y)[i]!)) ?_;refine bc [cL.D (rj y (iF y) (iF y)[i]!)] ?_;refine cI (q:=cL.D) (xs:=(xQ y i)) (e:=(rj y (iF y) (iF y)[i]!)) (hb:=ae) ?_;refine cV ?_;refine cy (.agg [.own 58 3 0 ((xQ y i)++[(rj y (iF y) (iF y)[i]!)]).length]) (he:=cY) ?_;refine zg ?_;rw[akp hc0.2,okS_s hc0.2,nsS_s];exact ij (i+1) [(1,1),(2,2),(3,3),(33,5),(34,6),(58,7)]
 refine cU ?_;have hwe:=UC hi (by rcases hc0 with h|h;exact .inl h;exact .inr h);refine bB 7 ?_ (he:=ZZ) (hm:=ZZ);refine cV ?_;refine mf (d:=bT.D ⟨(xQ y i)⟩) ?_;refine zg ?_;refine dY trivial CP (dc ai (?_)) ai (by first|(rw[WldQ,y2,hwe];done)|(rw[WldQ,y2,hwe];exact rfl));rfl
def Ph:aj:=ba 245
def w882:JL (cq Y Ph):=fun n hp0=>by
 refine kV ?_;refine zO ((n%10:Nat):Int) (hn:=by intro _;omega) (hb:=fun _=>rfl) ?_;refine qY ((n%10:Nat):Int) (hb:=fun _=>IntWalk.u8_in _ ae) ?_;refine Yp (((dg (n%10)).toNat:Nat):Int) (hb:=fun _=>by rw[aew ae];exact IntWalk.u8_in _ ae) ?_;refine bc [.int .u8 _] ?_;refine Yq [dg (n%10)] (he:=fun _=>nF.all ai rfl) (hs:=fun _=>rfl) ?_;refine zg ?_;have h0:nI n=(if n<10 then []else nI (n/10))++[dg (n%10)]:=by
  split
  .rename_i h;rw[A5 h,Nat.mod_eq_of_lt h];rfl
  .rw[A4 ae]
 refine zfx hm ((n,[dg (n%10)]):(Nat×av)) (fun p=>[.e (.int .u64 (p.1:Nat)),.u 2,.e (.str p.2)]) (fun p=>[]) 8 (fun p=>p.1<=9999/\p.2.length<=9999-p.1+1/\nI n=(if p.1<10 then []else nI (p.1/10))++p.2) (fun p=>p.1) ⟨hp0,aF,h0⟩ [] ?_;rintro⟨k,s⟩ ⟨hk,hs,hr⟩;dsimp only at hk hs hr⊢;refine zc ?_ ?_<;>intro hc0
 .refine fk ?_;refine r_quo ((k/10:Nat):Int) (hn:=by intro _;omega) (hb:=fun _=>by rw[show((k:Int).tdiv 10)=((k/10:Nat):Int)from rfl,IntKind.wrap_u64];omega) ?_;refine fk ?_;refine zO (((k/10)%10:Nat):Int) (hn:=by intro _;omega) (hb:=fun _=>rfl) ?_;refine qY (((k/10)%10:Nat):Int) (hb:=fun _=>IntWalk.u8_in _ ae) ?_;refine Yp (((dg ((k/10)%10)).toNat:Nat):Int) (hb:=fun _=>by rw[aew ae];exact IntWalk.u8_in _ ae) ?_;refine bc [.int .u8 _] ?_;refine Yq [dg ((k/10)%10)] (he:=fun _=>nF.all ai rfl) (hs:=fun _=>rfl) ?_;refine zg ?_;have h1:nI n=(if k/10<10 then []else nI (k/10/10))++([dg (k/10%10)]++s):=by
   rw[hr,ah ae];split
   .rename_i h;rw[A5 h,Nat.mod_eq_of_lt h];rfl
   .rw[A4 ae,fm]
  exact⟨(k/10,[dg (k/10%10)]++s),⟨mz,fo,h1⟩,mz,(gtt [])⟩
 refine zr ?_;rw[hr,ak ae];rfl
def Mn:aj:=ba 207
def w734 {Y:Ctx}(hm:(Y.at 0).bV)(hA:C882 Y):oI (cq Y Mn):=fun n hp0=>by
 refine zc ?_ ?_<;>intro hc0
 .omega
 refine cU ?_;obtain⟨k,rfl⟩:∃k:Nat,n=k:=⟨n.toNat,ae⟩
 refine cV ?_;refine qY (k:Int) (hb:=fun _=>by rw[IntKind.wrap_u64];omega) ?_;exact my
def Pf:aj:=ba 131
def w470:tK (cq Y Pf):=fun s b hp0=>by
 refine zg ?_;refine fX hm (ι:=(Nat×Nat×List av)) (fun p:Nat×Nat×List av=>[⟨true,.str s⟩,⟨true,.int .u8 b⟩,.un,⟨true,.int .i64 (p.1:Nat)⟩,.un,.un,⟨true,.own 0 1 0 p.2.2.length⟩,⟨true,.int .i64 (p.2.1:Nat)⟩]) (fun p=>[(0,.buf 1 (p.2.2.map D.str))]) 4 (fun p=>p.1<=s.length/\p.2.1<=p.1/\p.2.2.length<=p.1/\a7 s b=p.2.2++fj b (s.drop p.1) ((s.take p.1).drop p.2.1)) (fun p=>s.length-p.1) (0,0,[]) ⟨aF,aF,aF,rfl⟩ (aY.to [] ai ai aaj (by repeat(first|exact bm.nil|refine bm.mt ai ai ai ai ?_))) ?_;rintro⟨i,fr,acc⟩ ⟨hi,hf,ha,hr⟩;dsimp only at hi hf ha hr⊢;refine zg ?_;intro u0;refine dG ?_ ?_<;>intro hc0
 .refine zg ?_;refine wp_cond (fun hc1=>?_) (fun hc1=>?_)
  .try simp only[gF]at hc1
   refine kn ?_;refine bc [(.str _)] ?_;refine zg ?_;exact⟨(i+1,i+1,acc++[(s.take i).drop fr]),⟨mz,mz,fo,by rw[hr,FQ ae hc1];simp⟩,mz,(aY.to [(19,0)] ai ai qqq6 (by refine bm.nl 19 ai ai ai dS ?_;exact bm.nil))⟩
  simp only[cv]at hc1;refine zg ?_;exact⟨(i+1,fr,acc),⟨mz,mz,mz,by rw[hr,FR ae ae hc1]⟩,mz,(aY.to [(0,0)] ai ai qqq6 JW)⟩
 refine qL ?_;refine bc [(.str _)] ?_;refine dD ?_;refine bB 13 ?_;refine zr ?_;have hs:a7 s b=acc++[s.drop fr]:=by rw[hr,Dv ae]
 rw[hs];exact rfl
def Mt:aj:=ba 154
def w830:JJ (cq Y Mt):=fun od u n hp0=>by
 refine cV ?_;obtain⟨⟨⟨hu0,hu1⟩,hn⟩,hol⟩:=hp0;refine zg ?_;intro u0;refine qK hm (ι:=Unit) (fun _=>[⟨true,.sl 1 ((od).map jF)⟩,⟨true,.int .i64 u⟩,⟨true,.int .i64 (n:Nat)⟩,.un,.un,⟨true,.own 0 1 0 (cM od u).length⟩,.un,.un,.un,.un,.un,.un]) (fun _=>[(0,.buf 1 ((cM od u).map (D.int .i64)))]) 100 (fun _=>True) ?_ ?_
 .refine A3 ?_ ?_<;>intro hc0
  .refine cV ?_;have hou:=ajj (od:=od) (u:=u) ae;rw[hou]at hol;refine kV ?_;refine yM (he:=nF.sl) (n:=od[u.toNat]!.length) (hn:=aF) (hb:=ae) ?_;refine zg ?_;rw[hou];exact⟨(),trivial,(aY.to [(11,0)] ai ai eD (by repeat(first|exact bm.nil|refine bm.AA ai ai dS ?_|refine bm.Nj ai ai ai ?_|refine bm.Nk ai ai ai ai ?_|refine bm.nl 11 ai ai ai dS ?_)))⟩
  refine zg ?_;rw[aji (od:=od) (u:=u) ae];exact⟨(),trivial,(aY.to [] ai ai eD (by repeat(first|exact bm.nil|refine bm.AA ai ai dS ?_|refine bm.Nj ai ai ai ?_|refine bm.Nk ai ai ai ai ?_|refine bm.mt ai ai ai ai ?_)))⟩
 .rintro _-
  refine zg ?_;rw[show((n:Nat):Int) -1=((n:Nat):Int) -1-((0:Nat):Int)by omega];refine zf hm (fun t=>[.m 1 od jF,.i u,.i n,.u 2,.o 0 1 (cC (cM od u) n t).length,.i (((n:Nat):Int) -1-((t:Nat):Int)),.u 5]) (fun t=>[(0,.buf 1 ((cC (cM od u) n t).map (D.int .i64)))]) 103 (fun t=>t<=n) (fun t=>n-t) ae [(0,0)] ?_;intro t ht;have htl:=MV (cM od u) n t;refine zc ?_ ?_<;>intro hc1
  .refine zg ?_;refine zf hm (fun k=>[.m 1 od jF,.i u,.i n,.u 2,.o 0 1 (cC (cM od u) n t).length,.i (((n:Nat):Int) -1-((t:Nat):Int)),.u 1,.i k,.u 1,.e (.bool (ot (fun k=>decide ((cC (cM od u) n t)[k]! =(((n:Nat):Int) -1-((t:Nat):Int)))) 0 k)),.u 1]) (fun k=>[(0,.buf 1 ((cC (cM od u) n t).map (D.int .i64)))]) 107 (fun k=>k<=(cC (cM od u) n t).length) (fun k=>(cC (cM od u) n t).length-k) ae [(0,0)] ?_;intro k hk;refine zg ?_;intro _;refine dG ?_ ?_<;>intro hc2
   .refine p9 ?_;refine xk (q:=D.int .i64) (xs:=(cC (cM od u) n t)) (v:=.int .i64 (cC (cM od u) n t)[k]!) (hi:=fun _=>ae) (hv:=fun _=>tZ) ?_;refine zg ?_;rw[WA ae];exact ij (k+1) [(0,0)]
   refine cU ?_;obtain rfl:k=(cC (cM od u) n t).length:=ae;refine zc ?_ ?_<;>intro hc3
   .refine dD ?_;refine bc [.int .i64 (((n:Nat):Int) -1-((t:Nat):Int))] ?_;refine cI (q:=D.int .i64) (xs:=(cC (cM od u) n t)) (e:=(((n:Nat):Int) -1-((t:Nat):Int))) (hb:=ae) ?_;refine zg ?_;rw[akk hc3,show(((n:Nat):Int) -1-((t:Nat):Int)) -1=((n:Nat):Int) -1-((t+1:Nat):Int)by omega];exact ij (t+1) [(116,0)]
   refine zg ?_;rw[akj hc3,show(((n:Nat):Int) -1-((t:Nat):Int)) -1=((n:Nat):Int) -1-((t+1:Nat):Int)by omega];exact ij (t+1) [(0,0)]
  refine cU ?_;obtain rfl:t=n:=ae;refine bB 0 ?_;exact my
def Og:aj:=ba 24
def w111 {Y:Ctx}(hm:(Y.at 0).bV)     :wkk Y Og (.sl 1 (cB.map D.str)) []:=by
 refine fk ?_;refine bc (cB.map D.str) ?_;refine cU ?_;refine bB 1 ?_;exact my
def Lo:aj:=ba 25
def w135 {Y:Ctx}(hm:(Y.at 0).bV)     :wkk Y Lo (.sl 1 (j0.map D.str)) []:=by
 refine fk ?_;refine bc (j0.map D.str) ?_;refine cU ?_;refine bB 1 ?_;exact my
def Ol:aj:=ba 91
def w536:Jd (cq Y Ol):=fun l s=>by
 refine zg ?_;refine zf hm (fun i=>[.m 1 l D.str,.e (.str s),.u 1,.i i,.u 2]) (fun i=>[]) 2 (fun i=>i<=l.length/\gu (fun t=>decide (t=s)) l 0=gu (fun t=>decide (t=s)) (l.drop i) i) (fun i=>l.length-i) ⟨ae,rfl⟩ [] ?_;rintro i ⟨hi,hr⟩;refine zg ?_;intro u0;refine dG ?_ ?_<;>intro hc0
 .refine zc ?_ ?_<;>intro hc1
  .refine zr ?_;unfold Es;rw[hr,kD ae lK,ah ae]
  refine gD (i+1) [] ?_;rw[hr,jj ae lK]
 refine zr ?_;unfold Es;rw[hr,lX ae];rfl
def vv:aj:=ba 47
def w297 {Y:Ctx}(hm:(Y.at 1).bV)(hA:Gi (Y.at 1))(hB:C111 (Y.at 1))(hC:C536 (Y.at 1))(g:Gs)(own:av)(hp0:0<=g.i/\g.i<=990000):dn (Y.at 1) vv.body (Gl vv 2 (.str (cN g own).1) (Gs.D (cN g own).2):Ex->List aX->St->Prop) (fI vv (.ptr 0 2 0 0::[.str own])) ⟨1,[(0,.buf 2 [(Gs.D g)])]⟩:=by
 show dn _ _ _ [⟨true,.ptr 0 2 0 0⟩,⟨true,.str own⟩,.un,.un,.un,.un] ⟨1,[(0,.buf 2 [(Gs.D g)])]⟩;refine aP ?_;refine dD ?_;have r4:=g.eI 4 ae;have r3:=g.aR.eI 3 ae;have rz:=WV cB own;simp only[cB,bD,b9]at rz;refine p9 ?_;intro u0;refine c8 (hc:=hA g 4 ae kR) ?_;refine cF (g.val 4).toNat (hj:=fun _=>ae) (hb:=fun _=>o9) ?_;refine c7 (v:=.str cB[(g.val 4).toNat]!) (hi:=fun _=>o9) ?_;refine zc ?_ ?_<;>intro hc0
 .refine fk ?_;refine c8 (hc:=hA g.aR 3 ae kR) ?_;refine fk ?_;refine lO (hb:=by first|omega|(simp only[cB]at rz⊢;omega)) ?_;refine cU ?_;intro u1;refine zO ((g.aR.val 3+1+Es cB own)%4) (hn:=by intro _;decide) (hb:=fun _=>Int.tmod_eq_emod_of_nonneg (by first|omega|(simp only[cB]at rz⊢;omega))) ?_;refine cF ((g.aR.val 3+1+Es cB own)%4).toNat (hj:=fun _=>ae) (hb:=fun _=>o9) ?_;refine c7 (v:=.str cB[((g.aR.val 3+1+Es cB own)%4).toNat]!) (hi:=fun _=>o9) ?_;refine zg ?_;refine iP trivial jo (dc ai (aw D.str ?_)) (by unfold cN;rw[ak hc0];exact rfl) ai ai;unfold cN;rw[ak hc0]
 refine zg ?_;refine iP trivial jo (dc ai (aw D.str ?_)) (by unfold cN;rw[ah hc0];exact rfl) ai ai;unfold cN;rw[ah hc0]
def T2:aj:=⟨2,8,[⟨2,none⟩,⟨3,none⟩],[[.sl 2 [.a,.a]],[.a]],(sq (rg [gb 2 s1,gm (.c (.aK)),gm cbF] [(5,0),(2,1),(3,2)]) (sq (r1 [gm x8] 4 0) (sq (.block 0 (.loop (sq (sq (r2 [gm s4,gm s0,gl l1,nX l0 l2,gm l3,gmt 4 s0,gmt 4 s4,Ay 4 (.ia 2 l5 l6),QP 4 0 l7,gdt 4 l8,QP 4 0 s5,gdt 4 l10,Ay 4 (aet l9 l11),ga1 l4 l12] 6 13) (gce s6 0)) (.block 1 (r1 [gm s4,qu l0 Tk,gm l1] 4 2))))) (sq (sq (r2 [gm s4,gm s0,gl l1,nX l0 l2,gm l3,gmt 4 s0,gmt 4 s4,Ay 4 (.ia 2 l5 l6),QP 4 0 l7,gdt 4 l8,QP 4 0 s5,gdt 4 l10,Ay 4 (zi l9 l11),ga1 l4 l12] 7 13) (.cond s7 (sq (rt [gm s0,gm s0,gm s4,ga 2 l1 l2,gk 2 true l3,gk 2 true s5,gn (.eqA false true [.s,.s] l4 l5),gm l0,gm l6] [(2,7),(3,8)]) .ret) .skip)) (sq (rt [gm s0,gm s4,gn (.slA 2 l0 none (some l1)),gn (.appN 2 l2),gk 2 true s5,gn (.bsl 2 (.agg [.str [],.str []]) 1 [(0,l4)]),gn (.app 2 l3 l5),gm s0,gm s4,gn (.slA 2 l7 (some l8) none),gn (.app 2 l6 l9),gm l10,gm cbT] [(2,11),(3,12)]) .ret)))))⟩
def w581:Jg (cq Y T2):=fun l p hp0=>by
 refine zg ?_;refine zf hm (fun i=>[.m 2 l iC.D,.u 3,.i i,.p 0 2,.u 2]) (fun i=>[(0,.buf 2 [iC.D p])]) 4 (fun i=>i<=l.length/\lD.kPin l p 0=lD.kPin l p i) (fun i=>l.length-i) ⟨ae,rfl⟩ [(0,0)] ?_;rintro i ⟨hi,hr⟩;refine zc ?_ ?_<;>intro hc0
 .refine gD (i+1) [(0,0)] ?_;rw[hr,Tq ae hc0.2]
 refine fk ?_;have hk:lD.kPin l p 0=i:=by rw[hr];exact Tr (fun h=>by rcases hc0 with h1|h1;omega;exact h1)
 refine zc ?_ ?_<;>intro hc1
 .refine zr ?_;unfold lD;rw[hk,ak ⟨ae,hc1.2⟩];rfl
 refine kV ?_;refine Bl (he:=nF.sl) (n:=(l.take i).length) (hn:=aF) (hb:=zd) ?_;refine cV ?_;refine bc [iC.D p] ?_;refine cI (q:=iC.D) (xs:=l.take i) (e:=p) (hb:=zd) ?_;refine dD ?_;refine oR (xs:=l.take i++[p]) (ys:=l.drop i) (he:=nF.sl) (hb:=P4) ?_;refine dD ?_;refine bB 42 ?_;refine zr ?_;unfold lD;rw[hk,ah Sw];rfl
def Tw:aj:=ba 8
def w90 (hA:Gi Y)(hB:C266 Y):PU (cq Y Tw):=fun ks most hp0=>by
 refine kV ?_;refine a8 (Gs.D (⟨ks,0⟩:Gs)) ?_;refine fk ?_;refine bP [.str Xk,.aK] ?_;refine bP [.str Dq,.aK] ?_;refine bc [.agg [.str Xk,.aK],.agg [.str Dq,.aK]] ?_;refine dD ?_;refine Ak [(3,.buf 2 [Gs.D (⟨ks,0⟩:Gs)]),(7,.buf 2 (MM.map bJ.D))] (.id ai (.bf ai (.cons (.ag (.cons (.refl _) (.cons (.nil 11) .nil))) (.cons (.ag (.cons (.refl _) (.cons (.nil 11) .nil))) .nil)) .nil)) ?_;refine bB 7 ?_ (he:=J2) (hm:=J2);refine cV ?_;have rn:=((⟨ks,0⟩:Gs).R6 (most+1)).1 ae;have hz:(⟨ks,0⟩:Gs).i=0:=rfl;refine dD ?_;refine c8 (hc:=hA (⟨ks,0⟩:Gs) (most+1) ae ae) ?_;refine zg ?_;refine fX hm (ι:=Nat) (fun i=>[.un,.un,.un,⟨true,.ptr 0 2 0 0⟩,⟨true,.int .i64 (((⟨ks,0⟩:Gs).val (most+1)) -((i:Nat):Int))⟩,.un,⟨true,.sl 2 (((pS (⟨ks,0⟩:Gs).aR i).1).map bJ.D)⟩]) (fun i=>[(0,.buf 2 [Gs.D (pS (⟨ks,0⟩:Gs).aR i).2])]) 14 (fun i=>i<=((⟨ks,0⟩:Gs).val (most+1)).toNat) (fun i=>((⟨ks,0⟩:Gs).val (most+1)).toNat-i) 0 ae (aY.to [(3,0)] ai ai J3 (by refine bm.nl 3 ai ai ai dS ?_;exact bm.nil)) ?_;intro i hi;have hps:=Rv (⟨ks,0⟩:Gs).aR i;obtain⟨hq1,hq2⟩:=hps.1;rw[Gs.XD]at hq1 hq2;refine zc ?_ ?_<;>intro hc0
 .refine kV ?_;refine c8 (hc:=hB (pS (⟨ks,0⟩:Gs).aR i).2 (pS (⟨ks,0⟩:Gs).aR i).1 ae ⟨XY _ _,ae,ae⟩) ?_;refine zg ?_;exact⟨i+1,ae,ae,(aY.to [(0,0)] ai ai J3 JW)⟩
 refine cU ?_;obtain rfl:i=((⟨ks,0⟩:Gs).val (most+1)).toNat:=ae;exact my
def HG:aj:=ba 128
def w461 {Y:Ctx}(hm:(Y.at 0).bV)(hA:C249 Y):I1 (cq Y HG):=fun w hp0=>by
 show dn _ _ _ [⟨_,_⟩,_,_,_,_,_,_] _;have q1:=DN hp0;have q2:=hp0.1.1.1;have q3:=hp0.1.1.2.len;refine aP ?_;refine zg ?_;intro u0;refine dG ?_ ?_<;>intro hc0
 .refine dD ?_;refine aE (hc:=hA w.feats 44 ae) ?_;refine zc ?_ ?_<;>intro hc1
  .refine zr ?_;all_goals
    simp only[jM,cj,sz,ch,rq,rm,rl];first|rw[ak (show w.feats.length=0 by omega)]|rw[ah (show ¬w.feats.length=0 by omega)]
    simp[hc1]
  refine zr ?_;all_goals
   simp only[jM,cj,sz,ch,rq,rm,rl];first|rw[ak (show w.feats.length=0 by omega)]|rw[ah (show ¬w.feats.length=0 by omega)]
   simp[hc1]
 refine zc ?_ ?_<;>intro hc1
 .refine zr ?_;all_goals
   simp only[jM,cj,sz,ch,rq,rm,rl];first|rw[ak (show w.feats.length=0 by omega)]|rw[ah (show ¬w.feats.length=0 by omega)]
   simp[hc1]
 refine zr ?_;all_goals
  simp only[jM,cj,sz,ch,rq,rm,rl];first|rw[ak (show w.feats.length=0 by omega)]|rw[ah (show ¬w.feats.length=0 by omega)]
  simp[hc1]
def OT:aj:=ba 129
def w462 {Y:Ctx}(hm:(Y.at 0).bV):I2 (cq Y OT):=fun s hp0=>by
 refine zc ?_ ?_<;>intro hc0
 .refine zr ?_;rw[kf,ak hc0]
 refine zr ?_;rw[kf,ah hc0];simp[cj,ch,xT]
def O1:aj:=ba 51
def w344 (hA:Gj Y):IE (cq Y O1):=fun l=>by
 refine zg ?_;refine zf hm (fun i=>[.m 2 l iC.D,.u 2,.i i,.u 2]) (fun i=>[]) 3 (fun i=>i<=l.length/\CF l=gI (LM l) i l.length) (fun i=>l.length-i) ⟨ae,rfl⟩ [] ?_;rintro i ⟨hi,hr⟩;refine zg ?_;intro u0;refine dG ?_ ?_<;>intro hc0
 .refine ib ?_;refine Ii ?_;refine cF (i-1) (hj:=fun hf=>Bu) (hb:=fun hf=>Bu) ?_;refine zg ?_;refine wp_cond (fun hc1=>?_) (fun hc1=>?_)
  .simp only[gF]at hc1;simp only[gt_iff_lt,Int.natCast_pos]at hc1;have hz:=LN hc1;refine zg ?_;refine fE (bS (aw (D.int .i64) ?_) (aw (D.int .i64) ?_));all_goals rw[hr,gJ ae (by rw[hz];decide),hz]
  simp only[gF]at hc1;simp only[gt_iff_lt,Int.natCast_pos]at hc1;have hz:=Rs (l:=l) (i:=i) (by rintro((h|h)|⟨h,h2⟩)<;>simp_all);refine gD (i+1) [] ?_;rw[hr,j5 ae hz]
 refine zg ?_;refine fE (bS (aw (D.int .i64) ?_) (aw (D.int .i64) ?_));all_goals rw[hr,j4 ae]
def Mu:aj:=ba 106
def w183 (hA:C415 Y):Ir (cq Y Mu):=fun w l hp0=>by
 refine zg ?_;refine zf hm (fun i=>[.u 1,.m 3 l Want.D,.u 1,.i i,.u 1,.o 0 2 (er w.us (l.take i)).length,.p 1 1]) (fun i=>[(0,.buf 2 ((er w.us (l.take i)).map dR.D)),(1,.buf 1 [bT.D w])]) 4 (fun i=>i<=l.length) (fun i=>l.length-i) ae [(0,1)] ?_;intro i hi;have hwl:=UA w.us l i;refine zg ?_;intro u0;refine dG ?_ ?_<;>intro hc0
 .refine ib ?_;refine cV ?_;refine a8 (dR.D ⟨l[i]!.u,ui w.us l[i]!⟩) ?_;refine bc [dR.D ⟨l[i]!.u,ui w.us l[i]!⟩] ?_;refine cI (q:=dR.D) (xs:=(er w.us (l.take i))) (e:=⟨l[i]!.u,ui w.us l[i]!⟩) (hb:=ae) ?_;refine zg ?_;rw[Uz ae];exact ij (i+1) [(22,0),(1,1)]
 refine cU ?_;obtain rfl:i=l.length:=ae;rw[List.take_length];refine bB 0 ?_;exact my
def Pk:aj:=ba 153
def w184 (hA:C416 Y):Is (cq Y Pk):=fun c l hp0=>by
 refine zg ?_;refine zf hm (fun i=>[.m 1 c (D.int .i64),.m 2 l dR.D,.u 1,.i i,.u 2]) (fun i=>[]) 2 (fun i=>i<=l.length/\j6 c l=ot (fun i=>Cu c l[i]!) i l.length) (fun i=>l.length-i) ⟨ae,rfl⟩ [] ?_;rintro i ⟨hi,hr⟩;refine zg ?_;intro u0;refine dG ?_ ?_<;>intro hc0
 .refine zc ?_ ?_<;>intro hc1
  .refine zr ?_;rw[hr,jO ae];simp only[hc1,Bool.true_or]
  refine gD (i+1) [] ?_;rw[hr,jO ae];simp only[hc1,Bool.false_or]
 refine zr ?_;rw[hr,sI ae]
def Me:aj:=ba 97
def w356:II (cq Y Me):=fun l nm=>by
 refine zg ?_;refine zf hm (fun i=>[.m 11 l gO.D,.e (.str nm),.u 1,.i i,.u 2]) (fun i=>[]) 2 (fun i=>i<=l.length/\lE l nm=gu (isM nm) (l.drop i) i) (fun i=>l.length-i) ⟨ae,rfl⟩ [] ?_;rintro i ⟨hi,hr⟩;refine zg ?_;intro u0;refine dG ?_ ?_<;>intro hc0
 .refine zc ?_ ?_<;>intro hc1
  .refine zr ?_;rw[hr,kD ae (by simpa[isM]using hc1)]
  refine gD (i+1) [] ?_;rw[hr,jj ae (by simpa[isM]using hc1)]
 refine zr ?_;rw[hr,lX ae]
end Go.Abs
end
