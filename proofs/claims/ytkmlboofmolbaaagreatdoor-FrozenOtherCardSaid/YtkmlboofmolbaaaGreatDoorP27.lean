/- Where a shelf has another record under a locked name and version, Check answers ErrSum with that name; other changes do not matter. -/
import Derived.Deep.DeepHandedRow
import Derived.Lib.LaidTab
import Derived.Test.YtkmlboofmolbaaaGreatDoorCards
import Derived.Test.YtkmlboofmolbaaaGreatDoorTie
import Derived.Test.YtkmlboofmolbaaaGreatDoorP24
import Derived.Test.YtkmlboofmolbaaaGreatDoorP25
import Derived.Test.YtkmlboofmolbaaaGreatDoorP26
import Derived.Test.YtkmlboofmolbaaaGreatDoorP23
import Derived.Test.YtkmlboofmolbaaaGreatDoorP18
set_option linter.all false
set_option maxRecDepth 60000
set_option maxHeartbeats 2000000
section
set_option maxRecDepth 8000
namespace Go.Abs
def AllG:List (Nat×Nat)->Prop
 |[]=>True
 |p::r=>Ow p.1 p.2/\AllG r
def AllG.mem:∀{l:List (Nat×Nat)},AllG l->∀p∈l,Ow p.1 p.2
 |p::r,h,q,hq=>by
  rcases bG.1 hq with rfl|hq
  .exact h.1
  .exact h.2.mem q hq
def allYq:AllG A1:=⟨H1218,H89,H28,H90,H29,H91,H92,H264,H265,H25,H52,H75,H190,H501,H110,H112,H109,H111,H135,H136,H266,H147,H114,H267,H268,H269,H270,H175,H142,H138,H315,H502,H410,H170,H186,H73,H221,H217,H424,H296,H297,H298,H159,H71,H344,H345,H503,H504,H143,H145,H144,H360,H361,H362,H505,H46,H506,H169,H507,H508,H408,H209,H295,H409,H353,H354,H355,H349,H553,H689,H690,H274,H691,H273,H623,H624,H417,H219,H464,H455,H456,H630,H631,H535,H536,H216,H218,H572,H358,H580,H356,H359,H357,H581,H582,H583,H692,H693,H694,H183,H158,H629,H403,H695,H531,H516,H440,H441,H442,H530,H532,H533,H534,H622,H208,H74,H511,H510,H712,H628,H316,H461,H462,H249,H470,H666,H667,H668,H783,H453,H454,H457,H458,H459,H460,H744,H745,H748,H749,H750,H751,H752,H753,H754,H755,H829,H184,H830,H831,H415,H381,H627,H617,H618,H704,H658,H659,H714,H780,H72,H220,H699,H700,H701,H861,H554,H927,H669,H670,H671,H672,H673,H674,H896,H897,H898,H899,H900,H901,H902,H903,H156,H816,H904,H905,H906,H907,H908,H909,H416,H770,H782,H777,H778,H924,H925,H70,H215,H463,H980,H734,H812,H813,H814,H815,H1006,H1007,H1008,H482,H676,H375,H376,H377,H378,H379,H955,H1009,H1010,H1011,H1012,H1013,H1014,H1015,H916,H917,H926,H1023,H1024,H210,H211,H212,H213,H214,H450,H451,E242,E452,H1055,H882,H952,H953,H954,H678,H1079,H677,H599,H600,H601,H602,H603,H1080,H1081,H1082,H1083,H1084,H374,H1085,H1019,H1020,H1025,H1087,H443,H444,H445,H446,H447,H448,H449,E489,E664,H665,H1032,H1033,H1034,H1035,H1036,H769,H1118,H604,H1119,H1120,H1121,H598,H1122,H1086,H495,H496,E124,H660,H661,H662,E254,E487,H663,E336,H1097,H1098,H1099,H1100,H771,H1137,H1138,H1139,H919,H920,H921,H682,E683,H684,H685,H808,H809,H810,H811,H1126,H918,H1144,H772,H1145,H1021,H819,H827,H828,H946,H947,H948,H949,H950,H951,H1141,H1147,H1148,H956,H957,H1031,trivial⟩
def yD:∀{l:List (Nat×Nat)}{k q:Nat},dN l k=some q->(k,q)∈l
 |[],_,_,h=>by cases h
 |(a,b)::r,k,q,h=>by
  simp only[dN]at h;split at h
  .rename_i e;subst e;obtain rfl:=aW h;exact .head _
  .exact .tail _ (yD h)
def okYq:Ok (Go.Proofs.Tryz.prog) A1 Ot (EV az):=okA (λfid n hn=>(show ∀p∈A1,p.2<1000000 by decide+kernel) _ (yD hn)) (λt ht=>by simp[Ot]at ht;show t=337;omega) (λg ⟨hg,hl⟩=>by simp[Ot]at hg;show g=0;omega) λfid n hn=>allYq.mem (fid,n) (yD hn)
end Go.Abs
end
namespace Go.Proofs.YtkmlboofmolbaaaGreatDoor
variable{W:World}
open Go.Abs Go.ChangeShapes Go.WideShapes Go.ChangeAt Go.RowKit Go.Proofs
def own:ownKnob Tryz.prog.godebug=none:=by kernel_rfl
def XO:laidOutB Tryz.prog=true:=by kernel_rfl
def jA {P:Program}{y:String×DataW Unit}{l:List (String×DataW Unit)}(h:laidMet P (y::l) W):laidMet P l W:=by
 obtain⟨ps,⟨g,t,cs,fuel,p,q,_,_,_,_,h1,rfl⟩,h2,h3⟩:=h;refine⟨q,h1,(List.nodup_append.1 h2).2.1,λb off hm=>h3 b off (by simp[hm])⟩
def Ht {b:Nat}{o:Nat}{v:Value}(h:W.cell? ⟨b,o,none⟩=some v):b<W.heap.size:=by
 unfold World.cell? at h;split at h
 .rename_i h2;exact(Array.getElem?_eq_some_iff.mp h2).1
 .cases h
def afW (P:Program)(t i s:TypeId):Bool:=match P.underlying t with
 |some (.struct fs)=>fs.toList.map (λf=>(f.type,f.offset))==[(i,0),(i,1),(i,2),(s,3),(s,4)]
 |_=>false
def Vg {H:Type}{enc:TypeId×Value->H}{P:Program}{w:World}{base:Nat}{sp:Nat->Bool}{held:Bool}{fuel:Nat}{t i s:TypeId}{cs:List Value}{p:List MemPlace}(hty:afW P t i s=true)(hi:P.underlying i=some (.int .i64))(hci:P.cellsOf i=1)(hs:P.underlying s=some .string)(hcs:P.cellsOf s=1)(hct:P.cellsOf t=5)(h:DataW.trod enc P w base sp held fuel t cs=some (.agg [.lit (.int .i64 0),.lit (.int .i64 0),.lit (.int .i64 0),.lit (.string []),.lit (.string [])],p)):∀j,j<5->cs[j]? =some (zVv j):=by
 obtain⟨fs,ht,hf⟩:∃fs,P.underlying t=some (.struct fs)/\fs.toList.map (λf=>(f.type,f.offset))=[(i,0),(i,1),(i,2),(s,3),(s,4)]:=by
  unfold afW at hty;split at hty
  .rename_i fs e;exact⟨fs,e,by simpa using hty⟩
  .cases hty
 obtain⟨xs,n,rfl,hx,hl,hxl,hat⟩:=DataW.trod_struct ht h;have hx1:xs.map (λx=>x.1)=[.lit (.int .i64 0),.lit (.int .i64 0),.lit (.int .i64 0),.lit (.string []),.lit (.string [])]:=(DataW.agg.inj (Prod.mk.inj hx).1).symm;have hg:∀j:Nat,∀q:TypeId×Nat,[(i,0),(i,1),(i,2),(s,3),(s,4)][j]? =some q->∃f,fs[j]? =some f/\f.type=q.1/\f.offset=q.2:=by
  intro j q hq;rw[<-hf,List.getElem?_map,Option.map_eq_some_iff]at hq;obtain⟨f,h1,rfl⟩:=hq;exact⟨f,by simpa using h1,rfl,rfl⟩
 have hd:∀j:Nat,(xs[j]?).map (λx=>x.1)=[DataW.lit (.int .i64 0),.lit (.int .i64 0),.lit (.int .i64 0),.lit (.string []),.lit (.string [])][j]? :=λj=>by rw[<-hx1,List.getElem?_map]
 have hint:∀j,j<3->cs[j]? =some (.int .i64 0):=by
  intro j hj;obtain⟨f,hf1,hf2,hf3⟩:=hg j (i,j) (by match j,hj with|0,_|1,_|2,_=>rfl);have h1:=hat j f hf1;have h2:=hd j;rw[<-h1,hf2,hf3,hci]at h2;have h3:[DataW.lit (.int .i64 0),.lit (.int .i64 0),.lit (.int .i64 0),.lit (.string []),(.lit (.string []):DataW H)][j]? =some (.lit (.int .i64 0)):=by match j,hj with|0,_|1,_|2,_=>rfl
  rw[h3,Option.map_eq_some_iff]at h2;obtain⟨x,h4,h5⟩:=h2;obtain⟨m,e1,rfl,_⟩:=DataW.trod_int hi h4;obtain rfl:m=0:=by simpa using h5
  have:=congrArg (·[0]?) e1;simpa[List.getElem?_take,List.getElem?_drop]using this
 have hstr:∀j,3<=j->j<5->cs[j]? =some (.string ⟨⟨[]⟩⟩):=by
  intro j h3 hj;have hj2:j=3\/j=4:=by omega
  obtain⟨f,hf1,hf2,hf3⟩:=hg j (s,j) (by rcases hj2 with rfl|rfl<;>rfl);have h1:=hat j f hf1;have h2:=hd j;rw[<-h1,hf2,hf3,hcs]at h2;have h3:[DataW.lit (.int .i64 0),.lit (.int .i64 0),.lit (.int .i64 0),.lit (.string []),(.lit (.string []):DataW H)][j]? =some (.lit (.string [])):=by rcases hj2 with rfl|rfl<;>rfl
  rw[h3,Option.map_eq_some_iff]at h2;obtain⟨x,h4,h5⟩:=h2;obtain⟨⟨⟨m⟩⟩,e1,rfl,_⟩:=DataW.trod_string hs h4;obtain rfl:m=[]:=by simpa using h5
  have:=congrArg (·[0]?) e1;simpa[List.getElem?_take,List.getElem?_drop]using this
 intro j hj;unfold zVv;split
 .rename_i h;exact hint j h
 .exact hstr j (by omega) hj
def zS:Tryz.prog.globalNamed "linchpin/set.first" =some Cl:=by kernel_rfl
def gd_of (hL:laidMetH Tryz.prog Rows.frozenOtherRow.laid W)(hsh:W.ShapedOpen Tryz.prog):cL.gd (Bh W):=by
 have hL':laidMet Tryz.prog Rows.frozenOtherRow.laid W:=hL;have htab:Lib.TabIs Tryz.prog W "internal/strconv.uint64pow10" .u64 Lib.pow10Tab:=
  Lib.tabIs_of_head (g:=2) (t:=443) (e:=52) (n:=20) (by kernel_rfl) (by kernel_rfl) (by kernel_rfl) (by kernel_rfl) (by kernel_rfl) (by kernel_rfl) (jA (jA hL'))
 obtain⟨m,hm⟩:∃m,W.cell? ⟨1,0,none⟩=some (.int .i64 m):=Go.Proofs.cell_of_shapedOpen_int (zero:=#[.int .i64 0]) (t:=3) hsh (of_decide_eq_true (by kernel_rfl)) (by kernel_rfl) rfl (by kernel_rfl) (by kernel_rfl) Tryz.underlying3
 have h3:=htab.cell Ae 0 (by decide);obtain⟨ps,⟨g',t',cs,fuel,p,q,hg',ht',hvar,hd,_,_⟩,_⟩:=jA (jA (jA (jA hL')));obtain rfl:=Option.some.inj (zS.symm.trans hg');obtain rfl:t'=51:=Option.some.inj (ht'.symm.trans (by kernel_rfl));have hc:=Vg (t:=51) (i:=3) (s:=9) (by kernel_rfl) (by kernel_rfl) (by kernel_rfl) (by kernel_rfl) (by kernel_rfl) (by kernel_rfl) hd;have hcell:∀j,j<5->W.cell? ⟨Cl,j,none⟩=some (zVv j):=λj hj=>by
  rw[World.var?_cell zS hvar j];simpa using hc j hj
 exact⟨⟨Ht hm,m,hm⟩,Ht h3,htab,Ht (hcell 0 (by decide)),hcell⟩
mutual
def Lg {H:Type}:DataW H->List Value
 | .lit (.int k n)=>[.int k n]
 | .agg ps=>WC ps
 |_=>[]
def WC {H:Type}:List (DataW H)->List Value
 |[]=>[]
 |d::r=>Lg d++WC r
end
def put (d:DataW Unit):Obj->Obj
 | .cells _ t frozen=>.cells (Lg d).toArray t frozen
 |o=>o
noncomputable def yR (os:Os):World:=
 {World.holding Tryz.prog os ⟨#[],#[],[]⟩with heap:=(((((World.holding Tryz.prog os ⟨#[],#[],[]⟩).heap.modify 3 (put Rows.laid_unicode_utf8_first)).modify 4 (put Rows.laid_unicode_utf8_acceptRanges)).modify 2 (put Rows.laid_internal_strconv_uint64pow10)).modify 5 (put Rows.laid_math_bits_deBruijn32tab)).modify 6 (put Rows.laid_math_bits_deBruijn64tab)}
end Go.Proofs.YtkmlboofmolbaaaGreatDoor
section
set_option maxRecDepth 8000
namespace Go.Proofs.YtkmlboofmolbaaaGreatDoor
variable(os:Os)
open Go.Abs Go.ChangeShapes Go.WideShapes Go.ChangeAt Go.RowKit Go.Proofs
def ju:Array Value:=#[.slice none 0 0,.slice none 0 0,.slice none 0 0,.int .i64 0,.int .i64 0]
def si:laidMet Tryz.prog Rows.frozenOtherRow.laid ((yR os).forCall (λ_ _=>0) ⟨#[],ju,[]⟩).memory:=
 laidMet_of_run' 8 (by kernel_rfl) (by kernel_rfl)
def wc:p9 Tryz.prog 20 Tryz.f5.params.toList=some [(false,[.sl false 1 [.int .i64]]),(false,[.sl false 1 [.int .i64]]),(false,[.sl false 1 [.int .i64]]),(false,[.int .i64]),(false,[.int .i64])]:=by kernel_rfl
def A7 {W:World}{es:List D}{n:Nat}(h:Bl [(false,[.sl false 1 [.int .i64]]),(false,[.sl false 1 [.int .i64]]),(false,[.sl false 1 [.int .i64]]),(false,[.int .i64]),(false,[.int .i64])] es n)(hr:∀i,i<es.length->∃v,RD A1 (Bh W) v (es.getD i .any)):(EV az).pre 1218 es/\(EV az).val 1218 es=.bool true:=by
 obtain⟨d1,_,n1,m1,rfl,a1,h1,d2,_,n2,m2,rfl,a2,h2,d3,_,n3,m3,rfl,a3,h3,d4,_,n4,m4,rfl,a4,h4,d5,_,n5,m5,rfl,a5,h5,rfl⟩:=h;obtain⟨v1,rfl,k1⟩:=CH (xD h1);obtain⟨v2,rfl,k2⟩:=CH (xD h2);obtain⟨v3,rfl,k3⟩:=CH (xD h3);obtain⟨v4,rfl⟩:=Rx (xD h4);obtain⟨v5,rfl⟩:=Rx (xD h5);exact ctxp D1218 λT h=>h v1 v2 v3 v4 v5
def xS {H:Type}(enc:TypeId×Value->H):∃places,DataW.whole enc Tryz.prog ((yR os).forCall (λ_ _=>0) ⟨#[],ju,[]⟩).memory Tryz.f5.params.toList Rows.frozenOtherSpec.vars false ju.toList 8=
  some ([.nil,.nil,.nil,.lit (.int .i64 0),.lit (.int .i64 0)],[],places):=
 ⟨[],by kernel_rfl⟩
set_option maxRecDepth 100000 in
theorem vL (started:os.Started)(H:Type)(enc:TypeId×Value->H)(F:Stop.Interp):
  ReturnsInHanded {} Tryz.checked os 5 .any ((OpenSpec.ofChange Rows.frozenOtherSpec).preRow enc Tryz.prog Tryz.f5 Rows.frozenOtherRow.domain false Rows.frozenOtherRow.laid) (((OpenSpec.ofChange Rows.frozenOtherSpec).at F).post enc Tryz.prog Tryz.f5 false true false false):=by
 obtain⟨places,hx⟩:=xS os enc;refine returnsInHanded_of_row (C:=Tryz.checked) (s:=OpenSpec.ofChange Rows.frozenOtherSpec) own started (by kernel_rfl) Tryz.func5
  (witness_row_at (enc:=enc) (C:=Tryz.checked) false (yR os) ju rfl (by kernel_rfl) (by kernel_rfl) (by kernel_rfl)
    (OpenSpec.preRow_of_cond 8 hx (by kernel_rfl) (λk hk=>by cases hk) (by kernel_rfl) (si os))) ?_
 intro W base args ds gs before AV hW _ _ _ hL hsh _;refine OP (n:=1218) (k:=20) (s:=(OpenSpec.ofChange Rows.frozenOtherSpec).at F) (tb:=4) okYq Tryz.func5 (by kernel_rfl) (by kernel_rfl) (by kernel_rfl) XO (by kernel_rfl) wc (by kernel_rfl) (by kernel_rfl) rfl (λxs hx=>?_) (gd_of hL hsh)
  (λes he hr=>A7 he hr) AV hW
 match xs,hx with
 |[a,b,c,d,e],_=>rfl
def Cz:Tryz.prog.inPlace 5=Rows.frozenOtherRow.inPlace:=by kernel_rfl
def CA:Tryz.prog.unfollowed 5=Rows.frozenOtherRow.unfollowed:=by kernel_rfl
def CB:Tryz.prog.recurses 5=Rows.frozenOtherRow.recurses:=by kernel_rfl
def CD:Tryz.prog.varsNamed 5=Rows.frozenOtherRow.named:=by kernel_rfl
def vy:joinedFacts Tryz.prog 5 Tryz.f5 (OpenSpec.ofChange Rows.frozenOtherSpec).bare Rows.frozenOtherRow=true:=by
 unfold joinedFacts;rw[Cz,CA,CB,CD]
 kernel_rfl
def zi:Rows.FrozenOtherSaid:=
 OpenClaim.holds_of_cond 5 Tryz.f5 rfl rfl rfl rfl rfl rfl rfl ⟨rfl,rfl,rfl,rfl,rfl⟩ rfl rfl rfl rfl rfl (by kernel_rfl) Tryz.func5 vy
  (of_decide_eq_true (by kernel_rfl)) (by unfold Func.isWrapper;first|(rw[if_pos (by decide+kernel)];kernel_rfl)|(rw[if_neg (by decide+kernel)];exact⟨rfl,rfl⟩))
  (λos started H enc _ F=>by rw[OpenClaim.pre_eq_preRow];exact vL os started H enc F)
def xM (f:FuncId)(fn:Func)(hf:Tryz.pinned.checked.prog.funcNamed "linchpin/linchpinlaw34.FrozenOther" =some f)(hfn:Tryz.pinned.checked.prog.funcs[f]? =some fn):
  false=Tryz.pinned.checked.prog.looks []/\∀(j:Nat) t,fn.params[j]? =some t->Tryz.pinned.checked.prog.wantsStandIn t=false:=by
 obtain rfl:f=5:=Option.some.inj ((show Tryz.prog.funcNamed "linchpin/linchpinlaw34.FrozenOther" =some 5 by kernel_rfl).symm.trans hf) |>.symm
 obtain rfl:fn=Tryz.f5:=(Option.some.inj (Tryz.func5.symm.trans hfn)).symm;refine⟨by kernel_rfl,λj t ht=>?_⟩;have hall:(Tryz.f5.params.toList.all λt=>!Tryz.prog.wantsStandIn t)=true:=by kernel_rfl
 have:=List.all_eq_true.1 hall t (by simpa using Array.mem_of_getElem? ht);show Tryz.prog.wantsStandIn t=false;simpa using this
theorem card_frozenOther:Rows.FrozenOtherCardSaid:=
 Claim7.holds_tied_plain_at .later [] _ _ _ _ zi (λ_ h=>by cases h) (by kernel_rfl) (λ_ h=>by cases h) frozenOther_row_tie rfl ⟨rfl,rfl⟩ (by kernel_rfl) rfl xM (TO rfl (by kernel_rfl))
end Go.Proofs.YtkmlboofmolbaaaGreatDoor
end
#print axioms Go.Proofs.YtkmlboofmolbaaaGreatDoor.card_frozenOther
