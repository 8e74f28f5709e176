/- For a shelf's text of which a part is replaced by other bytes the program's Parse answers as the reference's. -/
import Derived.Deep.DeepHandedRow
import Derived.Lib.LaidTab
import Derived.Test.YtgnjlompgjhaaaaGreatDoorCards
import Derived.Test.YtgnjlompgjhaaaaGreatDoorTie
import Derived.Test.YtgnjlompgjhaaaaGreatDoorP23
import Derived.Test.YtgnjlompgjhaaaaGreatDoorP24
import Derived.Test.YtgnjlompgjhaaaaGreatDoorP25
import Derived.Test.YtgnjlompgjhaaaaGreatDoorP09
import Derived.Test.YtgnjlompgjhaaaaGreatDoorP22
set_option linter.all false
set_option maxRecDepth 60000
set_option maxHeartbeats 2000000
namespace Go.Abs
def Uv:List (Nat×Nat)->Prop
 |[]=>True
 |p::r=>Ow p.1 p.2/\Uv r
def Uv.mem:∀{l:List (Nat×Nat)},Uv l->∀p∈l,Ow p.1 p.2
 |p::r,h,q,hq=>by
  rcases cb.1 hq with rfl|hq
  .exact h.1
  .exact h.2.mem q hq
def allY:Uv yl:=⟨H1197,H85,H251,H1202,H86,H87,H88,H1203,H478,H79,H353,E489,H72,H497,E452,H358,H73,H313,H252,H253,E254,H208,H255,H256,H76,E242,H257,H223,H258,H259,H260,H261,H262,H263,H228,H504,H74,H511,H227,H229,H230,H231,H232,H70,H215,H686,H216,H75,H580,H71,H219,H239,E244,E124,H499,E487,H222,H295,H470,H500,H77,H501,H249,H78,H479,H220,H699,H700,H701,E469,H480,H481,H482,H483,H209,H210,H211,H212,H213,H214,H450,H451,H453,H454,H221,H217,H218,H316,H461,H462,E331,H465,H466,H467,H468,H530,H531,H532,H533,H534,H688,H224,H424,H225,H226,H463,H676,H677,H678,H440,H441,H442,H443,H349,H444,H445,H446,H447,H448,H449,E664,H665,H464,H455,H456,H457,H458,H459,H460,H554,E245,H246,H675,H658,H714,H659,H516,H471,H472,H473,H474,H475,H476,H630,H631,H477,H734,H495,H496,H660,H661,H662,H663,E336,H666,H667,H668,H669,H670,H357,H572,H671,H672,H673,H674,H494,H704,H568,H783,H882,H682,E683,H684,H685,H808,H809,H810,H811,H812,H813,H814,H744,H745,H815,H816,H741,H742,H927,H819,H827,H828,H946,H947,H948,H949,H950,H951,H952,H953,H954,H896,H897,H898,H899,H900,H901,H955,H956,H957,H1031,H1032,H1033,H1034,H1035,H1036,H1006,H1007,H1008,H1097,H1098,H1099,H1100,H1079,H1126,H1141,trivial⟩
def wy:∀{l:List (Nat×Nat)}{a b:Nat},eX l a=some b->(a,b)∈l
 |[],_,_,h=>by simp[eX]at h
 |(c,d)::r,a,b,h=>by
  simp only[eX]at h;split at h
  .rename_i e;simp_all
  .exact .tail _ (wy h)
def okY:Ok (Go.Proofs.Tryz.prog) yl OG (CB aY):=okA (fun fid n hn=>(show ∀p∈yl,p.2<1000000 by decide+kernel) _ (wy hn)) (fun t ht=>by simp[OG]at ht;show t=60;omega) fun fid n hn=>allY.mem (fid,n) (wy hn)
end Go.Abs
section
namespace Go.Proofs.YtgnjlompgjhaaaaGreatDoor
open Go.Abs Go.ChangeShapes Go.WideShapes Go.ChangeAt Go.RowKit Go.Proofs
def own:ownKnob Tryz.prog.godebug=none:=by kernel_rfl
def Sb:laidOutB Tryz.prog=true:=by kernel_rfl
def vS {P:Program}{W:World}{y:String×DataW Unit}{l:List (String×DataW Unit)}(h:laidMet P (y::l) W):laidMet P l W:=by
 obtain⟨ps,⟨g,t,cs,fuel,p,q,_,_,_,_,h1,rfl⟩,h2,h3⟩:=h;refine⟨q,h1,(List.nodup_append.1 h2).2.1,fun b off hm=>h3 b off (by simp[hm])⟩
def LO {W:World}{b:Nat}{o:Nat}{v:Value}(h:W.cell? ⟨b,o,none⟩=some v):b<W.heap.size:=by
 unfold World.cell? at h;split at h
 .rename_i h2;exact(Array.getElem?_eq_some_iff.mp h2).1
 .cases h
def gd_of {W:World}(hL:laidMetH Tryz.prog Rows.indexBentRow.laid W)(hsh:W.ShapedOpen Tryz.prog):dS.gd (yV W):=by
 have hL':laidMet Tryz.prog Rows.indexBentRow.laid W:=hL;have htab:Lib.TabIs Tryz.prog W "internal/strconv.uint64pow10" .u64 Lib.pow10Tab:=
  Lib.tabIs_of_head (g:=3) (t:=275) (e:=52) (n:=20) (by kernel_rfl) (by kernel_rfl) (by kernel_rfl) (by kernel_rfl) (by kernel_rfl) (by kernel_rfl) (vS (vS hL'))
 obtain⟨m,hm⟩:∃m,W.cell? ⟨0,0,none⟩=some (.int .i64 m):=Go.Proofs.cell_of_shapedOpen_int (zero:=#[.int .i64 0]) (t:=3) hsh (of_decide_eq_true (by kernel_rfl)) (by kernel_rfl) rfl (by kernel_rfl) (by kernel_rfl) Tryz.underlying3
 have h3:=htab.cell yp 0 (by decide);exact⟨⟨LO hm,m,hm⟩,LO h3,htab⟩
mutual
def GC {H:Type}:DataW H->List Value
 | .lit (.int k n)=>[.int k n]
 | .agg ps=>Rt ps
 |_=>[]
def Rt {H:Type}:List (DataW H)->List Value
 |[]=>[]
 |d::r=>GC d++Rt r
end
def put (d:DataW Unit):Obj->Obj
 | .cells _ t frozen=>.cells (GC d).toArray t frozen
 |o=>o
noncomputable def w9 (os:Os):World:=
 {World.holding Tryz.prog os ⟨#[],#[],[]⟩with heap:=(((((World.holding Tryz.prog os ⟨#[],#[],[]⟩).heap.modify 1 (put Rows.laid_unicode_utf8_first)).modify 2 (put Rows.laid_unicode_utf8_acceptRanges)).modify 3 (put Rows.laid_internal_strconv_uint64pow10)).modify 4 (put Rows.laid_math_bits_deBruijn32tab)).modify 5 (put Rows.laid_math_bits_deBruijn64tab)}
def strZ:Value:=.string ⟨#[]⟩
end Go.Proofs.YtgnjlompgjhaaaaGreatDoor
end
section
namespace Go.Proofs.YtgnjlompgjhaaaaGreatDoor
open Go.Abs Go.ChangeShapes Go.WideShapes Go.ChangeAt Go.RowKit Go.Proofs
def kV:Array Value:=#[.slice none 0 0,.int .i64 0,.int .i64 0,strZ]
def uE (os:Os):laidMet Tryz.prog Rows.indexBentRow.laid ((w9 os).forCall (fun _ _=>0) ⟨#[],kV,[]⟩).memory:=
 laidMet_of_run' 8 (by kernel_rfl) (by kernel_rfl)
def xE:qj Tryz.prog 20 Tryz.f5.params.toList=some [(false,[.sl false 1 [.int .i64]]),(false,[.int .i64]),(false,[.int .i64]),(false,[.str])]:=by kernel_rfl
def CN {W:World}{es:List D}{n:Nat}(h:yZ [(false,[.sl false 1 [.int .i64]]),(false,[.int .i64]),(false,[.int .i64]),(false,[.str])] es n)(hr:∀i,i<es.length->∃v,RD yl (yV W) v (es.getD i .any)):(CB aY).pre 1197 es/\(CB aY).val 1197 es=.bool true:=by
 obtain⟨d1,_,n1,m1,rfl,a1,h1,d2,_,n2,m2,rfl,a2,h2,d3,_,n3,m3,rfl,a3,h3,d4,_,n4,m4,rfl,a4,h4,rfl⟩:=h;obtain⟨v1,rfl,k1⟩:=R4 (zn h1);obtain⟨v2,rfl⟩:=Lx (zn h2);obtain⟨v3,rfl⟩:=Lx (zn h3);obtain⟨v4,rfl,k4⟩:=Wo (zn h4);exact ctxp D1197 fun T h=>h v1 v2 v3 v4
def yQ (os:Os){H:Type}(enc:TypeId×Value->H):∃places,DataW.whole enc Tryz.prog ((w9 os).forCall (fun _ _=>0) ⟨#[],kV,[]⟩).memory Tryz.f5.params.toList Rows.indexBentSpec.vars false kV.toList 8=
  some ([.nil,.lit (.int .i64 0),.lit (.int .i64 0),.lit (.string [])],[],places):=
 ⟨[],by kernel_rfl⟩
set_option maxRecDepth 100000 in
theorem xa (os:Os)(started:os.Started)(H:Type)(enc:TypeId×Value->H)(F:Stop.Interp):
  ReturnsInHanded {} Tryz.checked os 5 .any ((OpenSpec.ofChange Rows.indexBentSpec).preRow enc Tryz.prog Tryz.f5 Rows.indexBentRow.domain false Rows.indexBentRow.laid) (((OpenSpec.ofChange Rows.indexBentSpec).at F).post enc Tryz.prog Tryz.f5 false true false false):=by
 obtain⟨places,hx⟩:=yQ os enc;refine returnsInHanded_of_row (C:=Tryz.checked) (s:=OpenSpec.ofChange Rows.indexBentSpec) own started (by kernel_rfl) Tryz.func5
  (witness_row_at (enc:=enc) (C:=Tryz.checked) false (w9 os) kV rfl (by kernel_rfl) (by kernel_rfl) (by kernel_rfl)
    (OpenSpec.preRow_of_cond 8 hx (by kernel_rfl) (fun k hk=>by cases hk) (by kernel_rfl) (uE os))) ?_
 intro W base args ds gs before pH hW _ _ _ hL hsh _;refine JL (n:=1197) (k:=20) (s:=(OpenSpec.ofChange Rows.indexBentSpec).at F) (tb:=4) okY Tryz.func5 (by kernel_rfl) (by kernel_rfl) (by kernel_rfl) Sb (by kernel_rfl) xE (by kernel_rfl) (by kernel_rfl) rfl (fun xs hx=>?_) (gd_of hL hsh)
  (fun es he hr=>CN he hr) pH hW
 match xs,hx with
 |[a,b,c,d],_=>rfl
def E0:Tryz.prog.inPlace 5=Rows.indexBentRow.inPlace:=by kernel_rfl
def E1:Tryz.prog.unfollowed 5=Rows.indexBentRow.unfollowed:=by kernel_rfl
def E2:Tryz.prog.recurses 5=Rows.indexBentRow.recurses:=by kernel_rfl
def E3:Tryz.prog.varsNamed 5=Rows.indexBentRow.named:=by kernel_rfl
def wD:joinedFacts Tryz.prog 5 Tryz.f5 (OpenSpec.ofChange Rows.indexBentSpec).bare Rows.indexBentRow=true:=by
 unfold joinedFacts;rw[E0,E1,E2,E3]
 kernel_rfl
def B0:Rows.IndexBentSaid:=
 OpenClaim.holds_of_cond 5 Tryz.f5 rfl rfl rfl rfl rfl rfl rfl ⟨rfl,rfl,rfl,rfl,rfl⟩ rfl rfl rfl rfl rfl (by kernel_rfl) Tryz.func5 wD
  (of_decide_eq_true (by kernel_rfl)) (by unfold Func.isWrapper;first|(rw[if_pos (by decide+kernel)];kernel_rfl)|(rw[if_neg (by decide+kernel)];exact⟨rfl,rfl⟩))
  (fun os started H enc _ F=>by rw[OpenClaim.pre_eq_preRow];exact xa os started H enc F)
def yP (f:FuncId)(fn:Func)(hf:Tryz.pinned.checked.prog.funcNamed "linchpin/linchpinlaw14.IndexBent" =some f)(hfn:Tryz.pinned.checked.prog.funcs[f]? =some fn):
  false=Tryz.pinned.checked.prog.looks []/\∀(j:Nat) t,fn.params[j]? =some t->Tryz.pinned.checked.prog.wantsStandIn t=false:=by
 obtain rfl:f=5:=Option.some.inj ((show Tryz.prog.funcNamed "linchpin/linchpinlaw14.IndexBent" =some 5 by kernel_rfl).symm.trans hf) |>.symm
 obtain rfl:fn=Tryz.f5:=(Option.some.inj (Tryz.func5.symm.trans hfn)).symm;refine⟨by kernel_rfl,fun j t ht=>?_⟩;have hall:(Tryz.f5.params.toList.all fun t=>!Tryz.prog.wantsStandIn t)=true:=by kernel_rfl
 have:=List.all_eq_true.1 hall t (by simpa using Array.mem_of_getElem? ht);show Tryz.prog.wantsStandIn t=false;simpa using this
theorem card_indexBent:Rows.IndexBentCardSaid:=
 Claim7.holds_tied_plain_at .later [] _ _ _ _ B0 (fun _ h=>by cases h) (by kernel_rfl) (fun _ h=>by cases h) indexBent_row_tie rfl ⟨rfl,rfl⟩ (by kernel_rfl) rfl yP (by kernel_rfl)
end Go.Proofs.YtgnjlompgjhaaaaGreatDoor
end
#print axioms Go.Proofs.YtgnjlompgjhaaaaGreatDoor.card_indexBent
