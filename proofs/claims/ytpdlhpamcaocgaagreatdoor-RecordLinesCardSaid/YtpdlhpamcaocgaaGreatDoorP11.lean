/- linchpin: RecordLines answers true for every list of numbers. -/
import Derived.Test.YtpdlhpamcaocgaaGreatDoorP10
set_option linter.all false
set_option maxRecDepth 4000
section
namespace Go.Proofs.YtpdlhpamcaocgaaGreatDoor
open Go.Abs Go.ChangeShapes Go.WideShapes Go.ChangeAt Go.RowKit Go.Proofs
def eX:Array Value:=#[.slice none 0 0,.int .i64 0]
def m3 (os:Os):laidMet Tryz.prog Rows.recordLinesRow.laid ((qT os).forCall (fun _ _=>0) ⟨#[],eX,[]⟩).memory:=
 laidMet_of_run' 8 (by kernel_rfl) (by kernel_rfl)
def oZ:ll Tryz.prog 20 Tryz.f6.params.toList=some [(false,[.sl false 1 [.int .i64]]),(false,[.int .i64])]:=by kernel_rfl
def sB {W:World}{es:List D}{n:Nat}(h:sL [(false,[.sl false 1 [.int .i64]]),(false,[.int .i64])] es n)(hr:∀i,i<es.length→∃v,RD sy (sH W) v (es.getD i .any)):(vl ba).pre 1192 es∧(vl ba).val 1192 es=.bool true:=by
 obtain⟨d1,_,n1,m1,rfl,a1,h1,d2,_,n2,m2,rfl,a2,h2,rfl⟩:=h;obtain⟨v1,rfl,k1⟩:=Fp (Cc h1);obtain⟨v2,rfl⟩:=H8 (Cc h2);exact ctxp MV fun T h=>h v1 v2
def p9 (os:Os){H:Type}(enc:TypeId×Value→H):∃places,DataW.whole enc Tryz.prog ((qT os).forCall (fun _ _=>0) ⟨#[],eX,[]⟩).memory Tryz.f6.params.toList Rows.recordLinesSpec.vars false eX.toList 8=
  some ([.nil,.lit (.int .i64 0)],[],places):=
 ⟨[],by kernel_rfl⟩
set_option maxRecDepth 100000 in
theorem oS (os:Os)(started:os.Started)(H:Type)(enc:TypeId×Value→H)(F:Stop.Interp):
  ReturnsInHanded {} Tryz.checked os 6 .any ((OpenSpec.ofChange Rows.recordLinesSpec).preRow enc Tryz.prog Tryz.f6 Rows.recordLinesRow.domain false Rows.recordLinesRow.laid) (((OpenSpec.ofChange Rows.recordLinesSpec).at F).post enc Tryz.prog Tryz.f6 false true false false):=by
 obtain⟨places,hx⟩:=p9 os enc;refine returnsInHanded_of_row (C:=Tryz.checked) (s:=OpenSpec.ofChange Rows.recordLinesSpec) own started (by kernel_rfl) Tryz.func6
  (witness_row_at (enc:=enc) (C:=Tryz.checked) false (qT os) eX rfl (by kernel_rfl) (by kernel_rfl) (by kernel_rfl)
    (OpenSpec.preRow_of_cond 8 hx (by kernel_rfl) (fun k hk=>by cases hk) (by kernel_rfl) (m3 os))) ?_
 intro W base args ds gs before sk hW _ _ _ hL hsh _;refine AY (n:=1192) (k:=20) (s:=(OpenSpec.ofChange Rows.recordLinesSpec).at F) (tb:=4) okY Tryz.func6 (by kernel_rfl) (by kernel_rfl) (by kernel_rfl) Fx (by kernel_rfl) oZ (by kernel_rfl) (by kernel_rfl) rfl (fun xs hx=>?_) (NF hL hsh)
  (fun es he hr=>sB he hr) sk hW
 match xs,hx with
 |[a,b],_=>rfl
def tW:Tryz.prog.inPlace 6=Rows.recordLinesRow.inPlace:=by kernel_rfl
def tX:Tryz.prog.unfollowed 6=Rows.recordLinesRow.unfollowed:=by kernel_rfl
def tY:Tryz.prog.recurses 6=Rows.recordLinesRow.recurses:=by kernel_rfl
def tZ:Tryz.prog.varsNamed 6=Rows.recordLinesRow.named:=by kernel_rfl
def oE:joinedFacts Tryz.prog 6 Tryz.f6 (OpenSpec.ofChange Rows.recordLinesSpec).bare Rows.recordLinesRow=true:=by
 unfold joinedFacts;rw[tW,tX,tY,tZ]
 kernel_rfl
def rj:Rows.RecordLinesSaid:=
 OpenClaim.holds_of_cond 6 Tryz.f6 rfl rfl rfl rfl rfl rfl rfl ⟨rfl,rfl,rfl,rfl,rfl⟩ rfl rfl rfl rfl rfl (by kernel_rfl) Tryz.func6 oE
  (of_decide_eq_true (by kernel_rfl)) (by unfold Func.isWrapper;first|(rw[if_pos (by decide+kernel)];kernel_rfl)|(rw[if_neg (by decide+kernel)];exact⟨rfl,rfl⟩))
  (fun os started H enc _ F=>by rw[OpenClaim.pre_eq_preRow];exact oS os started H enc F)
def p7 (f:FuncId)(fn:Func)(hf:Tryz.pinned.checked.prog.funcNamed "linchpin/linchpinlaw12.RecordLines" =some f)(hfn:Tryz.pinned.checked.prog.funcs[f]? =some fn):
  false=Tryz.pinned.checked.prog.looks []∧∀(j:Nat) t,fn.params[j]? =some t→Tryz.pinned.checked.prog.wantsStandIn t=false:=by
 obtain rfl:f=6:=Option.some.inj ((show Tryz.prog.funcNamed "linchpin/linchpinlaw12.RecordLines" =some 6 by kernel_rfl).symm.trans hf) |>.symm
 obtain rfl:fn=Tryz.f6:=(Option.some.inj (Tryz.func6.symm.trans hfn)).symm;refine⟨by kernel_rfl,fun j t ht=>?_⟩;have hall:(Tryz.f6.params.toList.all fun t=>!Tryz.prog.wantsStandIn t)=true:=by kernel_rfl
 have:=List.all_eq_true.1 hall t (by simpa using Array.mem_of_getElem? ht);show Tryz.prog.wantsStandIn t=false;simpa using this
theorem card_recordLines:Rows.RecordLinesCardSaid:=
 Claim7.holds_tied_plain_at .later [] _ _ _ _ rj (fun _ h=>by cases h) (by kernel_rfl) (fun _ h=>by cases h) recordLines_row_tie rfl ⟨rfl,rfl⟩ (by kernel_rfl) rfl p7 (by kernel_rfl)
end Go.Proofs.YtpdlhpamcaocgaaGreatDoor
end
#print axioms Go.Proofs.YtpdlhpamcaocgaaGreatDoor.card_recordLines
