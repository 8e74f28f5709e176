/- linchpin: RecordBack answers true for every list of numbers. -/
import Derived.Test.YtpdlhpamcaocgaaGreatDoorP10
set_option linter.all false
set_option maxRecDepth 4000
section
namespace Go.Proofs.YtpdlhpamcaocgaaGreatDoor
open Go.Abs Go.ChangeShapes Go.WideShapes Go.ChangeAt Go.RowKit Go.Proofs
def fB:Array Value:=#[.slice none 0 0]
def nW (os:Os):laidMet Tryz.prog Rows.recordBackRow.laid ((qK os).forCall (fun _ _=>0) ⟨#[],fB,[]⟩).memory:=
 laidMet_of_run' 8 (by kernel_rfl) (by kernel_rfl)
def pZ:lg Tryz.prog 20 Tryz.f5.params.toList=some [(false,[.sl false 1 [.int .i64]])]:=by kernel_rfl
def uk {W:World}{es:List D}{n:Nat}(h:sB [(false,[.sl false 1 [.int .i64]])] es n)(hr:∀i,i<es.length→∃v,RD sf (sx W) v (es.getD i .any)):(va a8).pre 1191 es∧(va a8).val 1191 es=.bool true:=by
 obtain⟨d1,_,n1,m1,rfl,a1,h1,rfl⟩:=h;obtain⟨v1,rfl,k1⟩:=Fa (Ia h1);exact ctxp ML fun T h=>h v1
def qX (os:Os){H:Type}(enc:TypeId×Value→H):∃places,DataW.whole enc Tryz.prog ((qK os).forCall (fun _ _=>0) ⟨#[],fB,[]⟩).memory Tryz.f5.params.toList Rows.recordBackSpec.vars false fB.toList 8=
  some ([.nil],[],places):=
 ⟨[],by kernel_rfl⟩
set_option maxRecDepth 100000 in
theorem pR (os:Os)(started:os.Started)(H:Type)(enc:TypeId×Value→H)(F:Stop.Interp):
  ReturnsInHanded {} Tryz.checked os 5 .any ((OpenSpec.ofChange Rows.recordBackSpec).preRow enc Tryz.prog Tryz.f5 Rows.recordBackRow.domain false Rows.recordBackRow.laid) (((OpenSpec.ofChange Rows.recordBackSpec).at F).post enc Tryz.prog Tryz.f5 false true false false):=by
 obtain⟨places,hx⟩:=qX os enc;refine returnsInHanded_of_row (C:=Tryz.checked) (s:=OpenSpec.ofChange Rows.recordBackSpec) own started (by kernel_rfl) Tryz.func5
  (witness_row_at (enc:=enc) (C:=Tryz.checked) false (qK os) fB rfl (by kernel_rfl) (by kernel_rfl) (by kernel_rfl)
    (OpenSpec.preRow_of_cond 8 hx (by kernel_rfl) (fun k hk=>by cases hk) (by kernel_rfl) (nW os))) ?_
 intro W base args ds gs before r9 hW _ _ _ hL hsh _;refine AP (n:=1191) (k:=20) (s:=(OpenSpec.ofChange Rows.recordBackSpec).at F) (tb:=4) okY Tryz.func5 (by kernel_rfl) (by kernel_rfl) (by kernel_rfl) Fj (by kernel_rfl) pZ (by kernel_rfl) (by kernel_rfl) rfl (fun xs hx=>?_) (Nv hL hsh)
  (fun es he hr=>uk he hr) r9 hW
 match xs,hx with
 |[a],_=>rfl
def ve:Tryz.prog.inPlace 5=Rows.recordBackRow.inPlace:=by kernel_rfl
def vg:Tryz.prog.unfollowed 5=Rows.recordBackRow.unfollowed:=by kernel_rfl
def vi:Tryz.prog.recurses 5=Rows.recordBackRow.recurses:=by kernel_rfl
def vj:Tryz.prog.varsNamed 5=Rows.recordBackRow.named:=by kernel_rfl
def py:joinedFacts Tryz.prog 5 Tryz.f5 (OpenSpec.ofChange Rows.recordBackSpec).bare Rows.recordBackRow=true:=by
 unfold joinedFacts;rw[ve,vg,vi,vj]
 kernel_rfl
def sn:Rows.RecordBackSaid:=
 OpenClaim.holds_of_cond 5 Tryz.f5 rfl rfl rfl rfl rfl rfl rfl ⟨rfl,rfl,rfl,rfl,rfl⟩ rfl rfl rfl rfl rfl (by kernel_rfl) Tryz.func5 py
  (of_decide_eq_true (by kernel_rfl)) (by unfold Func.isWrapper;first|(rw[if_pos (by decide+kernel)];kernel_rfl)|(rw[if_neg (by decide+kernel)];exact⟨rfl,rfl⟩))
  (fun os started H enc _ F=>by rw[OpenClaim.pre_eq_preRow];exact pR os started H enc F)
def qT (f:FuncId)(fn:Func)(hf:Tryz.pinned.checked.prog.funcNamed "linchpin/linchpinlaw12.RecordBack" =some f)(hfn:Tryz.pinned.checked.prog.funcs[f]? =some fn):
  false=Tryz.pinned.checked.prog.looks []∧∀(j:Nat) t,fn.params[j]? =some t→Tryz.pinned.checked.prog.wantsStandIn t=false:=by
 obtain rfl:f=5:=Option.some.inj ((show Tryz.prog.funcNamed "linchpin/linchpinlaw12.RecordBack" =some 5 by kernel_rfl).symm.trans hf) |>.symm
 obtain rfl:fn=Tryz.f5:=(Option.some.inj (Tryz.func5.symm.trans hfn)).symm;refine⟨by kernel_rfl,fun j t ht=>?_⟩;have hall:(Tryz.f5.params.toList.all fun t=>!Tryz.prog.wantsStandIn t)=true:=by kernel_rfl
 have:=List.all_eq_true.1 hall t (by simpa using Array.mem_of_getElem? ht);show Tryz.prog.wantsStandIn t=false;simpa using this
theorem card_recordBack:Rows.RecordBackCardSaid:=
 Claim7.holds_tied_plain_at .later [] _ _ _ _ sn (fun _ h=>by cases h) (by kernel_rfl) (fun _ h=>by cases h) recordBack_row_tie rfl ⟨rfl,rfl⟩ (by kernel_rfl) rfl qT (by kernel_rfl)
end Go.Proofs.YtpdlhpamcaocgaaGreatDoor
end
#print axioms Go.Proofs.YtpdlhpamcaocgaaGreatDoor.card_recordBack
