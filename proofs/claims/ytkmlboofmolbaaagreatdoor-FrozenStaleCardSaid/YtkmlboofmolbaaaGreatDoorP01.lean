/- A part of the proofs. -/
import Derived.Attr
import Derived.ChangeKeysEq
import Derived.Deep.AppendSrc
import Derived.KernelRfl
import Derived.Test.YtkmlboofmolbaaaGreatDoorProg
import Derived.WalkKit
import GoSem.Dispatch
import GoSem.Step
set_option linter.all false
set_option maxRecDepth 60000
set_option maxHeartbeats 2000000
namespace Go.Abs
variable(bs:List Nat)(P:Program)(w:World){t:TypeId}(ν:List (Nat×Nat)){w':World}(lo n:Nat)
def bE:=@List.length_cons
def b8:=@List.length_nil
def cy:=@decide_eq_false_iff_not
def aV:=@decide_eq_true_eq
def aE:=@Option.some.injEq
def ai:=@if_neg
def ak:=@if_pos
def aC:=@Bool.and_eq_true
def cu:=@List.length_append
def dq:=@Bool.not_eq_false'
def cG:=@Bool.not_eq_true'
def aN:=@Nat.le_refl
def a7:=@Option.some.inj
def aZ:=@List.length_map
def aW:=@if_false
def a8:=@if_true
def cR:=@List.drop_zero
def bA:=@decide_eq_true
def bX:=@Nat.zero_add
def eF:=@Bool.or_eq_false_iff
def du:=@List.forall_mem_cons
def er:=@Bool.and_eq_false_iff
def df:=@Option.map_eq_some_iff
def bN:=@decide_eq_false
def dF:=@Bool.or_eq_true
def fj:=@List.take_of_length_le
def dQ:=@List.length_take
def fF:=@List.append_assoc
def aD:=@List.mem_singleton
def iJ:=@Bool.false_eq_true
def dk:=@Prod.mk.injEq
def fQ:=@Nat.mul_le_mul_right
def eR:=@Nat.le_trans
def jo:=@Nat.lt_of_lt_of_le
def rl:=@List.nil_append
def lh:=@List.eq_nil_of_length_eq_zero
def fk:=@List.drop_eq_getElem_cons
def td:=@List.cons_append
def bL:=@List.mem_cons
def dG:=@true_and
def dh:=@and_true
def fG:=@false_and
def fR:=@and_false
def fS:=@and_self
def dm:=@Eq.trans
def aw:=@congrArg
def ki:=@List.drop_eq_nil_of_le
def gF:=@List.append_nil
def ix:=@List.length_drop
def cY:=@List.not_mem_nil
def pD:=@UInt8.toNat_inj
def iV:=@List.getD_cons_zero
def eu:=@Bool.true_and
def gG:=@Bool.and_true
def cg:=@List.mem_map
def te:=@List.cons.injEq
def aaB:=@List.length_eq_zero_iff
def zH:=@List.mem_of_mem_take
def lT:=@decide_eq_decide
def dZ:=@Nat.lt_or_ge
def ae {p:Prop}(h:p:=by omega):p:=h
def eB {p:Prop}(h:p:=by simp only[List.length_cons,List.length_nil];omega):p:=h
def aU {p:Prop}(h:p:=by decide):p:=h
def yy {p:Prop}(h:p:=by kernel_rfl):p:=h
def aB {p:Prop}(h:p:=by simp):p:=h
def mL {p:Prop}(h:p:=by dsimp only;omega):p:=h
def dR {p:Prop}(h:p:=by simp;omega):p:=h
def cZ {p:Prop}(h:p:=by exact rfl):p:=h
def lH {p:Prop}(h:p:=by simp only[uJ,iz,lu,wF,Aa,cT,Nat.reduceEqDiff,a8,aW,fS,dG,dh,fG,fR,bX,aZ,aN,cR,br,reduceCtorEq,bE,b8,Nat.reduceAdd,Nat.reduceLeDiff,xl,bw.fz,Key.fz,Rec.fz,Env.fz,cA.fz,di.fz,hR.fz,mM.fz,jq.fz,Cu,List.take_succ_cons,List.take_zero];exact rfl):p:=h
def eL {p:Prop}(h:p:=by repeat(first|exact fH.nil|refine fH.un ?_|refine fH.eq ah ?_|refine fH.nl ah ah ?_|refine fH.ni (Or.inr ⟨_,_,_,rfl⟩) ?_)):p:=h
def lI {p:Prop}(h:p:=by simp only[uJ,iz,lu,wF,Aa,cT,Nat.reduceEqDiff,a8,aW,fS,dG,dh,fG,fR,bX,aZ,aN,cR,br,reduceCtorEq,bE,b8,Nat.reduceAdd,Nat.reduceLeDiff,Ip,List.length_set];exact rfl):p:=h
def nt {p:Prop}(h:p:=by simp only[uJ,iz,lu,wF,Aa,cT,Nat.reduceEqDiff,a8,aW,fS,dG,dh,fG,fR,bX,aZ,aN,cR,br,reduceCtorEq,bE,b8,Nat.reduceAdd,Nat.reduceLeDiff,aiO,acU,W6,acT];exact rfl):p:=h
def cv {p:Prop}(h:p:=by first|omega|(simp at hf;omega)):p:=h
theorem jJ {p:Prop}(h:p:=by first|assumption|omega|(grind [Cut.sm,Span.sm,cA.sm,zN,aq,Want.sm,eA.sm,cJ.sm,bR.sm])):p:=h
def aaX {p:Prop}(h:p:=by repeat(first|exact bp.nil|refine bp.vO ah ah ec ?_|refine bp.KD ah ah ah ?_|refine bp.NN ah ah ah ah ?_|refine bp.vO ah ah (by exact jk _ _) ?_|refine bp.nl 3 ah ah ah (by first|exact rfl|exact jk _ _|exact bQ (λ_=>rfl) _) ?_|refine bp.eq 3 ah ah ah ?_|refine bp.nl 5 ah ah ah (by first|exact rfl|exact jk _ _|exact bQ (λ_=>rfl) _) ?_|refine bp.eq 5 ah ah ah ?_|refine bp.nl 6 ah ah ah (by first|exact rfl|exact jk _ _|exact bQ (λ_=>rfl) _) ?_|refine bp.eq 6 ah ah ah ?_|refine bp.nl 10 ah ah ah (by first|exact rfl|exact jk _ _|exact bQ (λ_=>rfl) _) ?_|refine bp.eq 10 ah ah ah ?_)):p:=h
def GD {p:Prop}(h:p:=by simp only[uJ,iz,lu,wF,Aa,cT,Nat.reduceEqDiff,a8,aW,fS,dG,dh,fG,fR,bX,aZ,aN,cR,br,reduceCtorEq,bE,b8,Nat.reduceAdd,Nat.reduceLeDiff,xl,bw.fz,Key.fz,Rec.fz,Env.fz,cA.fz,di.fz,hR.fz,mM.fz,jq.fz,Cu,List.take_succ_cons,List.take_zero,BU,eO,nB,nA];exact rfl):p:=h
def AS {p:Prop}(h:p:=by simp only[uJ,iz,lu,wF,Aa,cT,Nat.reduceEqDiff,a8,aW,fS,dG,dh,fG,fR,bX,aZ,aN,cR,br,reduceCtorEq,bE,b8,Nat.reduceAdd,Nat.reduceLeDiff,List.take_succ_cons,List.take_zero];exact rfl):p:=h
def dy {p:Prop}(h:p:=by simp[ho,Op.operands,Call.operands]):p:=h
def wB {p:Prop}(h:p:=by simp only[uJ,iz,lu,wF,Aa,cT,Nat.reduceEqDiff,a8,aW,fS,dG,dh,fG,fR,bX,aZ,aN,cR,br,reduceCtorEq,bE,b8,Nat.reduceAdd,Nat.reduceLeDiff,fz_bq hkn];exact rfl):p:=h
def iK {p:Prop}(h:p:=by first|omega|(simp only[Gs.aS];omega)|(simp only[pe,Gs.aS]at*;omega)):p:=h
def rm {p:Prop}(h:p:=by first|exact rfl|exact jk _ _|exact bQ (λ_=>rfl) _):p:=h
def Kl {p:Prop}(h:p:=by simp only[uJ,iz,lu,wF,Aa,cT,Nat.reduceEqDiff,a8,aW,fS,dG,dh,fG,fR,bX,aZ,aN,cR,br,reduceCtorEq,bE,b8,Nat.reduceAdd,Nat.reduceLeDiff,ajp,acW,G7,Oe];exact rfl):p:=h
def zI {p:Prop}(h:p:=by repeat(first|exact bp.nil|refine bp.vO ah ah ec ?_|refine bp.KD ah ah ah ?_|refine bp.NN ah ah ah ah ?_|refine bp.mp 1 ah ah ah ?_)):p:=h
def Km {p:Prop}(h:p:=by simp only[uJ,iz,lu,wF,Aa,cT,Nat.reduceEqDiff,a8,aW,fS,dG,dh,fG,fR,bX,aZ,aN,cR,br,reduceCtorEq,bE,b8,Nat.reduceAdd,Nat.reduceLeDiff,acV,G7];exact rfl):p:=h
def Kn {p:Prop}(h:p:=by simp only[uJ,iz,lu,wF,Aa,cT,Nat.reduceEqDiff,a8,aW,fS,dG,dh,fG,fR,bX,aZ,aN,cR,br,reduceCtorEq,bE,b8,Nat.reduceAdd,Nat.reduceLeDiff,acX,jq.fz];exact rfl):p:=h
def tf {p:Prop}(h:p:=by refine⟨?_, ?_, ?_⟩<;>first|exact rfl|(rw[nB];exact rfl)|(rw[nA];exact rfl)):p:=h
def Ko {p:Prop}(h:p:=by simp only[uJ,iz,lu,wF,Aa,cT,Nat.reduceEqDiff,a8,aW,fS,dG,dh,fG,fR,bX,aZ,aN,cR,br,reduceCtorEq,bE,b8,Nat.reduceAdd,Nat.reduceLeDiff,W4];exact rfl):p:=h
def gZ {p:Prop}(h:p:=by simp[ax.eG,hx,hy,kx hf,ky hf,AY]):p:=h
def Kq {p:Prop}(h:p:=by repeat(first|exact fH.nil|refine fH.un ?_|refine fH.eq ah ?_|refine fH.nl ah ah ?_|refine fH.ni (Or.inr ⟨_,_,_,rfl⟩) ?_|refine fH.nl (aw (D.int .i64) (by push_cast;omega)) ah ?_)):p:=h
def aaC {p:Prop}(h:p:=by simp only[uJ,iz,lu,wF,Aa,cT,Nat.reduceEqDiff,a8,aW,fS,dG,dh,fG,fR,bX,aZ,aN,cR,br,reduceCtorEq,bE,b8,Nat.reduceAdd,Nat.reduceLeDiff,xl,bw.fz,Key.fz,Rec.fz,Env.fz,cA.fz,di.fz,hR.fz,mM.fz,jq.fz,Cu,List.take_succ_cons,List.take_zero,BU,eO,nB,nA,Oe,ale];exact rfl):p:=h
def aaD {p:Prop}(h:p:=by simp only[uJ,iz,lu,wF,Aa,cT,Nat.reduceEqDiff,a8,aW,fS,dG,dh,fG,fR,bX,aZ,aN,cR,br,reduceCtorEq,bE,b8,Nat.reduceAdd,Nat.reduceLeDiff,xl,bw.fz,Key.fz,Rec.fz,Env.fz,cA.fz,di.fz,hR.fz,mM.fz,jq.fz,Cu,List.take_succ_cons,List.take_zero,BU,eO,nB,nA,Oe];exact rfl):p:=h
def aaE {p:Prop}(h:p:=by simp only[uJ,iz,lu,wF,Aa,cT,Nat.reduceEqDiff,a8,aW,fS,dG,dh,fG,fR,bX,aZ,aN,cR,br,reduceCtorEq,bE,b8,Nat.reduceAdd,Nat.reduceLeDiff,xl,bw.fz,Key.fz,Rec.fz,Env.fz,cA.fz,di.fz,hR.fz,mM.fz,jq.fz,Cu,List.take_succ_cons,List.take_zero,BU,eO];exact rfl):p:=h
def aaF {p:Prop}(h:p:=by rw[show py g nm v most=(⟨nm,v,(nS nm g.aS (g.val (most+1)).toNat).1,(eH (nS nm g.aS (g.val (most+1)).toNat).2 nm).1,(lB (eH (nS nm g.aS (g.val (most+1)).toNat).2 nm).2 (nS nm g.aS (g.val (most+1)).toNat).1).1⟩,(lB (eH (nS nm g.aS (g.val (most+1)).toNat).2 nm).2 (nS nm g.aS (g.val (most+1)).toNat).1).2)from rfl,hF];exact rfl):p:=h
def Qq {p:Prop}(h:p:=by repeat(first|exact bp.nil|refine bp.vO ah ah ec ?_|refine bp.KD ah ah ah ?_|refine bp.NN ah ah ah ah ?_|refine bp.nl 0 ah ah ah ec ?_|refine bp.nl 1 ah ah ah ec ?_)):p:=h
def lU {p:Prop}(h:p:=by simp only[bE,b8,td,rl];omega):p:=h
def mX {p:Prop}(h:p:=by first|omega|(simp only[cu,b8];omega)):p:=h
def wC {p:Prop}(h:p:=by have hf:0<=c[j]! :=(by simpa only[eu,beq_iff_eq,aV]using hf);omega):p:=h
def aaG {p:Prop}(h:p:=by simp only[uJ,iz,lu,wF,Aa,cT,Nat.reduceEqDiff,a8,aW,fS,dG,dh,fG,fR,bX,aZ,aN,cR,br,reduceCtorEq,bE,b8,Nat.reduceAdd,Nat.reduceLeDiff,W3,aiP (L:=22) (L':=3) aU,aiQ];exact rfl):p:=h
def Qr {p:Prop}(h:p:=by rcases hg2 with h|⟨_,_,_,h,_⟩|⟨_,_,h,_⟩|⟨_,_,_,_,h,_⟩|⟨_,_,_,h|h,_⟩|⟨_,_,_,_,h,_⟩;exact h;cases h;cases h;cases h;cases h;cases h;cases h):p:=h
def Qs {p:Prop}(h:p:=by have hf2:0<=w.us[j]!.cands[k]!.sh/\w.us[j]!.cands[k]!.sh<(shop.length:Int):=(by revert hf;generalize w.us[j]!.cands[k]!.sh=z;intro hf;simp at hf;omega);omega):p:=h
def Kr {p:Prop}(h:p:=by simpa only[eu,beq_iff_eq,aV]using hf):p:=h
def aaH {p:Prop}(h:p:=by simp only[uJ,iz,lu,wF,Aa,cT,Nat.reduceEqDiff,a8,aW,fS,dG,dh,fG,fR,bX,aZ,aN,cR,br,reduceCtorEq,bE,b8,Nat.reduceAdd,Nat.reduceLeDiff,Env.fz,G7,kD.fz];exact rfl):p:=h
def Qt {p:Prop}(h:p:=by refine bp.nl 0 ah ah ah ec ?_;refine bp.nl 1 ah ah ah ec ?_;refine bp.eq 2 ah ah ah ?_;refine bp.nl 3 ah ah ah ec ?_;exact bp.nil):p:=h
def aaI {p:Prop}(h:p:=by simp only[uJ,iz,lu,wF,Aa,cT,Nat.reduceEqDiff,a8,aW,fS,dG,dh,fG,fR,bX,aZ,aN,cR,br,reduceCtorEq,bE,b8,Nat.reduceAdd,Nat.reduceLeDiff,dr.fz,W5];exact rfl):p:=h
def aaJ {p:Prop}(h:p:=by simp only[uJ,iz,lu,wF,Aa,cT,Nat.reduceEqDiff,a8,aW,fS,dG,dh,fG,fR,bX,aZ,aN,cR,br,reduceCtorEq,bE,b8,Nat.reduceAdd,Nat.reduceLeDiff,W4,bM.fz];exact rfl):p:=h
def pE {p:Prop}(h:p:=by simp only[ax.val,hx,hy,EJ];rw[hb hf]):p:=h
def aaK {p:Prop}(h:p:=by simp only[uJ,iz,lu,wF,Aa,cT,Nat.reduceEqDiff,a8,aW,fS,dG,dh,fG,fR,bX,aZ,aN,cR,br,reduceCtorEq,bE,b8,Nat.reduceAdd,Nat.reduceLeDiff,bM.fz];exact rfl):p:=h
def aaL {p:Prop}(h:p:=by simp only[uJ,iz,lu,wF,Aa,cT,Nat.reduceEqDiff,a8,aW,fS,dG,dh,fG,fR,bX,aZ,aN,cR,br,reduceCtorEq,bE,b8,Nat.reduceAdd,Nat.reduceLeDiff,Rec.fz];exact rfl):p:=h
def cj {p:Prop}(h:p:=by cases h):p:=h
def aaM {p:Prop}(h:p:=by repeat(first|exact bp.nil|refine bp.vO ah ah ec ?_|refine bp.KD ah ah ah ?_|refine bp.NN ah ah ah ah ?_|refine bp.nl 3 ah ah ah ec ?_|refine bp.nl 11 ah ah ah ec ?_)):p:=h
def aaN {p:Prop}(h:p:=by repeat(first|exact bp.nil|refine bp.vO ah ah ec ?_|refine bp.KD ah ah ah ?_|refine bp.NN ah ah ah ah ?_|refine bp.mp 1 ah ah ah ?_|refine bp.eq 2 ah ah ah ?_)):p:=h
def aaO {p:Prop}(h:p:=by first|assumption|omega|exact⟨hns.2 _ (aq ae),hp0.1.2.2.1 _ (aq ae)⟩|exact⟨(hp0.1.2.2.1 _ (aq ae)).2.1,hp0.2⟩|exact((hp0.1.2.2.1 _ (aq ae)).1 _ (aq ae)).1.2):p:=h
def zJ {p:Prop}(h:p:=by have hl'':st.nx+(k+1)<=l':=hl';show st.nx+k<=l';omega):p:=h
def aaP {p:Prop}(h:p:=by repeat(first|exact fH.nil|refine fH.un ?_|refine fH.eq ah ?_|refine fH.nl ah ah ?_|refine fH.ni (Or.inr ⟨_,_,_,rfl⟩) ?_|refine fH.nl (aw (D.int .u64) hsv) ah ?_)):p:=h
def EB {p:Prop}(h:p:=by simp only[ho,Op.operands,Call.operands];simp at ho'⊢;exact .inr ho'):p:=h
def aaQ {p:Prop}(h:p:=by repeat(first|exact bp.nil|refine bp.vO ah ah ec ?_|refine bp.KD ah ah ah ?_|refine bp.NN ah ah ah ah ?_|refine bp.nl 1 ah ah ah ec ?_)):p:=h
def aaR {p:Prop}(h:p:=by refine bp.nl 0 ah ah ah ec ?_;refine bp.nl 1 ah ah ah ec ?_;refine bp.nl 2 ah ah ah ec ?_;refine bp.nl 3 ah ah ah ec ?_;exact bp.nil):p:=h
def aaS {p:Prop}(h:p:=by simp only[ax.eG,hx,hy];exact⟨kx hf,ky hf,by have:=hj hf;omega,by have:=hj hf;have:=hb hf;omega⟩):p:=h
def aaT {p:Prop}(h:p:=by refine bp.nl 0 ah ah ah ec ?_;refine bp.nl 1 ah ah ah ec ?_;refine bp.eq 7 ah ah ah ?_;refine bp.nl 5 ah ah ah ec ?_;exact bp.nil):p:=h
def Qu {p:Prop}(h:p:=by first|assumption|omega|exact eR (hp0.1.2 _ (aq ae)) aU|exact(hp0.2.1 _ (aq ae)).1.2):p:=h
def Ks {p:Prop}(h:p:=by first|assumption|omega|exact hp0.1|exact hp0.2.1|exact⟨hp0.2.1,hp0.2.2⟩):p:=h
def Qv {p:Prop}(h:p:=by first|assumption|omega|exact hp0.1|exact hp0.2.1 _ (aq ae)|exact hp0.2.2 _ (aq ae)):p:=h
def aaU {p:Prop}(h:p:=by simp only[jn,hc3];revert hc4;generalize cU (bd s 46)[i]! =a;generalize ox (bd s 46)[i]! =b;cases p<;>cases a<;>cases b<;>simp):p:=h
def aaV {p:Prop}(h:p:=by simp only[ax.eG,hx,ed,aI,hl,iV,(dA _ _ _).1,ha];exact⟨trivial,ho,hn,trivial,trivial,⟨trivial,aB⟩,aB,hd,hc.1⟩):p:=h
def oI {p:Prop}(h:p:=by simp[ax.eG,hx,kx hf]):p:=h
def aaW {p:Prop}(h:p:=by first|assumption|omega|exact hp0.1.1|exact⟨hp0.1.1,hcs.2.1 _ (aq ae),hfw.2.2 _ (aq ae)⟩|exact⟨hp0.1.1,hcs.2.2,hfw.2.1⟩):p:=h
def aaY {p:Prop}(h:p:=by repeat(first|exact fH.nil|refine fH.un ?_|refine fH.eq ah ?_|refine fH.nl ah ah ?_|refine fH.ni (Or.inr ⟨0,1,0,rfl⟩) ?_)):p:=h
def tg {p:Prop}(h:p:=by rintro _ rfl;simp[ho,Op.operands]):p:=h
def aaZ {p:Prop}(h:p:=by have hcu:0<=c[u]! :=Decidable.byContradiction λhn=>(by rw[bN hn]at hf;revert hf;decide);have:=(hfu hcu).1;omega):p:=h
def Kt {p:Prop}(h:p:=by repeat' first|exact rfl|exact trivial|refine And.intro ?_ ?_):p:=h
def EC {p:Prop}(h:p:=by first|(rw[cu];rfl)|(simp only[cu];rfl)):p:=h
def aa0 {p:Prop}(h:p:=by simp only[ax.val,hx,LH];rw[getD_map (hi hf)];exact hv hf):p:=h
def lV {p:Prop}(h:p:=by simpa using hc1):p:=h
def zK {p:Prop}(h:p:=by simp only[ax.val,hx,hy,EJ,QP]):p:=h
def lj {p:Prop}(h:p:=by rw[aZ];omega):p:=h
def aa1 {p:Prop}(h:p:=by first|assumption|omega|exact hp0.1|exact hp0.2.1 _ (aq (by first|omega|(simp at hf;omega)))|exact hp0.2.2):p:=h
def aa2 {p:Prop}(h:p:=by first|assumption|omega|exact⟨(hp0.1.2.2.2.1 _ (aq ae)).2.2,hp0.2⟩|exact(hp0.1.2.2.2.1 _ (aq ae)).2.1):p:=h
def aa3 {p:Prop}(h:p:=by rw[OC hc0];exact(by refine⟨?_, ?_, ?_⟩<;>first|exact rfl|(rw[nB];exact rfl)|(rw[nA];exact rfl))):p:=h
def aa4 {p:Prop}(h:p:=by simp only[ax.eG,hx,LG,aZ];exact⟨kx hf,hi hf,ho⟩):p:=h
def zL {p:Prop}(h:p:=by simp only[ax.val,hx,hy,EJ]<;>rfl):p:=h
def Ku {p:Prop}(h:p:=by have:=kS (tot:=tot) (show i<tot by omega) hj;omega):p:=h
def aa5 {p:Prop}(h:p:=by first|(rw[r9,K0 hc0 (i:=i) ae ae];done)|(rw[r9,K0 hc0 (i:=i) ae ae];exact rfl)):p:=h
def ED {p:Prop}(h:p:=by have:=hf.m l' hl';simp only at this⊢;omega):p:=h
def alo {p:Prop}(h:p:=by simp only[cu,List.length_singleton];omega):p:=h
def rp {p:Prop}(h:p:=by simpa using h):p:=h
def Kv {p:Prop}(h:p:=by first|assumption|(simp only[pe,Gs.aS]at*;omega)):p:=h
def Kw {p:Prop}(h:p:=by simp only[eu,beq_iff_eq,aC,aV]at h;omega):p:=h
def Kx {p:Prop}(h:p:=by simp only[ax.val,hx,hy];rw[hj hf];rfl):p:=h
def Qw {p:Prop}(h:p:=by simp only[ax.eG,hx,LG];exact⟨kx hf,hi hf,ho⟩):p:=h
def Qx {p:Prop}(h:p:=by simp only[cu,dQ,ix,bE,b8];omega):p:=h
def Qy {p:Prop}(h:p:=by have:=hj hf;have:=hb hf;omega):p:=h
def jN {p:Prop}(h:p:=by simp[hc0]):p:=h
def Qz {p:Prop}(h:p:=by simp only[ax.val,hx,hy,EJ];rw[wrap_i64 (hb hf).1 (hb hf).2]):p:=h
def Ky {p:Prop}(h:p:=by rw[cu,List.length_singleton];omega):p:=h
def zM {p:Prop}(h:p:=by simp only[dQ];omega):p:=h
def pF {p:Prop}(h:p:=by simp[cI];omega):p:=h
def rq {p:Prop}(h:p:=by simp[ho,Op.operands]):p:=h
def QA {p:Prop}(h:p:=by first|assumption|omega|exact hp0.1.p.1.1|exact hp0.1.p.1.2):p:=h
def Kz {p:Prop}(h:p:=by simp[ax.eG,hx,hy,kx hf,ky hf,AY,hn hf]):p:=h
def rr {p:Prop}(h:p:=by simp only;omega):p:=h
def QB {p:Prop}(h:p:=by simp only[ax.val,hx,LH,aI,hl hf,iV];exact hv hf):p:=h
def QC {p:Prop}(h:p:=by first|assumption|exact hp0.1|exact hp0.2.1|exact hp0.2.2):p:=h
def EE {p:Prop}(h:p:=by simp only[cu,bE,b8];omega):p:=h
def Ke {p:Prop}(h:p:=by have:=ha hf;subst hd;simpa[ax.KB,hx,kx hf]using this):p:=h
def j4 {p:Prop}(h:p:=by simpa using hi):p:=h
def fA {p:Prop}(h:p:=by simp at h):p:=h
def mb {p:Prop}(h:p:=by simp[ax.val,hx]):p:=h
def Kf {p:Prop}(h:p:=by first|assumption|omega|exact hp0.1.1|exact hp0.1.2):p:=h
def S3 {p:Prop}(h:p:=by rintro⟨h1,h2⟩;rcases hc1 with h|h;omega;exact h h2):p:=h
def jc {p:Prop}(h:p:=by rw[h];simp):p:=h
def S4 {p:Prop}(h:p:=by simp only[ax.eG,hx,hy];exact⟨kx hf,ky hf,h1 hf⟩):p:=h
def Kg {p:Prop}(h:p:=by simp only[ho,Op.operands,cg];exact⟨p,hp,rfl⟩):p:=h
def Kh {p:Prop}(h:p:=by simp only[ax.val,hx,LH];exact hv hf):p:=h
def Ki {p:Prop}(h:p:=by refine bp.nl 0 ah ah ah ec ?_;exact bp.nil):p:=h
def BV {p:Prop}(h:p:=by simp at hf;omega):p:=h
def Kj {p:Prop}(h:p:=by rw[xm _ _ _ ae];exact List.getElem_mem _):p:=h
def uB {p:Prop}(h:p:=by simp only[bE];omega):p:=h
def gv {p:Prop}(h:p:=by simp[h]):p:=h
def S5 {p:Prop}(h:p:=by simp[rW,Si,mN]):p:=h
def yz {p:Prop}(h:p:=by rw[IntKind.wrap_u64];omega):p:=h
def yA {p:Prop}(h:p:=by rw[cR,Gn];rfl):p:=h
def nN {p:Prop}(h:p:=by simpa using hj):p:=h
def yB {p:Prop}(h:p:=by simpa[D.aT]using hn):p:=h
def Kk {p:Prop}(h:p:=by have:=hj hf;omega):p:=h
def o8 {p:Prop}(h:p:=by simpa using hc5):p:=h
def yC {p:Prop}(h:p:=by rw[tq];exact hl'):p:=h
def uC {p:Prop}(h:p:=by rwa [tq]at hi):p:=h
def uD {p:Prop}(h:p:=by rw[bX];rfl):p:=h
def uE {p:Prop}(h:p:=by simp[kf];omega):p:=h
def yD {p:Prop}(h:p:=by simpa using hc3):p:=h
def mc {p:Prop}(h:p:=by assumption):p:=h
def me {p:Prop}(h:p:=by simp[hw0]):p:=h
def nO {p:Prop}(h:p:=by simp[ff]):p:=h
inductive D where
 |any
 |bool (b:Bool)
 |int (k:IntKind) (n:Int)
 |str (s:List UInt8)
 |agg (cs:List D)
 |tup (ds:List D)
 |aL
 |sl (k:Nat) (es:List D)
 |ref (k:Nat) (es:List D) (i o:Nat)
 |ptr (l k i o:Nat)
 |own (l k i n:Nat)
 |nilp
 |fn (f:Nat) (caps:List D)
 |nilf
 |it (l:Nat)
 deriving Inhabited
inductive Src where
 |s (n:Nat)
 |l (p:Nat)
 |c (d:D)
 deriving Inhabited
inductive Sh where
 |a
 |sl (k:Nat) (cs:List Sh)
 |pt (cs:List Sh)
 |kp (cs:List Sh)
 deriving Inhabited
inductive CK where
 |b|i (k:IntKind)|s
 deriving Inhabited
inductive ax where
 |mv (x:Src)
 |pick (c a b:Src)
 |box (k:Nat) (x:Src)
 |build (z:List D) (parts:List (Nat×Nat×Src))
 |bsl (k:Nat) (z:D) (n:Nat) (parts:List (Nat×Src))
 |ld (n:Nat) (ag:Bool) (p:Src)
 |st (n:Nat) (p v:Src)
 |stU (n:Nat) (p v:Src) (qs:List Src)
 |nilck (x:Src)
 |bin (op:BinOp) (x y:Src)
 |eqA (neg ag:Bool) (ks:List CK) (x y:Src)
 |un (op:UnOp) (x:Src)
 |cvi (k:IntKind) (x:Src)
 |mn (g:Bool) (x y:Src)
 |s2b (x:Src)
 |b2s (x:Src)
 |mkf (f:Nat) (caps:List Src)
 |mks (k:Nat) (z:D) (ln cp:Src)
 |slS (x:Src) (lo hi:Option Src)
 |slA (k:Nat) (x:Src) (lo hi:Option Src)
 |slX (k:Nat) (x hi mx:Src)
 |fa (off:Nat) (p:Src)
 |fld (off n:Nat) (ag:Bool) (x:Src)
 |ia (k:Nat) (x i:Src)
 |iaP (n k:Nat) (x i:Src)
 |ixS (x i:Src)
 |ixA (n k:Nat) (ag:Bool) (x i:Src)
 |ext (x:Src) (i:Nat)
 |len (x:Src)
 |lenS (x:Src)
 |app (k:Nat) (x y:Src)
 |call (f:Nat) (args:List Src) (sh:List (List Sh))
 |callv (f:Src) (args:List Src) (sh:List (List Sh))
 |callM (f:Nat) (args:List Src)
 |callvM (f:Src) (args:List Src)
 |ldI (n:Nat) (ag:Bool) (p:Src)
 |ldU (n:Nat) (ag:Bool) (p:Src)
 |ldW (n:Nat) (ag:Bool) (p:Src)
 |callF (f:Nat) (r:Src) (args:List Src) (sh:List (List Sh))
 |appN (k:Nat) (y:Src)
 |bslI (k:Nat) (z:D) (n:Nat) (parts:List (Nat×Src))
 |rng (x:Src)
 |aS (x:Src)
 |mkB
 |mkM
 |upM (x k v:Src)
 |lkM (z:D) (x k:Src)
 |isNl (x:Src) (neg:Bool)
 deriving Inhabited
structure GI where
 i:ax
 g:Option (Nat×Bool)
 deriving Inhabited
variable(l:List GI)
inductive AC where
 |reg (draw:Bool) (ins:List GI) (cm:List (Nat×Nat))
 |seq (a b:AC)
 |cond (c:Src) (a b:AC)
 |block (id:Nat) (a:AC)
 |loop (a:AC)
 |exit (id:Nat)
 |ret
 |skip
 deriving Inhabited
structure GG where
 s:Nat
 mem:Option (Nat×Bool)
 deriving Inhabited
structure aj where
 np:Nat
 ns:Nat
 res:List GG
 rsh:List (List Sh)
 body:AC
 deriving Inhabited
variable(a:aj)
@[go_sem] def D.cells:D->List D
 | .agg cs=>cs
 | .any=>[]
 | .tup _=>[]
 |d=>[d]
@[go_sem] def D.isBool:D->Bool
 | .bool _=>true
 |_=>false
@[go_sem] def D.isAgg:D->Bool
 | .agg _=>true
 |_=>false
mutual
@[go_sem] def D.aT:D->Bool
 | .agg cs=>aM cs
 | .tup cs=>aM cs
 | .fn _ cs=>aM cs
 | .ptr .. =>false
 | .own .. =>false
 | .it _=>false
 |_=>true
@[go_sem] def aM:List D->Bool
 |[]=>true
 |d::r=>d.aT&&aM r
end
mutual
@[go_sem] def D.fu:D->Bool
 | .agg cs=>oq cs
 | .tup cs=>oq cs
 | .fn n cs=>!(Nat.ble 2000000 n)&&oq cs
 | .ptr .. =>false
 | .own .. =>false
 | .it _=>false
 | .sl .. =>false
 | .ref .. =>false
 |_=>true
@[go_sem] def oq:List D->Bool
 |[]=>true
 |d::r=>d.fu&&oq r
end
inductive bn where
 |buf (k:Nat) (es:List D)
 |iter (s:List UInt8) (pos:Nat)
 |row (s:List UInt8)
 |bld (o:Option Nat) (n:Nat) (u:Bool)
 |mpb (kvs:List D)
 deriving Inhabited
structure St where
 nx:Nat
 m:List (Nat×bn)
@[go_sem] def look:List (Nat×bn)->Nat->Option bn
 |[],_=>none
 |(a,b)::r,l=>if a=l then some b else look r l
@[go_sem] def cX:List (Nat×bn)->Nat->bn->List (Nat×bn)
 |[],l,b=>[(l,b)]
 |(a,x)::r,l,b=>if a=l then(a,b)::r else(a,x)::cX r l b
@[go_sem] def cT:List (Nat×bn)->Nat->List (Nat×bn)
 |[],_=>[]
 |(a,x)::r,l=>if a=l then cT r l else(a,x)::cT r l
structure ba where
 ok:Bool
 d:D
@[go_sem] def ba.un:ba:=⟨true,.any⟩
variable(vs:List ba)
@[go_sem] def Src.ev (env vs:List ba):Src->ba
 | .s n=>env.getD n .un
 | .l p=>vs.getD p .un
 | .c d=>⟨true,d⟩
structure Ctx where
 pre:Nat->List D->Prop
 val:Nat->List D->D
 tr:Nat->List D->St->(D->St->Prop)->Prop
 fp:Nat->D->List D->Prop
 fv:Nat->D->List D->D
 fs:Nat->D->List D->D
 lo:Nat
@[go_sem] def aI (m:List (Nat×bn))(l:Nat):List D:=match look m l with
 |some (.buf _ es)=>es
 |_=>[]
@[go_sem] def ed (m:List (Nat×bn))(l k n:Nat):Prop:=match look m l with
 |some (.buf k' es)=>k=k'/\n<=es.length
 |_=>False
@[go_sem] def qw (m:List (Nat×bn)):D->List D
 | .sl _ es=>es
 | .own l _ i n=>((aI m l).drop i).take n
 | .str s=>s.map λb=>.int .u8 b.toNat
 |_=>[]
@[go_sem] def Cd (m:List (Nat×bn))(k:Nat):D->Prop
 | .sl k' _=>k'=k
 | .own l k' i n=>k'=k/\ed m l k (i+n)
 | .str _=>k=1
 | .aL=>True
 |_=>False
mutual
@[go_sem] def kW (m:List (Nat×bn)):Sh->D->D
 | .a,d=>match d with
  | .aL=>.sl 0 []
  |d=>d
 | .sl k cs,d=>match d with
  | .aL=>.sl k []
  | .own l k' i c=>.sl k' ((((aI m l).drop i).take c).map (je m cs))
  |d=>d
 | .pt cs,d=>match d with
  | .ptr l k i o=>.ref k ((aI m l).map (je m cs)) i o
  |d=>d
 | .kp cs,d=>match d with
  | .own l k' i c=>.sl k' ((((aI m l).drop i).take c).map (je m cs))
  |d=>d
@[go_sem] def je (m:List (Nat×bn)):List Sh->D->D
 |[],d=>d
 |s::r,d=>match d with
  | .agg cs=>.agg (nF m (s::r) cs)
  |d=>kW m s d
@[go_sem] def nF (m:List (Nat×bn)):List Sh->List D->List D
 |[],ds=>ds
 |s::r,ds=>match ds with
  |[]=>[]
  |d::ds=>kW m s d::nF m r ds
end
mutual
@[go_sem] def iB (m:List (Nat×bn)):Sh->D->Prop
 | .a,d=>d.aT=true
 | .sl _ cs,d=>match d with
  | .own l k' i c=>ed m l k' (i+c)/\∀e∈((aI m l).drop i).take c,gO m cs e
  |d=>d.aT=true
 | .pt cs,d=>match d with
  | .ptr l k _ _=>ed m l k 0/\∀e∈aI m l,gO m cs e
  |d=>d.aT=true
 | .kp cs,d=>match d with
  | .own l k' i c=>ed m l k' (i+c)/\∀e∈((aI m l).drop i).take c,gO m cs e
  |d=>d.aT=true
@[go_sem] def gO (m:List (Nat×bn)):List Sh->D->Prop
 |[],d=>d.aT=true
 |s::r,d=>match d with
  | .agg cs=>kv m (s::r) cs
  |d=>iB m s d
@[go_sem] def kv (m:List (Nat×bn)):List Sh->List D->Prop
 |[],ds=>aM ds=true
 |s::r,ds=>match ds with
  |[]=>True
  |d::ds=>iB m s d/\kv m r ds
end
@[go_sem] def EJ (op:BinOp):D->D->D
 | .int k a,.int _ b=>match op with
  | .add=>.int k (k.wrap (a+b))
  | .sub=>.int k (k.wrap (a-b))
  | .mul=>.int k (k.wrap (a*b))
  | .quo=>.int k (k.wrap (a.tdiv b))
  | .rem=>.int k (a.tmod b)
  | .eql=>.bool (a==b)| .neq=>.bool (a !=b)| .lss=>.bool (decide (a<b))| .leq=>.bool (decide (a<=b))| .gtr=>.bool (decide (b<a))| .geq=>.bool (decide (b<=a))
  | .shl=>.int k (k.wrap (a*2^(min b.toNat k.bits)))
  | .shr=>.int k (a.fdiv (2^(min b.toNat k.bits)))
  | .and=>.int k (k.wrap (((BitVec.ofInt k.bits a)&&&(BitVec.ofInt k.bits b)).toNat))
  | .or=>.int k (k.wrap (((BitVec.ofInt k.bits a) |||(BitVec.ofInt k.bits b)).toNat))
  | .xor=>.int k (k.wrap (((BitVec.ofInt k.bits a)^^^(BitVec.ofInt k.bits b)).toNat))
  | .andNot=>.int k (k.wrap (((BitVec.ofInt k.bits a)&&& ~~~(BitVec.ofInt k.bits b)).toNat))
 | .str a,.str b=>match op with
  | .add=>.str (a++b)
  | .eql=>.bool (a==b)| .neq=>.bool (!(a==b))| .lss=>.bool (Op.bytesLess a b)| .geq=>.bool (!(Op.bytesLess a b))
  | .leq=>.bool (Op.bytesLess a b ||a==b)| .gtr=>.bool (!(Op.bytesLess a b ||a==b))
  |_=>.any
 |_,_=>.any
@[go_sem] def AY (op:BinOp):D->D->Prop
 | .int k a,.int k' b=>match op with
  | .quo=>k=k'/\b≠0
  | .rem=>k=k'/\b≠0
  | .shl=>0<=b
  | .shr=>0<=b
  |_=>k=k'
 | .str a,.str b=>match op with
  | .add=>a.length+b.length<=9223372036854775807
  | .eql=>True| .neq=>True| .lss=>True| .geq=>True| .leq=>True| .gtr=>True
  |_=>False
 |_,_=>False
@[go_sem] def D.pick (b:Bool):D->D->D
 | .bool x,.bool y=>.bool (bif b then x else y)
 |x,y=>bif b then x else y
@[go_sem] def cut (cs:List D)(o n:Nat)(ag:Bool):D:=bif ag then .agg ((cs.drop o).take n)else cs.getD o .any
@[go_sem] def kT (e:D)(k n o:Nat)(ag:Bool):D:=bif (n==k)&&(e.isAgg==ag)then e else cut e.cells o n ag
@[go_sem] def LH (m:List (Nat×bn))(n:Nat)(ag:Bool):D->D
 | .ptr l k i o=>kT ((aI m l).getD i .any) k n o ag
 | .ref k es i o=>kT (es.getD i .any) k n o ag
 | .fn _ es=>kT (es.getD 0 .any) 1 n 0 ag
 |_=>.any
@[go_sem] def LG (m:List (Nat×bn))(n:Nat):D->Prop
 | .ptr l k i o=>ed m l k (i+1)/\o+n<=k
 | .ref k es i o=>i<es.length/\o+n<=k
 | .fn q es=>q=3000000/\n=1/\es.length=1/\(es.getD 0 .any).cells=[es.getD 0 .any]
 |_=>False
mutual
@[go_sem] def eqD:D->D->Bool
 | .bool a,.bool b=>a==b
 | .int _ a,.int _ b=>a==b
 | .str a,.str b=>a==b
 |_,_=>false
@[go_sem] def ik:List D->List D->Bool
 |[],[]=>true
 |a::r,b::s=>eqD a b&&ik r s
 |_,_=>false
end
@[go_sem] def CK.fits:CK->D->Prop
 | .b,.bool _=>True
 | .i k,.int k' _=>k'=k
 | .s,.str _=>True
 |_,_=>False
@[go_sem] def fJ:List CK->List D->Prop
 |[],[]=>True
 |c::r,d::s=>c.fits d/\fJ r s
 |_,_=>False
@[go_sem] def over (cs:List D)(o:Nat)(new:List D):List D:=cs.take o++(new++cs.drop (o+new.length))
@[go_sem] def pA (e:D)(k n o:Nat)(v:D):D:=bif (n==k)&&(v.isAgg ||!e.isAgg)then v else .agg (over e.cells o v.cells)
@[go_sem] def Ci (J:Src->ba)(cs:List D):List (Nat×Nat×Src)->List D
 |[]=>cs
 |(o,_,s)::r=>Ci J (over cs o (J s).d.cells) r
@[go_sem] def zZ (J:Src->ba)(len:Nat):List (Nat×Nat×Src)->Prop
 |[]=>True
 |(o,n,s)::r=>(J s).ok=true/\(J s).d.cells.length=n/\o+n<=len/\zZ J len r
@[go_sem] def mh (J:Src->ba)(es:List D):List (Nat×Src)->List D
 |[]=>es
 |(i,s)::r=>mh J (es.set i (J s).d) r
@[go_sem] def qG (J:Src->ba)(k n:Nat):List (Nat×Src)->Prop
 |[]=>True
 |(i,s)::r=>i<n/\(J s).ok=true/\(J s).d.cells.length=k/\qG J k n r
@[go_sem] def D.nat:D->Nat
 | .int _ n=>n.toNat
 |_=>0
@[go_sem] def ee (o:Option D)(dflt:Nat):Nat:=match o with
 |some (.int _ n)=>n.toNat
 |_=>dflt
@[go_sem] def nu (o:Option D)(hi:Nat):Prop:=match o with
 |none=>True
 |some (.int _ n)=>0<=n/\n<=hi
 |_=>False
@[go_sem] def L4 (J:Src->ba):Option Src->Prop
 |none=>True
 |some s=>(J s).ok=true
@[go_sem] def dO (J:Src->ba):Option Src->Option D
 |none=>none
 |some s=>some (J s).d
@[go_sem] def BJ (J:Src->ba):List Src->Prop
 |[]=>True
 |s::r=>(J s).ok=true/\BJ J r
@[go_sem] def iR (J:Src->ba):List Src->List D
 |[]=>[]
 |s::r=>(J s).d::iR J r
@[go_sem] def D.u8:D->UInt8
 | .int _ n=>UInt8.ofNat n.toNat
 |_=>0
@[go_sem] def D.TQ:D->Prop
 | .int k n=>k=.u8/\0<=n/\n<256
 |_=>False
variable{d:D}
def yO (s:List UInt8)(pos:Nat):Nat×Nat:=Utf8.decode ⟨⟨s⟩⟩ pos
@[go_sem] def iH (m:List (Nat×bn)):List (List Sh)->List D->List D
 |_,[]=>[]
 |[],d::r=>je m [.a] d::iH m [] r
 |s::ss,d::r=>je m s d::iH m ss r
@[go_sem] def ji (m:List (Nat×bn)):List (List Sh)->List D->Prop
 |_,[]=>True
 |[],d::r=>gO m [.a] d/\ji m [] r
 |s::ss,d::r=>gO m s d/\ji m ss r
@[go_sem] def vQ:D->Bool
 | .agg [.str _,.str _]=>true
 |_=>false
@[go_sem] def pV:D->D->Bool
 | .agg [.str a,.str b],.agg [.str c,.str d]=>a==c&&b==d
 |_,_=>false
@[go_sem] def xA:List D->Bool
 |[]=>true
 |k::_::r=>vQ k&&xA r
 |[_]=>false
@[go_sem] def NO (k:D):List D->Option D
 |a::v::r=>bif pV a k then some v else NO k r
 |_=>none
@[go_sem] def Ah (k v:D):List D->List D
 |a::w::r=>bif pV a k then a::v::r else a::w::Ah k v r
 |_=>[k,v]
@[go_sem] def CX:D->List Nat
 | .fn _ [.it l]=>[l]
 |_=>[]
@[go_sem] def T4 (m:List (Nat×bn)):D->List D
 | .fn _ [.it l]=>match look m l with
  |some (.mpb kvs)=>kvs
  |_=>[]
 |_=>[]
@[go_sem] def mpO (m:List (Nat×bn)):D->Prop
 | .fn n [.it l]=>n=5000000/\match look m l with
  |some (.mpb kvs)=>xA kvs=true
  |_=>False
 |_=>False
@[go_sem] def ax.val (Y:Ctx)(J:Src->ba)(m:List (Nat×bn))(L:Nat):ax->D
 | .mv x=>(J x).d
 | .pick c a b=>match(J c).d with| .bool t=>D.pick t (J a).d (J b).d|_=>.any
 | .box k _=>.ptr L k 0 0
 | .build z ps=>.agg (Ci J z ps)
 | .bsl k _ n _=>.own L k 0 n
 | .ld n ag p=>LH m n ag (J p).d
 | .st _ _ _=>.any
 | .stU _ _ _ _=>.any
 | .nilck x=>(J x).d
 | .bin op x y=>EJ op (J x).d (J y).d
 | .eqA neg _ _ x y=>.bool (bif neg then !(ik (J x).d.cells (J y).d.cells)else ik (J x).d.cells (J y).d.cells)
 | .un op x=>match op,(J x).d with
  | .not,.bool b=>.bool (!b)
  | .neg,.int k n=>.int k (k.wrap (0-n))
  |_,_=>.any
 | .cvi k x=>match(J x).d with| .int _ n=>.int k (k.wrap n)|_=>.any
 | .mn g x y=>match(J x).d,(J y).d with| .int k a,.int _ b=>.int k (if g=true then(if b>a then b else a)else if b<a then b else a)|_,_=>.any
 | .s2b x=>match(J x).d with| .str s=>.own L 1 0 s.length|_=>.any
 | .b2s x=>.str ((qw m (J x).d).map D.u8)
 | .mkf f caps=>.fn f (iR J caps)
 | .mks k _ ln _=>.own L k 0 (J ln).d.nat
 | .slS x lo hi=>match(J x).d with
  | .str s=>.str ((s.take (ee (dO J hi) s.length)).drop (ee (dO J lo) 0))
  |_=>.any
 | .slA _ x lo hi=>match(J x).d with
  | .sl k es=>.sl k ((es.take (ee (dO J hi) es.length)).drop (ee (dO J lo) 0))
  | .own l k i n=>.own l k (i+ee (dO J lo) 0) (ee (dO J hi) n-ee (dO J lo) 0)
  | .aL=>.aL
  |_=>.any
 | .slX _ x hi _=>match(J x).d,(J hi).d with
  | .sl k es,.int _ h=>.sl k (es.take h.toNat)
  | .own l k i _,.int _ h=>.own l k i h.toNat
  | .aL,_=>.aL
  |_,_=>.any
 | .fa off p=>match(J p).d with
  | .ptr l k i o=>.ptr l k i (o+off)
  | .ref k es i o=>.ref k es i (o+off)
  |_=>.any
 | .fld off n ag x=>cut (J x).d.cells off n ag
 | .ia _ x i=>match(J x).d,(J i).d with
  | .sl k es,.int _ n=>.ref k es n.toNat 0
  | .own l k j _,.int _ n=>.ptr l k (j+n.toNat) 0
  |_,_=>.any
 | .iaP _ k x i=>match(J x).d,(J i).d with
  | .ptr l k' j o,.int _ n=>.ptr l k' j (o+n.toNat*k)
  | .ref k' es j o,.int _ n=>.ref k' es j (o+n.toNat*k)
  |_,_=>.any
 | .ixS x i=>match(J x).d,(J i).d with
  | .str s,.int _ n=>.int .u8 (s.getD n.toNat 0).toNat
  |_,_=>.any
 | .ixA _ k ag x i=>match(J i).d with
  | .int _ n=>cut (J x).d.cells (n.toNat*k) k ag
  |_=>.any
 | .ext x i=>match(J x).d with| .tup ds=>ds.getD i .any|_=>.any
 | .len x=>match(J x).d with
  | .sl _ es=>.int .i64 es.length
  | .own _ _ _ n=>.int .i64 n
  | .aL=>.int .i64 0
  |_=>.any
 | .lenS x=>match(J x).d with
  | .str s=>.int .i64 s.length
  |_=>.any
 | .app k x y=>match(J x).d with
  | .own _ _ _ n=>.own L k 0 (n+(qw m (J y).d).length)
  |_=>.own L k 0 (qw m (J y).d).length
 | .call f args sh=>Y.val f (iH m sh (iR J args))
 | .callv f args sh=>match(J f).d with
  | .fn n caps=>Y.val n (iH m sh (iR J args++caps))
  |_=>.any
 | .callM _ _=>.any
 | .callvM _ _=>.any
 | .ldU n ag p=>LH m n ag (J p).d
 | .ldW n ag p=>LH m n ag (J p).d
 | .ldI n ag p=>match(J p).d with
  | .ref k es i o=>kT (es.getD i .any) k n o ag
  | .fn _ es=>kT (es.getD 0 .any) 1 n 0 ag
  |_=>.any
 | .appN k y=>.own L k 0 (qw m (J y).d).length
 | .bslI k z n ps=>.sl k (mh J (List.replicate n z) ps)
 | .callF f r args sh=>match(J r).d with
  | .ptr l _ _ _=>Y.fv f ((aI m l).getD 0 .any) (iH [] sh (iR J args))
  |_=>.any
 | .rng _=>.it L
 | .mkB=>.ptr L 2 0 0
 | .mkM=>.fn 5000000 [.it L]
 | .upM .. =>.any
 | .lkM z x k=>match NO (J k).d (T4 m (J x).d)with
  |some v=>.tup [v,.bool true]
  |none=>.tup [z,.bool false]
 | .isNl .. =>.any
 | .aS x=>match(J x).d with
  | .it l=>match look m l with
   |some (.iter s pos)=>bif decide (pos<s.length)then .tup [.bool true,.int .i64 pos,.int .i32 (yO s pos).1]else .tup [.bool false]
   |_=>.any
  |_=>.any
@[go_sem] def ct:D->List Nat
 | .ptr l _ _ _=>[l]
 | .own l _ _ _=>[l]
 | .it l=>[l]
 |_=>[]
@[go_sem] def qB (args:List D)(r:D):Bool:=aM args ||r.fu
@[go_sem] def ax.eG (Y:Ctx)(J:Src->ba)(m:List (Nat×bn)):ax->Prop
 | .mv x=>(J x).ok=true
 | .pick c a b=>(J c).ok=true/\match(J c).d with
  | .bool t=>(t=true->(J a).ok=true)/\(t=false->(J b).ok=true)
  |_=>False
 | .box k x=>(J x).ok=true/\(J x).d.cells.length=k
 | .build z ps=>zZ J z.length ps
 | .bsl k z n ps=>z.cells.length=k/\qG J k n ps
 | .ld n _ p=>(J p).ok=true/\LG m n (J p).d
 | .st n p v=>(J p).ok=true/\(J v).ok=true/\(J v).d.cells.length=n/\match(J p).d with
  | .ptr l k i o=>ed m l k (i+1)/\o+n<=k
  |_=>False
 | .stU n p v qs=>(J p).ok=true/\(J v).ok=true/\(J v).d.cells.length=n/\match(J p).d with
  | .ptr l k i o=>ed m l k (i+1)/\o+n<=k/\(k<=4\/∀q∈qs,l∉ct (J q).d)
  |_=>False
 | .nilck x=>(J x).ok=true/\match(J x).d with| .ptr .. =>True| .ref .. =>True|_=>False
 | .bin op x y=>(J x).ok=true/\(J y).ok=true/\AY op (J x).d (J y).d
 | .eqA _ ag ks x y=>(J x).ok=true/\(J y).ok=true/\(J x).d.isAgg=ag/\(J y).d.isAgg=ag/\fJ ks (J x).d.cells/\fJ ks (J y).d.cells
 | .un op x=>(J x).ok=true/\match op,(J x).d with
  | .not,.bool _=>True
  | .neg,.int _ _=>True
  |_,_=>False
 | .cvi _ x=>(J x).ok=true/\match(J x).d with| .int _ _=>True|_=>False
 | .mn g x y=>(J x).ok=true/\(J y).ok=true/\match(J x).d,(J y).d with| .int _ _,.int _ _=>True|_,_=>False
 | .s2b x=>(J x).ok=true/\match(J x).d with| .str _=>True|_=>False
 | .b2s x=>(J x).ok=true/\(match(J x).d with| .str _=>False|_=>True)/\Cd m 1 (J x).d/\∀e∈qw m (J x).d,e.TQ
 | .mkf _ caps=>BJ J caps
 | .mks k z ln cp=>(J ln).ok=true/\(J cp).ok=true/\z.cells.length=k/\match(J ln).d,(J cp).d with
  | .int _ n,.int _ c=>0<=n/\n<=c/\c<=1073741824
  |_,_=>False
 | .slS x lo hi=>(J x).ok=true/\L4 J lo/\L4 J hi/\match(J x).d with
  | .str s=>nu (dO J hi) s.length/\nu (dO J lo) (ee (dO J hi) s.length)
  |_=>False
 | .slA k x lo hi=>(J x).ok=true/\L4 J lo/\L4 J hi/\match(J x).d with
  | .sl k' es=>k'=k/\nu (dO J hi) es.length/\nu (dO J lo) (ee (dO J hi) es.length)
  | .own _ k' _ n=>k'=k/\nu (dO J hi) n/\nu (dO J lo) (ee (dO J hi) n)
  | .aL=>nu (dO J hi) 0/\nu (dO J lo) 0
  |_=>False
 | .slX k x hi mx=>(J x).ok=true/\(J hi).ok=true/\(J mx).ok=true/\match(J hi).d,(J mx).d with
  | .int _ h,.int _ m=>0<=h/\h<=m/\(match(J x).d with
    | .sl k' es=>k'=k/\m<=es.length
    | .own _ k' _ n=>k'=k/\m<=n
    | .aL=>m=0
    |_=>False)
  |_,_=>False
 | .fa off p=>(J p).ok=true/\match(J p).d with| .ptr .. =>True| .ref .. =>True|_=>False
 | .fld off n ag x=>(J x).ok=true/\match(J x).d with| .agg cs=>off+n<=cs.length/\(ag=false->n=1)|_=>False
 | .ia k x i=>(J x).ok=true/\(J i).ok=true/\match(J x).d,(J i).d with
  | .sl k' es,.int _ n=>k'=k/\0<=n/\n<es.length
  | .own _ k' _ c,.int _ n=>k'=k/\0<=n/\n<c
  |_,_=>False
 | .iaP n k x i=>(J x).ok=true/\(J i).ok=true/\match(J x).d,(J i).d with
  | .ptr ..,.int _ c=>0<=c/\c<n
  | .ref ..,.int _ c=>0<=c/\c<n
  |_,_=>False
 | .ixS x i=>(J x).ok=true/\(J i).ok=true/\match(J x).d,(J i).d with
  | .str s,.int _ n=>0<=n/\n<s.length
  |_,_=>False
 | .ixA n k ag x i=>(J x).ok=true/\(J i).ok=true/\(ag=false->k=1)/\match(J x).d,(J i).d with
  | .agg cs,.int _ c=>0<=c/\c<n/\cs.length=n*k
  |_,_=>False
 | .ext x i=>(J x).ok=true/\match(J x).d with| .tup ds=>i<ds.length|_=>False
 | .len x=>(J x).ok=true/\match(J x).d with| .sl _ _=>True| .own .. =>True| .aL=>True|_=>False
 | .lenS x=>(J x).ok=true/\match(J x).d with| .str _=>True|_=>False
 | .app k x y=>(J x).ok=true/\(J y).ok=true/\Cd m k (J y).d/\match(J x).d with
  | .own l k' i n=>k'=k/\ed m l k (i+n)/\n+(qw m (J y).d).length<=1073741824
  | .aL=>(qw m (J y).d).length<=1073741824
  |_=>False
 | .call f args sh=>BJ J args/\ji m sh (iR J args)/\Y.pre f (iH m sh (iR J args))/\qB (iR J args) (Y.val f (iH m sh (iR J args)))=true
 | .callv f args sh=>(J f).ok=true/\BJ J args/\match(J f).d with
  | .fn n caps=>n<1000000/\ji m sh (iR J args++caps)/\Y.pre n (iH m sh (iR J args++caps))/\qB (iR J args++caps) (Y.val n (iH m sh (iR J args++caps)))=true
  |_=>False
 | .callM _ args=>BJ J args
 | .callvM _ args=>BJ J args
 | .ldW n _ p=>(J p).ok=true/\match(J p).d with
  | .ptr l k i o=>(ed m l k (i+1)/\o+n<=k)/\4<k
  | .ref k es i o=>i<es.length/\o+n<=k
  |_=>False
 | .ldU n _ p=>(J p).ok=true/\match(J p).d with
  | .ptr l k i o=>(ed m l k (i+1)/\o+n<=k)/\aM (aI m l)=false
  | .ref k es i o=>i<es.length/\o+n<=k
  |_=>False
 | .ldI n _ p=>(J p).ok=true/\match(J p).d with
  | .ref k es i o=>i<es.length/\o+n<=k
  | .fn q es=>q=3000000/\n=1/\es.length=1/\(es.getD 0 .any).cells=[es.getD 0 .any]
  |_=>False
 | .appN k y=>(J y).ok=true/\Cd m k (J y).d/\(qw m (J y).d).length<=1073741824
 | .bslI k z n ps=>z.cells.length=k/\qG J k n ps/\aM (mh J (List.replicate n z) ps)=true
 | .callF f r args sh=>(J r).ok=true/\BJ J args/\aM (iR J args)=true/\match(J r).d with
  | .ptr l k i o=>i=0/\o=0/\ed m l k 1/\(aI m l).length=1/\((aI m l).getD 0 .any).aT=true/\Y.fp f ((aI m l).getD 0 .any) (iH [] sh (iR J args))
  |_=>False
 | .rng x=>(J x).ok=true/\match(J x).d with| .str _=>True|_=>False
 | .mkB=>True
 | .mkM=>True
 | .upM x k v=>(J x).ok=true/\(J k).ok=true/\(J v).ok=true/\mpO m (J x).d/\vQ (J k).d=true/\∃q n,(J v).d=.int q n
 | .lkM _ x k=>(J x).ok=true/\(J k).ok=true/\mpO m (J x).d/\vQ (J k).d=true
 | .isNl .. =>True
 | .aS x=>(J x).ok=true/\match(J x).d with
  | .it l=>match look m l with
   |some (.iter _ _)=>True
   |_=>False
  |_=>False
@[go_sem] def Src.FA:Src->Bool
 | .s _=>true
 |_=>false
@[go_sem] def ax.KB (draw:Bool)(J:Src->ba):ax->Prop
 | .len x=>bif draw&& !x.FA then True else(J x).ok=true->match(J x).d with
  | .sl _ es=>es.length<=9223372036854775807
  | .own _ _ _ n=>n<=9223372036854775807
  |_=>True
 | .lenS x=>bif draw&& !x.FA then True else(J x).ok=true->match(J x).d with
  | .str s=>s.length<=9223372036854775807
  |_=>True
 |_=>True
@[go_sem] def ax.bU (Y:Ctx)(J:Src->ba)(m:List (Nat×bn))(L:Nat):ax->List (Nat×bn)
 | .box k x=>cX m L (.buf k [(J x).d])
 | .bsl k z n ps=>cX m L (.buf k (mh J (List.replicate n z) ps))
 | .mks k z ln _=>cX m L (.buf k (List.replicate (J ln).d.nat z))
 | .s2b x=>match(J x).d with
  | .str s=>cX m L (.buf 1 (s.map λb=>.int .u8 b.toNat))
  |_=>m
 | .st n p v=>match(J p).d with
  | .ptr l k i o=>cX m l (.buf k ((aI m l).set i (pA ((aI m l).getD i .any) k n o (J v).d)))
  |_=>m
 | .stU n p v _=>match(J p).d with
  | .ptr l k i o=>cX m l (.buf k ((aI m l).set i (pA ((aI m l).getD i .any) k n o (J v).d)))
  |_=>m
 | .app k x y=>match(J x).d with
  | .own l k' i n=>cX (cT m l) L (.buf k ((((aI m l).drop i).take n)++qw m (J y).d))
  |_=>cX m L (.buf k (qw m (J y).d))
 | .appN k y=>cX m L (.buf k (qw m (J y).d))
 | .callF f r args sh=>match(J r).d with
  | .ptr l k _ _=>cX m l (.buf k [Y.fs f ((aI m l).getD 0 .any) (iH [] sh (iR J args))])
  |_=>m
 | .rng x=>match(J x).d with
  | .str s=>cX m L (.iter s 0)
  |_=>m
 | .mkB=>cX m L (.bld none 0 false)
 | .mkM=>cX m L (.mpb [])
 | .upM x k v=>match(J x).d with
  | .fn _ [.it l]=>cX m l (.mpb (Ah (J k).d (J v).d (T4 m (J x).d)))
  |_=>m
 | .aS x=>match(J x).d with
  | .it l=>match look m l with
   |some (.iter s pos)=>bif decide (pos<s.length)then cX m l (.iter s (pos+(yO s pos).2))else m
   |_=>m
  |_=>m
 |_=>m
@[go_sem] def ax.nr (J:Src->ba):ax->Option (List Nat)
 | .ld _ _ p=>some (ct (J p).d)
 | .ldU _ _ p=>some (ct (J p).d)
 | .ldW _ _ p=>some (ct (J p).d)
 | .st _ p _=>some (ct (J p).d)
 | .stU _ p _ _=>some (ct (J p).d)
 | .b2s x=>some (ct (J x).d)
 | .app _ x y=>some (ct (J x).d++ct (J y).d)
 | .aS x=>some (ct (J x).d)
 | .call _ args _=>bif aM (iR J args)then some []else none
 | .callv f args _=>match(J f).d with
  | .fn _ caps=>bif aM (iR J args++caps)then some []else none
  |_=>none
 | .callM _ _=>none
 | .callvM _ _=>none
 | .isNl .. =>none
 | .callF _ r _ _=>some (ct (J r).d)
 | .upM x _ _=>some (CX (J x).d)
 | .lkM _ x _=>some (CX (J x).d)
 | .appN _ y=>some (ct (J y).d)
 |_=>some []
@[go_sem] def ax.wr (J:Src->ba)(L:Nat):ax->List Nat
 | .box .. =>[L]
 | .bsl .. =>[L]
 | .mks .. =>[L]
 | .s2b _=>[L]
 | .rng _=>[L]
 | .mkB=>[L]
 | .mkM=>[L]
 | .upM x _ _=>CX (J x).d
 | .st _ p _=>ct (J p).d
 | .stU _ p _ _=>ct (J p).d
 | .app _ x _=>L::ct (J x).d
 | .aS x=>ct (J x).d
 | .callF _ r _ _=>ct (J r).d
 | .appN .. =>[L]
 |_=>[]
@[go_sem] def ax.calm:ax->Bool
 | .st .. =>false
 | .stU .. =>false
 | .app .. =>false
 | .aS .. =>false
 | .callM .. =>false
 | .callvM .. =>false
 | .isNl .. =>false
 | .callF .. =>false
 | .upM .. =>false
 |_=>true
@[go_sem] def flag:Option (Nat×Bool)->Bool
 |none=>true
 |some (j,w)=>(vs.getD j .un).ok&&match(vs.getD j .un).d with
  | .bool b=>b==w
  |_=>false
@[go_sem] def Ve (i:ax):Option (Nat×Bool)->Prop
 |none=>True
 |some (j,_)=>i.calm=true/\((vs.getD j .un).ok=true->(vs.getD j .un).d.isBool=true)
@[go_sem] def ax.lC (draw:Bool)(g:Option (Nat×Bool))(i:ax):Bool:=!draw&&(!i.calm&&g.isSome)
@[go_sem] def yV:Option (Nat×Bool)->Prop
 |none=>True
 |some (j,_)=>(vs.getD j .un).ok=true->(vs.getD j .un).d.isBool=true
@[go_sem] def nlB (d:D)(b:Bool):Prop:=match d with
 | .aL=>b=true
 | .sl _ es=>b=true->es=[]
 | .own _ _ _ n=>b=true->n=0
 |_=>True
@[go_sem] def slB:D->Prop
 | .aL=>True
 | .sl .. =>True
 | .own .. =>True
 |_=>False
@[go_sem] def N7:Nat:=if n<1000000 then n else n-1000000
@[go_sem] def N6 (aE8 caps:List D):List D:=if n<1000000 then aE8++caps else caps++aE8
def eW (Y:Ctx)(draw:Bool):List GI->(env vs:List ba)->St->(List ba->St->Prop)->Prop
 |[],_,vs,st,K=>K vs {st with nx:=st.nx+vs.length}
 |⟨.callM f args,g⟩::r,env,vs,st,K=>
  yV vs g/\(flag vs g=true->BJ (Src.ev env vs) args/\
   Y.tr f (iR (Src.ev env vs) args) {st with nx:=st.nx+vs.length} λd st'=>st.nx+vs.length<=st'.nx/\eW Y draw r env (vs++[⟨true,d⟩]) {st' with nx:=st'.nx-vs.length} K)/\
   (flag vs g=false->eW Y draw r env (vs++[⟨false,.any⟩]) st K)
 |⟨.callvM f args,g⟩::r,env,vs,st,K=>
  yV vs g/\(flag vs g=true->(Src.ev env vs f).ok=true/\BJ (Src.ev env vs) args/\match(Src.ev env vs f).d with
   | .fn n caps=>n<2000000/\Y.tr (N7 n) (N6 n (iR (Src.ev env vs) args) caps) {st with nx:=st.nx+vs.length} λd st'=>st.nx+vs.length<=st'.nx/\eW Y draw r env (vs++[⟨true,d⟩]) {st' with nx:=st'.nx-vs.length} K
   |_=>False)/\
   (flag vs g=false->eW Y draw r env (vs++[⟨false,.any⟩]) st K)
 |⟨.isNl x ng,g⟩::r,env,vs,st,K=>
  yV vs g/\(flag vs g=true->(Src.ev env vs x).ok=true/\slB (Src.ev env vs x).d/\∀b,nlB (Src.ev env vs x).d b->eW Y draw r env (vs++[⟨true,.bool (bif ng then !b else b)⟩]) st K)/\
   (flag vs g=false->eW Y draw r env (vs++[⟨false,.any⟩]) st K)
 |⟨i,g⟩::r,env,vs,st,K=>
  if i.lC draw g=true then
   yV vs g/\(flag vs g=true->i.eG Y (Src.ev env vs) st.m/\
     eW Y draw r env (vs++[⟨true,i.val Y (Src.ev env vs) st.m (st.nx+vs.length)⟩]) {st with m:=i.bU Y (Src.ev env vs) st.m (st.nx+vs.length)} K)/\
    (flag vs g=false->eW Y draw r env (vs++[⟨false,.any⟩]) st K)
  else
  Ve vs i g/\(flag vs g=true->i.eG Y (Src.ev env vs) st.m)/\
   ((flag vs g=true->i.KB draw (Src.ev env vs))->∃d,(flag vs g=true->i.val Y (Src.ev env vs) st.m (st.nx+vs.length)=d)/\
     eW Y draw r env (vs++[⟨flag vs g,d⟩]) {st with m:=i.bU Y (Src.ev env vs) st.m (st.nx+vs.length)} K)
mutual
@[go_sem] def iz (l k:Nat)(es:List D):D->D
 | .own l' k' i n=>if l'=l/\k'=k/\i+n<=es.length then .sl k ((es.drop i).take n)else .own l' k' i n
 | .ptr l' k' i o=>if l'=l/\k'=k then .ref k es i o else .ptr l' k' i o
 | .agg cs=>.agg (lu l k es cs)
 | .tup cs=>.tup (lu l k es cs)
 | .fn f cs=>.fn f (lu l k es cs)
 | .any=>.any
 | .bool b=>.bool b
 | .int k n=>.int k n
 | .str s=>.str s
 | .aL=>.aL
 | .sl k es=>.sl k es
 | .ref k es i o=>.ref k es i o
 | .nilp=>.nilp
 | .nilf=>.nilf
 | .it l=>.it l
@[go_sem] def lu (l k:Nat)(es:List D):List D->List D
 |[]=>[]
 |d::r=>iz l k es d::lu l k es r
end
@[go_sem] def Aa (l k:Nat)(es:List D):bn->bn
 | .buf k' es'=>.buf k' (lu l k es es')
 |b=>b
@[go_sem] def wF (l k:Nat)(es:List D):List (Nat×bn)->List (Nat×bn)
 |[]=>[]
 |(a,b)::r=>(a,Aa l k es b)::wF l k es r
@[go_sem] def uJ (l k:Nat)(es:List D):List ba->List ba
 |[]=>[]
 |⟨ok,d⟩::r=>⟨ok,iz l k es d⟩::uJ l k es r
@[go_sem] def Vd (l:Nat)(s:List ba×List (Nat×bn)):List ba×List (Nat×bn):=match look s.2 l with
 |some (.buf k es)=>bif aM es then(uJ l k es s.1,wF l k es (cT s.2 l))else s
 |_=>s
@[go_sem] def frzs:List Nat->List ba×List (Nat×bn)->List ba×List (Nat×bn)
 |[],s=>s
 |l::r,s=>frzs r (Vd l s)
inductive Ex where
 |normal|exit (id:Nat)|ret
@[go_sem] def iF (env vs:List ba):List (Nat×Nat)->List ba
 |[]=>env
 |(s,p)::r=>iF (env.set s (vs.getD p .un)) vs r
@[go_sem] def mN (lo:Nat)(σ:List (Nat×Nat))(l:Nat):Option Nat:=match σ with
 |[]=>bif Nat.blt l lo then some l else none
 |(a,b)::r=>bif Nat.beq a l then some b else mN lo r l
@[go_sem] def Si (σ:List (Nat×Nat))(l:Nat)(f:Nat->D):Option D:=match mN lo σ l with
 |some l'=>some (f l')
 |none=>none
mutual
@[go_sem] def rW (lo:Nat)(σ:List (Nat×Nat)):D->Option D
 | .own l k i n=>Si lo σ l λl=>.own l k i n
 | .ptr l k i o=>Si lo σ l λl=>.ptr l k i o
 | .it l=>Si lo σ l λl=>.it l
 | .agg cs=>match oB lo σ cs with
  |some cs=>some (.agg cs)
  |none=>none
 | .tup cs=>match oB lo σ cs with
  |some cs=>some (.tup cs)
  |none=>none
 | .fn f cs=>match oB lo σ cs with
  |some cs=>some (.fn f cs)
  |none=>none
 | .any=>some .any
 | .bool b=>some (.bool b)
 | .int k n=>some (.int k n)
 | .str s=>some (.str s)
 | .aL=>some .aL
 | .sl k es=>some (.sl k es)
 | .ref k es i o=>some (.ref k es i o)
 | .nilp=>some .nilp
 | .nilf=>some .nilf
@[go_sem] def oB (lo:Nat)(σ:List (Nat×Nat)):List D->Option (List D)
 |[]=>some []
 |d::r=>match rW lo σ d,oB lo σ r with
  |some d,some r=>some (d::r)
  |_,_=>none
end
mutual
def wD:D->D->Prop
 | .aL,d'=>d'=.aL\/∃l k i,d'=.own l k i 0
 | .agg a,d'=>∃b,d'=.agg b/\NW a b
 |d,d'=>d'=d/\d.aT=true
def NW:List D->List D->Prop
 |[],b=>b=[]
 |d::r,b=>∃d' r',b=d'::r'/\wD d d'/\NW r r'
end
def RnD (σ:List (Nat×Nat))(d d':D):Prop:=d'=d/\d.aT=true\/rW lo σ d=some d'\/wD d d'
def qv (σ:List (Nat×Nat)):bn->bn->Prop
 | .buf k es,.buf k' es'=>k'=k/\(es'=es/\aM es=true\/oB lo σ es=some es'\/NW es es')
 | .iter s p,.iter s' p'=>s'=s/\p'=p
 | .row s,.row s'=>s'=s
 | .mpb s,.mpb s'=>s'=s
 | .bld o n u,.bld o' n' u'=>(match o with
  |none=>o'=none
  |some l=>∃l',mN lo σ l=some l'/\o'=some l')/\n'=n/\u'=u
 |_,_=>False
def fH (lo:Nat)(σ:List (Nat×Nat)):List ba->List ba->Prop
 |[],[]=>True
 |a::r,b::s=>(b.ok=a.ok/\RnD lo σ a.d b.d\/b=.un)/\fH lo σ r s
 |_,_=>False
def bp (lo c:Nat)(σ:List (Nat×Nat))(m:List (Nat×bn)):List (Nat×bn)->Prop
 |[]=>True
 |(l',b')::r=>((∃l b,mN lo σ l=some l'/\look m l=some b/\qv lo σ b b')\/(Nat.ble lo l'=true/\Nat.blt l' c=true/\σ.all (λp=>!Nat.beq p.2 l')=true/\∃k,b'=.buf k []))/\bp lo c σ m r
def gU (lo c:Nat):List (Nat×Nat)->Bool
 |[]=>Nat.ble lo c
 |(a,b)::r=>(Nat.ble lo b&&(Nat.blt b c&&(r.all (λp=>!Nat.beq p.1 a&& !Nat.beq p.2 b)&&gU lo c r)))
@[go_sem] def leE:List ba->List ba->Prop
 |[],[]=>True
 |a::r,b::s=>(b=a\/b=.un)/\leE r s
 |_,_=>False
@[go_sem] def Z1 (m:List (Nat×bn)):List (Nat×bn)->Prop
 |[]=>True
 |(l,b)::r=>look m l=some b/\Z1 m r
inductive EH:D->D->Prop
 |refl (d:D):EH d d
 |nil (k:Nat):EH .aL (.sl k [])
 |agg (a b:List D) (hl:b.length=a.length) (h:∀i,EH (a.getD i .any) (b.getD i .any)):EH (.agg a) (.agg b)
 |sl (k:Nat) (a b:List D) (hl:b.length=a.length) (h:∀i,EH (a.getD i .any) (b.getD i .any)):EH (.sl k a) (.sl k b)
def QH (a b:List D):Prop:=b.length=a.length/\∀i,EH (a.getD i .any) (b.getD i .any)
def WkB:bn->bn->Prop
 | .buf k es,.buf k' es'=>k'=k/\QH es es'
 |b,b'=>b'=b
def WkE:List ba->List ba->Prop
 |[],[]=>True
 |a::r,b::s=>(b.ok=a.ok/\EH a.d b.d)/\WkE r s
 |_,_=>False
def QI (m:List (Nat×bn)):List (Nat×bn)->Prop
 |[]=>True
 |(l,b')::r=>(∃b,look m l=some b/\WkB b b')/\QI m r
inductive aY (lo:Nat):List ba->St->List ba->St->Prop
 |refl (env:List ba) (st:St):aY lo env st env st
 |Vd (l:Nat) (env:List ba) (st:St):aY lo env st (Vd l (env,st.m)).1 ⟨st.nx,(Vd l (env,st.m)).2⟩
 |ren (σ:List (Nat×Nat)) (c:Nat) (env env':List ba) (nx:Nat) (m m':List (Nat×bn)) (h:gU lo c σ=true) (he:fH lo σ env env') (hm:bp lo c σ m m'):aY lo env ⟨nx,m⟩ env' ⟨c,m'⟩
 |wk (env env':List ba) (nx:Nat) (m m':List (Nat×bn)) (he:leE env env') (hm:Z1 m m'):aY lo env ⟨nx,m⟩ env' ⟨nx,m'⟩
 |nz (env env':List ba) (nx:Nat) (m m':List (Nat×bn)) (he:WkE env env') (hm:QI m m'):aY lo env ⟨nx,m⟩ env' ⟨nx,m'⟩
 |trans (env1 env2 env3:List ba) (st1 st2 st3:St) (h:aY lo env1 st1 env2 st2) (h':aY lo env2 st2 env3 st3):aY lo env1 st1 env3 st3
def Gh (p:List ba->St->Prop)(env:List ba)(st:St):=∃env' st',aY lo env st env' st'/\p env' st'
def dx (Y:Ctx):AC->(Ex->List ba->St->Prop)->List ba->St->Prop
 | .reg draw ins cm,Q=>Gh Y.lo λenv st=>eW Y draw ins env [] st λvs st'=>Q .normal (iF env vs cm) st'
 | .seq a b,Q=>Gh Y.lo (dx Y a (λe env st=>match e with
   | .normal=>dx Y b Q env st
   |e=>Q e env st))
 | .cond c a b,Q=>Gh Y.lo λenv st=>(c.ev env []).ok=true/\match(c.ev env []).d with
  | .bool t=>(t=true->dx Y a Q env st)/\(t=false->dx Y b Q env st)
  |_=>False
 | .block id a,Q=>Gh Y.lo (dx Y a (λe env st=>match e with
   | .exit j=>if j=id then Q .normal env st else Q (.exit j) env st
   |e=>Q e env st))
 | .loop a,Q=>Gh Y.lo λenv st=>∃(I:List ba->St->Prop) (μ:List ba->St->Nat),
   I env st/\∀env st,I env st->
   dx Y a (λe env' st'=>match e with
    | .normal=>∃env2 st2,aY Y.lo env' st' env2 st2/\I env2 st2/\μ env2 st2<μ env st
    |e=>Q e env' st') env st
 | .exit id,Q=>Gh Y.lo (Q (.exit id))
 | .ret,Q=>Gh Y.lo (Q .ret)
 | .skip,Q=>Gh Y.lo (Q .normal)
def Ctx.at (Y:Ctx)(n:Nat):Ctx:={Y with lo:=n}
@[go_sem] def Ig (m:List (Nat×bn))(env:List ba)(r:GG):D:=match r.mem with
 |none=>(env.getD r.s .un).d
 |some (n,ag)=>LH m n ag (env.getD r.s .un).d
@[go_sem] def oA (m:List (Nat×bn))(env:List ba):List GG->Prop
 |[]=>True
 |r::rs=>(env.getD r.s .un).ok=true/\(match r.mem with
   |none=>True
   |some (n,_)=>LG m n (env.getD r.s .un).d)/\oA m env rs
@[go_sem] def qY (m:List (Nat×bn))(env:List ba):List GG->List D
 |[]=>[]
 |r::rs=>Ig m env r::qY m env rs
@[go_sem] def kg (env:List ba)(st:St):D:=match a.res with
 |[r]=>Ig st.m env r
 |rs=>.tup (qY st.m env rs)
@[go_sem] def ZG (env:List ba)(st:St):D:=match a.res with
 |[r]=>je st.m (a.rsh.getD 0 []) (Ig st.m env r)
 |rs=>.tup (iH st.m a.rsh (qY st.m env rs))
@[go_sem] def MX (env:List ba)(st:St):Prop:=match a.res with
 |[r]=>gO st.m (a.rsh.getD 0 []) (Ig st.m env r)
 |rs=>ji st.m a.rsh (qY st.m env rs)
@[go_sem] def Ex.home:Ex->Prop
 | .exit _=>False
 |_=>True
@[go_sem] def fU (ds:List D):List ba:=(ds.map λd=>⟨true,d⟩)++List.replicate (a.ns-a.np) .un
def trOf (Y:Ctx)(a:aj)(ds:List D)(st:St)(K:D->St->Prop):Prop:=
 ds.length=a.np/\dx (Y.at st.nx) a.body (λe env st=>e.home/\oA st.m env a.res/\K (kg a env st) st) (fU a ds) st
mutual
def fX:Value->Option D
 | .bool b=>some (.bool b)
 | .int k n=>some (.int k n)
 | .string s=>if s.size<=9223372036854775807 then some (.str s.data.toList)else none
 | .pointer none=>some .nilp
 | .slice none 0 0=>some .aL
 | .nilFunc=>some .nilf
 | .map none=>some (.fn 5100000 [])
 | .agg ⟨cs⟩=>if wW cs then(tk cs).map .agg else none
 |_=>none
def tk:List Value->Option (List D)
 |[]=>some []
 |v::r=>match fX v,tk r with
  |some d,some ds=>some (d::ds)
  |_,_=>none
def wW:List Value->Bool
 |[]=>true
 |v::r=>(match v with
  | .agg _=>false
  | .tuple _=>false
  |_=>true)&&wW r
end
def Ij (P:Program):Nat->TypeId->List Sh
 |0,_=>[.a]
 |d+1,t=>match P.underlying t with
  |some (.struct fs)=>(fs.toList.map λf=>Ij P d f.type).flatten
  |some (.array n e)=>(List.replicate n (Ij P d e)).flatten
  |some (.slice e)=>[.sl (P.cellsOf e) (Ij P d e)]
  |some (.pointer e)=>[.pt (Ij P d e)]
  |_=>[.a]
def ajf:List Sh->List Sh
 |[.sl _ cs]=>[.kp cs]
 |l=>l
def keepN (fn:Func):Nat:=100000000+fn.endLine*10000+fn.ntmps
structure CC where
 P:Program
 ν:List (Nat×Nat)
 bU:List Nat
 slots:List Nat
 ntmps:Nat
 vm:Bool
def dP:List (Nat×Nat)->Nat->Option Nat
 |[],_=>none
 |(a,b)::r,l=>if a=l then some b else dP r l
def A4:List Nat->Nat->Option Nat
 |[],_=>none
 |a::r,t=>if a=t then some 0 else(A4 r t).map (· +1)
def posOf (t:Nat):List (Option Nat)->Option Nat
 |[]=>none
 |a::r=>if a=some t then some 0 else(posOf t r).map (· +1)
def CC.src (C:CC)(defs:List (Option Nat)):Operand->Option Src
 | .tmp t=>match posOf t defs with
  |some p=>some (.l p)
  |none=>(A4 C.slots t).map .s
 | .const v=>(fX v).map .c
 | .func f=>(dP C.ν f).map λn=>.c (.fn n [])
 | .global _=>none
def CC.wu (C:CC)(defs:List (Option Nat)):List Operand->Option (List Src)
 |[]=>some []
 |x::r=>match C.src defs x,C.wu defs r with
  |some a,some l=>some (a::l)
  |_,_=>none
def CC.opt (C:CC)(defs:List (Option Nat)):Option Operand->Option (Option Src)
 |none=>some none
 |some x=>(C.src defs x).map some
def ch (t:TypeId):Bool:=match P.underlying t with
 |some (.struct _)=>true
 |some (.array ..)=>true
 |_=>false
def mw (P:Program)(k:TypeId->Option (List CK)):Nat->List Field->Option (List CK)
 |_,[]=>some []
 |off,f::r=>if f.name= "_" \/f.offset≠off then none else
  match k f.type,mw P k (off+P.cellsOf f.type) r with
  |some a,some b=>if a.length=P.cellsOf f.type/\a.length≠0/\(P.underlying f.type).isNone=false then some (a++b)else none
  |_,_=>none
def ie (P:Program):Nat->TypeId->Option (List CK)
 |0,_=>none
 |d+1,t=>match P.underlying t with
  |some .bool=>some [.b]
  |some (.int k)=>some [.i k]
  |some .string=>some [.s]
  |some (.struct fs)=>if P.stoodInHeld t then none else mw P (λt=>ie P d t) 0 fs.toList
  |some (.array n e)=>match ie P d e with
   |some l=>if l.length=P.cellsOf e/\l.length≠0/\(P.underlying e).isNone=false then some (List.replicate n l).flatten else none
   |none=>none
  |_=>none
def CC.parts (C:CC)(defs:List (Option Nat))(place:Nat->Option (Nat×Nat)):List (Nat×Operand)->Option (List (Nat×Nat×Src))
 |[]=>some []
 |(i,x)::r=>match place i,C.src defs x,C.parts defs place r with
  |some (o,n),some s,some l=>if n=0 then none else some ((o,n,s)::l)
  |_,_,_=>none
def CC.zd (C:CC)(defs:List (Option Nat)):List (Nat×Operand)->Option (List (Nat×Src))
 |[]=>some []
 |(i,x)::r=>match C.src defs x,C.zd defs r with
  |some s,some l=>some ((i,s)::l)
  |_,_=>none
def tc (t:TypeId):Option D:=((P.info? t).bind (·.zero)).bind fX
def zVD:D:=.agg [.int .i64 0,.int .i64 0,.int .i64 0,.str [],.str []]
def CC.W9 (C:CC)(t:TypeId):Operand->Option D
 | .global g=>if(C.bU.contains (500000000+g)=true/\g<400000000)/\C.P.cellsOf t=5/\ch C.P t=true/\(C.P.underlying t).isNone=false then some zVD else none
 |_=>none
def qn (t:TypeId):Bool:=match tc P t with
 |some z=>z.cells.length==P.cellsOf t
 |none=>false
def OD (k:TypeId):Bool:=match P.underlying k with
 |some (.array 2 e)=>(match P.underlying e with
  |some .string=>P.cellsOf e==1&&(P.cellsOf k==2&& !(P.types.size==0))
  |_=>false)
 |_=>false
def CC.op (C:CC)(defs:List (Option Nat))(o:Oper):Option ax:=
 match o.op with
 | .move x=>(C.src defs x).map .mv
 | .assign x=>(C.src defs x).map .mv
 | .pick c a b=>match C.src defs c,C.src defs a,C.src defs b with
  |some c,some a,some b=>some (.pick c a b)
  |_,_,_=>none
 | .alloc t=>match tc C.P t with
  |some z=>if C.P.cellsOf t=0 then none else if C.bU.contains (1000000000+t)then(match z with
   | .agg [.nilp,.aL]=>some .mkB
   |_=>none)else some (.box (C.P.cellsOf t) (.c z))
  |none=>none
 | .box t x=>match C.src defs x with
  |some s=>if C.P.cellsOf t=0 then none else some (.box (C.P.cellsOf t) s)
  |none=>none
 | .build t ps=>match tc C.P t,C.P.underlying t with
  |some (.agg z),some (.struct fs)=>if fs.toList.all (λf=>(C.P.info? f.type).isSome)then(C.parts defs (λi=>(fs[i]?).map λf=>(f.offset,C.P.cellsOf f.type)) ps.toList).map (.build z)else none
  |some (.agg z),some (.array _ e)=>if C.P.cellsOf e=0 then none else(C.parts defs (λi=>some (i*C.P.cellsOf e,C.P.cellsOf e)) ps.toList).map (.build z)
  |_,_=>none
 | .buildSlice t n ps=>match C.P.underlying t with
  |some (.slice e)=>match tc C.P e,C.zd defs ps.toList with
   |some z,some l=>if C.P.cellsOf e=0\/n*C.P.cellsOf e>16777216 then none else some (.bsl (C.P.cellsOf e) z n l)
   |_,_=>none
  |_=>none
 | .load t a=>match C.W9 t a with
  |some d=>some (.mv (.c d))
  |none=>match C.src defs a with
  |some s=>if C.P.cellsOf t=0\/(C.P.underlying t).isNone\/(ch C.P t=false/\C.P.cellsOf t≠1)then none else some (.ld (C.P.cellsOf t) (ch C.P t) s)
  |none=>none
 | .store t a x=>match C.src defs a,C.src defs x with
  |some a,some x=>if C.P.cellsOf t=0 then none else some (.st (C.P.cellsOf t) a x)
  |_,_=>none
 | .nilCheck x=>(C.src defs x).map .nilck
 | .binOp op t x y _=>match C.src defs x,C.src defs y with
  |some a,some b=>match C.P.underlying t with
   |some (.int _)=>some (.bin op a b)
   |some .string=>some (.bin op a b)
   |_=>if C.P.eqGuardType C.P.depth t then none else match ie C.P 30 t,op with
    |some ks,.eql=>some (.eqA false (ch C.P t) ks a b)
    |some ks,.neq=>some (.eqA true (ch C.P t) ks a b)
    |none,.eql=>match C.P.underlying t,b with
     |some (.slice _),.c .aL=>some (.isNl a false)
     |_,_=>none
    |none,.neq=>match C.P.underlying t,b with
     |some (.slice _),.c .aL=>some (.isNl a true)
     |_,_=>none
    |_,_=>none
  |_,_=>none
 | .unOp op _ x=>(C.src defs x).map (.un op)
 | .convert s d x=>match C.P.underlying s,C.P.underlying d,C.src defs x with
  |some (.int _),some (.int k),some a=>some (.cvi k a)
  |some .string,some (.slice e),some a=>match C.P.underlying e with
   |some (.int .u8)=>some (.s2b a)
   |_=>none
  |some (.slice e),some .string,some a=>match C.P.underlying e with
   |some (.int .u8)=>some (.b2s a)
   |_=>none
  |_,_,_=>none
 | .makeFunc (.func f) first caps=>match dP C.ν f,C.wu defs caps.toList with
  |some n,some l=>if first.isEmpty then some (.mkf n l)else if l.isEmpty then(C.wu defs first.toList).map (.mkf (n+1000000))else none
  |_,_=>none
 | .makeSlice t l c=>match C.P.underlying t with
  |some (.slice e)=>match tc C.P e,C.src defs l,C.src defs c with
   |some z,some l,some c=>if C.P.cellsOf e=0\/C.P.bytesOf e>65536 then none else some (.mks (C.P.cellsOf e) z l c)
   |_,_,_=>none
  |_=>none
 | .slice t x lo hi mx=>match C.P.underlying t,C.src defs x,C.opt defs lo,C.opt defs hi,mx with
  |some .string,some a,some l,some h,none=>some (.slS a l h)
  |some (.slice e),some a,some l,some h,none=>if C.P.cellsOf e=0 then none else some (.slA (C.P.cellsOf e) a l h)
  |some (.slice e),some a,some none,some (some h),some m=>match C.src defs m with
   |some m=>if C.P.cellsOf e=0 then none else some (.slX (C.P.cellsOf e) a h m)
   |none=>none
  |_,_,_,_,_=>none
 | .fieldAddr t x f=>match C.P.underlying t,C.src defs x with
  |some (.struct fs),some a=>match fs[f]? with
   |some f=>if C.P.cellsOf f.type=0 then none else some (.fa f.offset a)
   |none=>none
  |_,_=>none
 | .field t x f=>match C.P.underlying t,C.src defs x with
  |some (.struct fs),some a=>match fs[f]? with
   |some f=>if C.P.cellsOf f.type=0\/(C.P.underlying f.type).isNone then none else some (.fld f.offset (C.P.cellsOf f.type) (ch C.P f.type) a)
   |none=>none
  |_,_=>none
 | .indexAddr t x i=>match C.P.underlying t,C.src defs x,C.src defs i with
  |some (.slice e),some a,some b=>if C.P.cellsOf e=0 then none else some (.ia (C.P.cellsOf e) a b)
  |some (.array n e),some a,some b=>if C.P.cellsOf e=0 then none else some (.iaP n (C.P.cellsOf e) a b)
  |_,_,_=>none
 | .index t x i=>match C.P.underlying t,C.src defs x,C.src defs i with
  |some .string,some a,some b=>some (.ixS a b)
  |some (.array n e),some a,some b=>if C.P.cellsOf e=0\/(C.P.underlying e).isNone then none else some (.ixA n (C.P.cellsOf e) (ch C.P e) a b)
  |_,_,_=>none
 | .lookup t x y true=>match C.src defs x,C.src defs y,C.P.underlying t with
  |some a,some b,some (.map k e)=>match tc C.P e with
   |some z=>if OD C.P k=true then some (.lkM z a b)else none
   |none=>none
  |_,_,_=>none
 | .makeMap t none=>match C.P.underlying t with
  |some (.map k _)=>if OD C.P k=true then some .mkM else none
  |_=>none
 | .mapUpdate t x y v=>match C.src defs x,C.src defs y,C.src defs v with
  |some a,some b,some c=>match C.P.underlying t with
   |some (.map k _)=>if OD C.P k=true then some (.upM a b c)else none
   |_=>none
  |_,_,_=>none
 | .range t x=>match C.P.underlying t,C.src defs x with
  |some .string,some a=>some (.rng a)
  |_,_=>none
 | .next it true=>(C.src defs it).map .aS
 | .extract t i=>(C.src defs t).map λs=>.ext s i
 | .call c=>match c.callee with
  | .builtin .len=>match c.args.toList,c.argTypes.toList with
   |[x],[t]=>match C.src defs x,C.P.underlying t with
    |some a,some .string=>some (.lenS a)
    |some a,some (.slice _)=>some (.len a)
    |_,_=>none
   |_,_=>none
  | .builtin .min=>match c.args.toList with
   |[x,y]=>match C.src defs x,C.src defs y with
    |some a,some b=>some (.mn false a b)
    |_,_=>none
   |_=>none
  | .builtin .max=>match c.args.toList with
   |[x,y]=>match C.src defs x,C.src defs y with
    |some a,some b=>some (.mn true a b)
    |_,_=>none
   |_=>none
  | .builtin .append=>match c.args.toList,c.argTypes.toList with
   |[x,y],[t,u]=>match C.src defs x,C.src defs y,C.P.underlying t,C.P.underlying u with
    |some a,some b,some (.slice e),some (.slice _)=>if C.P.cellsOf e=0\/C.P.bytesOf e>65536\/C.P.bytesOf e=0\/qn C.P e=false then none else some (.app (C.P.cellsOf e) a b)
    |some a,some b,some (.slice e),some .string=>if C.P.cellsOf e=0\/C.P.bytesOf e>65536\/C.P.bytesOf e=0\/qn C.P e=false then none else some (.app (C.P.cellsOf e) a b)
    |_,_,_,_=>none
   |_,_=>none
  | .value (.func f)=>match dP C.ν f,C.wu defs c.args.toList with
   |some n,some l=>if C.bU.contains (2*n)then some (.callM n l)else if C.bU.contains (2*n+1)then(match l with
     |r::rest=>some (.callF n r rest ((c.argTypes.toList.map (Ij C.P 8)).drop 1))
     |[]=>none)else some (.call n l (c.argTypes.toList.map (Ij C.P 8)))
   |_,_=>none
  | .value (.tmp t)=>match C.src defs (.tmp t),C.wu defs c.args.toList with
   |some s,some l=>if C.vm then some (.callvM s l)else some (.callv s l (c.argTypes.toList.map (Ij C.P 8)))
   |_,_=>none
  |_=>none
 |_=>none
def CC.guard (defs:List (Option Nat)):Option (Nat×Bool)->Option (Option (Nat×Bool))
 |none=>some none
 |some (j,w)=>match defs[j]? with
  |some (some _)=>some (some (j,w))
  |_=>none
def CC.ops (C:CC):(defs:List (Option Nat))->List Oper->Option (List GI)
 |_,[]=>some []
 |defs,o::r=>match C.op defs o,CC.guard defs o.guard,C.ops (defs++[o.dst]) r with
  |some i,some g,some l=>if o.dst.all (λd=>d<C.ntmps&& !defs.contains (some d))then some (⟨i,g⟩::l)else none
  |_,_,_=>none
def CC.iG (C:CC):Nat->List Oper->List (Nat×Nat)
 |_,[]=>[]
 |p,o::r=>match o.dst.bind (A4 C.slots)with
  |some s=>(s,p)::C.iG (p+1) r
  |none=>C.iG (p+1) r
def ru (acc:List Nat):List Edge->Nat
 |[]=>0
 |e::r=>if Region.binds .any e then(2^e.on |||acc.getD e.on 0) |||ru acc r else ru acc r
def pJ:List Nat->List Oper->List Nat
 |acc,[]=>acc
 |acc,o::r=>pJ (acc++[ru acc o.after.toList]) r
def tmpsOf (ops:List Oper)(o:Oper):List Nat:=
 (o.op.operands.toList.filterMap fun
   | .tmp t=>some t
   |_=>none)++(match o.guard with
   |some (g,_)=>((ops[g]?).bind (·.dst)).toList
   |none=>[])
def Sd (ops:List Oper)(bs:List Nat):Bool:=
 (List.range ops.length).all λj=>(List.range ops.length).all λp=>match ops[j]?,ops[p]? with
   |some oj,some op=>match op.dst with
    |some t=>p==j ||!(tmpsOf ops oj).contains t ||(bs.getD (max j p) 0).testBit (min j p)
    |none=>true
   |_,_=>false
def ax.pure:ax->Bool
 | .mv _=>true
 | .pick .. =>true
 | .build .. =>true
 | .nilck _=>true
 | .bin .. =>true
 | .eqA .. =>true
 | .un .. =>true
 | .cvi .. =>true
 | .mn .. =>true
 | .mkf .. =>true
 | .slS .. =>true
 | .slA .. =>true
 | .slX .. =>true
 | .fa .. =>true
 | .fld .. =>true
 | .ia .. =>true
 | .iaP .. =>true
 | .ixS .. =>true
 | .ixA .. =>true
 | .ext .. =>true
 | .len _=>true
 | .lenS _=>true
 | .ldI .. =>true
 | .bslI .. =>true
 |_=>false
def Sh.isA:Sh->Bool
 | .a=>true
 |_=>false
def ax.free:ax->Bool
 | .call _ _ sh=>sh.all λs=>s.all Sh.isA
 |i=>i.pure
def ax.jV:ax->Bool
 | .box .. =>true
 | .bsl .. =>true
 | .mks .. =>true
 | .s2b .. =>true
 | .rng .. =>true
 | .mkB=>true
 | .mkM=>true
 |_=>false
def ax.isApp:ax->Bool
 | .app .. =>true
 |_=>false
def ax.nD:ax->Bool
 | .callF .. =>true
 |_=>false
def ax.nE:ax->Bool
 | .ldU .. =>true
 | .ldW .. =>true
 |_=>false
def ax.isUU:ax->Bool
 | .ldU .. =>true
 |_=>false
def Src.same:Src->Src->Bool
 | .s a,.s b=>Nat.beq a b
 | .l a,.l b=>Nat.beq a b
 |_,_=>false
def ax.narrow (p:Src):ax->Bool
 | .app k _ _=>Nat.ble k 4
 | .stU _ _ _ qs=>qs.any λq=>p.same q
 |_=>false
def ax.Rq:ax->Src
 | .ldW _ _ p=>p
 |_=>.c .any
def ax.isW:ax->Bool
 | .ldW .. =>true
 |_=>false
def exU (gj gi:ax)(j i:Nat):Bool:=gi.nE&&((gj.isApp&&decide (j<i)) ||(gi.isUU&&(gj.nD&&(decide (i<j)&&(List.range j).all λq=>decide (q<=i) ||match l[q]? with
 |some g=>g.i.calm ||g.i.nD
 |none=>true))) ||(gi.isW&&(gj.narrow gi.Rq&&(decide (i<j)&&(List.range j).all λq=>decide (q<=i) ||match l[q]? with
 |some g=>g.i.calm ||g.i.narrow gi.Rq
 |none=>true))))
def afa (bs:List Nat):Bool:=
 (List.range l.length).all λj=>(List.range l.length).all λi=>match l[j]?,l[i]? with
   |some gj,some gi=>gj.i.calm ||gi.i.free ||(gi.i.jV&&(!gj.i.isApp ||decide (j<i))) ||i==j ||(bs.getD (max j i) 0).testBit (min j i) ||exU l gj.i gi.i j i
   |_,_=>false
def ax.cS:ax->Bool
 | .callM .. =>true
 | .callvM .. =>true
 | .isNl .. =>true
 |_=>false
def By:Nat->List Oper->Bool
 |_,[]=>true
 |p,o::r=>o.after.toList.all (λe=>!Region.binds .any e ||decide (e.on<p))&&By (p+1) r
def sufG:GI->Bool
 |⟨.mv _,none⟩=>true
 |⟨.un ..,_⟩=>true
 |⟨.pick ..,none⟩=>true
 |⟨.ext ..,none⟩=>true
 |_=>false
def Su:List GI->Bool
 |⟨.callM ..,_⟩::r=>r.all sufG
 |⟨.callvM ..,_⟩::r=>r.all sufG
 |_=>false
def An (o:Oper):Option Operand:=match o.op,o.guard with
 | .move x,none=>some x
 | .assign x,none=>some x
 | .extract x _,none=>some x
 |_,_=>none
def O5 (x:Operand)(d:Option Nat):Bool:=match x,d with
 | .tmp t,some d=>t !=d
 |_,_=>true
def OA (o p:Oper):Bool:=match An o,An p with
 |some x,some y=>O5 x p.dst&&(O5 y o.dst&&(match o.dst,p.dst with
  |some a,some b=>a !=b
  |_,_=>true))
 |_,_=>false
def Rp (ops:List Oper)(l:List GI)(bs:List Nat):Bool:=
 let n:=l.findIdx λg=>g.i.cS
 Su (l.drop n)&&((l.take n).all (λg=>!g.i.cS)&&(List.range (l.length-n)).all λq=>(List.range (n+q)).all λp=>(bs.getD (n+q) 0).testBit p ||(match ops[n+q]?,ops[p]? with
  |some o,some o'=>OA o o'
  |_,_=>false))
def Cc (ops:List Oper)(l:List GI):Bool:=
 let bs:=pJ [] ops
 Sd ops bs&&(afa l bs&&(((l.all λg=>!g.i.cS) ||Rp ops l bs)&&By 0 ops))
def ax.toN:ax->ax
 | .app k (.c .aL) y=>.appN k y
 |i=>i
def looseAt (l:List GI)(i:Nat):Bool:=
 (List.range l.length).any λj=>match l[j]? with
   |some gj=>!(gj.i.toN.calm ||i==j ||(bs.getD (max j i) 0).testBit (min j i))
   |none=>false
def OM (l:List GI)(i:Nat):Bool:=
 (List.range l.length).all λj=>match l[j]? with
   |some gj=>gj.i.toN.calm ||i==j ||(bs.getD (max j i) 0).testBit (min j i) ||(gj.i.isApp&&decide (j<i)) ||(gj.i.nD&&(decide (i<j)&&(List.range j).all λq=>decide (q<=i) ||match l[q]? with
    |some g=>g.i.toN.calm ||g.i.nD
    |none=>true))
   |none=>true
def Src.isFa:Src->Bool
 | .l q=>match l[q]? with
  |some ⟨.fa _ (.s _),_⟩=>true
  |_=>false
 |_=>false
def ajs (l:List GI)(i:Nat):Bool:=
 (match l[i]? with
   |some ⟨.ld ..,_⟩=>true
   |_=>false)&&(looseAt bs l i&&(!OM bs l i&&(List.range l.length).all λj=>match l[j]? with
   |some gj=>gj.i.toN.calm ||i==j ||(bs.getD (max j i) 0).testBit (min j i) ||(match gj.i with
    | .st n _ _=>Nat.ble 5 n&&decide (i<j)
    |_=>false)
   |none=>true))
def ajr (l:List GI)(i:Nat):Bool:=
 (match l[i]? with
   |some ⟨.ld _ _ x,_⟩=>x.isFa l
   |_=>false)&&(looseAt bs l i&&(!OM bs l i&&(((List.range l.length).all λj=>match l[j]? with
   |some gj=>gj.i.toN.calm ||i==j ||(bs.getD (max j i) 0).testBit (min j i) ||(match gj.i with
    | .app k _ _=>Nat.ble k 4
    | .st n _ _=>Nat.ble n 4&&decide (i<j)
    |_=>false)
   |none=>true)&&(List.range l.length).any λj=>decide (i<j)&&(match l[j]? with
   |some ⟨.app _ (.l _) _,_⟩=>!(bs.getD (max j i) 0).testBit (min j i)
   |_=>false))))
def XS (l:List GI)(i:Nat):Bool:=ajr bs l i ||ajs bs l i
def XR (l:List GI):List Src:=(List.range l.length).filterMap λi=>if XS bs l i=true then(match l[i]? with
 |some ⟨.ld _ _ x,_⟩=>some x
 |_=>none)else none
def ai5 (l:List GI)(p:Nat):Bool:=
 (List.range l.length).any λj=>match l[j]? with
   |some ⟨.ia _ (.l q) _,_⟩=>Nat.beq q p&&(List.range l.length).any λi=>match l[i]? with
    |some ⟨.ld _ _ (.l r),_⟩=>Nat.beq r j&&looseAt bs l i
    |_=>false
   |_=>false
def argAt (p:Nat):Bool:=l.any λg=>match g.i with
 | .call _ args _=>args.any λs=>match s with
  | .l q=>Nat.beq q p
  |_=>false
 |_=>false
def mR (bs:List Nat)(l0:List GI):Nat->List GI->List GI
 |_,[]=>[]
 |p,g::r=>(match g.i with
  | .ld n ag x=>if looseAt bs l0 p then(if OM bs l0 p then⟨.ldU n ag x,g.g⟩else if XS bs l0 p then⟨.ldW n ag x,g.g⟩else⟨.ldI n ag x,g.g⟩)else g
  | .st n x y=>if(XR bs l0).isEmpty=true then g else⟨.stU n x y (XR bs l0),g.g⟩
  | .bsl k z n ps=>if(ai5 bs l0 p ||(Nat.ble 2 k&&argAt l0 p))=true then⟨.bslI k z n ps,g.g⟩else g
  |i=>⟨i.toN,g.g⟩)::mR bs l0 (p+1) r
def ice (bU:List Nat)(l:List GI):List GI:=l.map λg=>match g.i with
 | .bsl k z n ps=>if bU.contains (950000000+100*k+n)then⟨.bslI k z n ps,g.g⟩else g
 |_=>g
def CC.code (C:CC):Code->Option AC
 | .skip=>some .skip
 | .region _ ops draw=>match C.ops [] ops.toList with
  |some l=>if draw then
    if Cc ops.toList (mR (pJ [] ops.toList) l 0 l)then some (.reg true (mR (pJ [] ops.toList) l 0 l) (C.iG 0 ops.toList))else none
   else some (.reg false (ice C.bU l) (C.iG 0 ops.toList))
  |none=>none
 | .seq a b=>match C.code a,C.code b with
  |some a,some b=>some (.seq a b)
  |_,_=>none
 | .cond c a b=>match C.src [] c,C.code a,C.code b with
  |some c,some a,some b=>some (.cond c a b)
  |_,_,_=>none
 | .block id a=>(C.code a).map (.block id)
 | .loop a=>(C.code a).map .loop
 | .exit id=>some (.exit id)
 | .ret=>some .ret
 | .scope a=>C.code a
 | .label _=>some .skip
 |_=>none
def SC:(defs:List (Option Nat))->List Oper->List Nat
 |_,[]=>[]
 |defs,o::r=>(o.op.operands.toList.filterMap fun
   | .tmp t=>if(posOf t defs).isNone then some t else none
   |_=>none)++SC (defs++[o.dst]) r
def Ec:Code->List Nat
 | .region _ ops _=>SC [] ops.toList
 | .seq a b=>Ec a++Ec b
 | .cond c a b=>(match c with
  | .tmp t=>[t]
  |_=>[])++Ec a++Ec b
 | .block _ a=>Ec a
 | .loop a=>Ec a
 | .scope a=>Ec a
 |_=>[]
def tD:List ResultVar->List Nat
 |[]=>[]
 | .tmp t::r=>t::tD r
 | .cell t _::r=>t::tD r
def dedup:List Nat->List Nat->List Nat
 |acc,[]=>acc.reverse
 |acc,a::r=>if acc.contains a then dedup acc r else dedup (a::acc) r
def yl (P:Program)(sl:List Nat):List ResultVar->Option (List GG)
 |[]=>some []
 | .tmp t::r=>match A4 sl t,yl P sl r with
  |some a,some l=>some (⟨a,none⟩::l)
  |_,_=>none
 | .cell t ty::r=>match A4 sl t,yl P sl r with
  |some a,some l=>if P.cellsOf ty=0\/(P.underlying ty).isNone\/(ch P ty=false/\P.cellsOf ty≠1)then none else some (⟨a,some (P.cellsOf ty,ch P ty)⟩::l)
  |_,_=>none
def slotsOf (fn:Func):List Nat:=dedup [] (List.range (fn.params.size+fn.nfree)++tD fn.results.toList++Ec (fn.body.getD .skip))
def vmOps (ops:List Oper):Bool:=ops.any λo=>match o.op with
 | .makeFunc _ first _=>!first.isEmpty
 | .lookup t _ _ _=>(match P.underlying t with
  |some (.map _ e)=>(match P.underlying e with
   |some (.func ..)=>true
   |_=>false)
  |_=>false)
 | .call c=>(match c.callee with
  | .value (.tmp _)=>c.argTypes.toList.any λt=>match P.underlying t with
   |some (.pointer _)=>true
   |_=>false
  |_=>false)
 |_=>false
def NB (P:Program):Code->Bool
 | .region _ ops _=>vmOps P ops.toList
 | .seq a b=>NB P a ||NB P b
 | .cond _ a b=>NB P a ||NB P b
 | .block _ a=>NB P a
 | .loop a=>NB P a
 | .scope a=>NB P a
 |_=>false
def Qc (fn:Func):Bool:=NB P (fn.body.getD .skip)
def compile (ν:List (Nat×Nat))(bU:List Nat)(fn:Func):Option aj:=
 match fn.body with
 |some body=>
  match CC.code {P,ν,bU,slots:=slotsOf fn,ntmps:=fn.ntmps,vm:=Qc P fn} body,yl P (slotsOf fn) fn.results.toList with
  |some a,some res=>
   if fn.params.size+fn.nfree<=fn.ntmps then some {np:=fn.params.size+fn.nfree,ns:=(slotsOf fn).length,res,rsh:=fn.resultTypes.toList.map λt=>bif bU.contains (keepN fn)then ajf (Ij P 8 t)else Ij P 8 t,body:=a}else none
  |_,_=>none
 |none=>none
def A7:List (Nat×Nat):=[(4,1217),(6,89),(7,28),(8,90),(9,29),(10,91),(11,92),(12,264),(13,265),(15,93),(16,25),(17,52),(18,75),(20,501),(21,110),(22,112),(23,109),(24,111),(25,135),(26,136),(27,266),(28,147),(29,114),(30,267),(31,268),(32,269),(33,270),(34,175),(35,142),(36,138),(37,315),(38,502),(39,410),(40,170),(41,186),(42,73),(43,221),(44,217),(45,424),(46,296),(47,297),(48,298),(49,159),(50,71),(51,344),(52,345),(53,503),(54,504),(55,143),(56,145),(57,144),(58,360),(59,361),(60,362),(61,505),(62,46),(63,506),(64,169),(65,507),(66,508),(67,408),(68,209),(69,295),(70,409),(71,353),(72,354),(73,355),(74,349),(75,553),(76,689),(77,690),(78,274),(79,691),(80,273),(81,623),(82,624),(83,417),(84,219),(85,464),(86,455),(87,456),(88,630),(89,631),(90,535),(91,536),(92,216),(93,218),(94,572),(95,358),(96,580),(97,356),(98,359),(99,357),(100,581),(101,582),(102,583),(103,692),(104,693),(105,694),(106,183),(107,158),(108,629),(109,403),(110,695),(111,531),(112,516),(113,440),(114,441),(115,442),(116,530),(117,532),(118,533),(119,534),(120,622),(121,208),(122,74),(123,511),(124,510),(125,712),(126,628),(127,316),(128,461),(129,462),(130,249),(131,470),(132,666),(133,667),(134,668),(135,783),(136,453),(137,454),(138,457),(139,458),(140,459),(141,460),(142,744),(143,745),(144,748),(145,749),(146,750),(147,751),(148,752),(149,753),(150,754),(151,755),(152,829),(153,184),(154,830),(155,831),(156,415),(157,381),(158,627),(159,617),(160,618),(161,704),(162,658),(163,659),(164,714),(165,780),(166,72),(167,220),(168,699),(169,700),(170,701),(171,861),(172,554),(173,927),(174,669),(175,670),(176,671),(177,672),(178,673),(179,674),(180,896),(181,897),(182,898),(183,899),(184,900),(185,901),(186,902),(187,903),(188,156),(189,816),(190,904),(191,905),(192,906),(193,907),(194,908),(195,909),(196,416),(197,770),(198,782),(199,777),(200,778),(201,924),(202,925),(203,70),(204,215),(205,463),(206,980),(207,734),(208,812),(209,813),(210,814),(211,815),(212,1006),(213,1007),(214,1008),(215,482),(216,676),(217,375),(218,376),(219,377),(220,378),(221,379),(222,955),(223,1009),(224,1010),(225,1011),(226,1012),(227,1013),(228,1014),(229,1015),(230,916),(231,917),(232,926),(233,1023),(234,1024),(235,210),(236,211),(237,212),(238,213),(239,214),(240,450),(241,451),(242,242),(243,452),(244,1055),(245,882),(246,952),(247,953),(248,954),(249,678),(250,1079),(251,677),(252,599),(253,600),(254,601),(255,602),(256,603),(257,1080),(258,1081),(259,1082),(260,1083),(261,1084),(262,374),(263,1085),(264,1019),(265,1020),(266,1025),(267,1087),(268,443),(269,444),(270,445),(271,446),(272,447),(273,448),(274,449),(275,489),(276,664),(277,665),(279,1032),(280,1033),(281,1034),(282,1035),(283,1036),(284,769),(285,1118),(286,604),(287,1119),(288,1120),(289,1121),(290,598),(291,1122),(292,1086),(293,495),(294,496),(295,124),(296,660),(297,661),(298,662),(299,254),(300,487),(301,663),(303,336),(305,1097),(306,1098),(307,1099),(308,1100),(309,771),(310,1137),(311,1138),(312,1139),(313,919),(314,920),(315,921),(316,682),(317,683),(318,684),(319,685),(321,808),(322,809),(323,810),(324,811),(330,1126),(331,918),(332,1144),(333,772),(334,1145),(335,1021),(336,819),(344,827),(345,828),(349,946),(350,947),(351,948),(352,949),(353,950),(354,951),(358,1141),(359,1147),(360,1148),(361,956),(362,957),(369,1031)]
def Oi:List Nat:=[219,1091,1354,1894,1896,1616,1320,1618,1898,2062,2066,2282,2068,2252,2194,2064,1904,900,931,937,935,445,978,1328,904,942,944,946,952,448,522,1724,1726,1728,1430,486,500,1842,760,314,310,308,1836,872,870,406,410,412,103920080,104450022,104360064,595,1071,593,597,221,533,1004,1018,1510,1504,1496,1164,1166,724,1818,1502,950000702,1838,1544,1000000337,500000000]
noncomputable def cfY (f:Nat):Option aj:=((Go.Proofs.Tryz.prog).funcs[f]?).bind (compile Go.Proofs.Tryz.prog A7 Oi)
def zofN:Int.ofNat (no_index (@OfNat.ofNat Nat n (instOfNatNat n)))=@OfNat.ofNat Int n (@instOfNat n):=rfl
def zofU (h:n<2^8):UInt8.ofBitVec (BitVec.ofFin (Fin.mk (no_index (@OfNat.ofNat Nat n (instOfNatNat n))) h))=(OfNat.ofNat n:UInt8):=pD.1 (by show n=(UInt8.ofNat n).toNat;rw[UInt8.toNat_ofNat'];exact(Nat.mod_eq_of_lt h).symm)
def zofM:Int.negSucc 0=-1:=rfl
noncomputable def bj (f:Nat)(s:{a:aj//cfY f=some a}:=by refine⟨?_, ?_⟩;rotate_left;conv=>lhs;reduce;dsimp only[zofN,zofM];try simp only[zofU]):aj:=s.1
structure X where
 w:World
 I:Nat->Prop
 β:Nat->Option (Nat×Nat×Nat)
def T5 (es:List MapEntry)(i:Nat):Value:=match es[i/2]? with
 |some e=>if i%2=0 then e.key else e.val
 |none=>undef
inductive RD (ν:List (Nat×Nat))(x:X):Value->D->Prop
 |any (v:Value):RD ν x v .any
 |bool (b:Bool):RD ν x (.bool b) (.bool b)
 |int (k:IntKind) (n:Int):RD ν x (.int k n) (.int k n)
 |str (s:List UInt8) (h:s.length<=maxLen):RD ν x (.string ⟨⟨s⟩⟩) (.str s)
 |agg (cs:Array Value) (ds:List D) (hl:cs.size=ds.length) (h1:∀i,i<ds.length->(cs.getD i undef).oneCell'=true)
   (h:∀i,i<ds.length->RD ν x (cs.getD i undef) (ds.getD i .any)):RD ν x (.agg cs) (.agg ds)
 |tup (cs:Array Value) (ds:List D) (hl:cs.size=ds.length)
   (h:∀i,i<ds.length->RD ν x (cs.getD i undef) (ds.getD i .any)):RD ν x (.tuple cs) (.tup ds)
 |aL:RD ν x (.slice none 0 0) .aL
 |sl (a:Option Addr) (b off len cap k:Nat) (es:List D) (c:Nat->Nat->Value) (hlen:len=es.length)
   (ha:es=[]\/(a=some ⟨b,off,none⟩/\x.I b)) (hcap:len<=cap) (hm:cap<=maxLen)
   (hk:∀i,i<len->(es.getD i .any).cells.length=k) (hn:∀i,i<len->(es.getD i .any).aT=true)
   (hc:∀i j,i<len->j<k->x.w.cell? ⟨b,off+i*k+j,none⟩=some (c i j))
   (h1:∀i j,i<len->j<k->(c i j).oneCell'=true)
   (h:∀i j,i<len->j<k->RD ν x (c i j) ((es.getD i .any).cells.getD j .any)):RD ν x (.slice a len cap) (.sl k es)
 |ref (b off k i o at_:Nat) (es:List D) (c:Nat->Nat->Value) (hI:x.I b) (hat:at_=off+i*k+o)
   (hk:∀i,i<es.length->(es.getD i .any).cells.length=k) (hn:∀i,i<es.length->(es.getD i .any).aT=true)
   (hc:∀i j,i<es.length->j<k->x.w.cell? ⟨b,off+i*k+j,none⟩=some (c i j))
   (h1:∀i j,i<es.length->j<k->(c i j).oneCell'=true)
   (h:∀i j,i<es.length->j<k->RD ν x (c i j) ((es.getD i .any).cells.getD j .any)):RD ν x (.pointer (some ⟨b,at_,none⟩)) (.ref k es i o)
 |ptr (l k i o b base tot at_:Nat) (hβ:x.β l=some (b,base,tot)) (hat:at_=base+i*k+o):RD ν x (.pointer (some ⟨b,at_,none⟩)) (.ptr l k i o)
 |own (l k i n b base tot cap:Nat) (a:Addr) (hβ:x.β l=some (b,base,tot)) (ha:0<cap->a=⟨b,base+i*k,none⟩)
   (hcap:n<=cap) (hm:cap<=maxLen) (ht:i+cap<=tot):RD ν x (.slice (some a) n cap) (.own l k i n)
 |own0 (l k i:Nat) (a:Option Addr):RD ν x (.slice a 0 0) (.own l k i 0)
 |nilp:RD ν x (.pointer none) .nilp
 |fn (fid n:Nat) (cs:Array Value) (ds:List D) (hν:dP ν fid=some n) (hl:cs.size=ds.length)
   (h:∀i,i<ds.length->RD ν x (cs.getD i undef) (ds.getD i .any)):RD ν x (.func (.func fid) #[] cs) (.fn n ds)
 |ee (fid n:Nat) (fs:Array Value) (ds:List D) (hν:dP ν fid=some n) (hl:fs.size=ds.length)
   (h:∀i,i<ds.length->RD ν x (fs.getD i undef) (ds.getD i .any)):RD ν x (.func (.func fid) fs #[]) (.fn (n+1000000) ds)
 |nilf:RD ν x .nilFunc .nilf
 |bx (b at_:Nat) (ds:List D) (v:Value) (hI:x.I b) (hc:x.w.cell? ⟨b,at_,none⟩=some v) (h1:v.oneCell'=true) (hl:ds.length=1)
   (h:∀i,i<ds.length->RD ν x v (ds.getD i .any)):RD ν x (.pointer (some ⟨b,at_,none⟩)) (.fn 3000000 ds)
 |mpn:RD ν x (.map none) (.fn 5100000 [])
 |im (l b base tot:Nat) (hβ:x.β l=some (b,base,tot)):RD ν x (.map (some b)) (.fn 5000000 [.it l])
 |it (l b base tot:Nat) (hβ:x.β l=some (b,base,tot)):RD ν x (.pointer (some ⟨b,0,none⟩)) (.it l)
section
variable {ν:List (Nat×Nat)}{x x':X}
structure Le (x x':X):Prop where
 I:∀b,x.I b->x'.I b
 ph:∀b,x.I b->x'.w.heap[b]? =x.w.heap[b]?
 β:∀l p,x.β l=some p->x'.β l=some p
theorem iO {w:World}{b o:Nat}{v:Value}(h:w'.heap[b]? =w.heap[b]?)(hc:w.cell? ⟨b,o,none⟩=some v):w'.cell? ⟨b,o,none⟩=some v:=by
 rw[<-hc];unfold World.cell?;simp only[h]
def Le.refl (x:X):Le x x:=⟨λ_ h=>h,λ_ _=>rfl,λ_ _ h=>h⟩
def Le.trans {x'':X}(h:Le x x')(h':Le x' x''):Le x x'':=
 ⟨λb hb=>h'.I b (h.I b hb),λb hb=>(h'.ph b (h.I b hb)).trans (h.ph b hb),λl p hp=>h'.β l p (h.β l p hp)⟩
def RD.mono {v:Value}(h:RD ν x v d)(hl:Le x x'):RD ν x' v d:=by
 induction h with
 |any v=>exact .any v
 |bool b=>exact .bool b
 |int k n=>exact .int k n
 |str s h=>exact .str s h
 |agg cs ds hl' h1 _ ih=>exact .agg cs ds hl' h1 ih
 |tup cs ds hl' _ ih=>exact .tup cs ds hl' ih
 |aL=>exact .aL
 |sl a b off len cap k es c hlen ha hcap hm hk hn hc h1 _ ih=>
  refine .sl a b off len cap k es c hlen (ha.imp id λ⟨p,q⟩=>⟨p,hl.I _ q⟩) hcap hm hk hn (λi j hi hj=>?_) h1 ih;rcases ha with rfl|⟨_,hI⟩
  .simp at hlen;omega
  .exact iO (hl.ph _ hI) (hc i j hi hj)
 |ref b off k i o at_ es c hI hat hk hn hc h1 _ ih=>
  exact .ref b off k i o at_ es c (hl.I _ hI) hat hk hn (λi j hi hj=>iO (hl.ph _ hI) (hc i j hi hj)) h1 ih
 |ptr l k i o b base tot at_ hβ hat=>exact .ptr l k i o b base tot at_ (hl.β _ _ hβ) hat
 |own l k i n b base tot cap a hβ ha hcap hm ht=>exact .own l k i n b base tot cap a (hl.β _ _ hβ) ha hcap hm ht
 |own0 l k i a=>exact .own0 l k i a
 |nilp=>exact .nilp
 |fn fid n cs ds hν hl' _ ih=>exact .fn fid n cs ds hν hl' ih
 |ee fid n cs ds hν hl' _ ih=>exact .ee fid n cs ds hν hl' ih
 |nilf=>exact .nilf
 |bx b at_ ds v hI hc h1 hl' _ ih=>exact .bx b at_ ds v (hl.I _ hI) (iO (hl.ph _ hI) hc) h1 hl' ih
 |mpn=>exact .mpn
 |im l b base tot hβ=>exact .im l b base tot (hl.β _ _ hβ)
 |it l b base tot hβ=>exact .it l b base tot (hl.β _ _ hβ)
def c8:∀{ds:List D},aM ds=true->∀i,(ds.getD i .any).aT=true
 |[],_,i=>by simp[D.aT]
 |d::r,h,0=>by simp[aM]at h;simpa using h.1
 |d::r,h,i+1=>by simp[aM]at h;simpa using c8 h.2 i
def jW:∀{ds:List D},oq ds=true->∀i,(ds.getD i .any).fu=true
 |[],_,i=>by simp[D.fu]
 |d::r,h,0=>by simp[oq]at h;simpa using h.1
 |d::r,h,i+1=>by simp[oq]at h;simpa using jW h.2 i
def sD:∀{ds:List D},(∀i,i<ds.length->(ds.getD i .any).aT=true)->aM ds=true
 |[],_=>rfl
 |d::r,h=>by
  simp only[aM,aC];exact⟨by simpa using h 0 aB,sD λi hi=>by simpa using h (i+1) dR⟩
def lN (h:d.aT=true)(j:Nat):(d.cells.getD j .any).aT=true:=by
 cases d<;>simp only[D.cells]<;>first
  |(simp only[D.aT]at h;exact c8 h j)
  |(cases j<;>simp_all[D.aT])
theorem RD.aT {v:Value}{d:D}(h:RD ν x v d)(hn:d.aT=true)(hI:∀b,x.I b->x'.I b)(hk:∀b,x.I b->x'.w.heap[b]? =x.w.heap[b]?):RD ν x' v d:=by
 induction h with
 |any v=>exact .any v
 |bool b=>exact .bool b
 |int k n=>exact .int k n
 |str s h=>exact .str s h
 |agg cs ds hl' h1 _ ih=>exact .agg cs ds hl' h1 λi hi=>ih i hi (c8 yB i)
 |tup cs ds hl' _ ih=>exact .tup cs ds hl' λi hi=>ih i hi (c8 yB i)
 |aL=>exact .aL
 |sl a b off len cap k es c hlen ha hcap hm hk' hn' hc h1 _ ih=>
  refine .sl a b off len cap k es c hlen (ha.imp id λ⟨p,q⟩=>⟨p,hI _ q⟩) hcap hm hk' hn' (λi j hi hj=>?_) h1 λi j hi hj=>ih i j hi hj (lN (hn' i hi) j)
  grind [iO]
 |ref b off k i o at_ es c hIb hat hk' hn' hc h1 _ ih=>
  exact .ref b off k i o at_ es c (hI _ hIb) hat hk' hn' (λi j hi hj=>iO (hk _ hIb) (hc i j hi hj)) h1 λi j hi hj=>ih i j hi hj (lN (hn' i hi) j)
 |ptr=>simp[D.aT]at hn
 |own=>simp[D.aT]at hn
 |own0=>simp[D.aT]at hn
 |nilp=>exact .nilp
 |fn fid n cs ds hν hl' _ ih=>exact .fn fid n cs ds hν hl' λi hi=>ih i hi (c8 yB i)
 |ee fid n cs ds hν hl' _ ih=>exact .ee fid n cs ds hν hl' λi hi=>ih i hi (c8 yB i)
 |nilf=>exact .nilf
 |bx b at_ ds v hIr hc h1 hl' _ ih=>exact .bx b at_ ds v (hI _ hIr) (iO (hk _ hIr) hc) h1 hl' λi hi=>ih i hi (c8 yB i)
 |mpn=>exact .mpn
 |im=>simp[D.aT,aM]at hn
 |it=>simp[D.aT]at hn
def RD.fu {v:Value}{d:D}(h:RD ν x v d)(hn:d.fu=true):RD ν x' v d:=by
 induction h with
 |any v=>exact .any v
 |bool b=>exact .bool b
 |int k n=>exact .int k n
 |str s h=>exact .str s h
 |agg cs ds hl' h1 _ ih=>exact .agg cs ds hl' h1 λi hi=>ih i hi (jW (by simpa[D.fu]using hn) i)
 |tup cs ds hl' _ ih=>exact .tup cs ds hl' λi hi=>ih i hi (jW (by simpa[D.fu]using hn) i)
 |aL=>exact .aL
 |sl=>simp[D.fu]at hn
 |ref=>simp[D.fu]at hn
 |ptr=>simp[D.fu]at hn
 |own=>simp[D.fu]at hn
 |own0=>simp[D.fu]at hn
 |nilp=>exact .nilp
 |fn fid n cs ds hν hl' _ ih=>exact .fn fid n cs ds hν hl' λi hi=>ih i hi (jW (by simp[D.fu]at hn;exact hn.2) i)
 |ee fid n cs ds hν hl' _ ih=>exact .ee fid n cs ds hν hl' λi hi=>ih i hi (jW (by simp[D.fu]at hn;exact hn.2) i)
 |nilf=>exact .nilf
 |bx=>simp[D.fu]at hn
 |mpn=>exact .mpn
 |im=>simp[D.fu]at hn
 |it=>simp[D.fu]at hn
theorem RD.cells {v:Value}{d:D}(h:RD ν x v d)(hd:0<d.cells.length):
  v.cells.size=d.cells.length/\∀j,j<d.cells.length->(v.cells.getD j undef).oneCell'=true/\RD ν x (v.cells.getD j undef) (d.cells.getD j .any):=by
 cases h with
 |any=>simp[D.cells]at hd
 |tup=>simp[D.cells]at hd
 |agg cs ds hl h1 h=>exact⟨hl,λj hj=>⟨h1 j hj,h j hj⟩⟩
 |bool b=>exact⟨rfl,λj hj=>by simp[D.cells]at hj;subst hj;exact⟨rfl,.bool b⟩⟩
 |int k n=>exact⟨rfl,λj hj=>by simp[D.cells]at hj;subst hj;exact⟨rfl,.int k n⟩⟩
 |str s h=>exact⟨rfl,λj hj=>by simp[D.cells]at hj;subst hj;exact⟨rfl,.str s h⟩⟩
 |aL=>exact⟨rfl,λj hj=>by simp[D.cells]at hj;subst hj;exact⟨rfl,.aL⟩⟩
 |sl a b off len cap k es c hlen ha hcap hm hk hn hc h1 h=>exact⟨rfl,λj hj=>by simp[D.cells]at hj;subst hj;exact⟨rfl,.sl a b off len cap k es c hlen ha hcap hm hk hn hc h1 h⟩⟩
 |ref b off k i o at_ es c hI hat hk hn hc h1 h=>exact⟨rfl,λj hj=>by simp[D.cells]at hj;subst hj;exact⟨rfl,.ref b off k i o at_ es c hI hat hk hn hc h1 h⟩⟩
 |ptr l k i o b base tot at_ hβ hat=>exact⟨rfl,λj hj=>by simp[D.cells]at hj;subst hj;exact⟨rfl,.ptr l k i o b base tot at_ hβ hat⟩⟩
 |own l k i n b base tot cap a hβ ha hcap hm ht=>exact⟨rfl,λj hj=>by simp[D.cells]at hj;subst hj;exact⟨rfl,.own l k i n b base tot cap a hβ ha hcap hm ht⟩⟩
 |own0 l k i a=>exact⟨rfl,λj hj=>by simp[D.cells]at hj;subst hj;exact⟨rfl,.own0 l k i a⟩⟩
 |nilp=>exact⟨rfl,λj hj=>by simp[D.cells]at hj;subst hj;exact⟨rfl,.nilp⟩⟩
 |fn fid n cs ds hν hl h=>exact⟨rfl,λj hj=>by simp[D.cells]at hj;subst hj;exact⟨rfl,.fn fid n cs ds hν hl h⟩⟩
 |ee fid n cs ds hν hl h=>exact⟨rfl,λj hj=>by simp[D.cells]at hj;subst hj;exact⟨rfl,.ee fid n cs ds hν hl h⟩⟩
 |nilf=>exact⟨rfl,λj hj=>by simp[D.cells]at hj;subst hj;exact⟨rfl,.nilf⟩⟩
 |bx b at_ ds v hI hc h1 hl h=>exact⟨rfl,λj hj=>by simp[D.cells]at hj;subst hj;exact⟨rfl,.bx b at_ ds v hI hc h1 hl h⟩⟩
 |mpn=>exact⟨rfl,λj hj=>by simp[D.cells]at hj;subst hj;exact⟨rfl,.mpn⟩⟩
 |im l b base tot hβ=>exact⟨rfl,λj hj=>by simp[D.cells]at hj;subst hj;exact⟨rfl,.im l b base tot hβ⟩⟩
 |it l b base tot hβ=>exact⟨rfl,λj hj=>by simp[D.cells]at hj;subst hj;exact⟨rfl,.it l b base tot hβ⟩⟩
end
section
variable {ν:List (Nat×Nat)}{x x':X}
def zVv (j:Nat):Value:=if j<3 then .int .i64 0 else .string ⟨⟨[]⟩⟩
class cP where
 tB:TypeId:=0
 tU:TypeId:=0
 gd:X->Prop
 le:∀x x':X,(∀b,x.I b->x'.I b)->(∀b,x.I b->x'.w.heap[b]? =x.w.heap[b]?)->gd x->gd x'
 gz:Nat->Prop:=λ_=>False
 gzr:∀(x:X) (g:Nat),gd x->gz g->∀j,j<5->x.w.cell? ⟨g,j,none⟩=some (zVv j):=by exact λ_ _ _ h=>h.elim
variable [cP]
def o9 (ν:List (Nat×Nat))(x:X)(b base tot:Nat):bn->Prop
 | .buf k es=>0<k/\es.length<=tot/\∃c T fr,x.w.heap[b]? =some (.cells c T fr)/\base+tot*k<=c.size/\
   (∀o,o<c.size->¬(fr.1<=o/\o<fr.2))/\
   ∀i,i<es.length->(es.getD i .any).cells.length=k/\∀j,j<k->
    (c.getD (base+i*k+j) undef).oneCell'=true/\RD ν x (c.getD (base+i*k+j) undef) ((es.getD i .any).cells.getD j .any)
 | .iter s pos=>x.w.heap[b]? =some (.stringIter ⟨⟨s⟩⟩ pos)/\s.length<=maxLen
 | .row s=>base=0/\∃c,x.w.heap[b]? =some (.cells c cP.tU (0,0))/\c.size=tot/\tot<=maxLen/\s.length<=tot/\∀i,i<s.length->c.getD i undef=.int .u8 (s.getD i 0).toNat
 | .bld o n u=>base=0/\∃v,x.w.heap[b]? =some (.cells #[.pointer (if u=true then some ⟨b,0,none⟩else none),v] cP.tB (0,0))/\
   match o with
   |none=>n=0/\v=.slice none 0 0
   |some l=>∃g t,v=.slice (some ⟨g,0,none⟩) n t/\n<=t/\x.β l=some (g,0,t)
 | .mpb kvs=>aM kvs=true/\∃es cl,x.w.heap[b]? =some (.map es cl)/\2*es.size=kvs.length/\(es.toList.map (·.key)).Nodup/\∀i,i<kvs.length->RD ν x (T5 es.toList i) (kvs.getD i .any)
def rA (h:Le x x')(hg:cP.gd x):cP.gd x':=cP.le x x' h.I h.ph hg
structure fI (ν:List (Nat×Nat))(x:X)(f:Nat->Option bn):Prop where
 own:∀l blk b base tot,f l=some blk->x.β l=some (b,base,tot)->¬x.I b/\o9 ν x b base tot blk
 inj:∀l l' b base tot base' tot',f l≠none->f l'≠none->x.β l=some (b,base,tot)->x.β l'=some (b,base',tot')->l=l'
 imm:∀b,x.I b->b<x.w.heap.size
 ee:∀l b base tot,x.β l=some (b,base,tot)->b<x.w.heap.size
 gd:cP.gd x
structure Step (x x':X):Prop where
 os:x'.w.os=x.w.os
 tape:x'.w.tape=x.w.tape
 output:x'.w.output=x.w.output
 size:x.w.heap.size<=x'.w.heap.size
 I:∀b,x.I b->x'.I b
 ph:∀b,x.I b->x'.w.heap[b]? =x.w.heap[b]?
 β:∀l p,x.β l=some p->x'.β l=some p
 old:∀b,b<x.w.heap.size->(∀l p,x.β l=some p->p.1≠b)->x'.w.heap[b]? =x.w.heap[b]?
 newI:∀b,x'.I b->x.I b\/x.w.heap.size<=b\/∃l p,x.β l=some p/\p.1=b
 newβ:∀l p,x'.β l=some p->x.β l=some p\/x.w.heap.size<=p.1\/∃l' p',x.β l'=some p'/\p'.1=p.1
def Step.le (h:Step x x'):Le x x':=⟨h.I,h.ph,h.β⟩
def Step.refl (x:X):Step x x:=⟨rfl,rfl,rfl,aN _,λ_ h=>h,λ_ _=>rfl,λ_ _ h=>h,λ_ _ _=>rfl,λ_ h=>.inl h,λ_ _ h=>.inl h⟩
def Step.trans {x'':X}(h:Step x x')(h':Step x' x''):Step x x'':=by
 refine⟨h'.os.trans h.os,h'.tape.trans h.tape,h'.output.trans h.output,eR h.size h'.size,λb hb=>h'.I b (h.I b hb),
  λb hb=>(h'.ph b (h.I b hb)).trans (h.ph b hb),λl p hp=>h'.β l p (h.β l p hp), ?_, ?_, ?_⟩
 .intro b hb hn;refine(h'.old b (jo hb h.size) ?_).trans (h.old b hb hn);intro l p hp e;rcases h.newβ l p hp with h1|h1|⟨l',p',h1,h2⟩
  .exact hn l p h1 e
  .omega
  .exact hn l' p' h1 (h2.trans e)
 .intro b hb;rcases h'.newI b hb with h1|h1|⟨l,p,h1,h2⟩
  .exact h.newI b h1
  .exact .inr (.inl (eR h.size h1))
  .rcases h.newβ l p h1 with h3|h3|⟨l',p',h3,h4⟩
   .exact .inr (.inr ⟨l,p,h3,h2⟩)
   .exact .inr (.inl (h2▸h3))
   .exact .inr (.inr ⟨l',p',h3,h4.trans h2⟩)
 .intro l p hp;rcases h'.newβ l p hp with h1|h1|⟨l',p',h1,h2⟩
  .exact h.newβ l p h1
  .exact .inr (.inl (eR h.size h1))
  .rcases h.newβ l' p' h1 with h3|h3|⟨l'',p'',h3,h4⟩
   .exact .inr (.inr ⟨l',p',h3,h2⟩)
   .exact .inr (.inl (h2▸h3))
   .exact .inr (.inr ⟨l'',p'',h3,h4.trans h2⟩)
def o9.mono {b base tot:Nat}{blk:bn}(h:o9 ν x b base tot blk)(hl:Le x x')(hb:x'.w.heap[b]? =x.w.heap[b]?):o9 ν x' b base tot blk:=by
 cases blk with
 |buf k es=>
  obtain⟨hk,ht,c,T,fr,h1,h2,h3,h4⟩:=h;exact⟨hk,ht,c,T,fr,hb.trans h1,h2,h3,λi hi=>⟨(h4 i hi).1,λj hj=>⟨((h4 i hi).2 j hj).1,((h4 i hi).2 j hj).2.mono hl⟩⟩⟩
 |iter s pos=>exact⟨hb.trans h.1,h.2⟩
 |row s=>
  obtain⟨h0,c,h1,h2⟩:=h;exact⟨h0,c,hb.trans h1,h2⟩
 |mpb kvs=>
  obtain⟨h0,es,cl,h1,h2,h3,h4⟩:=h;exact⟨h0,es,cl,hb.trans h1,h2,h3,λi hi=>(h4 i hi).mono hl⟩
 |bld o n u=>
  obtain⟨h0,v,h1,h2⟩:=h;refine⟨h0,v,hb.trans h1, ?_⟩;cases o with
  |none=>exact h2
  |some l=>
   obtain⟨g,t,h3,h4,h5⟩:=h2;exact⟨g,t,h3,h4,hl.β _ _ h5⟩
structure iD (w w':World):Prop where
 os:w'.os=w.os
 tape:w'.tape=w.tape
 output:w'.output=w.output
 size:w.heap.size<=w'.heap.size
 old:∀b,b<w.heap.size->w'.heap[b]? =w.heap[b]?
def iD.refl:iD w w:=⟨rfl,rfl,rfl,aN _,λ_ _=>rfl⟩
def lY (o:Obj)(b:Nat)(hb:b<w.heap.size):(w.alloc o).heap[b]? =w.heap[b]? :=by
 simp only[World.alloc,Array.getElem?_push];rw[ai ae]
def dW (o:Obj):(w.alloc o).heap[w.heap.size]? =some o:=by show(w.heap.push o)[w.heap.size]? =some o;simp
def iD.alloc (o:Obj):iD w (w.alloc o):=⟨rfl,rfl,rfl,aB,λb hb=>lY w o b hb⟩
def iD.trans {w w' w'':World}(h:iD w w')(h':iD w' w''):iD w w'':=
 ⟨h'.os.trans h.os,h'.tape.trans h.tape,h'.output.trans h.output,eR h.size h'.size,λb hb=>(h'.old b (jo hb h.size)).trans (h.old b hb)⟩
def iD.drew:iD w w.drew:=⟨rfl,rfl,rfl,aN _,λ_ _=>rfl⟩
def Step.grow (hw:iD x.w w')(himm:∀b,x.I b->b<x.w.heap.size):Step x ⟨w',x.I,x.β⟩:=
 ⟨hw.os,hw.tape,hw.output,hw.size,λ_ h=>h,λb hb=>hw.old b (himm b hb),λ_ _ h=>h,λb hb _=>hw.old b hb,λ_ h=>.inl h,λ_ _ h=>.inl h⟩
def fI.grow {f:Nat->Option bn}{w':World}(h:fI ν x f)(hw:iD x.w w'):fI ν ⟨w',x.I,x.β⟩ f:=
 ⟨λl blk b base tot h1 h2=>⟨(h.own l blk b base tot h1 h2).1,(h.own l blk b base tot h1 h2).2.mono (Step.grow hw h.imm).le (hw.old b (h.ee l b base tot h2))⟩,
  h.inj,λb hb=>jo (h.imm b hb) hw.size,λl b base tot hb=>jo (h.ee l b base tot hb) hw.size,rA (Step.grow hw h.imm).le h.gd⟩
def ff (β:Nat->Option (Nat×Nat×Nat))(L:Nat)(p:Nat×Nat×Nat):Nat->Option (Nat×Nat×Nat):=λl=>if l=L then some p else β l
def jB (f:Nat->Option bn)(L:Nat)(b:Option bn):Nat->Option bn:=λl=>if l=L then b else f l
theorem D3 {L n base tot:Nat}(hw:iD x.w w')(hn:x.w.heap.size<=n)(hL:x.β L=none)(himm:∀b,x.I b->b<x.w.heap.size):
  Step x ⟨w',x.I,ff x.β L (n,base,tot)⟩:=by
 refine⟨hw.os,hw.tape,hw.output,hw.size,λ_ h=>h,λb hb=>hw.old b (himm b hb),λl p hp=>?_,λb hb _=>hw.old b hb,λ_ h=>.inl h,λl p hp=>?_⟩
 .grind [ff]
 grind [ff]
def aeq {f:Nat->Option bn}{L n base tot:Nat}{blk:bn}(h:fI ν x f)(hw:iD x.w w')(hn:x.w.heap.size<=n)(hnw:n<w'.heap.size)(hL:x.β L=none)(hb:o9 ν ⟨w',x.I,ff x.β L (n,base,tot)⟩ n base tot blk):fI ν ⟨w',x.I,ff x.β L (n,base,tot)⟩ (jB f L (some blk)):=by
 have hle:=(D3 (base:=base) (tot:=tot) hw hn hL h.imm).le;refine⟨λl blk' b base' tot' h1 h2=>?_,λl l' b base' tot' base'' tot'' h1 h1' h2 h2'=>?_,λb hb=>jo (h.imm b hb) hw.size,λl b base' tot' h2=>?_,rA hle h.gd⟩
 .by_cases e:l=L
  .subst e;simp only[ff,a8,aE,dk]at h2;simp only[jB,a8,aE]at h1;obtain⟨rfl,rfl,rfl⟩:=h2;subst h1;exact⟨λhI=>by have:=h.imm _ hI;omega,hb⟩
  .simp only[ff,e,aW]at h2;simp only[jB,e,aW]at h1;obtain⟨a1,a2⟩:=h.own l blk' b base' tot' h1 h2;exact⟨a1,a2.mono hle (hw.old b (h.ee l b base' tot' h2))⟩
 .by_cases e:l=L<;>by_cases e':l'=L
  .exact e.trans e'.symm
  .simp only[ff,e,a8,aE,dk]at h2;simp only[ff,e',aW]at h2';have:=h.ee l' b base'' tot'' h2';obtain⟨h2,_,_⟩:=h2;omega
  .simp only[ff,e',a8,aE,dk]at h2';simp only[ff,e,aW]at h2;have:=h.ee l b base' tot' h2;obtain⟨h2',_,_⟩:=h2';omega
  .simp only[ff,e,aW]at h2;simp only[ff,e',aW]at h2';simp only[jB,e,aW]at h1;simp only[jB,e',aW]at h1';exact h.inj l l' b base' tot' base'' tot'' h1 h1' h2 h2'
 .by_cases e:l=L
  .simp only[ff,e,a8,aE,dk]at h2;obtain⟨h2,_,_⟩:=h2;show b<w'.heap.size;omega
  .simp only[ff,e,aW]at h2;exact jo (h.ee l b base' tot' h2) hw.size
variable {P:Program}{w:World}
def pg (h:P.cellsOf t≠0):∃i,P.info? t=some i/\i.size=P.cellsOf t:=by
 unfold Program.cellsOf at h⊢;cases hi:P.info? t with
 |none=>simp[hi]at h
 |some i=>exact⟨i,rfl,aB⟩
def dD (h:P.cellsOf t≠0):(sizeOf t).run P w=.ok (P.cellsOf t) w:=by
 obtain⟨i,hi,hs⟩:=pg h;simp[sizeOf,typeInfo,hi,hs]
def wi (h:(P.underlying t).isNone=false):(isAgg t).run P w=.ok (ch P t) w:=by
 cases hu:P.underlying t with
 |none=>simp[hu]at h
 |some d=>unfold isAgg ch;rw[Sem.run_bind,run_underlying hu w];simp only[hu,Result.andThen];cases d<;>rfl
theorem Addr.AX (b o n:Nat):(⟨b,o,none⟩:Addr).add n=⟨b,o+n,none⟩:=by unfold Addr.add;split<;>simp_all
end
section
variable [cP]
section
variable {ν:List (Nat×Nat)}{x:X}{f:Nat->Option bn}{P:Program}
mutual
theorem nv:∀(v:Value) (d:D),fX v=some d->RD ν x v d
 | .bool b,d,h=>by simp[fX]at h;subst h;exact .bool b
 | .int k n,d,h=>by simp[fX]at h;subst h;exact .int k n
 | .string ⟨⟨s⟩⟩,d,h=>by
  simp only[fX]at h;split at h
  .rename_i hs;simp only[aE]at h;subst h;exact .str s (by simpa[maxLen,ByteArray.size]using hs)
  .cases h
 | .pointer none,d,h=>by simp[fX]at h;subst h;exact .nilp
 | .slice none 0 0,d,h=>by simp[fX]at h;subst h;exact .aL
 | .nilFunc,d,h=>by simp[fX]at h;subst h;exact .nilf
 | .map none,d,h=>by simp[fX]at h;subst h;exact .mpn
 | .agg ⟨cs⟩,d,h=>by
  simp only[fX]at h;split at h
  .rename_i hone;cases hc:tk cs with
   |none=>simp[hc]at h
   |some ds=>
    simp[hc]at h;subst h;obtain⟨hl,hr⟩:=uW cs ds hc;refine .agg ⟨cs⟩ ds (by simpa using hl) (λi hi=>?_) (λi hi=>by simpa using hr i hi);have:=sa cs hone i ae;simpa using this
  .cases h
 | .float _ _,d,h=>by simp[fX]at h
 | .complex _ _ _,d,h=>by simp[fX]at h
 | .pointer (some _),d,h=>by simp[fX]at h
 | .slice (some _) _ _,d,h=>by simp[fX]at h
 | .slice none (_+1) _,d,h=>by simp[fX]at h
 | .slice none 0 (_+1),d,h=>by simp[fX]at h
 | .map (some _),d,h=>by simp[fX]at h
 | .chan _,d,h=>by simp[fX]at h
 | .func _ _ _,d,h=>by simp[fX]at h
 | .iface _ _,d,h=>by simp[fX]at h
 | .tuple _,d,h=>by simp[fX]at h
theorem uW:∀(vs:List Value) (ds:List D),tk vs=some ds->vs.length=ds.length/\∀i,i<ds.length->RD ν x (vs.getD i undef) (ds.getD i .any)
 |[],ds,h=>by simp[tk]at h;subst h;simp
 |v::r,ds,h=>by
  simp only[tk]at h;split at h
  .rename_i d ds' h1 h2;simp only[aE]at h;subst h;have a:=nv v d h1;obtain⟨b1,b2⟩:=uW r ds' h2;refine⟨by simp[b1],λi hi=>?_⟩;cases i with
   |zero=>simpa using a
   |succ i=>simpa using b2 i j4
  .cases h
theorem sa:∀(vs:List Value),wW vs=true->∀i,i<vs.length->(vs.getD i undef).oneCell'=true
 |[],_,i,hi=>by simp at hi
 |v::r,h,i,hi=>by
  simp only[wW,aC]at h;cases i with
  |zero=>simp;cases v<;>simp_all[Value.oneCell']
  |succ i=>simpa using sa r h.2 i j4
end
def Bp (ν:List (Nat×Nat))(x:X)(f:Nat->Option bn)(L:Nat)(d:D)(r:Result Next):Prop:=
 ∃v x',(r=.ok (.value v) x'.w\/r=.ok .skip x'.w/\v=undef)/\Step x x'/\RD ν x' v d/\fI ν x' f/\∀l,l≠L->x'.β l=x.β l
def nZ {L:Nat}{v:Value}{r:Result Next}(hs:fI ν x f)(hr:r=.ok (.value v) x.w)(hd:RD ν x v d):Bp ν x f L d r:=
 ⟨v,x,.inl hr,.refl x,hd,hs,λ_ _=>rfl⟩
def vA (C:CC)(defs:List (Option Nat))(J:Src->ba)(ev:Operand->Value)(x:X)(os:List Operand):Prop:=
 ∀o,o∈os->∀s,C.src defs o=some s->(J s).ok=true->RD C.ν x (ev o) (J s).d
def RD.jQ {v:Value}{b:Bool}(h:RD ν x v (.bool b)):v=.bool b:=by cases h;rfl
def RD.dw {v:Value}{k:IntKind}{n:Int}(h:RD ν x v (.int k n)):v=.int k n:=by cases h;rfl
def RD.j3 {v:Value}{s:List UInt8}(h:RD ν x v (.str s)):v=.string ⟨⟨s⟩⟩/\s.length<=maxLen:=by cases h;exact⟨rfl,‹_›⟩
def RD.pick {b:Bool}{u v:Value}{d e:D}(h1:b=true->RD ν x u d)(h2:b=false->RD ν x v e):RD ν x (if b then u else v) (D.pick b d e):=by
 cases b
 .have:=h2 rfl;simp only[iJ,aW];cases d<;>cases e<;>simp only[D.pick,cond_false]<;>exact this
 .have:=h1 rfl;simp only[a8];cases d<;>cases e<;>simp only[D.pick,cond_true]<;>exact this
def M6 {op:BinOp}{k k':IntKind}{a b:Int}(hb:AY op (.int k a) (.int k' b)):
  ∃v,(binOp op t (.int k a) (.int k' b)).run P w=.ok v w/\RD ν x v (EJ op (.int k a) (.int k' b)):=by
 cases op<;>simp only[AY]at hb<;>simp only[binOp,EJ,ne_eq]
 case shl=>exact⟨_,by simp[Op.shift,show ¬b<0 by omega],.int _ _⟩
 case shr=>exact⟨_,by simp[Op.shift,show ¬b<0 by omega],.int _ _⟩
 case quo=>obtain⟨rfl,hb⟩:=hb;exact⟨_,by simp[Op.intDiv,hb],.int _ _⟩
 case rem=>obtain⟨rfl,hb⟩:=hb;exact⟨_,by simp[Op.intDiv,hb],.int _ _⟩
 case and=>subst hb;exact⟨_,by simp[Op.intBits],.int _ _⟩
 case or=>subst hb;exact⟨_,by simp[Op.intBits],.int _ _⟩
 case xor=>subst hb;exact⟨_,by simp[Op.intBits],.int _ _⟩
 case andNot=>subst hb;exact⟨_,by simp[Op.intBits],.int _ _⟩
 case add=>subst hb;exact⟨_,by simp[Op.intArith],.int _ _⟩
 case sub=>subst hb;exact⟨_,by simp[Op.intArith],.int _ _⟩
 case mul=>subst hb;exact⟨_,by simp[Op.intArith],.int _ _⟩
 case eql=>subst hb;exact⟨_,by simp[Op.intCmp],.bool _⟩
 case neq=>subst hb;exact⟨_,by simp[Op.intCmp],.bool _⟩
 case lss=>subst hb;exact⟨_,by simp[Op.intCmp],.bool _⟩
 case leq=>subst hb;exact⟨_,by simp[Op.intCmp],.bool _⟩
 case gtr=>subst hb;exact⟨_,by simp[Op.intCmp],.bool _⟩
 case geq=>subst hb;exact⟨_,by simp[Op.intCmp],.bool _⟩
def GY (a b:List UInt8):(⟨⟨a⟩⟩:ByteArray)++⟨⟨b⟩⟩=⟨⟨a++b⟩⟩:=by
 have h:((⟨⟨a⟩⟩:ByteArray)++⟨⟨b⟩⟩).data=(⟨a++b⟩:Array UInt8):=by
  rw[ByteArray.data_append];simp
 exact aw ByteArray.mk h
def M7 {op:BinOp}{a b:List UInt8}(hb:AY op (.str a) (.str b)):
  ∃v,(binOp op t (.string ⟨⟨a⟩⟩) (.string ⟨⟨b⟩⟩)).run P w=.ok v w/\RD ν x v (EJ op (.str a) (.str b)):=by
 have hs:∀l:List UInt8,(⟨⟨l⟩⟩:ByteArray).size=l.length:=λ_=>rfl
 cases op<;>simp only[AY]at hb<;>simp only[binOp,EJ]
 case add=>
  refine⟨.string ⟨⟨a++b⟩⟩, ?_,.str _ (by simp[maxLen];omega)⟩;have:¬(((⟨⟨a⟩⟩:ByteArray).size+(⟨⟨b⟩⟩:ByteArray).size:Nat):Int)>IntKind.i64.max:=by
   rw[hs,hs];simp only[IntKind.max,IntKind.signed,IntKind.bits,a8];omega
  simp only[Op.stringOp,this,aW,Sem.run_pure,GY]
 all_goals
  refine⟨_,by simp only[Op.stringOp,Sem.run_pure];rfl, ?_⟩;simp only[ByteArray.toList_eq];exact .bool _
def oP (op:BinOp)(t:TypeId)(p q:Operand){u v:Value}(h:(∀cs,u≠.agg cs)/\u≠.nilIface)(w:World):(eqGuard op t p q u v).run P w=.ok () w:=by
 obtain⟨h1,h2⟩:=h;unfold eqGuard;cases op<;>simp<;>(split<;>first|rfl|simp_all)
theorem eg {α:Type}(l:List α)(o n:Nat)(d:α)(j:Nat)(hj:j<n):((l.drop o).take n).getD j d=l.getD (o+j) d:=by
 grind
def il {α:Type}(l:List α)(o n:Nat)(h:o+n<=l.length):((l.drop o).take n).length=n:=by
 simp;omega
theorem bW (cs:Array Value)(i:Nat)(d:Value):cs.toList.getD i d=cs.getD i d:=by
 simp[List.getD,Array.getD];split<;>simp_all
def qe {cs:Array Value}{ds:List D}{off n:Nat}{ag:Bool}(hv:RD ν x (.agg cs) (.agg ds))(ht:P.cellsOf t≠0)(hu:(P.underlying t).isNone=false)(hn:n=P.cellsOf t)(hag:ag=ch P t)(hle:off+n<=ds.length)(h1:ag=false->n=1):
  ∃v,(part t cs off).run P w=.ok v w/\RD ν x v (cut ds off n ag):=by
 cases hv with
 |agg _ _ hl hone h=>
  unfold part;rw[Sem.run_bind,wi hu];subst hag;cases hb:ch P t
  .have hn1:=h1 (by rw[hb]);have hlt:off<cs.size:=ae;refine⟨cs.getD off undef, ?_, ?_⟩
   .simp[Result.andThen,Array.getElem?_eq_getElem hlt,Array.getD,hlt]
   .simp only[cut,cond_false];exact h off ae
  .refine⟨.agg (cs.extract off (off+n)), ?_, ?_⟩
   .simp[Result.andThen,dD ht,hn]
   .simp only[cut,cond_true];refine .agg _ _ ?_ ?_ ?_
    .simp;omega
    .intro i hi;simp at hi;have:=hone (off+i) ae;rw[<-this];congr 1;simp[Array.getD,show off+i<cs.size by omega,show i<min (off+n) cs.size-off by omega]
    .intro i hi;simp at hi;rw[eg _ _ _ _ _ ae];have:=h (off+i) ae;have e:(cs.extract off (off+n)).getD i undef=cs.getD (off+i) undef:=by
      simp[Array.getD,show off+i<cs.size by omega,show i<min (off+n) cs.size-off by omega]
     rw[e];exact this
end
end
section
variable [cP]
section
variable {x:X}{f:Nat->Option bn}{C:CC}{defs:List (Option Nat)}{J:Src->ba}{ev:Operand->Value}{Y:Ctx}{m:List (Nat×bn)}{L:Nat}
def iI {os':List Operand}(hρ:vA C defs J ev x os'):∀(os:List Operand) (ss:List Src),(∀o∈os,o∈os')->C.wu defs os=some ss->BJ J ss->
  os.length=ss.length/\(iR J ss).length=os.length/\∀i,i<(iR J ss).length->RD C.ν x ((os.map ev).getD i undef) ((iR J ss).getD i .any)
 |[],ss,_,h,_=>by simp[CC.wu]at h;subst h;simp[iR]
 |o::r,ss,hm,h,hk=>by
  simp only[CC.wu]at h;split at h
  .rename_i a l h1 h2;simp only[aE]at h;subst h;simp only[BJ]at hk;obtain⟨b1,b2,b3⟩:=iI hρ r l (λo ho=>hm o (.tail _ ho)) h2 hk.2;refine⟨by simp[b1],by simp[iR,b2],λi hi=>?_⟩;cases i with
   |zero=>simpa[iR]using hρ o (hm o (.head _)) a h1 hk.1
   |succ i=>simpa[iR]using b3 i (by simpa[iR]using hi)
  .cases h
theorem Ct (off:Nat):∀(new:List Value) (st:Nat) (acc:Array Value),off+st+new.length<=acc.size->
  ((new.zipIdx st).foldl (λcs (c,j)=>cs.setIfInBounds (off+j) c) acc).size=acc.size/\
  ∀q,((new.zipIdx st).foldl (λcs (c,j)=>cs.setIfInBounds (off+j) c) acc)[q]? =if off+st<=q/\q<off+st+new.length then new[q-(off+st)]? else acc[q]?
 |[],st,acc,_=>⟨aB,λq=>dR⟩
 |c::r,st,acc,hb=>by
  simp only[bE]at hb;obtain⟨h1,h2⟩:=Ct off r (st+1) (acc.setIfInBounds (off+st) c) dR;refine⟨by simpa[List.zipIdx_cons]using h1,λq=>?_⟩;rw[List.zipIdx_cons,List.foldl_cons,h2 q]
  grind
def sF {os':List Operand}(hρ:vA C defs J ev x os')(place:Nat->Option (Nat×Nat))(len:Nat):∀(ps:List (Nat×Operand)) (ss:List (Nat×Nat×Src)),
  (∀p∈ps,p.2∈os')->C.parts defs place ps=some ss->zZ J len ss->∀(cs:Array Value) (ds:List D),cs.size=len->RD C.ν x (.agg cs) (.agg ds)->
  ∃cs',Instr.fill place cs (ps.map fun(i,o)=>(i,ev o))=some cs'/\RD C.ν x (.agg cs') (.agg (Ci J ds ss))
 |[],ss,_,h,_,cs,ds,_,hr=>by simp[CC.parts]at h;subst h;exact⟨cs,by simp[Instr.fill],by simpa[Ci]using hr⟩
 |(i,o)::r,ss,hm,h,hk,cs,ds,hlen,hr=>by
  simp only[CC.parts]at h;split at h
  .rename_i off n s l h1 h2 h3;split at h
   .cases h
   rename_i hn0;simp only[aE]at h;subst h;simp only[zZ]at hk;obtain⟨k1,k2,k3,k4⟩:=hk;have hn:0<n:=ae;have hv:=hρ o (hm _ (.head _)) s h2 k1;obtain⟨c1,c2⟩:=hv.cells ae;have hsz:(ev o).cells.size=n:=ae;cases hr with
   |agg _ _ hl hone hh=>
   let cs1:Array Value:=((ev o).cells.toList.zipIdx 0).foldl (λcs (c,j)=>cs.setIfInBounds (off+j) c) cs
   have harr:(ev o).cells.zipIdx.foldl (λcs (c,j)=>cs.setIfInBounds (off+j) c) cs=cs1:=by
    rw[<-Array.foldl_toList];simp[cs1]
   have hcs1:=harr;obtain⟨hsz1,hgq⟩:=Ct off (ev o).cells.toList 0 cs dR;have hget:∀q,q<cs.size->cs1.getD q undef=if q<off then cs.getD q undef else if q<off+n then(ev o).cells.getD (q-off) undef else cs.getD q undef:=by
    intro q hq;have:=hgq q;rw[<-bW,<-bW cs,<-bW (ev o).cells];simp only[List.getD,Array.getElem?_toList];rw[show cs1[q]? =_ from this];simp only[Array.length_toList,hsz,Nat.add_zero];by_cases q1:q<off
    .rw[ak q1,ai ae]
    .rw[ai q1];by_cases q2:q<off+n
     .rw[ak q2,ak ae];simp
     .rw[ai q2,ai ae]
   have hsz1:cs1.size=cs.size:=hsz1;have hdlen:(over ds off (J s).d.cells).length=ds.length:=by simp[over];omega
   have hdget:∀q,q<ds.length->(over ds off (J s).d.cells).getD q .any=if q<off then ds.getD q .any else if q<off+n then(J s).d.cells.getD (q-off) .any else ds.getD q .any:=by
    intro q hq;simp only[over,List.getD,List.getElem?_append,dQ];by_cases q1:q<off
    .rw[ak ae,ak q1];simp[List.getElem?_take,q1]
    .rw[ai ae,ai q1,show q-min off ds.length=q-off by omega];by_cases q2:q<off+n
     .rw[ak q2,ak ae]
     .rw[ai q2,ai ae];simp only[List.getElem?_drop];congr 3;omega
   have hr1:RD C.ν x (.agg cs1) (.agg (over ds off (J s).d.cells)):=by
    refine .agg _ _ ae (λq hq=>?_) (λq hq=>?_)
    .rw[hdlen]at hq;rw[hget q ae];split
     .exact hone q hq
     .split
      .exact(c2 (q-off) ae).1
      .exact hone q hq
    .rw[hdlen]at hq;rw[hget q ae,hdget q hq];split
     .exact hh q hq
     .split
      .exact(c2 (q-off) ae).2
      .exact hh q hq
   obtain⟨cs',g1,g2⟩:=sF hρ place len r l (λp hp=>hm p (.tail _ hp)) h3 k4 cs1 _ ae hr1;refine⟨cs', ?_,by simpa[Ci]using g2⟩;simp only[List.map_cons,Instr.fill,h1];rw[ai (by simp[hsz];omega),hcs1];exact g1
  .cases h
end
section
variable {ν:List (Nat×Nat)}{x:X}{P:Program}
def jv:∀(ks:List CK) (ds:List D),fJ ks ds->ds.length=ks.length
 |[],[],_=>rfl
 |[],_::_,h=>by simp[fJ]at h
 |_::_,[],h=>by simp[fJ]at h
 |c::r,d::ds,h=>by have:=jv r ds (by simp[fJ]at h;exact h.2);simp;omega
theorem kO:∀(a b:List CK) (ds:List D),fJ (a++b) ds->fJ a (ds.take a.length)/\fJ b (ds.drop a.length)
 |[],b,ds,h=>by simpa[fJ]using h
 |c::r,b,[],h=>by simp[fJ]at h
 |c::r,b,d::ds,h=>by
  simp only[td,fJ]at h;obtain⟨h1,h2⟩:=kO r b ds h.2
  grind [fJ]
def vI:∀(n:Nat) (ds es:List D),ds.length=es.length->ik ds es=(ik (ds.take n) (es.take n)&&ik (ds.drop n) (es.drop n))
 |0,ds,es,_=>by simp[ik]
 |n+1,[],[],_=>by simp[ik]
 |n+1,[],_::_,h=>by simp at h
 |n+1,_::_,[],h=>by simp at h
 |n+1,d::ds,e::es,h=>by
  simp only[ik,List.take_succ_cons,List.drop_succ_cons];rw[vI n ds es rp,Bool.and_assoc]
def Lk {c:CK}(h:c.fits d):d.cells=[d]/\d.isAgg=false:=by
 cases c<;>cases d<;>simp_all[CK.fits,D.cells,D.isAgg]
def mi {c:CK}(h:fJ [c] d.cells)(ha:d.isAgg=false):c.fits d:=by
 cases d<;>simp_all[D.cells,D.isAgg,fJ]
def tl {ds:List D}{off n:Nat}{ag:Bool}{ks:List CK}(h:fJ ks ((ds.drop off).take n))(hn:ag=false->n=1)(hle:off+n<=ds.length):
  (cut ds off n ag).cells=(ds.drop off).take n/\(cut ds off n ag).isAgg=ag:=by
 cases ag
 .have:=hn rfl;subst this;have hlt:off<ds.length:=ae;have e:(ds.drop off).take 1=[ds.getD off .any]:=by
   rw[fk hlt];simp[List.getD,hlt,List.take]
  rw[e]at h⊢;cases ks with
  |nil=>simp[fJ]at h
  |cons c r=>
   simp only[fJ]at h;exact Lk h.1
 .exact⟨rfl,rfl⟩
def NR (ν:List (Nat×Nat))(x:X)(P:Program)(n:Nat)(t:TypeId)(ks:List CK):Prop:=
 ∀u v d e (w:World),RD ν x u d->RD ν x v e->d.isAgg=ch P t->e.isAgg=ch P t->fJ ks d.cells->fJ ks e.cells->
  (Op.equalIn n t u v).run P w=.ok (ik d.cells e.cells) w
theorem CJ {n:Nat}{ks:List CK}(h:ie P n t=some ks)(ha:ch P t=false):ks.length=1:=by
 cases n with
 |zero=>simp[ie]at h
 |succ n=>
  grind [ie,ch]
def xc (n depth:Nat)(ih:∀t ks,ie P depth t=some ks->NR ν x P n t ks)(xs ys:Array Value)(ds es:List D)(h1:RD ν x (.agg xs) (.agg ds))(h2:RD ν x (.agg ys) (.agg es))(w:World):
  ∀(fs:List Field) (off:Nat) (ks:List CK),mw P (λt=>ie P depth t) off fs=some ks->off<=ds.length->off<=es.length->fJ ks (ds.drop off)->fJ ks (es.drop off)->
  (Op.eqFields n xs ys fs).run P w=.ok (ik (ds.drop off) (es.drop off)) w
 |[],off,ks,hk,_,_,f1,f2=>by
  simp[mw]at hk;subst hk;have a:=jv _ _ f1;have b:=jv _ _ f2;have a':ds.drop off=[]:=lh a;have b':es.drop off=[]:=lh b;rw[a',b'];simp[Op.eqFields,ik]
 |f::fs,off,ks,hk,l1,l2,f1,f2=>by
  simp only[mw]at hk;split at hk
  .cases hk
  .rename_i hne;have hname:f.name≠ "_" :=λe=>hne (.inl e)
   have hoff:f.offset=off:=by
    rcases Nat.decEq f.offset off with h|h
    .exact absurd (.inr h) hne
    .exact h
   split at hk
   .rename_i a b ha hb;split at hk
    .rename_i hlen;obtain⟨hlen,hnz,hund⟩:=hlen;simp only[aE]at hk;subst hk;obtain⟨fa1,fb1⟩:=kO a b _ f1;obtain⟨fa2,fb2⟩:=kO a b _ f2;have la:=jv _ _ f1;have lb:=jv _ _ f2;simp only[ix,cu]at la lb;have hag:ch P f.type=false->P.cellsOf f.type=1:=λe=>by rw[<-hlen];exact CJ ha e
     obtain⟨u,r1,r2⟩:=qe (P:=P) (off:=off) (n:=P.cellsOf f.type) (ag:=ch P f.type) w h1 ae hund rfl rfl ae hag;obtain⟨v,s1,s2⟩:=qe (P:=P) (off:=off) (n:=P.cellsOf f.type) (ag:=ch P f.type) w h2 ae hund rfl rfl ae hag;rw[hlen]at fa1 fa2 fb1 fb2;obtain⟨c1,c2⟩:=tl (ag:=ch P f.type) fa1 hag ae;obtain⟨d1,d2⟩:=tl (ag:=ch P f.type) fa2 hag ae;have he:=ih f.type a ha u v _ _ w r2 s2 c2 d2 (by rw[c1];exact fa1) (by rw[d1];exact fa2);rw[List.drop_drop]at fb1 fb2;have hrest:=xc n depth ih xs ys ds es h1 h2 w fs (off+P.cellsOf f.type) b hb ae ae fb1 fb2;rw[vI (P.cellsOf f.type) (ds.drop off) (es.drop off) dR];simp only[Op.eqFields,hname,ne_eq,not_false_eq_true,a8,Sem.run_bind,hoff,r1,s1,he,Result.andThen_ok,Sem.run_ite,hrest];rw[c1,d1,List.drop_drop,List.drop_drop];cases ik ((ds.drop off).take (P.cellsOf f.type)) ((es.drop off).take (P.cellsOf f.type))<;>simp
    .cases hk
   .cases hk
def zW (n:Nat)(e:TypeId)(l:List CK)(ih:NR ν x P n e l)(hc:l.length=P.cellsOf e)(hnz:l.length≠0)(hund:(P.underlying e).isNone=false)(hag:ch P e=false->P.cellsOf e=1)
  (xs ys:Array Value) (ds es:List D) (h1:RD ν x (.agg xs) (.agg ds)) (h2:RD ν x (.agg ys) (.agg es)) (w:World):
  ∀(len j:Nat),j*P.cellsOf e<=ds.length->j*P.cellsOf e<=es.length->fJ (List.replicate len l).flatten (ds.drop (j*P.cellsOf e))->fJ (List.replicate len l).flatten (es.drop (j*P.cellsOf e))->
  (Op.eqItems n e (P.cellsOf e) xs ys (List.range' j len)).run P w=.ok (ik (ds.drop (j*P.cellsOf e)) (es.drop (j*P.cellsOf e))) w
 |0,j,_,_,f1,f2=>by
  have a:=jv _ _ f1;have b:=jv _ _ f2;have a':ds.drop (j*P.cellsOf e)=[]:=lh (by simpa using a);have b':es.drop (j*P.cellsOf e)=[]:=lh (by simpa using b);rw[a',b'];simp[Op.eqItems,ik]
 |len+1,j,l1,l2,f1,f2=>by
  simp only[List.replicate_succ,List.flatten_cons]at f1 f2;obtain⟨fa1,fb1⟩:=kO _ _ _ f1;obtain⟨fa2,fb2⟩:=kO _ _ _ f2;have la:=jv _ _ f1;have lb:=jv _ _ f2;simp only[ix,cu]at la lb;have hj:(j+1)*P.cellsOf e=j*P.cellsOf e+P.cellsOf e:=Nat.succ_mul _ _;obtain⟨u,r1,r2⟩:=qe (P:=P) (off:=j*P.cellsOf e) (n:=P.cellsOf e) (ag:=ch P e) w h1 ae hund rfl rfl ae hag;obtain⟨v,s1,s2⟩:=qe (P:=P) (off:=j*P.cellsOf e) (n:=P.cellsOf e) (ag:=ch P e) w h2 ae hund rfl rfl ae hag;rw[hc]at fa1 fa2 fb1 fb2;obtain⟨c1,c2⟩:=tl (ag:=ch P e) fa1 hag ae;obtain⟨d1,d2⟩:=tl (ag:=ch P e) fa2 hag ae;have he:=ih u v _ _ w r2 s2 c2 d2 (by rw[c1];exact fa1) (by rw[d1];exact fa2);rw[List.drop_drop,<-hj]at fb1 fb2;have hrest:=zW n e l ih hc hnz hund hag xs ys ds es h1 h2 w len (j+1) ae ae fb1 fb2;rw[vI (P.cellsOf e) (ds.drop (j*P.cellsOf e)) (es.drop (j*P.cellsOf e)) dR];simp only[List.range'_succ,Op.eqItems,Sem.run_bind,r1,s1,he,Result.andThen_ok,Sem.run_ite,hrest];rw[c1,d1,List.drop_drop,List.drop_drop,<-hj];cases ik ((ds.drop (j*P.cellsOf e)).take (P.cellsOf e)) ((es.drop (j*P.cellsOf e)).take (P.cellsOf e))<;>simp
def sf:∀(depth:Nat) (t:TypeId) (ks:List CK),ie P depth t=some ks->∀n,depth<=n->NR ν x P n t ks
 |0,t,ks,h,_,_=>by simp[ie]at h
 |depth+1,t,ks,h,n,hn=>by
  obtain⟨n,rfl⟩:∃k,n=k+1:=⟨n-1,ae⟩
  intro u v d e w r1 r2 a1 a2 f1 f2;simp only[ie]at h;split at h
  .rename_i hu;simp only[aE]at h;subst h;have hag:ch P t=false:=by simp[ch,hu]
   rw[hag]at a1 a2;have g1:=mi f1 a1;have g2:=mi f2 a2;cases d<;>simp only[CK.fits]at g1;cases e<;>simp only[CK.fits]at g2;rw[r1.jQ,r2.jQ,run_equalIn_bool w n t _ _ hu];simp[D.cells,ik,eqD]
  .rename_i k hu;simp only[aE]at h;subst h;have hag:ch P t=false:=by simp[ch,hu]
   rw[hag]at a1 a2;have g1:=mi f1 a1;have g2:=mi f2 a2;cases d<;>simp only[CK.fits]at g1;cases e<;>simp only[CK.fits]at g2;subst g1;subst g2;rw[r1.dw,r2.dw,run_equalIn_int w n t _ _ _ _ hu];simp[D.cells,ik,eqD]
  .rename_i hu;simp only[aE]at h;subst h;have hag:ch P t=false:=by simp[ch,hu]
   rw[hag]at a1 a2;have g1:=mi f1 a1;have g2:=mi f2 a2;cases d<;>simp only[CK.fits]at g1;cases e<;>simp only[CK.fits]at g2;rw[r1.j3.1,r2.j3.1,run_equalIn_string w n t _ _ hu];simp[D.cells,ik,eqD,ByteArray.toList_eq]
  .rename_i fs hu;split at h
   .cases h
   .rename_i hst;have hag:ch P t=true:=by simp[ch,hu]
    rw[hag]at a1 a2;cases d<;>simp only[D.isAgg,iJ]at a1;cases e<;>simp only[D.isAgg,iJ]at a2;have hf:P.fieldsOf t=fs:=by simp[Program.fieldsOf,hu]
    cases r1 with
    |agg xs _ p1 p2 p3=>
     cases r2 with
     |agg ys _ q1 q2 q3=>
      rw[run_equalIn_struct w n t xs ys (by rw[hf];exact hu) (by simpa using hst),hf];have:=xc (ν:=ν) (x:=x) n depth (λt ks hk=>sf depth t ks hk n ae) xs ys _ _ (.agg xs _ p1 p2 p3) (.agg ys _ q1 q2 q3) w fs.toList 0 ks h aB aB (by simpa[D.cells]using f1) (by simpa[D.cells]using f2);simpa[D.cells]using this
  .rename_i len e' hu;split at h
   .rename_i l hl;split at h
    .rename_i hc;obtain⟨hc,hnz,hund⟩:=hc;simp only[aE]at h;subst h;have hag:ch P t=true:=by simp[ch,hu]
     rw[hag]at a1 a2;cases d<;>simp only[D.isAgg,iJ]at a1;cases e<;>simp only[D.isAgg,iJ]at a2;obtain⟨i,hi,_⟩:=pg (P:=P) (t:=e') ae;cases r1 with
     |agg xs _ p1 p2 p3=>
      cases r2 with
      |agg ys _ q1 q2 q3=>
       rw[run_equalIn_array w n xs ys hu hi,List.range_eq_range'];have:=zW (ν:=ν) (x:=x) n e' l (sf depth e' l hl n ae) hc hnz hund (λe=>by rw[<-hc];exact CJ hl e) xs ys _ _ (.agg xs _ p1 p2 p3) (.agg ys _ q1 q2 q3) w len 0 aB aB (by simpa[D.cells]using f1) (by simpa[D.cells]using f2);simpa[D.cells]using this
    .cases h
   .cases h
  .cases h
end
end
end Go.Abs
