/- A part of the proofs. -/
import Derived.Attr
import Derived.ChangeKeysEq
import Derived.Deep.AppendSrc
import Derived.KernelRfl
import Derived.Test.YtkllcniplomebaaGreatDoorProg
import Derived.WalkKit
import GoSem.Dispatch
import GoSem.Step
set_option linter.all false
set_option maxRecDepth 60000
set_option maxHeartbeats 2000000
namespace Go.Abs
variable(bs:List Nat)(P:Program)(w:World){t:TypeId}(ν:List (Nat×Nat)){w':World}(lo n:Nat)
def bH:=@List.length_cons
def b7:=@List.length_nil
def b8:=@decide_eq_false_iff_not
def aX:=@decide_eq_true_eq
def aC:=@Option.some.injEq
def ai:=@if_neg
def ak:=@if_pos
def aK:=@Bool.and_eq_true
def bV:=@List.length_append
def cX:=@Bool.not_eq_false'
def cg:=@Bool.not_eq_true'
def aT:=@Nat.le_refl
def bc:=@Option.some.inj
def bh:=@List.length_map
def a8:=@if_false
def bo:=@if_true
def dM:=@List.drop_zero
def bg:=@decide_eq_true
def cL:=@Nat.zero_add
def dX:=@Bool.or_eq_false_iff
def dq:=@List.forall_mem_cons
def ew:=@Bool.and_eq_false_iff
def c7:=@Option.map_eq_some_iff
def bB:=@decide_eq_false
def cW:=@Bool.or_eq_true
def fE:=@List.take_of_length_le
def ey:=@List.length_take
def fF:=@List.append_assoc
def aJ:=@List.mem_singleton
def ib:=@Bool.false_eq_true
def dw:=@Prod.mk.injEq
def fL:=@Nat.mul_le_mul_right
def dN:=@Nat.le_trans
def jj:=@Nat.lt_of_lt_of_le
def pA:=@List.nil_append
def lP:=@List.eq_nil_of_length_eq_zero
def fh:=@List.drop_eq_getElem_cons
def rv:=@List.cons_append
def bU:=@List.mem_cons
def ee:=@true_and
def dE:=@and_true
def iA:=@false_and
def iB:=@and_false
def iP:=@and_self
def dY:=@Eq.trans
def ar:=@congrArg
def j7:=@List.drop_eq_nil_of_le
def fZ:=@List.append_nil
def iQ:=@List.length_drop
def de:=@List.not_mem_nil
def pB:=@UInt8.toNat_inj
def iR:=@List.getD_cons_zero
def ez:=@Bool.true_and
def fR:=@Bool.and_true
def ch:=@List.mem_map
def th:=@List.cons.injEq
def aa8:=@List.length_eq_zero_iff
def zQ:=@List.mem_of_mem_take
def kZ:=@decide_eq_decide
def dZ:=@Nat.lt_or_ge
def ae {p:Prop}(h:p:=by omega):p:=h
def eI {p:Prop}(h:p:=by simp only[List.length_cons,List.length_nil];omega):p:=h
def a7 {p:Prop}(h:p:=by decide):p:=h
def uN {p:Prop}(h:p:=by kernel_rfl):p:=h
def aF {p:Prop}(h:p:=by simp):p:=h
def k8 {p:Prop}(h:p:=by dsimp only;omega):p:=h
def eJ {p:Prop}(h:p:=by simp;omega):p:=h
def cE {p:Prop}(h:p:=by exact rfl):p:=h
def lC {p:Prop}(h:p:=by simp only[yz,iX,oL,Bg,Ff,dd,Nat.reduceEqDiff,bo,a8,iP,ee,dE,iA,iB,cL,bh,aT,dM,bQ,reduceCtorEq,bH,b7,Nat.reduceAdd,Nat.reduceLeDiff,xb,bp.fz,Key.fz,Rec.fz,Env.fz,cu.fz,c9.fz,gI.fz,mF.fz,jk.fz,CO,List.take_succ_cons,List.take_zero];exact rfl):p:=h
def fK {p:Prop}(h:p:=by repeat(first|exact eX.nil|refine eX.un ?_|refine eX.eq ah ?_|refine eX.nl ah ah ?_|refine eX.ni (Or.inr ⟨_,_,_,rfl⟩) ?_)):p:=h
def nj {p:Prop}(h:p:=by simp only[yz,iX,oL,Bg,Ff,dd,Nat.reduceEqDiff,bo,a8,iP,ee,dE,iA,iB,cL,bh,aT,dM,bQ,reduceCtorEq,bH,b7,Nat.reduceAdd,Nat.reduceLeDiff,ajs,adr,XN,adq];exact rfl):p:=h
def ct {p:Prop}(h:p:=by first|omega|(simp at hf;omega)):p:=h
theorem jD {p:Prop}(h:p:=by first|assumption|omega|(grind [Cut.sm,Span.sm,cu.sm,zX,aq,Want.sm,fj.sm,dz.sm,cA.sm])):p:=h
def abp {p:Prop}(h:p:=by repeat(first|exact bn.nil|refine bn.Am ah ah dL ?_|refine bn.L4 ah ah ah ?_|refine bn.L6 ah ah ah ah ?_|refine bn.Am ah ah (by exact jg _ _) ?_|refine bn.nl 3 ah ah ah (by first|exact rfl|exact jg _ _|exact cb (λ_=>rfl) _) ?_|refine bn.eq 3 ah ah ah ?_|refine bn.nl 5 ah ah ah (by first|exact rfl|exact jg _ _|exact cb (λ_=>rfl) _) ?_|refine bn.eq 5 ah ah ah ?_|refine bn.nl 6 ah ah ah (by first|exact rfl|exact jg _ _|exact cb (λ_=>rfl) _) ?_|refine bn.eq 6 ah ah ah ?_|refine bn.nl 10 ah ah ah (by first|exact rfl|exact jg _ _|exact cb (λ_=>rfl) _) ?_|refine bn.eq 10 ah ah ah ?_)):p:=h
def G6 {p:Prop}(h:p:=by simp only[yz,iX,oL,Bg,Ff,dd,Nat.reduceEqDiff,bo,a8,iP,ee,dE,iA,iB,cL,bh,aT,dM,bQ,reduceCtorEq,bH,b7,Nat.reduceAdd,Nat.reduceLeDiff,xb,bp.fz,Key.fz,Rec.fz,Env.fz,cu.fz,c9.fz,gI.fz,mF.fz,jk.fz,CO,List.take_succ_cons,List.take_zero,B7,eN,nv,nu];exact rfl):p:=h
def A5 {p:Prop}(h:p:=by simp only[yz,iX,oL,Bg,Ff,dd,Nat.reduceEqDiff,bo,a8,iP,ee,dE,iA,iB,cL,bh,aT,dM,bQ,reduceCtorEq,bH,b7,Nat.reduceAdd,Nat.reduceLeDiff,List.take_succ_cons,List.take_zero];exact rfl):p:=h
def du {p:Prop}(h:p:=by simp[ho,Op.operands,Call.operands]):p:=h
def G7 {p:Prop}(h:p:=by simp only[yz,iX,oL,Bg,Ff,dd,Nat.reduceEqDiff,bo,a8,iP,ee,dE,iA,iB,cL,bh,aT,dM,bQ,reduceCtorEq,bH,b7,Nat.reduceAdd,Nat.reduceLeDiff,aj0,adt,RY,aaK];exact rfl):p:=h
def iC {p:Prop}(h:p:=by first|omega|(simp only[Gs.aI];omega)|(simp only[oZ,Gs.aI]at*;omega)):p:=h
def ry {p:Prop}(h:p:=by first|exact rfl|exact jg _ _|exact cb (λ_=>rfl) _):p:=h
def KP {p:Prop}(h:p:=by simp only[yz,iX,oL,Bg,Ff,dd,Nat.reduceEqDiff,bo,a8,iP,ee,dE,iA,iB,cL,bh,aT,dM,bQ,reduceCtorEq,bH,b7,Nat.reduceAdd,Nat.reduceLeDiff,ads,RY];exact rfl):p:=h
def KQ {p:Prop}(h:p:=by simp only[yz,iX,oL,Bg,Ff,dd,Nat.reduceEqDiff,bo,a8,iP,ee,dE,iA,iB,cL,bh,aT,dM,bQ,reduceCtorEq,bH,b7,Nat.reduceAdd,Nat.reduceLeDiff,adu,jk.fz];exact rfl):p:=h
def tj {p:Prop}(h:p:=by refine⟨?_, ?_, ?_⟩<;>first|exact rfl|(rw[nv];exact rfl)|(rw[nu];exact rfl)):p:=h
def KR {p:Prop}(h:p:=by simp only[yz,iX,oL,Bg,Ff,dd,Nat.reduceEqDiff,bo,a8,iP,ee,dE,iA,iB,cL,bh,aT,dM,bQ,reduceCtorEq,bH,b7,Nat.reduceAdd,Nat.reduceLeDiff,XM];exact rfl):p:=h
def KT {p:Prop}(h:p:=by simp only[yz,iX,oL,Bg,Ff,dd,Nat.reduceEqDiff,bo,a8,iP,ee,dE,iA,iB,cL,bh,aT,dM,bQ,reduceCtorEq,bH,b7,Nat.reduceAdd,Nat.reduceLeDiff,fzD_F];exact rfl):p:=h
def gH {p:Prop}(h:p:=by simp[az.eL,hx,hy,kx hf,ky hf,Ba]):p:=h
def KU {p:Prop}(h:p:=by repeat(first|exact eX.nil|refine eX.un ?_|refine eX.eq ah ?_|refine eX.nl ah ah ?_|refine eX.ni (Or.inr ⟨_,_,_,rfl⟩) ?_|refine eX.nl (ar (D.int .i64) (by push_cast;omega)) ah ?_)):p:=h
def aba {p:Prop}(h:p:=by simp only[yz,iX,oL,Bg,Ff,dd,Nat.reduceEqDiff,bo,a8,iP,ee,dE,iA,iB,cL,bh,aT,dM,bQ,reduceCtorEq,bH,b7,Nat.reduceAdd,Nat.reduceLeDiff,xb,bp.fz,Key.fz,Rec.fz,Env.fz,cu.fz,c9.fz,gI.fz,mF.fz,jk.fz,CO,List.take_succ_cons,List.take_zero,B7,eN,nv,nu,W0,aaK];exact rfl):p:=h
def abb {p:Prop}(h:p:=by simp only[yz,iX,oL,Bg,Ff,dd,Nat.reduceEqDiff,bo,a8,iP,ee,dE,iA,iB,cL,bh,aT,dM,bQ,reduceCtorEq,bH,b7,Nat.reduceAdd,Nat.reduceLeDiff,xb,bp.fz,Key.fz,Rec.fz,Env.fz,cu.fz,c9.fz,gI.fz,mF.fz,jk.fz,CO,List.take_succ_cons,List.take_zero,B7,eN,nv,nu,W0];exact rfl):p:=h
def abc {p:Prop}(h:p:=by simp only[yz,iX,oL,Bg,Ff,dd,Nat.reduceEqDiff,bo,a8,iP,ee,dE,iA,iB,cL,bh,aT,dM,bQ,reduceCtorEq,bH,b7,Nat.reduceAdd,Nat.reduceLeDiff,xb,bp.fz,Key.fz,Rec.fz,Env.fz,cu.fz,c9.fz,gI.fz,mF.fz,jk.fz,CO,List.take_succ_cons,List.take_zero,B7,eN];exact rfl):p:=h
def abd {p:Prop}(h:p:=by rw[show pw g nm v most=(⟨nm,v,(nS nm g.aI (g.val (most+1)).toNat).1,(eE (nS nm g.aI (g.val (most+1)).toNat).2 nm).1,(lu (eE (nS nm g.aI (g.val (most+1)).toNat).2 nm).2 (nS nm g.aI (g.val (most+1)).toNat).1).1⟩,(lu (eE (nS nm g.aI (g.val (most+1)).toNat).2 nm).2 (nS nm g.aI (g.val (most+1)).toNat).1).2)from rfl,hF];exact rfl):p:=h
def abe {p:Prop}(h:p:=by repeat(first|exact bn.nil|refine bn.Am ah ah dL ?_|refine bn.L4 ah ah ah ?_|refine bn.L6 ah ah ah ah ?_|refine bn.nl 0 ah ah ah dL ?_|refine bn.nl 1 ah ah ah dL ?_|refine bn.nl 2 ah ah ah dL ?_|refine bn.nl 42 ah ah ah dL ?_|refine bn.eq 3 ah ah ah ?_)):p:=h
def Q7 {p:Prop}(h:p:=by repeat(first|exact bn.nil|refine bn.Am ah ah dL ?_|refine bn.L4 ah ah ah ?_|refine bn.L6 ah ah ah ah ?_|refine bn.nl 0 ah ah ah dL ?_|refine bn.nl 1 ah ah ah dL ?_)):p:=h
def lQ {p:Prop}(h:p:=by simp only[bH,b7,rv,pA];omega):p:=h
def mR {p:Prop}(h:p:=by first|omega|(simp only[bV,b7];omega)):p:=h
def wq {p:Prop}(h:p:=by have hf:0<=c[j]! :=(by simpa only[ez,beq_iff_eq,aX]using hf);omega):p:=h
def Q8 {p:Prop}(h:p:=by rcases hg2 with h|⟨_,_,_,h,_⟩|⟨_,_,h,_⟩|⟨_,_,_,_,h,_⟩|⟨_,_,_,h|h,_⟩|⟨_,_,_,_,h,_⟩;exact h;cases h;cases h;cases h;cases h;cases h;cases h):p:=h
def KV {p:Prop}(h:p:=by simpa only[ez,beq_iff_eq,aX]using hf):p:=h
def Q9 {p:Prop}(h:p:=by refine bn.nl 0 ah ah ah dL ?_;refine bn.nl 1 ah ah ah dL ?_;refine bn.eq 2 ah ah ah ?_;refine bn.nl 3 ah ah ah dL ?_;exact bn.nil):p:=h
def abf {p:Prop}(h:p:=by simp only[yz,iX,oL,Bg,Ff,dd,Nat.reduceEqDiff,bo,a8,iP,ee,dE,iA,iB,cL,bh,aT,dM,bQ,reduceCtorEq,bH,b7,Nat.reduceAdd,Nat.reduceLeDiff,XM,cj.fz];exact rfl):p:=h
def pC {p:Prop}(h:p:=by simp only[az.val,hx,hy,E9];rw[hb hf]):p:=h
def abg {p:Prop}(h:p:=by simp only[yz,iX,oL,Bg,Ff,dd,Nat.reduceEqDiff,bo,a8,iP,ee,dE,iA,iB,cL,bh,aT,dM,bQ,reduceCtorEq,bH,b7,Nat.reduceAdd,Nat.reduceLeDiff,cj.fz];exact rfl):p:=h
def abh {p:Prop}(h:p:=by simp only[yz,iX,oL,Bg,Ff,dd,Nat.reduceEqDiff,bo,a8,iP,ee,dE,iA,iB,cL,bh,aT,dM,bQ,reduceCtorEq,bH,b7,Nat.reduceAdd,Nat.reduceLeDiff,Rec.fz];exact rfl):p:=h
def abi {p:Prop}(h:p:=by repeat(first|exact bn.nil|refine bn.Am ah ah dL ?_|refine bn.L4 ah ah ah ?_|refine bn.L6 ah ah ah ah ?_|refine bn.nl 3 ah ah ah dL ?_|refine bn.nl 11 ah ah ah dL ?_)):p:=h
def KW {p:Prop}(h:p:=by first|assumption|omega|exact hp0.1|exact hp0.2.1|exact⟨hp0.2.1,λ_=>⟨hp0.2.1,hp0.2.2⟩⟩):p:=h
def abj {p:Prop}(h:p:=by first|assumption|omega|exact⟨hns.2 _ (aq ae),hp0.1.2.2.1 _ (aq ae)⟩|exact⟨(hp0.1.2.2.1 _ (aq ae)).2.1,hp0.2⟩|exact((hp0.1.2.2.1 _ (aq ae)).1 _ (aq ae)).1.2):p:=h
def cw {p:Prop}(h:p:=by cases h):p:=h
def zR {p:Prop}(h:p:=by have hl'':st.nx+(k+1)<=l':=hl';show st.nx+k<=l';omega):p:=h
def EY {p:Prop}(h:p:=by simp only[ho,Op.operands,Call.operands];simp at ho'⊢;exact .inr ho'):p:=h
def abk {p:Prop}(h:p:=by repeat(first|exact bn.nil|refine bn.Am ah ah dL ?_|refine bn.L4 ah ah ah ?_|refine bn.L6 ah ah ah ah ?_|refine bn.nl 1 ah ah ah dL ?_)):p:=h
def abl {p:Prop}(h:p:=by refine bn.nl 0 ah ah ah dL ?_;refine bn.nl 1 ah ah ah dL ?_;refine bn.nl 2 ah ah ah dL ?_;refine bn.nl 3 ah ah ah dL ?_;exact bn.nil):p:=h
def Ra {p:Prop}(h:p:=by simp only[az.eL,hx,hy];exact⟨kx hf,ky hf,by have:=hj hf;omega,by have:=hj hf;have:=hb hf;omega⟩):p:=h
def abm {p:Prop}(h:p:=by refine bn.nl 0 ah ah ah dL ?_;refine bn.nl 1 ah ah ah dL ?_;refine bn.eq 7 ah ah ah ?_;refine bn.nl 5 ah ah ah dL ?_;exact bn.nil):p:=h
def Rb {p:Prop}(h:p:=by first|assumption|omega|exact dN (hp0.1.2 _ (aq ae)) a7|exact(hp0.2.1 _ (aq ae)).1.2):p:=h
def Rc {p:Prop}(h:p:=by first|assumption|omega|exact hp0.1|exact hp0.2.1 _ (aq ae)|exact hp0.2.2 _ (aq ae)):p:=h
def abn {p:Prop}(h:p:=by simp only[ji,hc3];revert hc4;generalize cO (aQ s 46)[i]! =a;generalize j0 (aQ s 46)[i]! =b;cases p<;>cases a<;>cases b<;>simp):p:=h
def abo {p:Prop}(h:p:=by simp only[az.eL,hx,ed,aL,hl,iR,(dy _ _ _).1,ha];exact⟨trivial,ho,hn,trivial,trivial,⟨trivial,aF⟩,aF,hd,hc.1⟩):p:=h
def ow {p:Prop}(h:p:=by simp[az.eL,hx,kx hf]):p:=h
def abq {p:Prop}(h:p:=by first|assumption|omega|exact hp0.1.1|exact⟨hp0.1.1,hcs.2.1 _ (aq ae),hfw.2.2 _ (aq ae)⟩|exact⟨hp0.1.1,hcs.2.2,hfw.2.1⟩):p:=h
def abr {p:Prop}(h:p:=by repeat(first|exact eX.nil|refine eX.un ?_|refine eX.eq ah ?_|refine eX.nl ah ah ?_|refine eX.ni (Or.inr ⟨0,1,0,rfl⟩) ?_)):p:=h
def tk {p:Prop}(h:p:=by rintro _ rfl;simp[ho,Op.operands]):p:=h
def jH {p:Prop}(h:p:=by simp only;omega):p:=h
def abt {p:Prop}(h:p:=by have hcu:0<=c[u]! :=Decidable.byContradiction λhn=>(by rw[bB hn]at hf;revert hf;decide);have:=(hfu hcu).1;omega):p:=h
def KX {p:Prop}(h:p:=by repeat' first|exact rfl|exact trivial|refine And.intro ?_ ?_):p:=h
def EZ {p:Prop}(h:p:=by first|(rw[bV];rfl)|(simp only[bV];rfl)):p:=h
def Rd {p:Prop}(h:p:=by simp only[az.val,hx,Mh];rw[getD_map (hi hf)];exact hv hf):p:=h
def zS {p:Prop}(h:p:=by simp only[az.val,hx,hy,E9,Ry]):p:=h
def abu {p:Prop}(h:p:=by first|assumption|omega|exact hp0.1|exact hp0.2.1 _ (aq (by first|omega|(simp at hf;omega)))|exact hp0.2.2):p:=h
def abv {p:Prop}(h:p:=by first|assumption|omega|exact⟨(hp0.1.2.2.2.1 _ (aq ae)).2.2,hp0.2⟩|exact(hp0.1.2.2.2.1 _ (aq ae)).2.1):p:=h
def abw {p:Prop}(h:p:=by rw[Pg hc0];exact(by refine⟨?_, ?_, ?_⟩<;>first|exact rfl|(rw[nv];exact rfl)|(rw[nu];exact rfl))):p:=h
def Re {p:Prop}(h:p:=by simp only[az.eL,hx,Mg,bh];exact⟨kx hf,hi hf,ho⟩):p:=h
def zT {p:Prop}(h:p:=by simp only[az.val,hx,hy,E9]<;>rfl):p:=h
def KY {p:Prop}(h:p:=by have:=kM (tot:=tot) (show i<tot by omega) hj;omega):p:=h
def abx {p:Prop}(h:p:=by first|(rw[sf,Lz hc0 (i:=i) ae ae];done)|(rw[sf,Lz hc0 (i:=i) ae ae];exact rfl)):p:=h
def E0 {p:Prop}(h:p:=by have:=hf.m l' hl';simp only at this⊢;omega):p:=h
def alL {p:Prop}(h:p:=by simp only[bV,List.length_singleton];omega):p:=h
def rA {p:Prop}(h:p:=by simpa using h):p:=h
def KZ {p:Prop}(h:p:=by first|assumption|(simp only[oZ,Gs.aI]at*;omega)):p:=h
def zU {p:Prop}(h:p:=by simp only[bV,bH,b7];omega):p:=h
def ox {p:Prop}(h:p:=by simpa using hc1):p:=h
def K0 {p:Prop}(h:p:=by simp only[ez,beq_iff_eq,aK,aX]at h;omega):p:=h
def E1 {p:Prop}(h:p:=by simp only[az.val,hx,hy];rw[hj hf];rfl):p:=h
def Rf {p:Prop}(h:p:=by simp only[az.eL,hx,Mg];exact⟨kx hf,hi hf,ho⟩):p:=h
def Rg {p:Prop}(h:p:=by simp only[bV,ey,iQ,bH,b7];omega):p:=h
def Rh {p:Prop}(h:p:=by have:=hj hf;have:=hb hf;omega):p:=h
def jI {p:Prop}(h:p:=by simp[hc0]):p:=h
def Ri {p:Prop}(h:p:=by simp only[az.val,hx,hy,E9];rw[wrap_i64 (hb hf).1 (hb hf).2]):p:=h
def K1 {p:Prop}(h:p:=by rw[bV,List.length_singleton];omega):p:=h
def zW {p:Prop}(h:p:=by simp only[ey];omega):p:=h
def pD {p:Prop}(h:p:=by simp[cB];omega):p:=h
def rB {p:Prop}(h:p:=by simp[ho,Op.operands]):p:=h
def oy {p:Prop}(h:p:=by rw[bh];omega):p:=h
def Rj {p:Prop}(h:p:=by first|assumption|omega|exact hp0.1.p.1.1|exact hp0.1.p.1.2):p:=h
def K2 {p:Prop}(h:p:=by simp[az.eL,hx,hy,kx hf,ky hf,Ba,hn hf]):p:=h
def wu {p:Prop}(h:p:=by rw[IntKind.wrap_u64];omega):p:=h
def Rk {p:Prop}(h:p:=by simp only[az.val,hx,Mh,aL,hl hf,iR];exact hv hf):p:=h
def Rl {p:Prop}(h:p:=by have:=ha hf;subst hd;simpa[az.K4,hx,kx hf]using this):p:=h
def oz {p:Prop}(h:p:=by simpa using hi):p:=h
def ic {p:Prop}(h:p:=by simp at h):p:=h
def pE {p:Prop}(h:p:=by simp[az.val,hx]):p:=h
def Rm {p:Prop}(h:p:=by first|assumption|omega|exact hp0.1.1|exact hp0.1.2):p:=h
def aby {p:Prop}(h:p:=by rintro⟨h1,h2⟩;rcases hc1 with h|h;omega;exact h h2):p:=h
def mS {p:Prop}(h:p:=by rw[h];simp):p:=h
def abz {p:Prop}(h:p:=by simp only[az.eL,hx,hy];exact⟨kx hf,ky hf,h1 hf⟩):p:=h
def KK {p:Prop}(h:p:=by simp only[ho,Op.operands,ch];exact⟨p,hp,rfl⟩):p:=h
def KL {p:Prop}(h:p:=by simp only[az.val,hx,Mh];exact hv hf):p:=h
def KM {p:Prop}(h:p:=by refine bn.nl 0 ah ah ah dL ?_;exact bn.nil):p:=h
def B9 {p:Prop}(h:p:=by simp at hf;omega):p:=h
def KN {p:Prop}(h:p:=by rw[xc _ _ _ ae];exact List.getElem_mem _):p:=h
def uC {p:Prop}(h:p:=by simp only[bH];omega):p:=h
def gQ {p:Prop}(h:p:=by simp[h]):p:=h
def Tw {p:Prop}(h:p:=by simp[vZ,VQ,nb]):p:=h
def yv {p:Prop}(h:p:=by rw[dM,GS];rfl):p:=h
def nG {p:Prop}(h:p:=by simpa using hj):p:=h
def yw {p:Prop}(h:p:=by simpa[D.aU]using hn):p:=h
def KO {p:Prop}(h:p:=by have:=hj hf;omega):p:=h
def oV {p:Prop}(h:p:=by simpa using hc5):p:=h
def yx {p:Prop}(h:p:=by rw[tv];exact hl'):p:=h
def uD {p:Prop}(h:p:=by rwa [tv]at hi):p:=h
def uE {p:Prop}(h:p:=by rw[cL];rfl):p:=h
def uF {p:Prop}(h:p:=by simp[j4];omega):p:=h
def yy {p:Prop}(h:p:=by simpa using hc3):p:=h
def lY {p:Prop}(h:p:=by assumption):p:=h
def lZ {p:Prop}(h:p:=by simp[hw0]):p:=h
def nH {p:Prop}(h:p:=by simp[fe]):p:=h
inductive D where
 |any
 |bool (b:Bool)
 |int (k:IntKind) (n:Int)
 |str (s:List UInt8)
 |agg (cs:List D)
 |tup (ds:List D)
 |aR
 |sl (k:Nat) (es:List D)
 |ref (k:Nat) (es:List D) (i o:Nat)
 |ptr (l k i o:Nat)
 |own (l k i n:Nat)
 |nilp
 |fn (f:Nat) (caps:List D)
 |nilf
 |it (l:Nat)
 deriving Inhabited
inductive Src where
 |s (n:Nat)
 |l (p:Nat)
 |c (d:D)
 deriving Inhabited
inductive Sh where
 |a
 |sl (k:Nat) (cs:List Sh)
 |pt (cs:List Sh)
 |kp (cs:List Sh)
 deriving Inhabited
inductive CK where
 |b|i (k:IntKind)|s
 deriving Inhabited
inductive az where
 |mv (x:Src)
 |pick (c a b:Src)
 |box (k:Nat) (x:Src)
 |build (z:List D) (parts:List (Nat×Nat×Src))
 |bsl (k:Nat) (z:D) (n:Nat) (parts:List (Nat×Src))
 |ld (n:Nat) (ag:Bool) (p:Src)
 |st (n:Nat) (p v:Src)
 |stU (n:Nat) (p v:Src) (qs:List Src)
 |nilck (x:Src)
 |bin (op:BinOp) (x y:Src)
 |eqA (neg ag:Bool) (ks:List CK) (x y:Src)
 |un (op:UnOp) (x:Src)
 |cvi (k:IntKind) (x:Src)
 |mn (g:Bool) (x y:Src)
 |s2b (x:Src)
 |b2s (x:Src)
 |mkf (f:Nat) (caps:List Src)
 |mks (k:Nat) (z:D) (ln cp:Src)
 |slS (x:Src) (lo hi:Option Src)
 |slA (k:Nat) (x:Src) (lo hi:Option Src)
 |slX (k:Nat) (x hi mx:Src)
 |fa (off:Nat) (p:Src)
 |fld (off n:Nat) (ag:Bool) (x:Src)
 |ia (k:Nat) (x i:Src)
 |iaP (n k:Nat) (x i:Src)
 |ixS (x i:Src)
 |ixA (n k:Nat) (ag:Bool) (x i:Src)
 |ext (x:Src) (i:Nat)
 |len (x:Src)
 |lenS (x:Src)
 |app (k:Nat) (x y:Src)
 |call (f:Nat) (args:List Src) (sh:List (List Sh))
 |callv (f:Src) (args:List Src) (sh:List (List Sh))
 |callM (f:Nat) (args:List Src)
 |callvM (f:Src) (args:List Src)
 |ldI (n:Nat) (ag:Bool) (p:Src)
 |ldU (n:Nat) (ag:Bool) (p:Src)
 |ldW (n:Nat) (ag:Bool) (p:Src)
 |callF (f:Nat) (r:Src) (args:List Src) (sh:List (List Sh))
 |appN (k:Nat) (y:Src)
 |bslI (k:Nat) (z:D) (n:Nat) (parts:List (Nat×Src))
 |rng (x:Src)
 |aI (x:Src)
 |mkB
 |mkM
 |upM (x k v:Src)
 |lkM (z:D) (x k:Src)
 |isNl (x:Src) (neg:Bool)
 deriving Inhabited
structure GI where
 i:az
 g:Option (Nat×Bool)
 deriving Inhabited
variable(l:List GI)
inductive AC where
 |reg (draw:Bool) (ins:List GI) (cm:List (Nat×Nat))
 |seq (a b:AC)
 |cond (c:Src) (a b:AC)
 |block (id:Nat) (a:AC)
 |loop (a:AC)
 |exit (id:Nat)
 |ret
 |skip
 deriving Inhabited
structure G8 where
 s:Nat
 mem:Option (Nat×Bool)
 deriving Inhabited
structure aj where
 np:Nat
 ns:Nat
 res:List G8
 rsh:List (List Sh)
 body:AC
 deriving Inhabited
variable(a:aj)
@[go_sem] def D.cells:D->List D
 | .agg cs=>cs
 | .any=>[]
 | .tup _=>[]
 |d=>[d]
@[go_sem] def D.isBool:D->Bool
 | .bool _=>true
 |_=>false
@[go_sem] def D.isAgg:D->Bool
 | .agg _=>true
 |_=>false
mutual
@[go_sem] def D.aU:D->Bool
 | .agg cs=>aP cs
 | .tup cs=>aP cs
 | .fn _ cs=>aP cs
 | .ptr .. =>false
 | .own .. =>false
 | .it _=>false
 |_=>true
@[go_sem] def aP:List D->Bool
 |[]=>true
 |d::r=>d.aU&&aP r
end
mutual
@[go_sem] def D.fo:D->Bool
 | .agg cs=>n6 cs
 | .tup cs=>n6 cs
 | .fn n cs=>!(Nat.ble 2000000 n)&&n6 cs
 | .ptr .. =>false
 | .own .. =>false
 | .it _=>false
 | .sl .. =>false
 | .ref .. =>false
 |_=>true
@[go_sem] def n6:List D->Bool
 |[]=>true
 |d::r=>d.fo&&n6 r
end
inductive bm where
 |buf (k:Nat) (es:List D)
 |iter (s:List UInt8) (pos:Nat)
 |row (s:List UInt8)
 |bld (o:Option Nat) (n:Nat) (u:Bool)
 |mpb (kvs:List D)
 deriving Inhabited
structure St where
 nx:Nat
 m:List (Nat×bm)
@[go_sem] def look:List (Nat×bm)->Nat->Option bm
 |[],_=>none
 |(a,b)::r,l=>if a=l then some b else look r l
@[go_sem] def dh:List (Nat×bm)->Nat->bm->List (Nat×bm)
 |[],l,b=>[(l,b)]
 |(a,x)::r,l,b=>if a=l then(a,b)::r else(a,x)::dh r l b
@[go_sem] def dd:List (Nat×bm)->Nat->List (Nat×bm)
 |[],_=>[]
 |(a,x)::r,l=>if a=l then dd r l else(a,x)::dd r l
structure aY where
 ok:Bool
 d:D
@[go_sem] def aY.un:aY:=⟨true,.any⟩
variable(vs:List aY)
@[go_sem] def Src.ev (env vs:List aY):Src->aY
 | .s n=>env.getD n .un
 | .l p=>vs.getD p .un
 | .c d=>⟨true,d⟩
structure Ctx where
 pre:Nat->List D->Prop
 val:Nat->List D->D
 tr:Nat->List D->St->(D->St->Prop)->Prop
 fp:Nat->D->List D->Prop
 fv:Nat->D->List D->D
 fs:Nat->D->List D->D
 lo:Nat
@[go_sem] def aL (m:List (Nat×bm))(l:Nat):List D:=match look m l with
 |some (.buf _ es)=>es
 |_=>[]
@[go_sem] def ed (m:List (Nat×bm))(l k n:Nat):Prop:=match look m l with
 |some (.buf k' es)=>k=k'/\n<=es.length
 |_=>False
@[go_sem] def qw (m:List (Nat×bm)):D->List D
 | .sl _ es=>es
 | .own l _ i n=>((aL m l).drop i).take n
 | .str s=>s.map λb=>.int .u8 b.toNat
 |_=>[]
@[go_sem] def Cu (m:List (Nat×bm))(k:Nat):D->Prop
 | .sl k' _=>k'=k
 | .own l k' i n=>k'=k/\ed m l k (i+n)
 | .str _=>k=1
 | .aR=>True
 |_=>False
mutual
@[go_sem] def kR (m:List (Nat×bm)):Sh->D->D
 | .a,d=>match d with
  | .aR=>.sl 0 []
  |d=>d
 | .sl k cs,d=>match d with
  | .aR=>.sl k []
  | .own l k' i c=>.sl k' ((((aL m l).drop i).take c).map (iZ m cs))
  |d=>d
 | .pt cs,d=>match d with
  | .ptr l k i o=>.ref k ((aL m l).map (iZ m cs)) i o
  |d=>d
 | .kp cs,d=>match d with
  | .own l k' i c=>.sl k' ((((aL m l).drop i).take c).map (iZ m cs))
  |d=>d
@[go_sem] def iZ (m:List (Nat×bm)):List Sh->D->D
 |[],d=>d
 |s::r,d=>match d with
  | .agg cs=>.agg (nA m (s::r) cs)
  |d=>kR m s d
@[go_sem] def nA (m:List (Nat×bm)):List Sh->List D->List D
 |[],ds=>ds
 |s::r,ds=>match ds with
  |[]=>[]
  |d::ds=>kR m s d::nA m r ds
end
mutual
@[go_sem] def il (m:List (Nat×bm)):Sh->D->Prop
 | .a,d=>d.aU=true
 | .sl _ cs,d=>match d with
  | .own l k' i c=>ed m l k' (i+c)/\∀e∈((aL m l).drop i).take c,gv m cs e
  |d=>d.aU=true
 | .pt cs,d=>match d with
  | .ptr l k _ _=>ed m l k 0/\∀e∈aL m l,gv m cs e
  |d=>d.aU=true
 | .kp cs,d=>match d with
  | .own l k' i c=>ed m l k' (i+c)/\∀e∈((aL m l).drop i).take c,gv m cs e
  |d=>d.aU=true
@[go_sem] def gv (m:List (Nat×bm)):List Sh->D->Prop
 |[],d=>d.aU=true
 |s::r,d=>match d with
  | .agg cs=>ki m (s::r) cs
  |d=>il m s d
@[go_sem] def ki (m:List (Nat×bm)):List Sh->List D->Prop
 |[],ds=>aP ds=true
 |s::r,ds=>match ds with
  |[]=>True
  |d::ds=>il m s d/\ki m r ds
end
@[go_sem] def E9 (op:BinOp):D->D->D
 | .int k a,.int _ b=>match op with
  | .add=>.int k (k.wrap (a+b))
  | .sub=>.int k (k.wrap (a-b))
  | .mul=>.int k (k.wrap (a*b))
  | .quo=>.int k (k.wrap (a.tdiv b))
  | .rem=>.int k (a.tmod b)
  | .eql=>.bool (a==b)| .neq=>.bool (a !=b)| .lss=>.bool (decide (a<b))| .leq=>.bool (decide (a<=b))| .gtr=>.bool (decide (b<a))| .geq=>.bool (decide (b<=a))
  | .shl=>.int k (k.wrap (a*2^(min b.toNat k.bits)))
  | .shr=>.int k (a.fdiv (2^(min b.toNat k.bits)))
  | .and=>.int k (k.wrap (((BitVec.ofInt k.bits a)&&&(BitVec.ofInt k.bits b)).toNat))
  | .or=>.int k (k.wrap (((BitVec.ofInt k.bits a) |||(BitVec.ofInt k.bits b)).toNat))
  | .xor=>.int k (k.wrap (((BitVec.ofInt k.bits a)^^^(BitVec.ofInt k.bits b)).toNat))
  | .andNot=>.int k (k.wrap (((BitVec.ofInt k.bits a)&&& ~~~(BitVec.ofInt k.bits b)).toNat))
 | .str a,.str b=>match op with
  | .add=>.str (a++b)
  | .eql=>.bool (a==b)| .neq=>.bool (!(a==b))| .lss=>.bool (Op.bytesLess a b)| .geq=>.bool (!(Op.bytesLess a b))
  | .leq=>.bool (Op.bytesLess a b ||a==b)| .gtr=>.bool (!(Op.bytesLess a b ||a==b))
  |_=>.any
 |_,_=>.any
@[go_sem] def Ba (op:BinOp):D->D->Prop
 | .int k a,.int k' b=>match op with
  | .quo=>k=k'/\b≠0
  | .rem=>k=k'/\b≠0
  | .shl=>0<=b
  | .shr=>0<=b
  |_=>k=k'
 | .str a,.str b=>match op with
  | .add=>a.length+b.length<=9223372036854775807
  | .eql=>True| .neq=>True| .lss=>True| .geq=>True| .leq=>True| .gtr=>True
  |_=>False
 |_,_=>False
@[go_sem] def D.pick (b:Bool):D->D->D
 | .bool x,.bool y=>.bool (bif b then x else y)
 |x,y=>bif b then x else y
@[go_sem] def cut (cs:List D)(o n:Nat)(ag:Bool):D:=bif ag then .agg ((cs.drop o).take n)else cs.getD o .any
@[go_sem] def kN (e:D)(k n o:Nat)(ag:Bool):D:=bif (n==k)&&(e.isAgg==ag)then e else cut e.cells o n ag
@[go_sem] def Mh (m:List (Nat×bm))(n:Nat)(ag:Bool):D->D
 | .ptr l k i o=>kN ((aL m l).getD i .any) k n o ag
 | .ref k es i o=>kN (es.getD i .any) k n o ag
 | .fn _ es=>kN (es.getD 0 .any) 1 n 0 ag
 |_=>.any
@[go_sem] def Mg (m:List (Nat×bm))(n:Nat):D->Prop
 | .ptr l k i o=>ed m l k (i+1)/\o+n<=k
 | .ref k es i o=>i<es.length/\o+n<=k
 | .fn q es=>q=3000000/\n=1/\es.length=1/\(es.getD 0 .any).cells=[es.getD 0 .any]
 |_=>False
mutual
@[go_sem] def eqD:D->D->Bool
 | .bool a,.bool b=>a==b
 | .int _ a,.int _ b=>a==b
 | .str a,.str b=>a==b
 |_,_=>false
@[go_sem] def gU:List D->List D->Bool
 |[],[]=>true
 |a::r,b::s=>eqD a b&&gU r s
 |_,_=>false
end
@[go_sem] def CK.fits:CK->D->Prop
 | .b,.bool _=>True
 | .i k,.int k' _=>k'=k
 | .s,.str _=>True
 |_,_=>False
@[go_sem] def fH:List CK->List D->Prop
 |[],[]=>True
 |c::r,d::s=>c.fits d/\fH r s
 |_,_=>False
@[go_sem] def over (cs:List D)(o:Nat)(new:List D):List D:=cs.take o++(new++cs.drop (o+new.length))
@[go_sem] def rj (e:D)(k n o:Nat)(v:D):D:=bif (n==k)&&(v.isAgg ||!e.isAgg)then v else .agg (over e.cells o v.cells)
@[go_sem] def Cz (J:Src->aY)(cs:List D):List (Nat×Nat×Src)->List D
 |[]=>cs
 |(o,_,s)::r=>Cz J (over cs o (J s).d.cells) r
@[go_sem] def Af (J:Src->aY)(len:Nat):List (Nat×Nat×Src)->Prop
 |[]=>True
 |(o,n,s)::r=>(J s).ok=true/\(J s).d.cells.length=n/\o+n<=len/\Af J len r
@[go_sem] def mc (J:Src->aY)(es:List D):List (Nat×Src)->List D
 |[]=>es
 |(i,s)::r=>mc J (es.set i (J s).d) r
@[go_sem] def qF (J:Src->aY)(k n:Nat):List (Nat×Src)->Prop
 |[]=>True
 |(i,s)::r=>i<n/\(J s).ok=true/\(J s).d.cells.length=k/\qF J k n r
@[go_sem] def D.nat:D->Nat
 | .int _ n=>n.toNat
 |_=>0
@[go_sem] def ef (o:Option D)(dflt:Nat):Nat:=match o with
 |some (.int _ n)=>n.toNat
 |_=>dflt
@[go_sem] def nq (o:Option D)(hi:Nat):Prop:=match o with
 |none=>True
 |some (.int _ n)=>0<=n/\n<=hi
 |_=>False
@[go_sem] def MF (J:Src->aY):Option Src->Prop
 |none=>True
 |some s=>(J s).ok=true
@[go_sem] def dO (J:Src->aY):Option Src->Option D
 |none=>none
 |some s=>some (J s).d
@[go_sem] def BW (J:Src->aY):List Src->Prop
 |[]=>True
 |s::r=>(J s).ok=true/\BW J r
@[go_sem] def iL (J:Src->aY):List Src->List D
 |[]=>[]
 |s::r=>(J s).d::iL J r
@[go_sem] def D.u8:D->UInt8
 | .int _ n=>UInt8.ofNat n.toNat
 |_=>0
@[go_sem] def D.Ui:D->Prop
 | .int k n=>k=.u8/\0<=n/\n<256
 |_=>False
variable{d:D}
def yM (s:List UInt8)(pos:Nat):Nat×Nat:=Utf8.decode ⟨⟨s⟩⟩ pos
@[go_sem] def iy (m:List (Nat×bm)):List (List Sh)->List D->List D
 |_,[]=>[]
 |[],d::r=>iZ m [.a] d::iy m [] r
 |s::ss,d::r=>iZ m s d::iy m ss r
@[go_sem] def je (m:List (Nat×bm)):List (List Sh)->List D->Prop
 |_,[]=>True
 |[],d::r=>gv m [.a] d/\je m [] r
 |s::ss,d::r=>gv m s d/\je m ss r
@[go_sem] def Bk:D->Bool
 | .agg [.str _,.str _]=>true
 |_=>false
@[go_sem] def yZ:D->D->Bool
 | .agg [.str a,.str b],.agg [.str c,.str d]=>a==c&&b==d
 |_,_=>false
@[go_sem] def PE:List D->Bool
 |[]=>true
 |k::_::r=>Bk k&&PE r
 |[_]=>false
@[go_sem] def mpF (k:D):List D->Option D
 |a::v::r=>bif yZ a k then some v else mpF k r
 |_=>none
@[go_sem] def K9 (k v:D):List D->List D
 |a::w::r=>bif yZ a k then a::v::r else a::w::K9 k v r
 |_=>[k,v]
@[go_sem] def Dg:D->List Nat
 | .fn _ [.it l]=>[l]
 |_=>[]
@[go_sem] def mpAt (m:List (Nat×bm)):D->List D
 | .fn _ [.it l]=>match look m l with
  |some (.mpb kvs)=>kvs
  |_=>[]
 |_=>[]
@[go_sem] def mpO (m:List (Nat×bm)):D->Prop
 | .fn n [.it l]=>n=5000000/\match look m l with
  |some (.mpb kvs)=>PE kvs=true
  |_=>False
 |_=>False
@[go_sem] def az.val (Y:Ctx)(J:Src->aY)(m:List (Nat×bm))(L:Nat):az->D
 | .mv x=>(J x).d
 | .pick c a b=>match(J c).d with| .bool t=>D.pick t (J a).d (J b).d|_=>.any
 | .box k _=>.ptr L k 0 0
 | .build z ps=>.agg (Cz J z ps)
 | .bsl k _ n _=>.own L k 0 n
 | .ld n ag p=>Mh m n ag (J p).d
 | .st _ _ _=>.any
 | .stU _ _ _ _=>.any
 | .nilck x=>(J x).d
 | .bin op x y=>E9 op (J x).d (J y).d
 | .eqA neg _ _ x y=>.bool (bif neg then !(gU (J x).d.cells (J y).d.cells)else gU (J x).d.cells (J y).d.cells)
 | .un op x=>match op,(J x).d with
  | .not,.bool b=>.bool (!b)
  | .neg,.int k n=>.int k (k.wrap (0-n))
  |_,_=>.any
 | .cvi k x=>match(J x).d with| .int _ n=>.int k (k.wrap n)|_=>.any
 | .mn g x y=>match(J x).d,(J y).d with| .int k a,.int _ b=>.int k (if g=true then(if b>a then b else a)else if b<a then b else a)|_,_=>.any
 | .s2b x=>match(J x).d with| .str s=>.own L 1 0 s.length|_=>.any
 | .b2s x=>.str ((qw m (J x).d).map D.u8)
 | .mkf f caps=>.fn f (iL J caps)
 | .mks k _ ln _=>.own L k 0 (J ln).d.nat
 | .slS x lo hi=>match(J x).d with
  | .str s=>.str ((s.take (ef (dO J hi) s.length)).drop (ef (dO J lo) 0))
  |_=>.any
 | .slA _ x lo hi=>match(J x).d with
  | .sl k es=>.sl k ((es.take (ef (dO J hi) es.length)).drop (ef (dO J lo) 0))
  | .own l k i n=>.own l k (i+ef (dO J lo) 0) (ef (dO J hi) n-ef (dO J lo) 0)
  | .aR=>.aR
  |_=>.any
 | .slX _ x hi _=>match(J x).d,(J hi).d with
  | .sl k es,.int _ h=>.sl k (es.take h.toNat)
  | .own l k i _,.int _ h=>.own l k i h.toNat
  | .aR,_=>.aR
  |_,_=>.any
 | .fa off p=>match(J p).d with
  | .ptr l k i o=>.ptr l k i (o+off)
  | .ref k es i o=>.ref k es i (o+off)
  |_=>.any
 | .fld off n ag x=>cut (J x).d.cells off n ag
 | .ia _ x i=>match(J x).d,(J i).d with
  | .sl k es,.int _ n=>.ref k es n.toNat 0
  | .own l k j _,.int _ n=>.ptr l k (j+n.toNat) 0
  |_,_=>.any
 | .iaP _ k x i=>match(J x).d,(J i).d with
  | .ptr l k' j o,.int _ n=>.ptr l k' j (o+n.toNat*k)
  | .ref k' es j o,.int _ n=>.ref k' es j (o+n.toNat*k)
  |_,_=>.any
 | .ixS x i=>match(J x).d,(J i).d with
  | .str s,.int _ n=>.int .u8 (s.getD n.toNat 0).toNat
  |_,_=>.any
 | .ixA _ k ag x i=>match(J i).d with
  | .int _ n=>cut (J x).d.cells (n.toNat*k) k ag
  |_=>.any
 | .ext x i=>match(J x).d with| .tup ds=>ds.getD i .any|_=>.any
 | .len x=>match(J x).d with
  | .sl _ es=>.int .i64 es.length
  | .own _ _ _ n=>.int .i64 n
  | .aR=>.int .i64 0
  |_=>.any
 | .lenS x=>match(J x).d with
  | .str s=>.int .i64 s.length
  |_=>.any
 | .app k x y=>match(J x).d with
  | .own _ _ _ n=>.own L k 0 (n+(qw m (J y).d).length)
  |_=>.own L k 0 (qw m (J y).d).length
 | .call f args sh=>Y.val f (iy m sh (iL J args))
 | .callv f args sh=>match(J f).d with
  | .fn n caps=>Y.val n (iy m sh (iL J args++caps))
  |_=>.any
 | .callM _ _=>.any
 | .callvM _ _=>.any
 | .ldU n ag p=>Mh m n ag (J p).d
 | .ldW n ag p=>Mh m n ag (J p).d
 | .ldI n ag p=>match(J p).d with
  | .ref k es i o=>kN (es.getD i .any) k n o ag
  | .fn _ es=>kN (es.getD 0 .any) 1 n 0 ag
  |_=>.any
 | .appN k y=>.own L k 0 (qw m (J y).d).length
 | .bslI k z n ps=>.sl k (mc J (List.replicate n z) ps)
 | .callF f r args sh=>match(J r).d with
  | .ptr l _ _ _=>Y.fv f ((aL m l).getD 0 .any) (iy [] sh (iL J args))
  |_=>.any
 | .rng _=>.it L
 | .mkB=>.ptr L 2 0 0
 | .mkM=>.fn 5000000 [.it L]
 | .upM .. =>.any
 | .lkM z x k=>match mpF (J k).d (mpAt m (J x).d)with
  |some v=>.tup [v,.bool true]
  |none=>.tup [z,.bool false]
 | .isNl .. =>.any
 | .aI x=>match(J x).d with
  | .it l=>match look m l with
   |some (.iter s pos)=>bif decide (pos<s.length)then .tup [.bool true,.int .i64 pos,.int .i32 (yM s pos).1]else .tup [.bool false]
   |_=>.any
  |_=>.any
@[go_sem] def ca:D->List Nat
 | .ptr l _ _ _=>[l]
 | .own l _ _ _=>[l]
 | .it l=>[l]
 |_=>[]
@[go_sem] def qB (args:List D)(r:D):Bool:=aP args ||r.fo
@[go_sem] def az.eL (Y:Ctx)(J:Src->aY)(m:List (Nat×bm)):az->Prop
 | .mv x=>(J x).ok=true
 | .pick c a b=>(J c).ok=true/\match(J c).d with
  | .bool t=>(t=true->(J a).ok=true)/\(t=false->(J b).ok=true)
  |_=>False
 | .box k x=>(J x).ok=true/\(J x).d.cells.length=k
 | .build z ps=>Af J z.length ps
 | .bsl k z n ps=>z.cells.length=k/\qF J k n ps
 | .ld n _ p=>(J p).ok=true/\Mg m n (J p).d
 | .st n p v=>(J p).ok=true/\(J v).ok=true/\(J v).d.cells.length=n/\match(J p).d with
  | .ptr l k i o=>ed m l k (i+1)/\o+n<=k
  |_=>False
 | .stU n p v qs=>(J p).ok=true/\(J v).ok=true/\(J v).d.cells.length=n/\match(J p).d with
  | .ptr l k i o=>ed m l k (i+1)/\o+n<=k/\(k<=4\/∀q∈qs,l∉ca (J q).d)
  |_=>False
 | .nilck x=>(J x).ok=true/\match(J x).d with| .ptr .. =>True| .ref .. =>True|_=>False
 | .bin op x y=>(J x).ok=true/\(J y).ok=true/\Ba op (J x).d (J y).d
 | .eqA _ ag ks x y=>(J x).ok=true/\(J y).ok=true/\(J x).d.isAgg=ag/\(J y).d.isAgg=ag/\fH ks (J x).d.cells/\fH ks (J y).d.cells
 | .un op x=>(J x).ok=true/\match op,(J x).d with
  | .not,.bool _=>True
  | .neg,.int _ _=>True
  |_,_=>False
 | .cvi _ x=>(J x).ok=true/\match(J x).d with| .int _ _=>True|_=>False
 | .mn g x y=>(J x).ok=true/\(J y).ok=true/\match(J x).d,(J y).d with| .int _ _,.int _ _=>True|_,_=>False
 | .s2b x=>(J x).ok=true/\match(J x).d with| .str _=>True|_=>False
 | .b2s x=>(J x).ok=true/\(match(J x).d with| .str _=>False|_=>True)/\Cu m 1 (J x).d/\∀e∈qw m (J x).d,e.Ui
 | .mkf _ caps=>BW J caps
 | .mks k z ln cp=>(J ln).ok=true/\(J cp).ok=true/\z.cells.length=k/\match(J ln).d,(J cp).d with
  | .int _ n,.int _ c=>0<=n/\n<=c/\c<=1073741824
  |_,_=>False
 | .slS x lo hi=>(J x).ok=true/\MF J lo/\MF J hi/\match(J x).d with
  | .str s=>nq (dO J hi) s.length/\nq (dO J lo) (ef (dO J hi) s.length)
  |_=>False
 | .slA k x lo hi=>(J x).ok=true/\MF J lo/\MF J hi/\match(J x).d with
  | .sl k' es=>k'=k/\nq (dO J hi) es.length/\nq (dO J lo) (ef (dO J hi) es.length)
  | .own _ k' _ n=>k'=k/\nq (dO J hi) n/\nq (dO J lo) (ef (dO J hi) n)
  | .aR=>nq (dO J hi) 0/\nq (dO J lo) 0
  |_=>False
 | .slX k x hi mx=>(J x).ok=true/\(J hi).ok=true/\(J mx).ok=true/\match(J hi).d,(J mx).d with
  | .int _ h,.int _ m=>0<=h/\h<=m/\(match(J x).d with
    | .sl k' es=>k'=k/\m<=es.length
    | .own _ k' _ n=>k'=k/\m<=n
    | .aR=>m=0
    |_=>False)
  |_,_=>False
 | .fa off p=>(J p).ok=true/\match(J p).d with| .ptr .. =>True| .ref .. =>True|_=>False
 | .fld off n ag x=>(J x).ok=true/\match(J x).d with| .agg cs=>off+n<=cs.length/\(ag=false->n=1)|_=>False
 | .ia k x i=>(J x).ok=true/\(J i).ok=true/\match(J x).d,(J i).d with
  | .sl k' es,.int _ n=>k'=k/\0<=n/\n<es.length
  | .own _ k' _ c,.int _ n=>k'=k/\0<=n/\n<c
  |_,_=>False
 | .iaP n k x i=>(J x).ok=true/\(J i).ok=true/\match(J x).d,(J i).d with
  | .ptr ..,.int _ c=>0<=c/\c<n
  | .ref ..,.int _ c=>0<=c/\c<n
  |_,_=>False
 | .ixS x i=>(J x).ok=true/\(J i).ok=true/\match(J x).d,(J i).d with
  | .str s,.int _ n=>0<=n/\n<s.length
  |_,_=>False
 | .ixA n k ag x i=>(J x).ok=true/\(J i).ok=true/\(ag=false->k=1)/\match(J x).d,(J i).d with
  | .agg cs,.int _ c=>0<=c/\c<n/\cs.length=n*k
  |_,_=>False
 | .ext x i=>(J x).ok=true/\match(J x).d with| .tup ds=>i<ds.length|_=>False
 | .len x=>(J x).ok=true/\match(J x).d with| .sl _ _=>True| .own .. =>True| .aR=>True|_=>False
 | .lenS x=>(J x).ok=true/\match(J x).d with| .str _=>True|_=>False
 | .app k x y=>(J x).ok=true/\(J y).ok=true/\Cu m k (J y).d/\match(J x).d with
  | .own l k' i n=>k'=k/\ed m l k (i+n)/\n+(qw m (J y).d).length<=1073741824
  | .aR=>(qw m (J y).d).length<=1073741824
  |_=>False
 | .call f args sh=>BW J args/\je m sh (iL J args)/\Y.pre f (iy m sh (iL J args))/\qB (iL J args) (Y.val f (iy m sh (iL J args)))=true
 | .callv f args sh=>(J f).ok=true/\BW J args/\match(J f).d with
  | .fn n caps=>n<1000000/\je m sh (iL J args++caps)/\Y.pre n (iy m sh (iL J args++caps))/\qB (iL J args++caps) (Y.val n (iy m sh (iL J args++caps)))=true
  |_=>False
 | .callM _ args=>BW J args
 | .callvM _ args=>BW J args
 | .ldW n _ p=>(J p).ok=true/\match(J p).d with
  | .ptr l k i o=>(ed m l k (i+1)/\o+n<=k)/\4<k
  | .ref k es i o=>i<es.length/\o+n<=k
  |_=>False
 | .ldU n _ p=>(J p).ok=true/\match(J p).d with
  | .ptr l k i o=>(ed m l k (i+1)/\o+n<=k)/\aP (aL m l)=false
  | .ref k es i o=>i<es.length/\o+n<=k
  |_=>False
 | .ldI n _ p=>(J p).ok=true/\match(J p).d with
  | .ref k es i o=>i<es.length/\o+n<=k
  | .fn q es=>q=3000000/\n=1/\es.length=1/\(es.getD 0 .any).cells=[es.getD 0 .any]
  |_=>False
 | .appN k y=>(J y).ok=true/\Cu m k (J y).d/\(qw m (J y).d).length<=1073741824
 | .bslI k z n ps=>z.cells.length=k/\qF J k n ps/\aP (mc J (List.replicate n z) ps)=true
 | .callF f r args sh=>(J r).ok=true/\BW J args/\aP (iL J args)=true/\match(J r).d with
  | .ptr l k i o=>i=0/\o=0/\ed m l k 1/\(aL m l).length=1/\((aL m l).getD 0 .any).aU=true/\Y.fp f ((aL m l).getD 0 .any) (iy [] sh (iL J args))
  |_=>False
 | .rng x=>(J x).ok=true/\match(J x).d with| .str _=>True|_=>False
 | .mkB=>True
 | .mkM=>True
 | .upM x k v=>(J x).ok=true/\(J k).ok=true/\(J v).ok=true/\mpO m (J x).d/\Bk (J k).d=true/\∃q n,(J v).d=.int q n
 | .lkM _ x k=>(J x).ok=true/\(J k).ok=true/\mpO m (J x).d/\Bk (J k).d=true
 | .isNl .. =>True
 | .aI x=>(J x).ok=true/\match(J x).d with
  | .it l=>match look m l with
   |some (.iter _ _)=>True
   |_=>False
  |_=>False
@[go_sem] def Src.F3:Src->Bool
 | .s _=>true
 |_=>false
@[go_sem] def az.K4 (draw:Bool)(J:Src->aY):az->Prop
 | .len x=>bif draw&& !x.F3 then True else(J x).ok=true->match(J x).d with
  | .sl _ es=>es.length<=9223372036854775807
  | .own _ _ _ n=>n<=9223372036854775807
  |_=>True
 | .lenS x=>bif draw&& !x.F3 then True else(J x).ok=true->match(J x).d with
  | .str s=>s.length<=9223372036854775807
  |_=>True
 |_=>True
@[go_sem] def az.bR (Y:Ctx)(J:Src->aY)(m:List (Nat×bm))(L:Nat):az->List (Nat×bm)
 | .box k x=>dh m L (.buf k [(J x).d])
 | .bsl k z n ps=>dh m L (.buf k (mc J (List.replicate n z) ps))
 | .mks k z ln _=>dh m L (.buf k (List.replicate (J ln).d.nat z))
 | .s2b x=>match(J x).d with
  | .str s=>dh m L (.buf 1 (s.map λb=>.int .u8 b.toNat))
  |_=>m
 | .st n p v=>match(J p).d with
  | .ptr l k i o=>dh m l (.buf k ((aL m l).set i (rj ((aL m l).getD i .any) k n o (J v).d)))
  |_=>m
 | .stU n p v _=>match(J p).d with
  | .ptr l k i o=>dh m l (.buf k ((aL m l).set i (rj ((aL m l).getD i .any) k n o (J v).d)))
  |_=>m
 | .app k x y=>match(J x).d with
  | .own l k' i n=>dh (dd m l) L (.buf k ((((aL m l).drop i).take n)++qw m (J y).d))
  |_=>dh m L (.buf k (qw m (J y).d))
 | .appN k y=>dh m L (.buf k (qw m (J y).d))
 | .callF f r args sh=>match(J r).d with
  | .ptr l k _ _=>dh m l (.buf k [Y.fs f ((aL m l).getD 0 .any) (iy [] sh (iL J args))])
  |_=>m
 | .rng x=>match(J x).d with
  | .str s=>dh m L (.iter s 0)
  |_=>m
 | .mkB=>dh m L (.bld none 0 false)
 | .mkM=>dh m L (.mpb [])
 | .upM x k v=>match(J x).d with
  | .fn _ [.it l]=>dh m l (.mpb (K9 (J k).d (J v).d (mpAt m (J x).d)))
  |_=>m
 | .aI x=>match(J x).d with
  | .it l=>match look m l with
   |some (.iter s pos)=>bif decide (pos<s.length)then dh m l (.iter s (pos+(yM s pos).2))else m
   |_=>m
  |_=>m
 |_=>m
@[go_sem] def az.nd (J:Src->aY):az->Option (List Nat)
 | .ld _ _ p=>some (ca (J p).d)
 | .ldU _ _ p=>some (ca (J p).d)
 | .ldW _ _ p=>some (ca (J p).d)
 | .st _ p _=>some (ca (J p).d)
 | .stU _ p _ _=>some (ca (J p).d)
 | .b2s x=>some (ca (J x).d)
 | .app _ x y=>some (ca (J x).d++ca (J y).d)
 | .aI x=>some (ca (J x).d)
 | .call _ args _=>bif aP (iL J args)then some []else none
 | .callv f args _=>match(J f).d with
  | .fn _ caps=>bif aP (iL J args++caps)then some []else none
  |_=>none
 | .callM _ _=>none
 | .callvM _ _=>none
 | .isNl .. =>none
 | .callF _ r _ _=>some (ca (J r).d)
 | .upM x _ _=>some (Dg (J x).d)
 | .lkM _ x _=>some (Dg (J x).d)
 | .appN _ y=>some (ca (J y).d)
 |_=>some []
@[go_sem] def az.wr (J:Src->aY)(L:Nat):az->List Nat
 | .box .. =>[L]
 | .bsl .. =>[L]
 | .mks .. =>[L]
 | .s2b _=>[L]
 | .rng _=>[L]
 | .mkB=>[L]
 | .mkM=>[L]
 | .upM x _ _=>Dg (J x).d
 | .st _ p _=>ca (J p).d
 | .stU _ p _ _=>ca (J p).d
 | .app _ x _=>L::ca (J x).d
 | .aI x=>ca (J x).d
 | .callF _ r _ _=>ca (J r).d
 | .appN .. =>[L]
 |_=>[]
@[go_sem] def az.calm:az->Bool
 | .st .. =>false
 | .stU .. =>false
 | .app .. =>false
 | .aI .. =>false
 | .callM .. =>false
 | .callvM .. =>false
 | .isNl .. =>false
 | .callF .. =>false
 | .upM .. =>false
 |_=>true
@[go_sem] def flag:Option (Nat×Bool)->Bool
 |none=>true
 |some (j,w)=>(vs.getD j .un).ok&&match(vs.getD j .un).d with
  | .bool b=>b==w
  |_=>false
@[go_sem] def VN (i:az):Option (Nat×Bool)->Prop
 |none=>True
 |some (j,_)=>i.calm=true/\((vs.getD j .un).ok=true->(vs.getD j .un).d.isBool=true)
@[go_sem] def az.lv (draw:Bool)(g:Option (Nat×Bool))(i:az):Bool:=!draw&&(!i.calm&&g.isSome)
@[go_sem] def yV:Option (Nat×Bool)->Prop
 |none=>True
 |some (j,_)=>(vs.getD j .un).ok=true->(vs.getD j .un).d.isBool=true
@[go_sem] def nlB (d:D)(b:Bool):Prop:=match d with
 | .aR=>b=true
 | .sl _ es=>b=true->es=[]
 | .own _ _ _ n=>b=true->n=0
 |_=>True
@[go_sem] def slB:D->Prop
 | .aR=>True
 | .sl .. =>True
 | .own .. =>True
 |_=>False
@[go_sem] def OP:Nat:=if n<1000000 then n else n-1000000
@[go_sem] def OO (aFY caps:List D):List D:=if n<1000000 then aFY++caps else caps++aFY
def eW (Y:Ctx)(draw:Bool):List GI->(env vs:List aY)->St->(List aY->St->Prop)->Prop
 |[],_,vs,st,K=>K vs {st with nx:=st.nx+vs.length}
 |⟨.callM f args,g⟩::r,env,vs,st,K=>
  yV vs g/\(flag vs g=true->BW (Src.ev env vs) args/\
   Y.tr f (iL (Src.ev env vs) args) {st with nx:=st.nx+vs.length} λd st'=>st.nx+vs.length<=st'.nx/\eW Y draw r env (vs++[⟨true,d⟩]) {st' with nx:=st'.nx-vs.length} K)/\
   (flag vs g=false->eW Y draw r env (vs++[⟨false,.any⟩]) st K)
 |⟨.callvM f args,g⟩::r,env,vs,st,K=>
  yV vs g/\(flag vs g=true->(Src.ev env vs f).ok=true/\BW (Src.ev env vs) args/\match(Src.ev env vs f).d with
   | .fn n caps=>n<2000000/\Y.tr (OP n) (OO n (iL (Src.ev env vs) args) caps) {st with nx:=st.nx+vs.length} λd st'=>st.nx+vs.length<=st'.nx/\eW Y draw r env (vs++[⟨true,d⟩]) {st' with nx:=st'.nx-vs.length} K
   |_=>False)/\
   (flag vs g=false->eW Y draw r env (vs++[⟨false,.any⟩]) st K)
 |⟨.isNl x ng,g⟩::r,env,vs,st,K=>
  yV vs g/\(flag vs g=true->(Src.ev env vs x).ok=true/\slB (Src.ev env vs x).d/\∀b,nlB (Src.ev env vs x).d b->eW Y draw r env (vs++[⟨true,.bool (bif ng then !b else b)⟩]) st K)/\
   (flag vs g=false->eW Y draw r env (vs++[⟨false,.any⟩]) st K)
 |⟨i,g⟩::r,env,vs,st,K=>
  if i.lv draw g=true then
   yV vs g/\(flag vs g=true->i.eL Y (Src.ev env vs) st.m/\
     eW Y draw r env (vs++[⟨true,i.val Y (Src.ev env vs) st.m (st.nx+vs.length)⟩]) {st with m:=i.bR Y (Src.ev env vs) st.m (st.nx+vs.length)} K)/\
    (flag vs g=false->eW Y draw r env (vs++[⟨false,.any⟩]) st K)
  else
  VN vs i g/\(flag vs g=true->i.eL Y (Src.ev env vs) st.m)/\
   ((flag vs g=true->i.K4 draw (Src.ev env vs))->∃d,(flag vs g=true->i.val Y (Src.ev env vs) st.m (st.nx+vs.length)=d)/\
     eW Y draw r env (vs++[⟨flag vs g,d⟩]) {st with m:=i.bR Y (Src.ev env vs) st.m (st.nx+vs.length)} K)
mutual
@[go_sem] def iX (l k:Nat)(es:List D):D->D
 | .own l' k' i n=>if l'=l/\k'=k/\i+n<=es.length then .sl k ((es.drop i).take n)else .own l' k' i n
 | .ptr l' k' i o=>if l'=l/\k'=k then .ref k es i o else .ptr l' k' i o
 | .agg cs=>.agg (oL l k es cs)
 | .tup cs=>.tup (oL l k es cs)
 | .fn f cs=>.fn f (oL l k es cs)
 | .any=>.any
 | .bool b=>.bool b
 | .int k n=>.int k n
 | .str s=>.str s
 | .aR=>.aR
 | .sl k es=>.sl k es
 | .ref k es i o=>.ref k es i o
 | .nilp=>.nilp
 | .nilf=>.nilf
 | .it l=>.it l
@[go_sem] def oL (l k:Nat)(es:List D):List D->List D
 |[]=>[]
 |d::r=>iX l k es d::oL l k es r
end
@[go_sem] def Ff (l k:Nat)(es:List D):bm->bm
 | .buf k' es'=>.buf k' (oL l k es es')
 |b=>b
@[go_sem] def Bg (l k:Nat)(es:List D):List (Nat×bm)->List (Nat×bm)
 |[]=>[]
 |(a,b)::r=>(a,Ff l k es b)::Bg l k es r
@[go_sem] def yz (l k:Nat)(es:List D):List aY->List aY
 |[]=>[]
 |⟨ok,d⟩::r=>⟨ok,iX l k es d⟩::yz l k es r
@[go_sem] def VM (l:Nat)(s:List aY×List (Nat×bm)):List aY×List (Nat×bm):=match look s.2 l with
 |some (.buf k es)=>bif aP es then(yz l k es s.1,Bg l k es (dd s.2 l))else s
 |_=>s
@[go_sem] def frzs:List Nat->List aY×List (Nat×bm)->List aY×List (Nat×bm)
 |[],s=>s
 |l::r,s=>frzs r (VM l s)
inductive Ex where
 |normal|exit (id:Nat)|ret
@[go_sem] def iv (env vs:List aY):List (Nat×Nat)->List aY
 |[]=>env
 |(s,p)::r=>iv (env.set s (vs.getD p .un)) vs r
@[go_sem] def nb (lo:Nat)(σ:List (Nat×Nat))(l:Nat):Option Nat:=match σ with
 |[]=>bif Nat.blt l lo then some l else none
 |(a,b)::r=>bif Nat.beq a l then some b else nb lo r l
@[go_sem] def VQ (σ:List (Nat×Nat))(l:Nat)(f:Nat->D):Option D:=match nb lo σ l with
 |some l'=>some (f l')
 |none=>none
mutual
@[go_sem] def vZ (lo:Nat)(σ:List (Nat×Nat)):D->Option D
 | .own l k i n=>VQ lo σ l λl=>.own l k i n
 | .ptr l k i o=>VQ lo σ l λl=>.ptr l k i o
 | .it l=>VQ lo σ l λl=>.it l
 | .agg cs=>match rY lo σ cs with
  |some cs=>some (.agg cs)
  |none=>none
 | .tup cs=>match rY lo σ cs with
  |some cs=>some (.tup cs)
  |none=>none
 | .fn f cs=>match rY lo σ cs with
  |some cs=>some (.fn f cs)
  |none=>none
 | .any=>some .any
 | .bool b=>some (.bool b)
 | .int k n=>some (.int k n)
 | .str s=>some (.str s)
 | .aR=>some .aR
 | .sl k es=>some (.sl k es)
 | .ref k es i o=>some (.ref k es i o)
 | .nilp=>some .nilp
 | .nilf=>some .nilf
@[go_sem] def rY (lo:Nat)(σ:List (Nat×Nat)):List D->Option (List D)
 |[]=>some []
 |d::r=>match vZ lo σ d,rY lo σ r with
  |some d,some r=>some (d::r)
  |_,_=>none
end
mutual
def wx:D->D->Prop
 | .aR,d'=>d'=.aR\/∃l k i,d'=.own l k i 0
 | .agg a,d'=>∃b,d'=.agg b/\OD a b
 |d,d'=>d'=d/\d.aU=true
def OD:List D->List D->Prop
 |[],b=>b=[]
 |d::r,b=>∃d' r',b=d'::r'/\wx d d'/\OD r r'
end
def RnD (σ:List (Nat×Nat))(d d':D):Prop:=d'=d/\d.aU=true\/vZ lo σ d=some d'\/wx d d'
def qx (σ:List (Nat×Nat)):bm->bm->Prop
 | .buf k es,.buf k' es'=>k'=k/\(es'=es/\aP es=true\/rY lo σ es=some es'\/OD es es')
 | .iter s p,.iter s' p'=>s'=s/\p'=p
 | .row s,.row s'=>s'=s
 | .mpb s,.mpb s'=>s'=s
 | .bld o n u,.bld o' n' u'=>(match o with
  |none=>o'=none
  |some l=>∃l',nb lo σ l=some l'/\o'=some l')/\n'=n/\u'=u
 |_,_=>False
def eX (lo:Nat)(σ:List (Nat×Nat)):List aY->List aY->Prop
 |[],[]=>True
 |a::r,b::s=>(b.ok=a.ok/\RnD lo σ a.d b.d\/b=.un)/\eX lo σ r s
 |_,_=>False
def bn (lo c:Nat)(σ:List (Nat×Nat))(m:List (Nat×bm)):List (Nat×bm)->Prop
 |[]=>True
 |(l',b')::r=>((∃l b,nb lo σ l=some l'/\look m l=some b/\qx lo σ b b')\/(Nat.ble lo l'=true/\Nat.blt l' c=true/\σ.all (λp=>!Nat.beq p.2 l')=true/\∃k,b'=.buf k []))/\bn lo c σ m r
def ig (lo c:Nat):List (Nat×Nat)->Bool
 |[]=>Nat.ble lo c
 |(a,b)::r=>(Nat.ble lo b&&(Nat.blt b c&&(r.all (λp=>!Nat.beq p.1 a&& !Nat.beq p.2 b)&&ig lo c r)))
@[go_sem] def leE:List aY->List aY->Prop
 |[],[]=>True
 |a::r,b::s=>(b=a\/b=.un)/\leE r s
 |_,_=>False
@[go_sem] def aaw (m:List (Nat×bm)):List (Nat×bm)->Prop
 |[]=>True
 |(l,b)::r=>look m l=some b/\aaw m r
inductive E6:D->D->Prop
 |refl (d:D):E6 d d
 |nil (k:Nat):E6 .aR (.sl k [])
 |agg (a b:List D) (hl:b.length=a.length) (h:∀i,E6 (a.getD i .any) (b.getD i .any)):E6 (.agg a) (.agg b)
 |sl (k:Nat) (a b:List D) (hl:b.length=a.length) (h:∀i,E6 (a.getD i .any) (b.getD i .any)):E6 (.sl k a) (.sl k b)
def Rs (a b:List D):Prop:=b.length=a.length/\∀i,E6 (a.getD i .any) (b.getD i .any)
def WkB:bm->bm->Prop
 | .buf k es,.buf k' es'=>k'=k/\Rs es es'
 |b,b'=>b'=b
def WkE:List aY->List aY->Prop
 |[],[]=>True
 |a::r,b::s=>(b.ok=a.ok/\E6 a.d b.d)/\WkE r s
 |_,_=>False
def Rt (m:List (Nat×bm)):List (Nat×bm)->Prop
 |[]=>True
 |(l,b')::r=>(∃b,look m l=some b/\WkB b b')/\Rt m r
inductive aZ (lo:Nat):List aY->St->List aY->St->Prop
 |refl (env:List aY) (st:St):aZ lo env st env st
 |VM (l:Nat) (env:List aY) (st:St):aZ lo env st (VM l (env,st.m)).1 ⟨st.nx,(VM l (env,st.m)).2⟩
 |ren (σ:List (Nat×Nat)) (c:Nat) (env env':List aY) (nx:Nat) (m m':List (Nat×bm)) (h:ig lo c σ=true) (he:eX lo σ env env') (hm:bn lo c σ m m'):aZ lo env ⟨nx,m⟩ env' ⟨c,m'⟩
 |wk (env env':List aY) (nx:Nat) (m m':List (Nat×bm)) (he:leE env env') (hm:aaw m m'):aZ lo env ⟨nx,m⟩ env' ⟨nx,m'⟩
 |nz (env env':List aY) (nx:Nat) (m m':List (Nat×bm)) (he:WkE env env') (hm:Rt m m'):aZ lo env ⟨nx,m⟩ env' ⟨nx,m'⟩
 |trans (env1 env2 env3:List aY) (st1 st2 st3:St) (h:aZ lo env1 st1 env2 st2) (h':aZ lo env2 st2 env3 st3):aZ lo env1 st1 env3 st3
def Gh (p:List aY->St->Prop)(env:List aY)(st:St):=∃env' st',aZ lo env st env' st'/\p env' st'
def dk (Y:Ctx):AC->(Ex->List aY->St->Prop)->List aY->St->Prop
 | .reg draw ins cm,Q=>Gh Y.lo λenv st=>eW Y draw ins env [] st λvs st'=>Q .normal (iv env vs cm) st'
 | .seq a b,Q=>Gh Y.lo (dk Y a (λe env st=>match e with
   | .normal=>dk Y b Q env st
   |e=>Q e env st))
 | .cond c a b,Q=>Gh Y.lo λenv st=>(c.ev env []).ok=true/\match(c.ev env []).d with
  | .bool t=>(t=true->dk Y a Q env st)/\(t=false->dk Y b Q env st)
  |_=>False
 | .block id a,Q=>Gh Y.lo (dk Y a (λe env st=>match e with
   | .exit j=>if j=id then Q .normal env st else Q (.exit j) env st
   |e=>Q e env st))
 | .loop a,Q=>Gh Y.lo λenv st=>∃(I:List aY->St->Prop) (μ:List aY->St->Nat),
   I env st/\∀env st,I env st->
   dk Y a (λe env' st'=>match e with
    | .normal=>∃env2 st2,aZ Y.lo env' st' env2 st2/\I env2 st2/\μ env2 st2<μ env st
    |e=>Q e env' st') env st
 | .exit id,Q=>Gh Y.lo (Q (.exit id))
 | .ret,Q=>Gh Y.lo (Q .ret)
 | .skip,Q=>Gh Y.lo (Q .normal)
def Ctx.at (Y:Ctx)(n:Nat):Ctx:={Y with lo:=n}
@[go_sem] def IB (m:List (Nat×bm))(env:List aY)(r:G8):D:=match r.mem with
 |none=>(env.getD r.s .un).d
 |some (n,ag)=>Mh m n ag (env.getD r.s .un).d
@[go_sem] def oD (m:List (Nat×bm))(env:List aY):List G8->Prop
 |[]=>True
 |r::rs=>(env.getD r.s .un).ok=true/\(match r.mem with
   |none=>True
   |some (n,_)=>Mg m n (env.getD r.s .un).d)/\oD m env rs
@[go_sem] def qZ (m:List (Nat×bm))(env:List aY):List G8->List D
 |[]=>[]
 |r::rs=>IB m env r::qZ m env rs
@[go_sem] def j5 (env:List aY)(st:St):D:=match a.res with
 |[r]=>IB st.m env r
 |rs=>.tup (qZ st.m env rs)
@[go_sem] def aaf (env:List aY)(st:St):D:=match a.res with
 |[r]=>iZ st.m (a.rsh.getD 0 []) (IB st.m env r)
 |rs=>.tup (iy st.m a.rsh (qZ st.m env rs))
@[go_sem] def NI (env:List aY)(st:St):Prop:=match a.res with
 |[r]=>gv st.m (a.rsh.getD 0 []) (IB st.m env r)
 |rs=>je st.m a.rsh (qZ st.m env rs)
@[go_sem] def Ex.home:Ex->Prop
 | .exit _=>False
 |_=>True
@[go_sem] def fP (ds:List D):List aY:=(ds.map λd=>⟨true,d⟩)++List.replicate (a.ns-a.np) .un
def trOf (Y:Ctx)(a:aj)(ds:List D)(st:St)(K:D->St->Prop):Prop:=
 ds.length=a.np/\dk (Y.at st.nx) a.body (λe env st=>e.home/\oD st.m env a.res/\K (j5 a env st) st) (fP a ds) st
mutual
def fO:Value->Option D
 | .bool b=>some (.bool b)
 | .int k n=>some (.int k n)
 | .string s=>if s.size<=9223372036854775807 then some (.str s.data.toList)else none
 | .pointer none=>some .nilp
 | .slice none 0 0=>some .aR
 | .nilFunc=>some .nilf
 | .map none=>some (.fn 5100000 [])
 | .agg ⟨cs⟩=>if wO cs then(tm cs).map .agg else none
 |_=>none
def tm:List Value->Option (List D)
 |[]=>some []
 |v::r=>match fO v,tm r with
  |some d,some ds=>some (d::ds)
  |_,_=>none
def wO:List Value->Bool
 |[]=>true
 |v::r=>(match v with
  | .agg _=>false
  | .tuple _=>false
  |_=>true)&&wO r
end
def IE (P:Program):Nat->TypeId->List Sh
 |0,_=>[.a]
 |d+1,t=>match P.underlying t with
  |some (.struct fs)=>(fs.toList.map λf=>IE P d f.type).flatten
  |some (.array n e)=>(List.replicate n (IE P d e)).flatten
  |some (.slice e)=>[.sl (P.cellsOf e) (IE P d e)]
  |some (.pointer e)=>[.pt (IE P d e)]
  |_=>[.a]
def ajR:List Sh->List Sh
 |[.sl _ cs]=>[.kp cs]
 |l=>l
def keepN (fn:Func):Nat:=100000000+fn.endLine*10000+fn.ntmps
structure CC where
 P:Program
 ν:List (Nat×Nat)
 bR:List Nat
 slots:List Nat
 ntmps:Nat
 vm:Bool
def dK:List (Nat×Nat)->Nat->Option Nat
 |[],_=>none
 |(a,b)::r,l=>if a=l then some b else dK r l
def Bi:List Nat->Nat->Option Nat
 |[],_=>none
 |a::r,t=>if a=t then some 0 else(Bi r t).map (· +1)
def posOf (t:Nat):List (Option Nat)->Option Nat
 |[]=>none
 |a::r=>if a=some t then some 0 else(posOf t r).map (· +1)
def CC.src (C:CC)(defs:List (Option Nat)):Operand->Option Src
 | .tmp t=>match posOf t defs with
  |some p=>some (.l p)
  |none=>(Bi C.slots t).map .s
 | .const v=>(fO v).map .c
 | .func f=>(dK C.ν f).map λn=>.c (.fn n [])
 | .global _=>none
def CC.wi (C:CC)(defs:List (Option Nat)):List Operand->Option (List Src)
 |[]=>some []
 |x::r=>match C.src defs x,C.wi defs r with
  |some a,some l=>some (a::l)
  |_,_=>none
def CC.opt (C:CC)(defs:List (Option Nat)):Option Operand->Option (Option Src)
 |none=>some none
 |some x=>(C.src defs x).map some
def bW (t:TypeId):Bool:=match P.underlying t with
 |some (.struct _)=>true
 |some (.array ..)=>true
 |_=>false
def ml (P:Program)(k:TypeId->Option (List CK)):Nat->List Field->Option (List CK)
 |_,[]=>some []
 |off,f::r=>if f.name= "_" \/f.offset≠off then none else
  match k f.type,ml P k (off+P.cellsOf f.type) r with
  |some a,some b=>if a.length=P.cellsOf f.type/\a.length≠0/\(P.underlying f.type).isNone=false then some (a++b)else none
  |_,_=>none
def gN (P:Program):Nat->TypeId->Option (List CK)
 |0,_=>none
 |d+1,t=>match P.underlying t with
  |some .bool=>some [.b]
  |some (.int k)=>some [.i k]
  |some .string=>some [.s]
  |some (.struct fs)=>if P.stoodInHeld t then none else ml P (λt=>gN P d t) 0 fs.toList
  |some (.array n e)=>match gN P d e with
   |some l=>if l.length=P.cellsOf e/\l.length≠0/\(P.underlying e).isNone=false then some (List.replicate n l).flatten else none
   |none=>none
  |_=>none
def CC.parts (C:CC)(defs:List (Option Nat))(place:Nat->Option (Nat×Nat)):List (Nat×Operand)->Option (List (Nat×Nat×Src))
 |[]=>some []
 |(i,x)::r=>match place i,C.src defs x,C.parts defs place r with
  |some (o,n),some s,some l=>if n=0 then none else some ((o,n,s)::l)
  |_,_,_=>none
def CC.zh (C:CC)(defs:List (Option Nat)):List (Nat×Operand)->Option (List (Nat×Src))
 |[]=>some []
 |(i,x)::r=>match C.src defs x,C.zh defs r with
  |some s,some l=>some ((i,s)::l)
  |_,_=>none
def tg (t:TypeId):Option D:=((P.info? t).bind (·.zero)).bind fO
def zVD:D:=.agg [.int .i64 0,.int .i64 0,.int .i64 0,.str [],.str []]
def CC.XP (C:CC)(t:TypeId):Operand->Option D
 | .global g=>if(C.bR.contains (500000000+g)=true/\g<400000000)/\C.P.cellsOf t=5/\bW C.P t=true/\(C.P.underlying t).isNone=false then some zVD else none
 |_=>none
def qo (t:TypeId):Bool:=match tg P t with
 |some z=>z.cells.length==P.cellsOf t
 |none=>false
def Ph (k:TypeId):Bool:=match P.underlying k with
 |some (.array 2 e)=>(match P.underlying e with
  |some .string=>P.cellsOf e==1&&(P.cellsOf k==2&& !(P.types.size==0))
  |_=>false)
 |_=>false
def CC.op (C:CC)(defs:List (Option Nat))(o:Oper):Option az:=
 match o.op with
 | .move x=>(C.src defs x).map .mv
 | .assign x=>(C.src defs x).map .mv
 | .pick c a b=>match C.src defs c,C.src defs a,C.src defs b with
  |some c,some a,some b=>some (.pick c a b)
  |_,_,_=>none
 | .alloc t=>match tg C.P t with
  |some z=>if C.P.cellsOf t=0 then none else if C.bR.contains (1000000000+t)then(match z with
   | .agg [.nilp,.aR]=>some .mkB
   |_=>none)else some (.box (C.P.cellsOf t) (.c z))
  |none=>none
 | .box t x=>match C.src defs x with
  |some s=>if C.P.cellsOf t=0 then none else some (.box (C.P.cellsOf t) s)
  |none=>none
 | .build t ps=>match tg C.P t,C.P.underlying t with
  |some (.agg z),some (.struct fs)=>if fs.toList.all (λf=>(C.P.info? f.type).isSome)then(C.parts defs (λi=>(fs[i]?).map λf=>(f.offset,C.P.cellsOf f.type)) ps.toList).map (.build z)else none
  |some (.agg z),some (.array _ e)=>if C.P.cellsOf e=0 then none else(C.parts defs (λi=>some (i*C.P.cellsOf e,C.P.cellsOf e)) ps.toList).map (.build z)
  |_,_=>none
 | .buildSlice t n ps=>match C.P.underlying t with
  |some (.slice e)=>match tg C.P e,C.zh defs ps.toList with
   |some z,some l=>if C.P.cellsOf e=0\/n*C.P.cellsOf e>16777216 then none else some (.bsl (C.P.cellsOf e) z n l)
   |_,_=>none
  |_=>none
 | .load t a=>match C.XP t a with
  |some d=>some (.mv (.c d))
  |none=>match C.src defs a with
  |some s=>if C.P.cellsOf t=0\/(C.P.underlying t).isNone\/(bW C.P t=false/\C.P.cellsOf t≠1)then none else some (.ld (C.P.cellsOf t) (bW C.P t) s)
  |none=>none
 | .store t a x=>match C.src defs a,C.src defs x with
  |some a,some x=>if C.P.cellsOf t=0 then none else some (.st (C.P.cellsOf t) a x)
  |_,_=>none
 | .nilCheck x=>(C.src defs x).map .nilck
 | .binOp op t x y _=>match C.src defs x,C.src defs y with
  |some a,some b=>match C.P.underlying t with
   |some (.int _)=>some (.bin op a b)
   |some .string=>some (.bin op a b)
   |_=>if C.P.eqGuardType C.P.depth t then none else match gN C.P 30 t,op with
    |some ks,.eql=>some (.eqA false (bW C.P t) ks a b)
    |some ks,.neq=>some (.eqA true (bW C.P t) ks a b)
    |none,.eql=>match C.P.underlying t,b with
     |some (.slice _),.c .aR=>some (.isNl a false)
     |_,_=>none
    |none,.neq=>match C.P.underlying t,b with
     |some (.slice _),.c .aR=>some (.isNl a true)
     |_,_=>none
    |_,_=>none
  |_,_=>none
 | .unOp op _ x=>(C.src defs x).map (.un op)
 | .convert s d x=>match C.P.underlying s,C.P.underlying d,C.src defs x with
  |some (.int _),some (.int k),some a=>some (.cvi k a)
  |some .string,some (.slice e),some a=>match C.P.underlying e with
   |some (.int .u8)=>some (.s2b a)
   |_=>none
  |some (.slice e),some .string,some a=>match C.P.underlying e with
   |some (.int .u8)=>some (.b2s a)
   |_=>none
  |_,_,_=>none
 | .makeFunc (.func f) first caps=>match dK C.ν f,C.wi defs caps.toList with
  |some n,some l=>if first.isEmpty then some (.mkf n l)else if l.isEmpty then(C.wi defs first.toList).map (.mkf (n+1000000))else none
  |_,_=>none
 | .makeSlice t l c=>match C.P.underlying t with
  |some (.slice e)=>match tg C.P e,C.src defs l,C.src defs c with
   |some z,some l,some c=>if C.P.cellsOf e=0\/C.P.bytesOf e>65536 then none else some (.mks (C.P.cellsOf e) z l c)
   |_,_,_=>none
  |_=>none
 | .slice t x lo hi mx=>match C.P.underlying t,C.src defs x,C.opt defs lo,C.opt defs hi,mx with
  |some .string,some a,some l,some h,none=>some (.slS a l h)
  |some (.slice e),some a,some l,some h,none=>if C.P.cellsOf e=0 then none else some (.slA (C.P.cellsOf e) a l h)
  |some (.slice e),some a,some none,some (some h),some m=>match C.src defs m with
   |some m=>if C.P.cellsOf e=0 then none else some (.slX (C.P.cellsOf e) a h m)
   |none=>none
  |_,_,_,_,_=>none
 | .fieldAddr t x f=>match C.P.underlying t,C.src defs x with
  |some (.struct fs),some a=>match fs[f]? with
   |some f=>if C.P.cellsOf f.type=0 then none else some (.fa f.offset a)
   |none=>none
  |_,_=>none
 | .field t x f=>match C.P.underlying t,C.src defs x with
  |some (.struct fs),some a=>match fs[f]? with
   |some f=>if C.P.cellsOf f.type=0\/(C.P.underlying f.type).isNone then none else some (.fld f.offset (C.P.cellsOf f.type) (bW C.P f.type) a)
   |none=>none
  |_,_=>none
 | .indexAddr t x i=>match C.P.underlying t,C.src defs x,C.src defs i with
  |some (.slice e),some a,some b=>if C.P.cellsOf e=0 then none else some (.ia (C.P.cellsOf e) a b)
  |some (.array n e),some a,some b=>if C.P.cellsOf e=0 then none else some (.iaP n (C.P.cellsOf e) a b)
  |_,_,_=>none
 | .index t x i=>match C.P.underlying t,C.src defs x,C.src defs i with
  |some .string,some a,some b=>some (.ixS a b)
  |some (.array n e),some a,some b=>if C.P.cellsOf e=0\/(C.P.underlying e).isNone then none else some (.ixA n (C.P.cellsOf e) (bW C.P e) a b)
  |_,_,_=>none
 | .lookup t x y true=>match C.src defs x,C.src defs y,C.P.underlying t with
  |some a,some b,some (.map k e)=>match tg C.P e with
   |some z=>if Ph C.P k=true then some (.lkM z a b)else none
   |none=>none
  |_,_,_=>none
 | .makeMap t none=>match C.P.underlying t with
  |some (.map k _)=>if Ph C.P k=true then some .mkM else none
  |_=>none
 | .mapUpdate t x y v=>match C.src defs x,C.src defs y,C.src defs v with
  |some a,some b,some c=>match C.P.underlying t with
   |some (.map k _)=>if Ph C.P k=true then some (.upM a b c)else none
   |_=>none
  |_,_,_=>none
 | .range t x=>match C.P.underlying t,C.src defs x with
  |some .string,some a=>some (.rng a)
  |_,_=>none
 | .next it true=>(C.src defs it).map .aI
 | .extract t i=>(C.src defs t).map λs=>.ext s i
 | .call c=>match c.callee with
  | .builtin .len=>match c.args.toList,c.argTypes.toList with
   |[x],[t]=>match C.src defs x,C.P.underlying t with
    |some a,some .string=>some (.lenS a)
    |some a,some (.slice _)=>some (.len a)
    |_,_=>none
   |_,_=>none
  | .builtin .min=>match c.args.toList with
   |[x,y]=>match C.src defs x,C.src defs y with
    |some a,some b=>some (.mn false a b)
    |_,_=>none
   |_=>none
  | .builtin .max=>match c.args.toList with
   |[x,y]=>match C.src defs x,C.src defs y with
    |some a,some b=>some (.mn true a b)
    |_,_=>none
   |_=>none
  | .builtin .append=>match c.args.toList,c.argTypes.toList with
   |[x,y],[t,u]=>match C.src defs x,C.src defs y,C.P.underlying t,C.P.underlying u with
    |some a,some b,some (.slice e),some (.slice _)=>if C.P.cellsOf e=0\/C.P.bytesOf e>65536\/C.P.bytesOf e=0\/qo C.P e=false then none else some (.app (C.P.cellsOf e) a b)
    |some a,some b,some (.slice e),some .string=>if C.P.cellsOf e=0\/C.P.bytesOf e>65536\/C.P.bytesOf e=0\/qo C.P e=false then none else some (.app (C.P.cellsOf e) a b)
    |_,_,_,_=>none
   |_,_=>none
  | .value (.func f)=>match dK C.ν f,C.wi defs c.args.toList with
   |some n,some l=>if C.bR.contains (2*n)then some (.callM n l)else if C.bR.contains (2*n+1)then(match l with
     |r::rest=>some (.callF n r rest ((c.argTypes.toList.map (IE C.P 8)).drop 1))
     |[]=>none)else some (.call n l (c.argTypes.toList.map (IE C.P 8)))
   |_,_=>none
  | .value (.tmp t)=>match C.src defs (.tmp t),C.wi defs c.args.toList with
   |some s,some l=>if C.vm then some (.callvM s l)else some (.callv s l (c.argTypes.toList.map (IE C.P 8)))
   |_,_=>none
  |_=>none
 |_=>none
def CC.guard (defs:List (Option Nat)):Option (Nat×Bool)->Option (Option (Nat×Bool))
 |none=>some none
 |some (j,w)=>match defs[j]? with
  |some (some _)=>some (some (j,w))
  |_=>none
def CC.ops (C:CC):(defs:List (Option Nat))->List Oper->Option (List GI)
 |_,[]=>some []
 |defs,o::r=>match C.op defs o,CC.guard defs o.guard,C.ops (defs++[o.dst]) r with
  |some i,some g,some l=>if o.dst.all (λd=>d<C.ntmps&& !defs.contains (some d))then some (⟨i,g⟩::l)else none
  |_,_,_=>none
def CC.iw (C:CC):Nat->List Oper->List (Nat×Nat)
 |_,[]=>[]
 |p,o::r=>match o.dst.bind (Bi C.slots)with
  |some s=>(s,p)::C.iw (p+1) r
  |none=>C.iw (p+1) r
def rC (acc:List Nat):List Edge->Nat
 |[]=>0
 |e::r=>if Region.binds .any e then(2^e.on |||acc.getD e.on 0) |||rC acc r else rC acc r
def pK:List Nat->List Oper->List Nat
 |acc,[]=>acc
 |acc,o::r=>pK (acc++[rC acc o.after.toList]) r
def tmpsOf (ops:List Oper)(o:Oper):List Nat:=
 (o.op.operands.toList.filterMap fun
   | .tmp t=>some t
   |_=>none)++(match o.guard with
   |some (g,_)=>((ops[g]?).bind (·.dst)).toList
   |none=>[])
def SJ (ops:List Oper)(bs:List Nat):Bool:=
 (List.range ops.length).all λj=>(List.range ops.length).all λp=>match ops[j]?,ops[p]? with
   |some oj,some op=>match op.dst with
    |some t=>p==j ||!(tmpsOf ops oj).contains t ||(bs.getD (max j p) 0).testBit (min j p)
    |none=>true
   |_,_=>false
def az.pure:az->Bool
 | .mv _=>true
 | .pick .. =>true
 | .build .. =>true
 | .nilck _=>true
 | .bin .. =>true
 | .eqA .. =>true
 | .un .. =>true
 | .cvi .. =>true
 | .mn .. =>true
 | .mkf .. =>true
 | .slS .. =>true
 | .slA .. =>true
 | .slX .. =>true
 | .fa .. =>true
 | .fld .. =>true
 | .ia .. =>true
 | .iaP .. =>true
 | .ixS .. =>true
 | .ixA .. =>true
 | .ext .. =>true
 | .len _=>true
 | .lenS _=>true
 | .ldI .. =>true
 | .bslI .. =>true
 |_=>false
def Sh.isA:Sh->Bool
 | .a=>true
 |_=>false
def az.free:az->Bool
 | .call _ _ sh=>sh.all λs=>s.all Sh.isA
 |i=>i.pure
def az.jO:az->Bool
 | .box .. =>true
 | .bsl .. =>true
 | .mks .. =>true
 | .s2b .. =>true
 | .rng .. =>true
 | .mkB=>true
 | .mkM=>true
 |_=>false
def az.isApp:az->Bool
 | .app .. =>true
 |_=>false
def az.ny:az->Bool
 | .callF .. =>true
 |_=>false
def az.rX:az->Bool
 | .ldU .. =>true
 | .ldW .. =>true
 |_=>false
def az.isUU:az->Bool
 | .ldU .. =>true
 |_=>false
def Src.same:Src->Src->Bool
 | .s a,.s b=>Nat.beq a b
 | .l a,.l b=>Nat.beq a b
 |_,_=>false
def az.narrow (p:Src):az->Bool
 | .app k _ _=>Nat.ble k 4
 | .stU _ _ _ qs=>qs.any λq=>p.same q
 |_=>false
def az.R7:az->Src
 | .ldW _ _ p=>p
 |_=>.c .any
def az.isW:az->Bool
 | .ldW .. =>true
 |_=>false
def exU (gj gi:az)(j i:Nat):Bool:=gi.rX&&((gj.isApp&&decide (j<i)) ||(gi.isUU&&(gj.ny&&(decide (i<j)&&(List.range j).all λq=>decide (q<=i) ||match l[q]? with
 |some g=>g.i.calm ||g.i.ny
 |none=>true))) ||(gi.isW&&(gj.narrow gi.R7&&(decide (i<j)&&(List.range j).all λq=>decide (q<=i) ||match l[q]? with
 |some g=>g.i.calm ||g.i.narrow gi.R7
 |none=>true))))
def afK (bs:List Nat):Bool:=
 (List.range l.length).all λj=>(List.range l.length).all λi=>match l[j]?,l[i]? with
   |some gj,some gi=>gj.i.calm ||gi.i.free ||(gi.i.jO&&(!gj.i.isApp ||decide (j<i))) ||i==j ||(bs.getD (max j i) 0).testBit (min j i) ||exU l gj.i gi.i j i
   |_,_=>false
def az.cM:az->Bool
 | .callM .. =>true
 | .callvM .. =>true
 | .isNl .. =>true
 |_=>false
def BL:Nat->List Oper->Bool
 |_,[]=>true
 |p,o::r=>o.after.toList.all (λe=>!Region.binds .any e ||decide (e.on<p))&&BL (p+1) r
def sufG:GI->Bool
 |⟨.mv _,none⟩=>true
 |⟨.un ..,_⟩=>true
 |⟨.pick ..,none⟩=>true
 |⟨.ext ..,none⟩=>true
 |_=>false
def SZ:List GI->Bool
 |⟨.callM ..,_⟩::r=>r.all sufG
 |⟨.callvM ..,_⟩::r=>r.all sufG
 |_=>false
def AA (o:Oper):Option Operand:=match o.op,o.guard with
 | .move x,none=>some x
 | .assign x,none=>some x
 | .extract x _,none=>some x
 |_,_=>none
def PR (x:Operand)(d:Option Nat):Bool:=match x,d with
 | .tmp t,some d=>t !=d
 |_,_=>true
def Pf (o p:Oper):Bool:=match AA o,AA p with
 |some x,some y=>PR x p.dst&&(PR y o.dst&&(match o.dst,p.dst with
  |some a,some b=>a !=b
  |_,_=>true))
 |_,_=>false
def R6 (ops:List Oper)(l:List GI)(bs:List Nat):Bool:=
 let n:=l.findIdx λg=>g.i.cM
 SZ (l.drop n)&&((l.take n).all (λg=>!g.i.cM)&&(List.range (l.length-n)).all λq=>(List.range (n+q)).all λp=>(bs.getD (n+q) 0).testBit p ||(match ops[n+q]?,ops[p]? with
  |some o,some o'=>Pf o o'
  |_,_=>false))
def Ct (ops:List Oper)(l:List GI):Bool:=
 let bs:=pK [] ops
 SJ ops bs&&(afK l bs&&(((l.all λg=>!g.i.cM) ||R6 ops l bs)&&BL 0 ops))
def az.toN:az->az
 | .app k (.c .aR) y=>.appN k y
 |i=>i
def looseAt (l:List GI)(i:Nat):Bool:=
 (List.range l.length).any λj=>match l[j]? with
   |some gj=>!(gj.i.toN.calm ||i==j ||(bs.getD (max j i) 0).testBit (min j i))
   |none=>false
def Px (l:List GI)(i:Nat):Bool:=
 (List.range l.length).all λj=>match l[j]? with
   |some gj=>gj.i.toN.calm ||i==j ||(bs.getD (max j i) 0).testBit (min j i) ||(gj.i.isApp&&decide (j<i)) ||(gj.i.ny&&(decide (i<j)&&(List.range j).all λq=>decide (q<=i) ||match l[q]? with
    |some g=>g.i.toN.calm ||g.i.ny
    |none=>true))
   |none=>true
def Src.isFa:Src->Bool
 | .l q=>match l[q]? with
  |some ⟨.fa _ (.s _),_⟩=>true
  |_=>false
 |_=>false
def aj3 (l:List GI)(i:Nat):Bool:=
 (match l[i]? with
   |some ⟨.ld ..,_⟩=>true
   |_=>false)&&(looseAt bs l i&&(!Px bs l i&&(List.range l.length).all λj=>match l[j]? with
   |some gj=>gj.i.toN.calm ||i==j ||(bs.getD (max j i) 0).testBit (min j i) ||(match gj.i with
    | .st n _ _=>Nat.ble 5 n&&decide (i<j)
    |_=>false)
   |none=>true))
def aj2 (l:List GI)(i:Nat):Bool:=
 (match l[i]? with
   |some ⟨.ld _ _ x,_⟩=>x.isFa l
   |_=>false)&&(looseAt bs l i&&(!Px bs l i&&(((List.range l.length).all λj=>match l[j]? with
   |some gj=>gj.i.toN.calm ||i==j ||(bs.getD (max j i) 0).testBit (min j i) ||(match gj.i with
    | .app k _ _=>Nat.ble k 4
    | .st n _ _=>Nat.ble n 4&&decide (i<j)
    |_=>false)
   |none=>true)&&(List.range l.length).any λj=>decide (i<j)&&(match l[j]? with
   |some ⟨.app _ (.l _) _,_⟩=>!(bs.getD (max j i) 0).testBit (min j i)
   |_=>false))))
def Yv (l:List GI)(i:Nat):Bool:=aj2 bs l i ||aj3 bs l i
def Yu (l:List GI):List Src:=(List.range l.length).filterMap λi=>if Yv bs l i=true then(match l[i]? with
 |some ⟨.ld _ _ x,_⟩=>some x
 |_=>none)else none
def ajH (l:List GI)(p:Nat):Bool:=
 (List.range l.length).any λj=>match l[j]? with
   |some ⟨.ia _ (.l q) _,_⟩=>Nat.beq q p&&(List.range l.length).any λi=>match l[i]? with
    |some ⟨.ld _ _ (.l r),_⟩=>Nat.beq r j&&looseAt bs l i
    |_=>false
   |_=>false
def argAt (p:Nat):Bool:=l.any λg=>match g.i with
 | .call _ args _=>args.any λs=>match s with
  | .l q=>Nat.beq q p
  |_=>false
 |_=>false
def mK (bs:List Nat)(l0:List GI):Nat->List GI->List GI
 |_,[]=>[]
 |p,g::r=>(match g.i with
  | .ld n ag x=>if looseAt bs l0 p then(if Px bs l0 p then⟨.ldU n ag x,g.g⟩else if Yv bs l0 p then⟨.ldW n ag x,g.g⟩else⟨.ldI n ag x,g.g⟩)else g
  | .st n x y=>if(Yu bs l0).isEmpty=true then g else⟨.stU n x y (Yu bs l0),g.g⟩
  | .bsl k z n ps=>if(ajH bs l0 p ||(Nat.ble 2 k&&argAt l0 p))=true then⟨.bslI k z n ps,g.g⟩else g
  |i=>⟨i.toN,g.g⟩)::mK bs l0 (p+1) r
def ice (bR:List Nat)(l:List GI):List GI:=l.map λg=>match g.i with
 | .bsl k z n ps=>if bR.contains (950000000+100*k+n)then⟨.bslI k z n ps,g.g⟩else g
 |_=>g
def CC.code (C:CC):Code->Option AC
 | .skip=>some .skip
 | .region _ ops draw=>match C.ops [] ops.toList with
  |some l=>if draw then
    if Ct ops.toList (mK (pK [] ops.toList) l 0 l)then some (.reg true (mK (pK [] ops.toList) l 0 l) (C.iw 0 ops.toList))else none
   else some (.reg false (ice C.bR l) (C.iw 0 ops.toList))
  |none=>none
 | .seq a b=>match C.code a,C.code b with
  |some a,some b=>some (.seq a b)
  |_,_=>none
 | .cond c a b=>match C.src [] c,C.code a,C.code b with
  |some c,some a,some b=>some (.cond c a b)
  |_,_,_=>none
 | .block id a=>(C.code a).map (.block id)
 | .loop a=>(C.code a).map .loop
 | .exit id=>some (.exit id)
 | .ret=>some .ret
 | .scope a=>C.code a
 | .label _=>some .skip
 |_=>none
def S7:(defs:List (Option Nat))->List Oper->List Nat
 |_,[]=>[]
 |defs,o::r=>(o.op.operands.toList.filterMap fun
   | .tmp t=>if(posOf t defs).isNone then some t else none
   |_=>none)++S7 (defs++[o.dst]) r
def Ev:Code->List Nat
 | .region _ ops _=>S7 [] ops.toList
 | .seq a b=>Ev a++Ev b
 | .cond c a b=>(match c with
  | .tmp t=>[t]
  |_=>[])++Ev a++Ev b
 | .block _ a=>Ev a
 | .loop a=>Ev a
 | .scope a=>Ev a
 |_=>[]
def tH:List ResultVar->List Nat
 |[]=>[]
 | .tmp t::r=>t::tH r
 | .cell t _::r=>t::tH r
def dedup:List Nat->List Nat->List Nat
 |acc,[]=>acc.reverse
 |acc,a::r=>if acc.contains a then dedup acc r else dedup (a::acc) r
def yf (P:Program)(sl:List Nat):List ResultVar->Option (List G8)
 |[]=>some []
 | .tmp t::r=>match Bi sl t,yf P sl r with
  |some a,some l=>some (⟨a,none⟩::l)
  |_,_=>none
 | .cell t ty::r=>match Bi sl t,yf P sl r with
  |some a,some l=>if P.cellsOf ty=0\/(P.underlying ty).isNone\/(bW P ty=false/\P.cellsOf ty≠1)then none else some (⟨a,some (P.cellsOf ty,bW P ty)⟩::l)
  |_,_=>none
def slotsOf (fn:Func):List Nat:=dedup [] (List.range (fn.params.size+fn.nfree)++tH fn.results.toList++Ev (fn.body.getD .skip))
def vmOps (ops:List Oper):Bool:=ops.any λo=>match o.op with
 | .makeFunc _ first _=>!first.isEmpty
 | .lookup t _ _ _=>(match P.underlying t with
  |some (.map _ e)=>(match P.underlying e with
   |some (.func ..)=>true
   |_=>false)
  |_=>false)
 | .call c=>(match c.callee with
  | .value (.tmp _)=>c.argTypes.toList.any λt=>match P.underlying t with
   |some (.pointer _)=>true
   |_=>false
  |_=>false)
 |_=>false
def Oj (P:Program):Code->Bool
 | .region _ ops _=>vmOps P ops.toList
 | .seq a b=>Oj P a ||Oj P b
 | .cond _ a b=>Oj P a ||Oj P b
 | .block _ a=>Oj P a
 | .loop a=>Oj P a
 | .scope a=>Oj P a
 |_=>false
def QT (fn:Func):Bool:=Oj P (fn.body.getD .skip)
def compile (ν:List (Nat×Nat))(bR:List Nat)(fn:Func):Option aj:=
 match fn.body with
 |some body=>
  match CC.code {P,ν,bR,slots:=slotsOf fn,ntmps:=fn.ntmps,vm:=QT P fn} body,yf P (slotsOf fn) fn.results.toList with
  |some a,some res=>
   if fn.params.size+fn.nfree<=fn.ntmps then some {np:=fn.params.size+fn.nfree,ns:=(slotsOf fn).length,res,rsh:=fn.resultTypes.toList.map λt=>bif bR.contains (keepN fn)then ajR (IE P 8 t)else IE P 8 t,body:=a}else none
  |_,_=>none
 |none=>none
def Av:List (Nat×Nat):=[(3,1219),(4,119),(5,28),(6,90),(7,29),(8,91),(9,98),(10,315),(11,294),(12,101),(13,312),(14,309),(15,313),(16,221),(17,314),(18,110),(19,112),(20,109),(21,111),(22,135),(23,136),(24,266),(25,25),(26,147),(27,114),(28,267),(29,268),(30,269),(31,175),(32,142),(33,138),(34,273),(35,176),(36,274),(37,553),(38,528),(39,529),(40,548),(41,549),(42,497),(43,220),(44,545),(45,546),(46,254),(47,491),(48,499),(49,547),(50,464),(51,550),(52,551),(53,552),(54,296),(55,297),(56,298),(57,159),(58,71),(59,344),(60,345),(61,503),(62,504),(63,143),(64,145),(65,144),(66,360),(67,361),(68,362),(69,505),(70,46),(71,506),(72,408),(73,209),(74,295),(75,409),(76,353),(77,354),(78,355),(79,349),(80,510),(81,410),(82,511),(83,208),(84,451),(85,242),(86,686),(87,463),(88,487),(89,124),(90,733),(93,466),(94,486),(95,535),(96,536),(97,216),(98,217),(99,218),(100,219),(101,572),(102,358),(103,580),(104,75),(105,356),(106,359),(107,357),(108,581),(109,582),(110,583),(111,692),(112,693),(113,694),(114,183),(115,158),(116,170),(117,629),(118,531),(119,516),(120,440),(121,441),(122,442),(123,530),(124,532),(125,533),(126,534),(127,622),(128,74),(129,623),(130,624),(131,699),(132,700),(133,701),(134,665),(136,489),(137,452),(142,675),(143,658),(144,453),(145,454),(146,455),(147,456),(148,457),(149,458),(150,459),(151,460),(152,316),(153,461),(154,462),(155,249),(156,744),(157,745),(158,501),(159,73),(160,748),(161,749),(162,750),(163,751),(164,752),(165,753),(166,754),(167,755),(168,829),(169,184),(170,830),(171,831),(172,415),(173,381),(174,169),(175,627),(176,704),(177,659),(178,714),(179,780),(180,72),(181,712),(182,336),(191,470),(192,666),(193,667),(194,668),(195,669),(196,670),(197,671),(198,672),(199,673),(200,674),(201,554),(202,896),(203,897),(204,898),(205,899),(206,900),(207,901),(208,424),(209,902),(210,903),(211,156),(212,816),(213,904),(214,905),(215,906),(216,907),(217,908),(218,909),(219,416),(220,403),(221,770),(222,782),(223,924),(224,925),(225,70),(226,215),(227,861),(236,812),(237,813),(238,814),(239,815),(240,734),(241,1006),(242,1007),(243,1008),(244,482),(245,676),(246,630),(247,631),(248,375),(249,376),(250,377),(251,378),(252,379),(253,955),(254,1009),(255,1010),(256,1011),(257,1012),(258,1013),(259,1014),(260,1015),(261,617),(262,618),(263,916),(264,917),(265,926),(266,1023),(267,1024),(268,210),(269,211),(270,212),(271,213),(272,214),(273,450),(274,980),(277,952),(278,953),(279,954),(280,882),(281,678),(282,1079),(283,677),(284,783),(285,599),(286,600),(287,601),(288,602),(289,603),(290,1080),(291,1081),(292,1082),(293,1083),(294,1084),(295,374),(296,1085),(297,777),(298,778),(299,1019),(300,1020),(301,1025),(302,1087),(303,443),(304,444),(305,445),(306,446),(307,447),(308,448),(309,449),(310,664),(311,1055),(316,1032),(317,1033),(318,1034),(319,1035),(320,1036),(321,927),(322,769),(323,1118),(324,604),(325,1119),(326,1120),(327,1121),(328,598),(329,1122),(330,1086),(331,495),(332,496),(333,660),(334,661),(335,662),(336,663),(342,1097),(343,1098),(344,1099),(345,1100),(346,771),(347,1137),(348,1138),(349,1139),(350,919),(351,920),(352,921),(353,682),(354,683),(355,684),(356,685),(357,808),(358,809),(359,810),(360,811),(363,1126),(364,918),(365,1144),(366,772),(367,1145),(368,1021),(369,819),(377,827),(378,828),(379,946),(380,947),(381,948),(382,949),(383,950),(384,951),(385,1141),(386,1147),(387,1148),(388,956),(389,957),(393,1031)]
def O0:List Nat:=[219,1091,1354,1894,1896,1616,1320,1618,1898,2062,2066,2282,2068,2252,2194,2064,1904,900,931,937,935,445,978,1328,904,942,944,946,952,448,522,1724,1726,1728,1430,486,500,1842,760,314,310,308,1836,872,870,406,410,412,103920080,104450022,104360064,595,1071,593,597,221,533,1004,1018,1510,1504,1496,1164,1166,724,1818,1502,950000702,1838,1544,1000000247,500000001]
noncomputable def cfY (f:Nat):Option aj:=((Go.Proofs.Tryz.prog).funcs[f]?).bind (compile Go.Proofs.Tryz.prog Av O0)
def zofN:Int.ofNat (no_index (@OfNat.ofNat Nat n (instOfNatNat n)))=@OfNat.ofNat Int n (@instOfNat n):=rfl
def zofU (h:n<2^8):UInt8.ofBitVec (BitVec.ofFin (Fin.mk (no_index (@OfNat.ofNat Nat n (instOfNatNat n))) h))=(OfNat.ofNat n:UInt8):=pB.1 (by show n=(UInt8.ofNat n).toNat;rw[UInt8.toNat_ofNat'];exact(Nat.mod_eq_of_lt h).symm)
def zofM:Int.negSucc 0=-1:=rfl
noncomputable def bd (f:Nat)(s:{a:aj//cfY f=some a}:=by refine⟨?_, ?_⟩;rotate_left;conv=>lhs;reduce;dsimp only[zofN,zofM];try simp only[zofU]):aj:=s.1
structure X where
 w:World
 I:Nat->Prop
 β:Nat->Option (Nat×Nat×Nat)
def UD (es:List MapEntry)(i:Nat):Value:=match es[i/2]? with
 |some e=>if i%2=0 then e.key else e.val
 |none=>undef
inductive RD (ν:List (Nat×Nat))(x:X):Value->D->Prop
 |any (v:Value):RD ν x v .any
 |bool (b:Bool):RD ν x (.bool b) (.bool b)
 |int (k:IntKind) (n:Int):RD ν x (.int k n) (.int k n)
 |str (s:List UInt8) (h:s.length<=maxLen):RD ν x (.string ⟨⟨s⟩⟩) (.str s)
 |agg (cs:Array Value) (ds:List D) (hl:cs.size=ds.length) (h1:∀i,i<ds.length->(cs.getD i undef).oneCell'=true)
   (h:∀i,i<ds.length->RD ν x (cs.getD i undef) (ds.getD i .any)):RD ν x (.agg cs) (.agg ds)
 |tup (cs:Array Value) (ds:List D) (hl:cs.size=ds.length)
   (h:∀i,i<ds.length->RD ν x (cs.getD i undef) (ds.getD i .any)):RD ν x (.tuple cs) (.tup ds)
 |aR:RD ν x (.slice none 0 0) .aR
 |sl (a:Option Addr) (b off len cap k:Nat) (es:List D) (c:Nat->Nat->Value) (hlen:len=es.length)
   (ha:es=[]\/(a=some ⟨b,off,none⟩/\x.I b)) (hcap:len<=cap) (hm:cap<=maxLen)
   (hk:∀i,i<len->(es.getD i .any).cells.length=k) (hn:∀i,i<len->(es.getD i .any).aU=true)
   (hc:∀i j,i<len->j<k->x.w.cell? ⟨b,off+i*k+j,none⟩=some (c i j))
   (h1:∀i j,i<len->j<k->(c i j).oneCell'=true)
   (h:∀i j,i<len->j<k->RD ν x (c i j) ((es.getD i .any).cells.getD j .any)):RD ν x (.slice a len cap) (.sl k es)
 |ref (b off k i o at_:Nat) (es:List D) (c:Nat->Nat->Value) (hI:x.I b) (hat:at_=off+i*k+o)
   (hk:∀i,i<es.length->(es.getD i .any).cells.length=k) (hn:∀i,i<es.length->(es.getD i .any).aU=true)
   (hc:∀i j,i<es.length->j<k->x.w.cell? ⟨b,off+i*k+j,none⟩=some (c i j))
   (h1:∀i j,i<es.length->j<k->(c i j).oneCell'=true)
   (h:∀i j,i<es.length->j<k->RD ν x (c i j) ((es.getD i .any).cells.getD j .any)):RD ν x (.pointer (some ⟨b,at_,none⟩)) (.ref k es i o)
 |ptr (l k i o b base tot at_:Nat) (hβ:x.β l=some (b,base,tot)) (hat:at_=base+i*k+o):RD ν x (.pointer (some ⟨b,at_,none⟩)) (.ptr l k i o)
 |own (l k i n b base tot cap:Nat) (a:Addr) (hβ:x.β l=some (b,base,tot)) (ha:0<cap->a=⟨b,base+i*k,none⟩)
   (hcap:n<=cap) (hm:cap<=maxLen) (ht:i+cap<=tot):RD ν x (.slice (some a) n cap) (.own l k i n)
 |own0 (l k i:Nat) (a:Option Addr):RD ν x (.slice a 0 0) (.own l k i 0)
 |nilp:RD ν x (.pointer none) .nilp
 |fn (fid n:Nat) (cs:Array Value) (ds:List D) (hν:dK ν fid=some n) (hl:cs.size=ds.length)
   (h:∀i,i<ds.length->RD ν x (cs.getD i undef) (ds.getD i .any)):RD ν x (.func (.func fid) #[] cs) (.fn n ds)
 |ef (fid n:Nat) (fs:Array Value) (ds:List D) (hν:dK ν fid=some n) (hl:fs.size=ds.length)
   (h:∀i,i<ds.length->RD ν x (fs.getD i undef) (ds.getD i .any)):RD ν x (.func (.func fid) fs #[]) (.fn (n+1000000) ds)
 |nilf:RD ν x .nilFunc .nilf
 |bx (b at_:Nat) (ds:List D) (v:Value) (hI:x.I b) (hc:x.w.cell? ⟨b,at_,none⟩=some v) (h1:v.oneCell'=true) (hl:ds.length=1)
   (h:∀i,i<ds.length->RD ν x v (ds.getD i .any)):RD ν x (.pointer (some ⟨b,at_,none⟩)) (.fn 3000000 ds)
 |mpn:RD ν x (.map none) (.fn 5100000 [])
 |im (l b base tot:Nat) (hβ:x.β l=some (b,base,tot)):RD ν x (.map (some b)) (.fn 5000000 [.it l])
 |it (l b base tot:Nat) (hβ:x.β l=some (b,base,tot)):RD ν x (.pointer (some ⟨b,0,none⟩)) (.it l)
section
variable {ν:List (Nat×Nat)}{x x':X}
structure Le (x x':X):Prop where
 I:∀b,x.I b->x'.I b
 pg:∀b,x.I b->x'.w.heap[b]? =x.w.heap[b]?
 β:∀l p,x.β l=some p->x'.β l=some p
theorem iI {w:World}{b o:Nat}{v:Value}(h:w'.heap[b]? =w.heap[b]?)(hc:w.cell? ⟨b,o,none⟩=some v):w'.cell? ⟨b,o,none⟩=some v:=by
 rw[<-hc];unfold World.cell?;simp only[h]
def Le.refl (x:X):Le x x:=⟨λ_ h=>h,λ_ _=>rfl,λ_ _ h=>h⟩
def Le.trans {x'':X}(h:Le x x')(h':Le x' x''):Le x x'':=
 ⟨λb hb=>h'.I b (h.I b hb),λb hb=>(h'.pg b (h.I b hb)).trans (h.pg b hb),λl p hp=>h'.β l p (h.β l p hp)⟩
def RD.mono {v:Value}(h:RD ν x v d)(hl:Le x x'):RD ν x' v d:=by
 induction h with
 |any v=>exact .any v
 |bool b=>exact .bool b
 |int k n=>exact .int k n
 |str s h=>exact .str s h
 |agg cs ds hl' h1 _ ih=>exact .agg cs ds hl' h1 ih
 |tup cs ds hl' _ ih=>exact .tup cs ds hl' ih
 |aR=>exact .aR
 |sl a b off len cap k es c hlen ha hcap hm hk hn hc h1 _ ih=>
  refine .sl a b off len cap k es c hlen (ha.imp id λ⟨p,q⟩=>⟨p,hl.I _ q⟩) hcap hm hk hn (λi j hi hj=>?_) h1 ih;rcases ha with rfl|⟨_,hI⟩
  .simp at hlen;omega
  .exact iI (hl.pg _ hI) (hc i j hi hj)
 |ref b off k i o at_ es c hI hat hk hn hc h1 _ ih=>
  exact .ref b off k i o at_ es c (hl.I _ hI) hat hk hn (λi j hi hj=>iI (hl.pg _ hI) (hc i j hi hj)) h1 ih
 |ptr l k i o b base tot at_ hβ hat=>exact .ptr l k i o b base tot at_ (hl.β _ _ hβ) hat
 |own l k i n b base tot cap a hβ ha hcap hm ht=>exact .own l k i n b base tot cap a (hl.β _ _ hβ) ha hcap hm ht
 |own0 l k i a=>exact .own0 l k i a
 |nilp=>exact .nilp
 |fn fid n cs ds hν hl' _ ih=>exact .fn fid n cs ds hν hl' ih
 |ef fid n cs ds hν hl' _ ih=>exact .ef fid n cs ds hν hl' ih
 |nilf=>exact .nilf
 |bx b at_ ds v hI hc h1 hl' _ ih=>exact .bx b at_ ds v (hl.I _ hI) (iI (hl.pg _ hI) hc) h1 hl' ih
 |mpn=>exact .mpn
 |im l b base tot hβ=>exact .im l b base tot (hl.β _ _ hβ)
 |it l b base tot hβ=>exact .it l b base tot (hl.β _ _ hβ)
def cT:∀{ds:List D},aP ds=true->∀i,(ds.getD i .any).aU=true
 |[],_,i=>by simp[D.aU]
 |d::r,h,0=>by simp[aP]at h;simpa using h.1
 |d::r,h,i+1=>by simp[aP]at h;simpa using cT h.2 i
def jP:∀{ds:List D},n6 ds=true->∀i,(ds.getD i .any).fo=true
 |[],_,i=>by simp[D.fo]
 |d::r,h,0=>by simp[n6]at h;simpa using h.1
 |d::r,h,i+1=>by simp[n6]at h;simpa using jP h.2 i
def sK:∀{ds:List D},(∀i,i<ds.length->(ds.getD i .any).aU=true)->aP ds=true
 |[],_=>rfl
 |d::r,h=>by
  simp only[aP,aK];exact⟨by simpa using h 0 aF,sK λi hi=>by simpa using h (i+1) eJ⟩
def lJ (h:d.aU=true)(j:Nat):(d.cells.getD j .any).aU=true:=by
 cases d<;>simp only[D.cells]<;>first
  |(simp only[D.aU]at h;exact cT h j)
  |(cases j<;>simp_all[D.aU])
theorem RD.aU {v:Value}{d:D}(h:RD ν x v d)(hn:d.aU=true)(hI:∀b,x.I b->x'.I b)(hk:∀b,x.I b->x'.w.heap[b]? =x.w.heap[b]?):RD ν x' v d:=by
 induction h with
 |any v=>exact .any v
 |bool b=>exact .bool b
 |int k n=>exact .int k n
 |str s h=>exact .str s h
 |agg cs ds hl' h1 _ ih=>exact .agg cs ds hl' h1 λi hi=>ih i hi (cT yw i)
 |tup cs ds hl' _ ih=>exact .tup cs ds hl' λi hi=>ih i hi (cT yw i)
 |aR=>exact .aR
 |sl a b off len cap k es c hlen ha hcap hm hk' hn' hc h1 _ ih=>
  refine .sl a b off len cap k es c hlen (ha.imp id λ⟨p,q⟩=>⟨p,hI _ q⟩) hcap hm hk' hn' (λi j hi hj=>?_) h1 λi j hi hj=>ih i j hi hj (lJ (hn' i hi) j)
  grind [iI]
 |ref b off k i o at_ es c hIb hat hk' hn' hc h1 _ ih=>
  exact .ref b off k i o at_ es c (hI _ hIb) hat hk' hn' (λi j hi hj=>iI (hk _ hIb) (hc i j hi hj)) h1 λi j hi hj=>ih i j hi hj (lJ (hn' i hi) j)
 |ptr=>simp[D.aU]at hn
 |own=>simp[D.aU]at hn
 |own0=>simp[D.aU]at hn
 |nilp=>exact .nilp
 |fn fid n cs ds hν hl' _ ih=>exact .fn fid n cs ds hν hl' λi hi=>ih i hi (cT yw i)
 |ef fid n cs ds hν hl' _ ih=>exact .ef fid n cs ds hν hl' λi hi=>ih i hi (cT yw i)
 |nilf=>exact .nilf
 |bx b at_ ds v hIr hc h1 hl' _ ih=>exact .bx b at_ ds v (hI _ hIr) (iI (hk _ hIr) hc) h1 hl' λi hi=>ih i hi (cT yw i)
 |mpn=>exact .mpn
 |im=>simp[D.aU,aP]at hn
 |it=>simp[D.aU]at hn
def RD.fo {v:Value}{d:D}(h:RD ν x v d)(hn:d.fo=true):RD ν x' v d:=by
 induction h with
 |any v=>exact .any v
 |bool b=>exact .bool b
 |int k n=>exact .int k n
 |str s h=>exact .str s h
 |agg cs ds hl' h1 _ ih=>exact .agg cs ds hl' h1 λi hi=>ih i hi (jP (by simpa[D.fo]using hn) i)
 |tup cs ds hl' _ ih=>exact .tup cs ds hl' λi hi=>ih i hi (jP (by simpa[D.fo]using hn) i)
 |aR=>exact .aR
 |sl=>simp[D.fo]at hn
 |ref=>simp[D.fo]at hn
 |ptr=>simp[D.fo]at hn
 |own=>simp[D.fo]at hn
 |own0=>simp[D.fo]at hn
 |nilp=>exact .nilp
 |fn fid n cs ds hν hl' _ ih=>exact .fn fid n cs ds hν hl' λi hi=>ih i hi (jP (by simp[D.fo]at hn;exact hn.2) i)
 |ef fid n cs ds hν hl' _ ih=>exact .ef fid n cs ds hν hl' λi hi=>ih i hi (jP (by simp[D.fo]at hn;exact hn.2) i)
 |nilf=>exact .nilf
 |bx=>simp[D.fo]at hn
 |mpn=>exact .mpn
 |im=>simp[D.fo]at hn
 |it=>simp[D.fo]at hn
theorem RD.cells {v:Value}{d:D}(h:RD ν x v d)(hd:0<d.cells.length):
  v.cells.size=d.cells.length/\∀j,j<d.cells.length->(v.cells.getD j undef).oneCell'=true/\RD ν x (v.cells.getD j undef) (d.cells.getD j .any):=by
 cases h with
 |any=>simp[D.cells]at hd
 |tup=>simp[D.cells]at hd
 |agg cs ds hl h1 h=>exact⟨hl,λj hj=>⟨h1 j hj,h j hj⟩⟩
 |bool b=>exact⟨rfl,λj hj=>by simp[D.cells]at hj;subst hj;exact⟨rfl,.bool b⟩⟩
 |int k n=>exact⟨rfl,λj hj=>by simp[D.cells]at hj;subst hj;exact⟨rfl,.int k n⟩⟩
 |str s h=>exact⟨rfl,λj hj=>by simp[D.cells]at hj;subst hj;exact⟨rfl,.str s h⟩⟩
 |aR=>exact⟨rfl,λj hj=>by simp[D.cells]at hj;subst hj;exact⟨rfl,.aR⟩⟩
 |sl a b off len cap k es c hlen ha hcap hm hk hn hc h1 h=>exact⟨rfl,λj hj=>by simp[D.cells]at hj;subst hj;exact⟨rfl,.sl a b off len cap k es c hlen ha hcap hm hk hn hc h1 h⟩⟩
 |ref b off k i o at_ es c hI hat hk hn hc h1 h=>exact⟨rfl,λj hj=>by simp[D.cells]at hj;subst hj;exact⟨rfl,.ref b off k i o at_ es c hI hat hk hn hc h1 h⟩⟩
 |ptr l k i o b base tot at_ hβ hat=>exact⟨rfl,λj hj=>by simp[D.cells]at hj;subst hj;exact⟨rfl,.ptr l k i o b base tot at_ hβ hat⟩⟩
 |own l k i n b base tot cap a hβ ha hcap hm ht=>exact⟨rfl,λj hj=>by simp[D.cells]at hj;subst hj;exact⟨rfl,.own l k i n b base tot cap a hβ ha hcap hm ht⟩⟩
 |own0 l k i a=>exact⟨rfl,λj hj=>by simp[D.cells]at hj;subst hj;exact⟨rfl,.own0 l k i a⟩⟩
 |nilp=>exact⟨rfl,λj hj=>by simp[D.cells]at hj;subst hj;exact⟨rfl,.nilp⟩⟩
 |fn fid n cs ds hν hl h=>exact⟨rfl,λj hj=>by simp[D.cells]at hj;subst hj;exact⟨rfl,.fn fid n cs ds hν hl h⟩⟩
 |ef fid n cs ds hν hl h=>exact⟨rfl,λj hj=>by simp[D.cells]at hj;subst hj;exact⟨rfl,.ef fid n cs ds hν hl h⟩⟩
 |nilf=>exact⟨rfl,λj hj=>by simp[D.cells]at hj;subst hj;exact⟨rfl,.nilf⟩⟩
 |bx b at_ ds v hI hc h1 hl h=>exact⟨rfl,λj hj=>by simp[D.cells]at hj;subst hj;exact⟨rfl,.bx b at_ ds v hI hc h1 hl h⟩⟩
 |mpn=>exact⟨rfl,λj hj=>by simp[D.cells]at hj;subst hj;exact⟨rfl,.mpn⟩⟩
 |im l b base tot hβ=>exact⟨rfl,λj hj=>by simp[D.cells]at hj;subst hj;exact⟨rfl,.im l b base tot hβ⟩⟩
 |it l b base tot hβ=>exact⟨rfl,λj hj=>by simp[D.cells]at hj;subst hj;exact⟨rfl,.it l b base tot hβ⟩⟩
end
section
variable {ν:List (Nat×Nat)}{x x':X}
def zVv (j:Nat):Value:=if j<3 then .int .i64 0 else .string ⟨⟨[]⟩⟩
class cI where
 tB:TypeId:=0
 tU:TypeId:=0
 gd:X->Prop
 le:∀x x':X,(∀b,x.I b->x'.I b)->(∀b,x.I b->x'.w.heap[b]? =x.w.heap[b]?)->gd x->gd x'
 gz:Nat->Prop:=λ_=>False
 gzr:∀(x:X) (g:Nat),gd x->gz g->∀j,j<5->x.w.cell? ⟨g,j,none⟩=some (zVv j):=by exact λ_ _ _ h=>h.elim
variable [cI]
def oW (ν:List (Nat×Nat))(x:X)(b base tot:Nat):bm->Prop
 | .buf k es=>0<k/\es.length<=tot/\∃c T fr,x.w.heap[b]? =some (.cells c T fr)/\base+tot*k<=c.size/\
   (∀o,o<c.size->¬(fr.1<=o/\o<fr.2))/\
   ∀i,i<es.length->(es.getD i .any).cells.length=k/\∀j,j<k->
    (c.getD (base+i*k+j) undef).oneCell'=true/\RD ν x (c.getD (base+i*k+j) undef) ((es.getD i .any).cells.getD j .any)
 | .iter s pos=>x.w.heap[b]? =some (.stringIter ⟨⟨s⟩⟩ pos)/\s.length<=maxLen
 | .row s=>base=0/\∃c,x.w.heap[b]? =some (.cells c cI.tU (0,0))/\c.size=tot/\tot<=maxLen/\s.length<=tot/\∀i,i<s.length->c.getD i undef=.int .u8 (s.getD i 0).toNat
 | .bld o n u=>base=0/\∃v,x.w.heap[b]? =some (.cells #[.pointer (if u=true then some ⟨b,0,none⟩else none),v] cI.tB (0,0))/\
   match o with
   |none=>n=0/\v=.slice none 0 0
   |some l=>∃g t,v=.slice (some ⟨g,0,none⟩) n t/\n<=t/\x.β l=some (g,0,t)
 | .mpb kvs=>aP kvs=true/\∃es cl,x.w.heap[b]? =some (.map es cl)/\2*es.size=kvs.length/\(es.toList.map (·.key)).Nodup/\∀i,i<kvs.length->RD ν x (UD es.toList i) (kvs.getD i .any)
def rH (h:Le x x')(hg:cI.gd x):cI.gd x':=cI.le x x' h.I h.pg hg
structure fG (ν:List (Nat×Nat))(x:X)(f:Nat->Option bm):Prop where
 own:∀l blk b base tot,f l=some blk->x.β l=some (b,base,tot)->¬x.I b/\oW ν x b base tot blk
 inj:∀l l' b base tot base' tot',f l≠none->f l'≠none->x.β l=some (b,base,tot)->x.β l'=some (b,base',tot')->l=l'
 imm:∀b,x.I b->b<x.w.heap.size
 ef:∀l b base tot,x.β l=some (b,base,tot)->b<x.w.heap.size
 gd:cI.gd x
structure Step (x x':X):Prop where
 os:x'.w.os=x.w.os
 tape:x'.w.tape=x.w.tape
 output:x'.w.output=x.w.output
 size:x.w.heap.size<=x'.w.heap.size
 I:∀b,x.I b->x'.I b
 pg:∀b,x.I b->x'.w.heap[b]? =x.w.heap[b]?
 β:∀l p,x.β l=some p->x'.β l=some p
 old:∀b,b<x.w.heap.size->(∀l p,x.β l=some p->p.1≠b)->x'.w.heap[b]? =x.w.heap[b]?
 newI:∀b,x'.I b->x.I b\/x.w.heap.size<=b\/∃l p,x.β l=some p/\p.1=b
 newβ:∀l p,x'.β l=some p->x.β l=some p\/x.w.heap.size<=p.1\/∃l' p',x.β l'=some p'/\p'.1=p.1
def Step.le (h:Step x x'):Le x x':=⟨h.I,h.pg,h.β⟩
def Step.refl (x:X):Step x x:=⟨rfl,rfl,rfl,aT _,λ_ h=>h,λ_ _=>rfl,λ_ _ h=>h,λ_ _ _=>rfl,λ_ h=>.inl h,λ_ _ h=>.inl h⟩
def Step.trans {x'':X}(h:Step x x')(h':Step x' x''):Step x x'':=by
 refine⟨h'.os.trans h.os,h'.tape.trans h.tape,h'.output.trans h.output,dN h.size h'.size,λb hb=>h'.I b (h.I b hb),
  λb hb=>(h'.pg b (h.I b hb)).trans (h.pg b hb),λl p hp=>h'.β l p (h.β l p hp), ?_, ?_, ?_⟩
 .intro b hb hn;refine(h'.old b (jj hb h.size) ?_).trans (h.old b hb hn);intro l p hp e;rcases h.newβ l p hp with h1|h1|⟨l',p',h1,h2⟩
  .exact hn l p h1 e
  .omega
  .exact hn l' p' h1 (h2.trans e)
 .intro b hb;rcases h'.newI b hb with h1|h1|⟨l,p,h1,h2⟩
  .exact h.newI b h1
  .exact .inr (.inl (dN h.size h1))
  .rcases h.newβ l p h1 with h3|h3|⟨l',p',h3,h4⟩
   .exact .inr (.inr ⟨l,p,h3,h2⟩)
   .exact .inr (.inl (h2▸h3))
   .exact .inr (.inr ⟨l',p',h3,h4.trans h2⟩)
 .intro l p hp;rcases h'.newβ l p hp with h1|h1|⟨l',p',h1,h2⟩
  .exact h.newβ l p h1
  .exact .inr (.inl (dN h.size h1))
  .rcases h.newβ l' p' h1 with h3|h3|⟨l'',p'',h3,h4⟩
   .exact .inr (.inr ⟨l',p',h3,h2⟩)
   .exact .inr (.inl (h2▸h3))
   .exact .inr (.inr ⟨l'',p'',h3,h4.trans h2⟩)
def oW.mono {b base tot:Nat}{blk:bm}(h:oW ν x b base tot blk)(hl:Le x x')(hb:x'.w.heap[b]? =x.w.heap[b]?):oW ν x' b base tot blk:=by
 cases blk with
 |buf k es=>
  obtain⟨hk,ht,c,T,fr,h1,h2,h3,h4⟩:=h;exact⟨hk,ht,c,T,fr,hb.trans h1,h2,h3,λi hi=>⟨(h4 i hi).1,λj hj=>⟨((h4 i hi).2 j hj).1,((h4 i hi).2 j hj).2.mono hl⟩⟩⟩
 |iter s pos=>exact⟨hb.trans h.1,h.2⟩
 |row s=>
  obtain⟨h0,c,h1,h2⟩:=h;exact⟨h0,c,hb.trans h1,h2⟩
 |mpb kvs=>
  obtain⟨h0,es,cl,h1,h2,h3,h4⟩:=h;exact⟨h0,es,cl,hb.trans h1,h2,h3,λi hi=>(h4 i hi).mono hl⟩
 |bld o n u=>
  obtain⟨h0,v,h1,h2⟩:=h;refine⟨h0,v,hb.trans h1, ?_⟩;cases o with
  |none=>exact h2
  |some l=>
   obtain⟨g,t,h3,h4,h5⟩:=h2;exact⟨g,t,h3,h4,hl.β _ _ h5⟩
structure ie (w w':World):Prop where
 os:w'.os=w.os
 tape:w'.tape=w.tape
 output:w'.output=w.output
 size:w.heap.size<=w'.heap.size
 old:∀b,b<w.heap.size->w'.heap[b]? =w.heap[b]?
def ie.refl:ie w w:=⟨rfl,rfl,rfl,aT _,λ_ _=>rfl⟩
def lU (o:Obj)(b:Nat)(hb:b<w.heap.size):(w.alloc o).heap[b]? =w.heap[b]? :=by
 simp only[World.alloc,Array.getElem?_push];rw[ai ae]
def dV (o:Obj):(w.alloc o).heap[w.heap.size]? =some o:=by show(w.heap.push o)[w.heap.size]? =some o;simp
def ie.alloc (o:Obj):ie w (w.alloc o):=⟨rfl,rfl,rfl,aF,λb hb=>lU w o b hb⟩
def ie.trans {w w' w'':World}(h:ie w w')(h':ie w' w''):ie w w'':=
 ⟨h'.os.trans h.os,h'.tape.trans h.tape,h'.output.trans h.output,dN h.size h'.size,λb hb=>(h'.old b (jj hb h.size)).trans (h.old b hb)⟩
def ie.drew:ie w w.drew:=⟨rfl,rfl,rfl,aT _,λ_ _=>rfl⟩
def Step.grow (hw:ie x.w w')(himm:∀b,x.I b->b<x.w.heap.size):Step x ⟨w',x.I,x.β⟩:=
 ⟨hw.os,hw.tape,hw.output,hw.size,λ_ h=>h,λb hb=>hw.old b (himm b hb),λ_ _ h=>h,λb hb _=>hw.old b hb,λ_ h=>.inl h,λ_ _ h=>.inl h⟩
def fG.grow {f:Nat->Option bm}{w':World}(h:fG ν x f)(hw:ie x.w w'):fG ν ⟨w',x.I,x.β⟩ f:=
 ⟨λl blk b base tot h1 h2=>⟨(h.own l blk b base tot h1 h2).1,(h.own l blk b base tot h1 h2).2.mono (Step.grow hw h.imm).le (hw.old b (h.ef l b base tot h2))⟩,
  h.inj,λb hb=>jj (h.imm b hb) hw.size,λl b base tot hb=>jj (h.ef l b base tot hb) hw.size,rH (Step.grow hw h.imm).le h.gd⟩
def fe (β:Nat->Option (Nat×Nat×Nat))(L:Nat)(p:Nat×Nat×Nat):Nat->Option (Nat×Nat×Nat):=λl=>if l=L then some p else β l
def jt (f:Nat->Option bm)(L:Nat)(b:Option bm):Nat->Option bm:=λl=>if l=L then b else f l
theorem El {L n base tot:Nat}(hw:ie x.w w')(hn:x.w.heap.size<=n)(hL:x.β L=none)(himm:∀b,x.I b->b<x.w.heap.size):
  Step x ⟨w',x.I,fe x.β L (n,base,tot)⟩:=by
 refine⟨hw.os,hw.tape,hw.output,hw.size,λ_ h=>h,λb hb=>hw.old b (himm b hb),λl p hp=>?_,λb hb _=>hw.old b hb,λ_ h=>.inl h,λl p hp=>?_⟩
 .grind [fe]
 grind [fe]
def ae0 {f:Nat->Option bm}{L n base tot:Nat}{blk:bm}(h:fG ν x f)(hw:ie x.w w')(hn:x.w.heap.size<=n)(hnw:n<w'.heap.size)(hL:x.β L=none)(hb:oW ν ⟨w',x.I,fe x.β L (n,base,tot)⟩ n base tot blk):fG ν ⟨w',x.I,fe x.β L (n,base,tot)⟩ (jt f L (some blk)):=by
 have hle:=(El (base:=base) (tot:=tot) hw hn hL h.imm).le;refine⟨λl blk' b base' tot' h1 h2=>?_,λl l' b base' tot' base'' tot'' h1 h1' h2 h2'=>?_,λb hb=>jj (h.imm b hb) hw.size,λl b base' tot' h2=>?_,rH hle h.gd⟩
 .by_cases e:l=L
  .subst e;simp only[fe,bo,aC,dw]at h2;simp only[jt,bo,aC]at h1;obtain⟨rfl,rfl,rfl⟩:=h2;subst h1;exact⟨λhI=>by have:=h.imm _ hI;omega,hb⟩
  .simp only[fe,e,a8]at h2;simp only[jt,e,a8]at h1;obtain⟨a1,a2⟩:=h.own l blk' b base' tot' h1 h2;exact⟨a1,a2.mono hle (hw.old b (h.ef l b base' tot' h2))⟩
 .by_cases e:l=L<;>by_cases e':l'=L
  .exact e.trans e'.symm
  .simp only[fe,e,bo,aC,dw]at h2;simp only[fe,e',a8]at h2';have:=h.ef l' b base'' tot'' h2';obtain⟨h2,_,_⟩:=h2;omega
  .simp only[fe,e',bo,aC,dw]at h2';simp only[fe,e,a8]at h2;have:=h.ef l b base' tot' h2;obtain⟨h2',_,_⟩:=h2';omega
  .simp only[fe,e,a8]at h2;simp only[fe,e',a8]at h2';simp only[jt,e,a8]at h1;simp only[jt,e',a8]at h1';exact h.inj l l' b base' tot' base'' tot'' h1 h1' h2 h2'
 .by_cases e:l=L
  .simp only[fe,e,bo,aC,dw]at h2;obtain⟨h2,_,_⟩:=h2;show b<w'.heap.size;omega
  .simp only[fe,e,a8]at h2;exact jj (h.ef l b base' tot' h2) hw.size
variable {P:Program}{w:World}
def pf (h:P.cellsOf t≠0):∃i,P.info? t=some i/\i.size=P.cellsOf t:=by
 unfold Program.cellsOf at h⊢;cases hi:P.info? t with
 |none=>simp[hi]at h
 |some i=>exact⟨i,rfl,aF⟩
def dC (h:P.cellsOf t≠0):(sizeOf t).run P w=.ok (P.cellsOf t) w:=by
 obtain⟨i,hi,hs⟩:=pf h;simp[sizeOf,typeInfo,hi,hs]
def v8 (h:(P.underlying t).isNone=false):(isAgg t).run P w=.ok (bW P t) w:=by
 cases hu:P.underlying t with
 |none=>simp[hu]at h
 |some d=>unfold isAgg bW;rw[Sem.run_bind,run_underlying hu w];simp only[hu,Result.andThen];cases d<;>rfl
theorem Addr.A9 (b o n:Nat):(⟨b,o,none⟩:Addr).add n=⟨b,o+n,none⟩:=by unfold Addr.add;split<;>simp_all
end
section
variable [cI]
section
variable {ν:List (Nat×Nat)}{x:X}{f:Nat->Option bm}{P:Program}
mutual
theorem nr:∀(v:Value) (d:D),fO v=some d->RD ν x v d
 | .bool b,d,h=>by simp[fO]at h;subst h;exact .bool b
 | .int k n,d,h=>by simp[fO]at h;subst h;exact .int k n
 | .string ⟨⟨s⟩⟩,d,h=>by
  simp only[fO]at h;split at h
  .rename_i hs;simp only[aC]at h;subst h;exact .str s (by simpa[maxLen,ByteArray.size]using hs)
  .cases h
 | .pointer none,d,h=>by simp[fO]at h;subst h;exact .nilp
 | .slice none 0 0,d,h=>by simp[fO]at h;subst h;exact .aR
 | .nilFunc,d,h=>by simp[fO]at h;subst h;exact .nilf
 | .map none,d,h=>by simp[fO]at h;subst h;exact .mpn
 | .agg ⟨cs⟩,d,h=>by
  simp only[fO]at h;split at h
  .rename_i hone;cases hc:tm cs with
   |none=>simp[hc]at h
   |some ds=>
    simp[hc]at h;subst h;obtain⟨hl,hr⟩:=uT cs ds hc;refine .agg ⟨cs⟩ ds (by simpa using hl) (λi hi=>?_) (λi hi=>by simpa using hr i hi);have:=sg cs hone i ae;simpa using this
  .cases h
 | .float _ _,d,h=>by simp[fO]at h
 | .complex _ _ _,d,h=>by simp[fO]at h
 | .pointer (some _),d,h=>by simp[fO]at h
 | .slice (some _) _ _,d,h=>by simp[fO]at h
 | .slice none (_+1) _,d,h=>by simp[fO]at h
 | .slice none 0 (_+1),d,h=>by simp[fO]at h
 | .map (some _),d,h=>by simp[fO]at h
 | .chan _,d,h=>by simp[fO]at h
 | .func _ _ _,d,h=>by simp[fO]at h
 | .iface _ _,d,h=>by simp[fO]at h
 | .tuple _,d,h=>by simp[fO]at h
theorem uT:∀(vs:List Value) (ds:List D),tm vs=some ds->vs.length=ds.length/\∀i,i<ds.length->RD ν x (vs.getD i undef) (ds.getD i .any)
 |[],ds,h=>by simp[tm]at h;subst h;simp
 |v::r,ds,h=>by
  simp only[tm]at h;split at h
  .rename_i d ds' h1 h2;simp only[aC]at h;subst h;have a:=nr v d h1;obtain⟨b1,b2⟩:=uT r ds' h2;refine⟨by simp[b1],λi hi=>?_⟩;cases i with
   |zero=>simpa using a
   |succ i=>simpa using b2 i oz
  .cases h
theorem sg:∀(vs:List Value),wO vs=true->∀i,i<vs.length->(vs.getD i undef).oneCell'=true
 |[],_,i,hi=>by simp at hi
 |v::r,h,i,hi=>by
  simp only[wO,aK]at h;cases i with
  |zero=>simp;cases v<;>simp_all[Value.oneCell']
  |succ i=>simpa using sg r h.2 i oz
end
def BD (ν:List (Nat×Nat))(x:X)(f:Nat->Option bm)(L:Nat)(d:D)(r:Result Next):Prop:=
 ∃v x',(r=.ok (.value v) x'.w\/r=.ok .skip x'.w/\v=undef)/\Step x x'/\RD ν x' v d/\fG ν x' f/\∀l,l≠L->x'.β l=x.β l
def nP {L:Nat}{v:Value}{r:Result Next}(hs:fG ν x f)(hr:r=.ok (.value v) x.w)(hd:RD ν x v d):BD ν x f L d r:=
 ⟨v,x,.inl hr,.refl x,hd,hs,λ_ _=>rfl⟩
def vz (C:CC)(defs:List (Option Nat))(J:Src->aY)(ev:Operand->Value)(x:X)(os:List Operand):Prop:=
 ∀o,o∈os->∀s,C.src defs o=some s->(J s).ok=true->RD C.ν x (ev o) (J s).d
def RD.jK {v:Value}{b:Bool}(h:RD ν x v (.bool b)):v=.bool b:=by cases h;rfl
def RD.dr {v:Value}{k:IntKind}{n:Int}(h:RD ν x v (.int k n)):v=.int k n:=by cases h;rfl
def RD.jW {v:Value}{s:List UInt8}(h:RD ν x v (.str s)):v=.string ⟨⟨s⟩⟩/\s.length<=maxLen:=by cases h;exact⟨rfl,‹_›⟩
def RD.pick {b:Bool}{u v:Value}{d e:D}(h1:b=true->RD ν x u d)(h2:b=false->RD ν x v e):RD ν x (if b then u else v) (D.pick b d e):=by
 cases b
 .have:=h2 rfl;simp only[ib,a8];cases d<;>cases e<;>simp only[D.pick,cond_false]<;>exact this
 .have:=h1 rfl;simp only[bo];cases d<;>cases e<;>simp only[D.pick,cond_true]<;>exact this
def NQ {op:BinOp}{k k':IntKind}{a b:Int}(hb:Ba op (.int k a) (.int k' b)):
  ∃v,(binOp op t (.int k a) (.int k' b)).run P w=.ok v w/\RD ν x v (E9 op (.int k a) (.int k' b)):=by
 cases op<;>simp only[Ba]at hb<;>simp only[binOp,E9,ne_eq]
 case shl=>exact⟨_,by simp[Op.shift,show ¬b<0 by omega],.int _ _⟩
 case shr=>exact⟨_,by simp[Op.shift,show ¬b<0 by omega],.int _ _⟩
 case quo=>obtain⟨rfl,hb⟩:=hb;exact⟨_,by simp[Op.intDiv,hb],.int _ _⟩
 case rem=>obtain⟨rfl,hb⟩:=hb;exact⟨_,by simp[Op.intDiv,hb],.int _ _⟩
 case and=>subst hb;exact⟨_,by simp[Op.intBits],.int _ _⟩
 case or=>subst hb;exact⟨_,by simp[Op.intBits],.int _ _⟩
 case xor=>subst hb;exact⟨_,by simp[Op.intBits],.int _ _⟩
 case andNot=>subst hb;exact⟨_,by simp[Op.intBits],.int _ _⟩
 case add=>subst hb;exact⟨_,by simp[Op.intArith],.int _ _⟩
 case sub=>subst hb;exact⟨_,by simp[Op.intArith],.int _ _⟩
 case mul=>subst hb;exact⟨_,by simp[Op.intArith],.int _ _⟩
 case eql=>subst hb;exact⟨_,by simp[Op.intCmp],.bool _⟩
 case neq=>subst hb;exact⟨_,by simp[Op.intCmp],.bool _⟩
 case lss=>subst hb;exact⟨_,by simp[Op.intCmp],.bool _⟩
 case leq=>subst hb;exact⟨_,by simp[Op.intCmp],.bool _⟩
 case gtr=>subst hb;exact⟨_,by simp[Op.intCmp],.bool _⟩
 case geq=>subst hb;exact⟨_,by simp[Op.intCmp],.bool _⟩
def Hl (a b:List UInt8):(⟨⟨a⟩⟩:ByteArray)++⟨⟨b⟩⟩=⟨⟨a++b⟩⟩:=by
 have h:((⟨⟨a⟩⟩:ByteArray)++⟨⟨b⟩⟩).data=(⟨a++b⟩:Array UInt8):=by
  rw[ByteArray.data_append];simp
 exact ar ByteArray.mk h
def NR {op:BinOp}{a b:List UInt8}(hb:Ba op (.str a) (.str b)):
  ∃v,(binOp op t (.string ⟨⟨a⟩⟩) (.string ⟨⟨b⟩⟩)).run P w=.ok v w/\RD ν x v (E9 op (.str a) (.str b)):=by
 have hs:∀l:List UInt8,(⟨⟨l⟩⟩:ByteArray).size=l.length:=λ_=>rfl
 cases op<;>simp only[Ba]at hb<;>simp only[binOp,E9]
 case add=>
  refine⟨.string ⟨⟨a++b⟩⟩, ?_,.str _ (by simp[maxLen];omega)⟩;have:¬(((⟨⟨a⟩⟩:ByteArray).size+(⟨⟨b⟩⟩:ByteArray).size:Nat):Int)>IntKind.i64.max:=by
   rw[hs,hs];simp only[IntKind.max,IntKind.signed,IntKind.bits,bo];omega
  simp only[Op.stringOp,this,a8,Sem.run_pure,Hl]
 all_goals
  refine⟨_,by simp only[Op.stringOp,Sem.run_pure];rfl, ?_⟩;simp only[ByteArray.toList_eq];exact .bool _
def oH (op:BinOp)(t:TypeId)(p q:Operand){u v:Value}(h:(∀cs,u≠.agg cs)/\u≠.nilIface)(w:World):(eqGuard op t p q u v).run P w=.ok () w:=by
 obtain⟨h1,h2⟩:=h;unfold eqGuard;cases op<;>simp<;>(split<;>first|rfl|simp_all)
theorem eh {α:Type}(l:List α)(o n:Nat)(d:α)(j:Nat)(hj:j<n):((l.drop o).take n).getD j d=l.getD (o+j) d:=by
 grind
def gX {α:Type}(l:List α)(o n:Nat)(h:o+n<=l.length):((l.drop o).take n).length=n:=by
 simp;omega
theorem bL (cs:Array Value)(i:Nat)(d:Value):cs.toList.getD i d=cs.getD i d:=by
 simp[List.getD,Array.getD];split<;>simp_all
def qd {cs:Array Value}{ds:List D}{off n:Nat}{ag:Bool}(hv:RD ν x (.agg cs) (.agg ds))(ht:P.cellsOf t≠0)(hu:(P.underlying t).isNone=false)(hn:n=P.cellsOf t)(hag:ag=bW P t)(hle:off+n<=ds.length)(h1:ag=false->n=1):
  ∃v,(part t cs off).run P w=.ok v w/\RD ν x v (cut ds off n ag):=by
 cases hv with
 |agg _ _ hl hone h=>
  unfold part;rw[Sem.run_bind,v8 hu];subst hag;cases hb:bW P t
  .have hn1:=h1 (by rw[hb]);have hlt:off<cs.size:=ae;refine⟨cs.getD off undef, ?_, ?_⟩
   .simp[Result.andThen,Array.getElem?_eq_getElem hlt,Array.getD,hlt]
   .simp only[cut,cond_false];exact h off ae
  .refine⟨.agg (cs.extract off (off+n)), ?_, ?_⟩
   .simp[Result.andThen,dC ht,hn]
   .simp only[cut,cond_true];refine .agg _ _ ?_ ?_ ?_
    .simp;omega
    .intro i hi;simp at hi;have:=hone (off+i) ae;rw[<-this];congr 1;simp[Array.getD,show off+i<cs.size by omega,show i<min (off+n) cs.size-off by omega]
    .intro i hi;simp at hi;rw[eh _ _ _ _ _ ae];have:=h (off+i) ae;have e:(cs.extract off (off+n)).getD i undef=cs.getD (off+i) undef:=by
      simp[Array.getD,show off+i<cs.size by omega,show i<min (off+n) cs.size-off by omega]
     rw[e];exact this
end
end
section
variable [cI]
section
variable {x:X}{f:Nat->Option bm}{C:CC}{defs:List (Option Nat)}{J:Src->aY}{ev:Operand->Value}{Y:Ctx}{m:List (Nat×bm)}{L:Nat}
def iz {os':List Operand}(hρ:vz C defs J ev x os'):∀(os:List Operand) (ss:List Src),(∀o∈os,o∈os')->C.wi defs os=some ss->BW J ss->
  os.length=ss.length/\(iL J ss).length=os.length/\∀i,i<(iL J ss).length->RD C.ν x ((os.map ev).getD i undef) ((iL J ss).getD i .any)
 |[],ss,_,h,_=>by simp[CC.wi]at h;subst h;simp[iL]
 |o::r,ss,hm,h,hk=>by
  simp only[CC.wi]at h;split at h
  .rename_i a l h1 h2;simp only[aC]at h;subst h;simp only[BW]at hk;obtain⟨b1,b2,b3⟩:=iz hρ r l (λo ho=>hm o (.tail _ ho)) h2 hk.2;refine⟨by simp[b1],by simp[iL,b2],λi hi=>?_⟩;cases i with
   |zero=>simpa[iL]using hρ o (hm o (.head _)) a h1 hk.1
   |succ i=>simpa[iL]using b3 i (by simpa[iL]using hi)
  .cases h
theorem CN (off:Nat):∀(new:List Value) (st:Nat) (acc:Array Value),off+st+new.length<=acc.size->
  ((new.zipIdx st).foldl (λcs (c,j)=>cs.setIfInBounds (off+j) c) acc).size=acc.size/\
  ∀q,((new.zipIdx st).foldl (λcs (c,j)=>cs.setIfInBounds (off+j) c) acc)[q]? =if off+st<=q/\q<off+st+new.length then new[q-(off+st)]? else acc[q]?
 |[],st,acc,_=>⟨aF,λq=>eJ⟩
 |c::r,st,acc,hb=>by
  simp only[bH]at hb;obtain⟨h1,h2⟩:=CN off r (st+1) (acc.setIfInBounds (off+st) c) eJ;refine⟨by simpa[List.zipIdx_cons]using h1,λq=>?_⟩;rw[List.zipIdx_cons,List.foldl_cons,h2 q]
  grind
def sM {os':List Operand}(hρ:vz C defs J ev x os')(place:Nat->Option (Nat×Nat))(len:Nat):∀(ps:List (Nat×Operand)) (ss:List (Nat×Nat×Src)),
  (∀p∈ps,p.2∈os')->C.parts defs place ps=some ss->Af J len ss->∀(cs:Array Value) (ds:List D),cs.size=len->RD C.ν x (.agg cs) (.agg ds)->
  ∃cs',Instr.fill place cs (ps.map fun(i,o)=>(i,ev o))=some cs'/\RD C.ν x (.agg cs') (.agg (Cz J ds ss))
 |[],ss,_,h,_,cs,ds,_,hr=>by simp[CC.parts]at h;subst h;exact⟨cs,by simp[Instr.fill],by simpa[Cz]using hr⟩
 |(i,o)::r,ss,hm,h,hk,cs,ds,hlen,hr=>by
  simp only[CC.parts]at h;split at h
  .rename_i off n s l h1 h2 h3;split at h
   .cases h
   rename_i hn0;simp only[aC]at h;subst h;simp only[Af]at hk;obtain⟨k1,k2,k3,k4⟩:=hk;have hn:0<n:=ae;have hv:=hρ o (hm _ (.head _)) s h2 k1;obtain⟨c1,c2⟩:=hv.cells ae;have hsz:(ev o).cells.size=n:=ae;cases hr with
   |agg _ _ hl hone hh=>
   let cs1:Array Value:=((ev o).cells.toList.zipIdx 0).foldl (λcs (c,j)=>cs.setIfInBounds (off+j) c) cs
   have harr:(ev o).cells.zipIdx.foldl (λcs (c,j)=>cs.setIfInBounds (off+j) c) cs=cs1:=by
    rw[<-Array.foldl_toList];simp[cs1]
   have hcs1:=harr;obtain⟨hsz1,hgq⟩:=CN off (ev o).cells.toList 0 cs eJ;have hget:∀q,q<cs.size->cs1.getD q undef=if q<off then cs.getD q undef else if q<off+n then(ev o).cells.getD (q-off) undef else cs.getD q undef:=by
    intro q hq;have:=hgq q;rw[<-bL,<-bL cs,<-bL (ev o).cells];simp only[List.getD,Array.getElem?_toList];rw[show cs1[q]? =_ from this];simp only[Array.length_toList,hsz,Nat.add_zero];by_cases q1:q<off
    .rw[ak q1,ai ae]
    .rw[ai q1];by_cases q2:q<off+n
     .rw[ak q2,ak ae];simp
     .rw[ai q2,ai ae]
   have hsz1:cs1.size=cs.size:=hsz1;have hdlen:(over ds off (J s).d.cells).length=ds.length:=by simp[over];omega
   have hdget:∀q,q<ds.length->(over ds off (J s).d.cells).getD q .any=if q<off then ds.getD q .any else if q<off+n then(J s).d.cells.getD (q-off) .any else ds.getD q .any:=by
    intro q hq;simp only[over,List.getD,List.getElem?_append,ey];by_cases q1:q<off
    .rw[ak ae,ak q1];simp[List.getElem?_take,q1]
    .rw[ai ae,ai q1,show q-min off ds.length=q-off by omega];by_cases q2:q<off+n
     .rw[ak q2,ak ae]
     .rw[ai q2,ai ae];simp only[List.getElem?_drop];congr 3;omega
   have hr1:RD C.ν x (.agg cs1) (.agg (over ds off (J s).d.cells)):=by
    refine .agg _ _ ae (λq hq=>?_) (λq hq=>?_)
    .rw[hdlen]at hq;rw[hget q ae];split
     .exact hone q hq
     .split
      .exact(c2 (q-off) ae).1
      .exact hone q hq
    .rw[hdlen]at hq;rw[hget q ae,hdget q hq];split
     .exact hh q hq
     .split
      .exact(c2 (q-off) ae).2
      .exact hh q hq
   obtain⟨cs',g1,g2⟩:=sM hρ place len r l (λp hp=>hm p (.tail _ hp)) h3 k4 cs1 _ ae hr1;refine⟨cs', ?_,by simpa[Cz]using g2⟩;simp only[List.map_cons,Instr.fill,h1];rw[ai (by simp[hsz];omega),hcs1];exact g1
  .cases h
end
section
variable {ν:List (Nat×Nat)}{x:X}{P:Program}
def jo:∀(ks:List CK) (ds:List D),fH ks ds->ds.length=ks.length
 |[],[],_=>rfl
 |[],_::_,h=>by simp[fH]at h
 |_::_,[],h=>by simp[fH]at h
 |c::r,d::ds,h=>by have:=jo r ds (by simp[fH]at h;exact h.2);simp;omega
theorem kI:∀(a b:List CK) (ds:List D),fH (a++b) ds->fH a (ds.take a.length)/\fH b (ds.drop a.length)
 |[],b,ds,h=>by simpa[fH]using h
 |c::r,b,[],h=>by simp[fH]at h
 |c::r,b,d::ds,h=>by
  simp only[rv,fH]at h;obtain⟨h1,h2⟩:=kI r b ds h.2
  grind [fH]
def vG:∀(n:Nat) (ds es:List D),ds.length=es.length->gU ds es=(gU (ds.take n) (es.take n)&&gU (ds.drop n) (es.drop n))
 |0,ds,es,_=>by simp[gU]
 |n+1,[],[],_=>by simp[gU]
 |n+1,[],_::_,h=>by simp at h
 |n+1,_::_,[],h=>by simp at h
 |n+1,d::ds,e::es,h=>by
  simp only[gU,List.take_succ_cons,List.drop_succ_cons];rw[vG n ds es rA,Bool.and_assoc]
def LX {c:CK}(h:c.fits d):d.cells=[d]/\d.isAgg=false:=by
 cases c<;>cases d<;>simp_all[CK.fits,D.cells,D.isAgg]
def mf {c:CK}(h:fH [c] d.cells)(ha:d.isAgg=false):c.fits d:=by
 cases d<;>simp_all[D.cells,D.isAgg,fH]
def tn {ds:List D}{off n:Nat}{ag:Bool}{ks:List CK}(h:fH ks ((ds.drop off).take n))(hn:ag=false->n=1)(hle:off+n<=ds.length):
  (cut ds off n ag).cells=(ds.drop off).take n/\(cut ds off n ag).isAgg=ag:=by
 cases ag
 .have:=hn rfl;subst this;have hlt:off<ds.length:=ae;have e:(ds.drop off).take 1=[ds.getD off .any]:=by
   rw[fh hlt];simp[List.getD,hlt,List.take]
  rw[e]at h⊢;cases ks with
  |nil=>simp[fH]at h
  |cons c r=>
   simp only[fH]at h;exact LX h.1
 .exact⟨rfl,rfl⟩
def OA (ν:List (Nat×Nat))(x:X)(P:Program)(n:Nat)(t:TypeId)(ks:List CK):Prop:=
 ∀u v d e (w:World),RD ν x u d->RD ν x v e->d.isAgg=bW P t->e.isAgg=bW P t->fH ks d.cells->fH ks e.cells->
  (Op.equalIn n t u v).run P w=.ok (gU d.cells e.cells) w
theorem C1 {n:Nat}{ks:List CK}(h:gN P n t=some ks)(ha:bW P t=false):ks.length=1:=by
 cases n with
 |zero=>simp[gN]at h
 |succ n=>
  grind [gN,bW]
def wW (n depth:Nat)(ih:∀t ks,gN P depth t=some ks->OA ν x P n t ks)(xs ys:Array Value)(ds es:List D)(h1:RD ν x (.agg xs) (.agg ds))(h2:RD ν x (.agg ys) (.agg es))(w:World):
  ∀(fs:List Field) (off:Nat) (ks:List CK),ml P (λt=>gN P depth t) off fs=some ks->off<=ds.length->off<=es.length->fH ks (ds.drop off)->fH ks (es.drop off)->
  (Op.eqFields n xs ys fs).run P w=.ok (gU (ds.drop off) (es.drop off)) w
 |[],off,ks,hk,_,_,f1,f2=>by
  simp[ml]at hk;subst hk;have a:=jo _ _ f1;have b:=jo _ _ f2;have a':ds.drop off=[]:=lP a;have b':es.drop off=[]:=lP b;rw[a',b'];simp[Op.eqFields,gU]
 |f::fs,off,ks,hk,l1,l2,f1,f2=>by
  simp only[ml]at hk;split at hk
  .cases hk
  .rename_i hne;have hname:f.name≠ "_" :=λe=>hne (.inl e)
   have hoff:f.offset=off:=by
    rcases Nat.decEq f.offset off with h|h
    .exact absurd (.inr h) hne
    .exact h
   split at hk
   .rename_i a b ha hb;split at hk
    .rename_i hlen;obtain⟨hlen,hnz,hund⟩:=hlen;simp only[aC]at hk;subst hk;obtain⟨fa1,fb1⟩:=kI a b _ f1;obtain⟨fa2,fb2⟩:=kI a b _ f2;have la:=jo _ _ f1;have lb:=jo _ _ f2;simp only[iQ,bV]at la lb;have hag:bW P f.type=false->P.cellsOf f.type=1:=λe=>by rw[<-hlen];exact C1 ha e
     obtain⟨u,r1,r2⟩:=qd (P:=P) (off:=off) (n:=P.cellsOf f.type) (ag:=bW P f.type) w h1 ae hund rfl rfl ae hag;obtain⟨v,s1,s2⟩:=qd (P:=P) (off:=off) (n:=P.cellsOf f.type) (ag:=bW P f.type) w h2 ae hund rfl rfl ae hag;rw[hlen]at fa1 fa2 fb1 fb2;obtain⟨c1,c2⟩:=tn (ag:=bW P f.type) fa1 hag ae;obtain⟨d1,d2⟩:=tn (ag:=bW P f.type) fa2 hag ae;have he:=ih f.type a ha u v _ _ w r2 s2 c2 d2 (by rw[c1];exact fa1) (by rw[d1];exact fa2);rw[List.drop_drop]at fb1 fb2;have hrest:=wW n depth ih xs ys ds es h1 h2 w fs (off+P.cellsOf f.type) b hb ae ae fb1 fb2;rw[vG (P.cellsOf f.type) (ds.drop off) (es.drop off) eJ];simp only[Op.eqFields,hname,ne_eq,not_false_eq_true,bo,Sem.run_bind,hoff,r1,s1,he,Result.andThen_ok,Sem.run_ite,hrest];rw[c1,d1,List.drop_drop,List.drop_drop];cases gU ((ds.drop off).take (P.cellsOf f.type)) ((es.drop off).take (P.cellsOf f.type))<;>simp
    .cases hk
   .cases hk
def Ac (n:Nat)(e:TypeId)(l:List CK)(ih:OA ν x P n e l)(hc:l.length=P.cellsOf e)(hnz:l.length≠0)(hund:(P.underlying e).isNone=false)(hag:bW P e=false->P.cellsOf e=1)
  (xs ys:Array Value) (ds es:List D) (h1:RD ν x (.agg xs) (.agg ds)) (h2:RD ν x (.agg ys) (.agg es)) (w:World):
  ∀(len j:Nat),j*P.cellsOf e<=ds.length->j*P.cellsOf e<=es.length->fH (List.replicate len l).flatten (ds.drop (j*P.cellsOf e))->fH (List.replicate len l).flatten (es.drop (j*P.cellsOf e))->
  (Op.eqItems n e (P.cellsOf e) xs ys (List.range' j len)).run P w=.ok (gU (ds.drop (j*P.cellsOf e)) (es.drop (j*P.cellsOf e))) w
 |0,j,_,_,f1,f2=>by
  have a:=jo _ _ f1;have b:=jo _ _ f2;have a':ds.drop (j*P.cellsOf e)=[]:=lP (by simpa using a);have b':es.drop (j*P.cellsOf e)=[]:=lP (by simpa using b);rw[a',b'];simp[Op.eqItems,gU]
 |len+1,j,l1,l2,f1,f2=>by
  simp only[List.replicate_succ,List.flatten_cons]at f1 f2;obtain⟨fa1,fb1⟩:=kI _ _ _ f1;obtain⟨fa2,fb2⟩:=kI _ _ _ f2;have la:=jo _ _ f1;have lb:=jo _ _ f2;simp only[iQ,bV]at la lb;have hj:(j+1)*P.cellsOf e=j*P.cellsOf e+P.cellsOf e:=Nat.succ_mul _ _;obtain⟨u,r1,r2⟩:=qd (P:=P) (off:=j*P.cellsOf e) (n:=P.cellsOf e) (ag:=bW P e) w h1 ae hund rfl rfl ae hag;obtain⟨v,s1,s2⟩:=qd (P:=P) (off:=j*P.cellsOf e) (n:=P.cellsOf e) (ag:=bW P e) w h2 ae hund rfl rfl ae hag;rw[hc]at fa1 fa2 fb1 fb2;obtain⟨c1,c2⟩:=tn (ag:=bW P e) fa1 hag ae;obtain⟨d1,d2⟩:=tn (ag:=bW P e) fa2 hag ae;have he:=ih u v _ _ w r2 s2 c2 d2 (by rw[c1];exact fa1) (by rw[d1];exact fa2);rw[List.drop_drop,<-hj]at fb1 fb2;have hrest:=Ac n e l ih hc hnz hund hag xs ys ds es h1 h2 w len (j+1) ae ae fb1 fb2;rw[vG (P.cellsOf e) (ds.drop (j*P.cellsOf e)) (es.drop (j*P.cellsOf e)) eJ];simp only[List.range'_succ,Op.eqItems,Sem.run_bind,r1,s1,he,Result.andThen_ok,Sem.run_ite,hrest];rw[c1,d1,List.drop_drop,List.drop_drop,<-hj];cases gU ((ds.drop (j*P.cellsOf e)).take (P.cellsOf e)) ((es.drop (j*P.cellsOf e)).take (P.cellsOf e))<;>simp
def su:∀(depth:Nat) (t:TypeId) (ks:List CK),gN P depth t=some ks->∀n,depth<=n->OA ν x P n t ks
 |0,t,ks,h,_,_=>by simp[gN]at h
 |depth+1,t,ks,h,n,hn=>by
  obtain⟨n,rfl⟩:∃k,n=k+1:=⟨n-1,ae⟩
  intro u v d e w r1 r2 a1 a2 f1 f2;simp only[gN]at h;split at h
  .rename_i hu;simp only[aC]at h;subst h;have hag:bW P t=false:=by simp[bW,hu]
   rw[hag]at a1 a2;have g1:=mf f1 a1;have g2:=mf f2 a2;cases d<;>simp only[CK.fits]at g1;cases e<;>simp only[CK.fits]at g2;rw[r1.jK,r2.jK,run_equalIn_bool w n t _ _ hu];simp[D.cells,gU,eqD]
  .rename_i k hu;simp only[aC]at h;subst h;have hag:bW P t=false:=by simp[bW,hu]
   rw[hag]at a1 a2;have g1:=mf f1 a1;have g2:=mf f2 a2;cases d<;>simp only[CK.fits]at g1;cases e<;>simp only[CK.fits]at g2;subst g1;subst g2;rw[r1.dr,r2.dr,run_equalIn_int w n t _ _ _ _ hu];simp[D.cells,gU,eqD]
  .rename_i hu;simp only[aC]at h;subst h;have hag:bW P t=false:=by simp[bW,hu]
   rw[hag]at a1 a2;have g1:=mf f1 a1;have g2:=mf f2 a2;cases d<;>simp only[CK.fits]at g1;cases e<;>simp only[CK.fits]at g2;rw[r1.jW.1,r2.jW.1,run_equalIn_string w n t _ _ hu];simp[D.cells,gU,eqD,ByteArray.toList_eq]
  .rename_i fs hu;split at h
   .cases h
   .rename_i hst;have hag:bW P t=true:=by simp[bW,hu]
    rw[hag]at a1 a2;cases d<;>simp only[D.isAgg,ib]at a1;cases e<;>simp only[D.isAgg,ib]at a2;have hf:P.fieldsOf t=fs:=by simp[Program.fieldsOf,hu]
    cases r1 with
    |agg xs _ p1 p2 p3=>
     cases r2 with
     |agg ys _ q1 q2 q3=>
      rw[run_equalIn_struct w n t xs ys (by rw[hf];exact hu) (by simpa using hst),hf];have:=wW (ν:=ν) (x:=x) n depth (λt ks hk=>su depth t ks hk n ae) xs ys _ _ (.agg xs _ p1 p2 p3) (.agg ys _ q1 q2 q3) w fs.toList 0 ks h aF aF (by simpa[D.cells]using f1) (by simpa[D.cells]using f2);simpa[D.cells]using this
  .rename_i len e' hu;split at h
   .rename_i l hl;split at h
    .rename_i hc;obtain⟨hc,hnz,hund⟩:=hc;simp only[aC]at h;subst h;have hag:bW P t=true:=by simp[bW,hu]
     rw[hag]at a1 a2;cases d<;>simp only[D.isAgg,ib]at a1;cases e<;>simp only[D.isAgg,ib]at a2;obtain⟨i,hi,_⟩:=pf (P:=P) (t:=e') ae;cases r1 with
     |agg xs _ p1 p2 p3=>
      cases r2 with
      |agg ys _ q1 q2 q3=>
       rw[run_equalIn_array w n xs ys hu hi,List.range_eq_range'];have:=Ac (ν:=ν) (x:=x) n e' l (su depth e' l hl n ae) hc hnz hund (λe=>by rw[<-hc];exact C1 hl e) xs ys _ _ (.agg xs _ p1 p2 p3) (.agg ys _ q1 q2 q3) w len 0 aF aF (by simpa[D.cells]using f1) (by simpa[D.cells]using f2);simpa[D.cells]using this
    .cases h
   .cases h
  .cases h
end
end
end Go.Abs
