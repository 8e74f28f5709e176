/- A part of the proofs. -/
import Derived.Attr
import Derived.ChangeKeysEq
import Derived.Deep.AppendSrc
import Derived.KernelRfl
import Derived.Test.YtdhangmdmdegpaaGreatDoorProg
import Derived.WalkKit
import GoSem.Dispatch
import GoSem.Step
set_option linter.all false
set_option maxRecDepth 60000
set_option maxHeartbeats 2000000
namespace Go.Abs
abbrev Δ:=List Int
abbrev Ξ:=List (Nat×Nat)
abbrev Ω:=List UInt8
abbrev Ε:=List Nat
abbrev Ζ:=List (Option Nat)
abbrev Κ:=Array Value
abbrev Μ:=List Bool
abbrev Ν:=Option (Nat×Bool)
abbrev Ο:=List (List Int)
abbrev Ρ:=Exit->Act->World->Prop
abbrev η:=List Value
abbrev ξ:=Option (List Int)
abbrev χ:=Array Bool
abbrev Lab:=Nat->Prop
abbrev Lad:=Option Nat
abbrev Lag:=Act->World->Prop
abbrev Lai:=List Operand
variable(bs:Ε)(P:Program)(w:World){t:TypeId}(ν:Ξ){w':World}(lo n:Nat)
def bJ:=@List.length_cons
def cj:=@List.length_nil
def bR:=@decide_eq_false_iff_not
def aT:=@decide_eq_true_eq
def aG:=@Option.some.injEq
def ah:=@if_neg
def ak:=@if_pos
def aD:=@Bool.and_eq_true
def cx:=@List.length_append
def cF:=@Bool.not_eq_false'
def b8:=@Bool.not_eq_true'
def aR:=@Nat.le_refl
def aZ:=@Option.some.inj
def bj:=@List.length_map
def ba:=@if_false
def br:=@if_true
def dN:=@List.drop_zero
def aY:=@decide_eq_true
def cG:=@Nat.zero_add
def eg:=@Bool.or_eq_false_iff
def dx:=@List.forall_mem_cons
def eJ:=@Bool.and_eq_false_iff
def df:=@Option.map_eq_some_iff
def bA:=@decide_eq_false
def dk:=@Bool.or_eq_true
def gG:=@List.take_of_length_le
def eE:=@List.length_take
def fL:=@List.append_assoc
def aF:=@List.mem_singleton
def iL:=@Bool.false_eq_true
def dm:=@Prod.mk.injEq
def fU:=@Nat.mul_le_mul_right
def fC:=@Nat.le_trans
def js:=@Nat.lt_of_lt_of_le
def rH:=@List.nil_append
def lZ:=@List.eq_nil_of_length_eq_zero
def fD:=@List.drop_eq_getElem_cons
def tv:=@List.cons_append
def bH:=@List.mem_cons
def eF:=@true_and
def dP:=@and_true
def iM:=@false_and
def iN:=@and_false
def iY:=@and_self
def dp:=@Eq.trans
def ay:=@congrArg
def kA:=@List.drop_eq_nil_of_le
def gw:=@List.append_nil
def jS:=@List.length_drop
def cX:=@List.not_mem_nil
def pX:=@UInt8.toNat_inj
def iZ:=@List.getD_cons_zero
def eh:=@Bool.true_and
def gW:=@Bool.and_true
def bI:=@List.mem_map
def tw:=@List.cons.injEq
def ab0:=@List.length_eq_zero_iff
def Fs:=@List.mem_of_mem_take
def lv:=@decide_eq_decide
def dX:=@Nat.lt_or_ge
def ae {p:Prop}(h:p:=by omega):p:=h
def eL {p:Prop}(h:p:=by simp only[List.length_cons,List.length_nil];omega):p:=h
def aX {p:Prop}(h:p:=by decide):p:=h
def yT {p:Prop}(h:p:=by kernel_rfl):p:=h
def aJ {p:Prop}(h:p:=by simp):p:=h
def mQ {p:Prop}(h:p:=by dsimp only;omega):p:=h
def fM {p:Prop}(h:p:=by simp;omega):p:=h
def dh {p:Prop}(h:p:=by exact rfl):p:=h
def lM {p:Prop}(h:p:=by simp only[yY,jj,pf,Bv,FH,de,Nat.reduceEqDiff,br,ba,iY,eF,dP,iM,iN,cG,bj,aR,dN,bY,reduceCtorEq,bJ,cj,Nat.reduceAdd,Nat.reduceLeDiff,xK,bn.fz,Key.fz,Rec.fz,Env.fz,cy.fz,cP.fz,gI.fz,mR.fz,jv.fz,C8,List.take_succ_cons,List.take_zero];exact rfl):p:=h
def eQ {p:Prop}(h:p:=by repeat(first|exact fN.nil|refine fN.un ?_|refine fN.eq ai ?_|refine fN.nl ai ai ?_|refine fN.ni (Or.inr ⟨_,_,_,rfl⟩) ?_)):p:=h
def nC {p:Prop}(h:p:=by simp only[yY,jj,pf,Bv,FH,de,Nat.reduceEqDiff,br,ba,iY,eF,dP,iM,iN,cG,bj,aR,dN,bY,reduceCtorEq,bJ,cj,Nat.reduceAdd,Nat.reduceLeDiff,akg,aeg,Yp,aef];exact rfl):p:=h
def cr {p:Prop}(h:p:=by first|omega|(simp at hf;omega)):p:=h
theorem jQ {p:Prop}(h:p:=by first|assumption|omega|(grind [Cut.sm,Span.sm,cy.sm,Al,aq,Want.sm,eI.sm,cN.sm,bP.sm])):p:=h
def aci {p:Prop}(h:p:=by repeat(first|exact bB.nil|refine bB.By ai ai eo ?_|refine bB.OW ai ai ai ?_|refine bB.OX ai ai ai ai ?_|refine bB.By ai ai (by exact jo _ _) ?_|refine bB.nl 3 ai ai ai (by first|exact rfl|exact jo _ _|exact cg (λ_=>rfl) _) ?_|refine bB.eq 3 ai ai ai ?_|refine bB.nl 5 ai ai ai (by first|exact rfl|exact jo _ _|exact cg (λ_=>rfl) _) ?_|refine bB.eq 5 ai ai ai ?_|refine bB.nl 6 ai ai ai (by first|exact rfl|exact jo _ _|exact cg (λ_=>rfl) _) ?_|refine bB.eq 6 ai ai ai ?_|refine bB.nl 10 ai ai ai (by first|exact rfl|exact jo _ _|exact cg (λ_=>rfl) _) ?_|refine bB.eq 10 ai ai ai ?_)):p:=h
def Hv {p:Prop}(h:p:=by simp only[yY,jj,pf,Bv,FH,de,Nat.reduceEqDiff,br,ba,iY,eF,dP,iM,iN,cG,bj,aR,dN,bY,reduceCtorEq,bJ,cj,Nat.reduceAdd,Nat.reduceLeDiff,xK,bn.fz,Key.fz,Rec.fz,Env.fz,cy.fz,cP.fz,gI.fz,mR.fz,jv.fz,C8,List.take_succ_cons,List.take_zero,Cu,eS,nI,nH];exact rfl):p:=h
def Bm {p:Prop}(h:p:=by simp only[yY,jj,pf,Bv,FH,de,Nat.reduceEqDiff,br,ba,iY,eF,dP,iM,iN,cG,bj,aR,dN,bY,reduceCtorEq,bJ,cj,Nat.reduceAdd,Nat.reduceLeDiff,List.take_succ_cons,List.take_zero];exact rfl):p:=h
def dE {p:Prop}(h:p:=by simp[ho,Op.operands,Call.operands]):p:=h
def lz {p:Prop}(h:p:=by first|omega|(simp only[Gs.aU];omega)|(simp only[o8,Gs.aU]at*;omega)):p:=h
def rI {p:Prop}(h:p:=by first|exact rfl|exact jo _ _|exact cg (λ_=>rfl) _):p:=h
def Lm {p:Prop}(h:p:=by simp only[yY,jj,pf,Bv,FH,de,Nat.reduceEqDiff,br,ba,iY,eF,dP,iM,iN,cG,bj,aR,dN,bY,reduceCtorEq,bJ,cj,Nat.reduceAdd,Nat.reduceLeDiff,akR,aei,Sx,Po];exact rfl):p:=h
def Ag {p:Prop}(h:p:=by repeat(first|exact bB.nil|refine bB.By ai ai eo ?_|refine bB.OW ai ai ai ?_|refine bB.OX ai ai ai ai ?_|refine bB.mp 1 ai ai ai ?_)):p:=h
def Lo {p:Prop}(h:p:=by simp only[yY,jj,pf,Bv,FH,de,Nat.reduceEqDiff,br,ba,iY,eF,dP,iM,iN,cG,bj,aR,dN,bY,reduceCtorEq,bJ,cj,Nat.reduceAdd,Nat.reduceLeDiff,aeh,Sx];exact rfl):p:=h
def Lp {p:Prop}(h:p:=by simp only[yY,jj,pf,Bv,FH,de,Nat.reduceEqDiff,br,ba,iY,eF,dP,iM,iN,cG,bj,aR,dN,bY,reduceCtorEq,bJ,cj,Nat.reduceAdd,Nat.reduceLeDiff,aej,jv.fz];exact rfl):p:=h
def tx {p:Prop}(h:p:=by refine⟨?_, ?_, ?_⟩<;>first|exact rfl|(rw[nI];exact rfl)|(rw[nH];exact rfl)):p:=h
def Lq {p:Prop}(h:p:=by simp only[yY,jj,pf,Bv,FH,de,Nat.reduceEqDiff,br,ba,iY,eF,dP,iM,iN,cG,bj,aR,dN,bY,reduceCtorEq,bJ,cj,Nat.reduceAdd,Nat.reduceLeDiff,Yn];exact rfl):p:=h
def gX {p:Prop}(h:p:=by simp[aA.eO,hx,hy,kx hf,ky hf,Br]):p:=h
def Lr {p:Prop}(h:p:=by repeat(first|exact fN.nil|refine fN.un ?_|refine fN.eq ai ?_|refine fN.nl ai ai ?_|refine fN.ni (Or.inr ⟨_,_,_,rfl⟩) ?_|refine fN.nl (ay (D.int .i64) (by push_cast;omega)) ai ?_)):p:=h
def ab1 {p:Prop}(h:p:=by simp only[yY,jj,pf,Bv,FH,de,Nat.reduceEqDiff,br,ba,iY,eF,dP,iM,iN,cG,bj,aR,dN,bY,reduceCtorEq,bJ,cj,Nat.reduceAdd,Nat.reduceLeDiff,xK,bn.fz,Key.fz,Rec.fz,Env.fz,cy.fz,cP.fz,gI.fz,mR.fz,jv.fz,C8,List.take_succ_cons,List.take_zero,Cu,eS,nI,nH,Po,amB];exact rfl):p:=h
def ab2 {p:Prop}(h:p:=by simp only[yY,jj,pf,Bv,FH,de,Nat.reduceEqDiff,br,ba,iY,eF,dP,iM,iN,cG,bj,aR,dN,bY,reduceCtorEq,bJ,cj,Nat.reduceAdd,Nat.reduceLeDiff,xK,bn.fz,Key.fz,Rec.fz,Env.fz,cy.fz,cP.fz,gI.fz,mR.fz,jv.fz,C8,List.take_succ_cons,List.take_zero,Cu,eS,nI,nH,Po];exact rfl):p:=h
def ab3 {p:Prop}(h:p:=by simp only[yY,jj,pf,Bv,FH,de,Nat.reduceEqDiff,br,ba,iY,eF,dP,iM,iN,cG,bj,aR,dN,bY,reduceCtorEq,bJ,cj,Nat.reduceAdd,Nat.reduceLeDiff,xK,bn.fz,Key.fz,Rec.fz,Env.fz,cy.fz,cP.fz,gI.fz,mR.fz,jv.fz,C8,List.take_succ_cons,List.take_zero,Cu,eS];exact rfl):p:=h
def ab4 {p:Prop}(h:p:=by rw[show pR g nm v most=(⟨nm,v,(nS nm g.aU (g.val (most+1)).toNat).1,(eP (nS nm g.aU (g.val (most+1)).toNat).2 nm).1,(lG (eP (nS nm g.aU (g.val (most+1)).toNat).2 nm).2 (nS nm g.aU (g.val (most+1)).toNat).1).1⟩,(lG (eP (nS nm g.aU (g.val (most+1)).toNat).2 nm).2 (nS nm g.aU (g.val (most+1)).toNat).1).2)from rfl,hF];exact rfl):p:=h
def RB {p:Prop}(h:p:=by repeat(first|exact bB.nil|refine bB.By ai ai eo ?_|refine bB.OW ai ai ai ?_|refine bB.OX ai ai ai ai ?_|refine bB.nl 0 ai ai ai eo ?_|refine bB.nl 1 ai ai ai eo ?_)):p:=h
def ma {p:Prop}(h:p:=by simp only[bJ,cj,tv,rH];omega):p:=h
def na {p:Prop}(h:p:=by first|omega|(simp only[cx,cj];omega)):p:=h
def wU {p:Prop}(h:p:=by have hf:0<=c[j]! :=(by simpa only[eh,beq_iff_eq,aT]using hf);omega):p:=h
def RC {p:Prop}(h:p:=by rcases hg2 with h|⟨_,_,_,h,_⟩|⟨_,_,h,_⟩|⟨_,_,_,_,h,_⟩|⟨_,_,_,h|h,_⟩|⟨_,_,_,_,h,_⟩;exact h;cases h;cases h;cases h;cases h;cases h;cases h):p:=h
def RE {p:Prop}(h:p:=by have hf2:0<=w.us[j]!.ar[k]!.sh/\w.us[j]!.ar[k]!.sh<(shop.length:Int):=(by revert hf;generalize w.us[j]!.ar[k]!.sh=z;intro hf;simp at hf;omega);omega):p:=h
def Ls {p:Prop}(h:p:=by simpa only[eh,beq_iff_eq,aT]using hf):p:=h
def RF {p:Prop}(h:p:=by refine bB.nl 0 ai ai ai eo ?_;refine bB.nl 1 ai ai ai eo ?_;refine bB.eq 2 ai ai ai ?_;refine bB.nl 3 ai ai ai eo ?_;exact bB.nil):p:=h
def ab5 {p:Prop}(h:p:=by simp only[yY,jj,pf,Bv,FH,de,Nat.reduceEqDiff,br,ba,iY,eF,dP,iM,iN,cG,bj,aR,dN,bY,reduceCtorEq,bJ,cj,Nat.reduceAdd,Nat.reduceLeDiff,dI.fz,Yo];exact rfl):p:=h
def ab6 {p:Prop}(h:p:=by simp only[yY,jj,pf,Bv,FH,de,Nat.reduceEqDiff,br,ba,iY,eF,dP,iM,iN,cG,bj,aR,dN,bY,reduceCtorEq,bJ,cj,Nat.reduceAdd,Nat.reduceLeDiff,Yn,bz.fz];exact rfl):p:=h
def pY {p:Prop}(h:p:=by simp only[aA.val,hx,hy,FB];rw[hb hf]):p:=h
def ab7 {p:Prop}(h:p:=by simp only[yY,jj,pf,Bv,FH,de,Nat.reduceEqDiff,br,ba,iY,eF,dP,iM,iN,cG,bj,aR,dN,bY,reduceCtorEq,bJ,cj,Nat.reduceAdd,Nat.reduceLeDiff,bz.fz];exact rfl):p:=h
def ab8 {p:Prop}(h:p:=by simp only[yY,jj,pf,Bv,FH,de,Nat.reduceEqDiff,br,ba,iY,eF,dP,iM,iN,cG,bj,aR,dN,bY,reduceCtorEq,bJ,cj,Nat.reduceAdd,Nat.reduceLeDiff,Rec.fz];exact rfl):p:=h
def cb {p:Prop}(h:p:=by cases h):p:=h
def ab9 {p:Prop}(h:p:=by repeat(first|exact bB.nil|refine bB.By ai ai eo ?_|refine bB.OW ai ai ai ?_|refine bB.OX ai ai ai ai ?_|refine bB.nl 3 ai ai ai eo ?_|refine bB.nl 11 ai ai ai eo ?_)):p:=h
def aca {p:Prop}(h:p:=by repeat(first|exact bB.nil|refine bB.By ai ai eo ?_|refine bB.OW ai ai ai ?_|refine bB.OX ai ai ai ai ?_|refine bB.mp 1 ai ai ai ?_|refine bB.eq 2 ai ai ai ?_)):p:=h
def acb {p:Prop}(h:p:=by first|assumption|omega|exact⟨hns.2 _ (aq ae),hp0.1.2.2.1 _ (aq ae)⟩|exact⟨(hp0.1.2.2.1 _ (aq ae)).2.1,hp0.2⟩|exact((hp0.1.2.2.1 _ (aq ae)).1 _ (aq ae)).1.2):p:=h
def Ah {p:Prop}(h:p:=by have hl'':st.nx+(k+1)<=l':=hl';show st.nx+k<=l';omega):p:=h
def acd {p:Prop}(h:p:=by repeat(first|exact fN.nil|refine fN.un ?_|refine fN.eq ai ?_|refine fN.nl ai ai ?_|refine fN.ni (Or.inr ⟨_,_,_,rfl⟩) ?_|refine fN.nl (ay (D.int .u64) hsv) ai ?_)):p:=h
def Ft {p:Prop}(h:p:=by simp only[ho,Op.operands,Call.operands];simp at ho'⊢;exact .inr ho'):p:=h
def ace {p:Prop}(h:p:=by repeat(first|exact bB.nil|refine bB.By ai ai eo ?_|refine bB.OW ai ai ai ?_|refine bB.OX ai ai ai ai ?_|refine bB.nl 1 ai ai ai eo ?_)):p:=h
def acf {p:Prop}(h:p:=by refine bB.nl 0 ai ai ai eo ?_;refine bB.nl 1 ai ai ai eo ?_;refine bB.nl 2 ai ai ai eo ?_;refine bB.nl 3 ai ai ai eo ?_;exact bB.nil):p:=h
def acg {p:Prop}(h:p:=by simp only[aA.eO,hx,hy];exact⟨kx hf,ky hf,by have:=hj hf;omega,by have:=hj hf;have:=hb hf;omega⟩):p:=h
def ach {p:Prop}(h:p:=by refine bB.nl 0 ai ai ai eo ?_;refine bB.nl 1 ai ai ai eo ?_;refine bB.eq 7 ai ai ai ?_;refine bB.nl 5 ai ai ai eo ?_;exact bB.nil):p:=h
def RG {p:Prop}(h:p:=by first|assumption|omega|exact fC (hp0.1.2 _ (aq ae)) aX|exact(hp0.2.1 _ (aq ae)).1.2):p:=h
def Lt {p:Prop}(h:p:=by first|assumption|omega|exact hp0.1|exact hp0.2.1|exact⟨hp0.2.1,hp0.2.2⟩):p:=h
def RH {p:Prop}(h:p:=by first|assumption|omega|exact hp0.1|exact hp0.2.1 _ (aq ae)|exact hp0.2.2 _ (aq ae)):p:=h
def acj {p:Prop}(h:p:=by simp only[jr,hc3];revert hc4;generalize cT (bh s 46)[i]! =a;generalize oI (bh s 46)[i]! =b;cases p<;>cases a<;>cases b<;>simp):p:=h
def ack {p:Prop}(h:p:=by simp only[aA.eO,hx,ep,aK,hl,iZ,(dH _ _ _).1,ha];exact⟨trivial,ho,hn,trivial,trivial,⟨trivial,aJ⟩,aJ,hd,hc.1⟩):p:=h
def oX {p:Prop}(h:p:=by simp[aA.eO,hx,kx hf]):p:=h
def acm {p:Prop}(h:p:=by first|assumption|omega|exact hp0.1.1|exact⟨hp0.1.1,hcs.2.1 _ (aq ae),hfw.2.2 _ (aq ae)⟩|exact⟨hp0.1.1,hcs.2.2,hfw.2.1⟩):p:=h
def acn {p:Prop}(h:p:=by repeat(first|exact fN.nil|refine fN.un ?_|refine fN.eq ai ?_|refine fN.nl ai ai ?_|refine fN.ni (Or.inr ⟨0,1,0,rfl⟩) ?_)):p:=h
def tz {p:Prop}(h:p:=by rintro _ rfl;simp[ho,Op.operands]):p:=h
def aco {p:Prop}(h:p:=by have hcu:0<=c[u]! :=Decidable.byContradiction λhn=>(by rw[bA hn]at hf;revert hf;decide);have:=(hfu hcu).1;omega):p:=h
def Lu {p:Prop}(h:p:=by repeat' first|exact rfl|exact trivial|refine And.intro ?_ ?_):p:=h
def Fu {p:Prop}(h:p:=by first|(rw[cx];rfl)|(simp only[cx];rfl)):p:=h
def acp {p:Prop}(h:p:=by simp only[aA.val,hx,MB];rw[getD_map (hi hf)];exact hv hf):p:=h
def Ai {p:Prop}(h:p:=by simp only[aA.val,hx,hy,FB,R5]):p:=h
def acq {p:Prop}(h:p:=by first|assumption|omega|exact hp0.1|exact hp0.2.1 _ (aq (by first|omega|(simp at hf;omega)))|exact hp0.2.2):p:=h
def acr {p:Prop}(h:p:=by first|assumption|omega|exact⟨(hp0.1.2.2.2.1 _ (aq ae)).2.2,hp0.2⟩|exact(hp0.1.2.2.2.1 _ (aq ae)).2.1):p:=h
def acs {p:Prop}(h:p:=by rw[PJ hc0];exact(by refine⟨?_, ?_, ?_⟩<;>first|exact rfl|(rw[nI];exact rfl)|(rw[nH];exact rfl))):p:=h
def acu {p:Prop}(h:p:=by simp only[aA.eO,hx,MA,bj];exact⟨kx hf,hi hf,ho⟩):p:=h
def Aj {p:Prop}(h:p:=by simp only[aA.val,hx,hy,FB]<;>rfl):p:=h
def Lv {p:Prop}(h:p:=by have:=kY (tot:=tot) (show i<tot by omega) hj;omega):p:=h
def acv {p:Prop}(h:p:=by first|(rw[sn,L1 hc0 (i:=i) ae ae];done)|(rw[sn,L1 hc0 (i:=i) ae ae];exact rfl)):p:=h
def Fv {p:Prop}(h:p:=by have:=hf.m l' hl';simp only at this⊢;omega):p:=h
def amJ {p:Prop}(h:p:=by simp only[cx,List.length_singleton];omega):p:=h
def rJ {p:Prop}(h:p:=by simpa using h):p:=h
def mb {p:Prop}(h:p:=by rw[bj];omega):p:=h
def Lw {p:Prop}(h:p:=by first|assumption|(simp only[o8,Gs.aU]at*;omega)):p:=h
def oY {p:Prop}(h:p:=by simpa using hc1):p:=h
def Lx {p:Prop}(h:p:=by simp only[eh,beq_iff_eq,aD,aT]at h;omega):p:=h
def Ly {p:Prop}(h:p:=by simp only[aA.val,hx,hy];rw[hj hf];rfl):p:=h
def RI {p:Prop}(h:p:=by simp only[aA.eO,hx,MA];exact⟨kx hf,hi hf,ho⟩):p:=h
def RJ {p:Prop}(h:p:=by simp only[cx,eE,jS,bJ,cj];omega):p:=h
def RL {p:Prop}(h:p:=by have:=hj hf;have:=hb hf;omega):p:=h
def jT {p:Prop}(h:p:=by simp[hc0]):p:=h
def jt {p:Prop}(h:p:=by rw[h];simp):p:=h
def RM {p:Prop}(h:p:=by simp only[aA.val,hx,hy,FB];rw[wrap_i64 (hb hf).1 (hb hf).2]):p:=h
def Lz {p:Prop}(h:p:=by rw[cx,List.length_singleton];omega):p:=h
def Ak {p:Prop}(h:p:=by simp only[eE];omega):p:=h
def pZ {p:Prop}(h:p:=by simp[cI];omega):p:=h
def rK {p:Prop}(h:p:=by simp[ho,Op.operands]):p:=h
def RN {p:Prop}(h:p:=by first|assumption|omega|exact hp0.1.p.1.1|exact hp0.1.p.1.2):p:=h
def LA {p:Prop}(h:p:=by simp[aA.eO,hx,hy,kx hf,ky hf,Br,hn hf]):p:=h
def rL {p:Prop}(h:p:=by simp only;omega):p:=h
def RO {p:Prop}(h:p:=by simp only[aA.val,hx,MB,aK,hl hf,iZ];exact hv hf):p:=h
def RP {p:Prop}(h:p:=by first|assumption|exact hp0.1|exact hp0.2.1|exact hp0.2.2):p:=h
def Fw {p:Prop}(h:p:=by simp only[cx,bJ,cj];omega):p:=h
def RQ {p:Prop}(h:p:=by have:=ha hf;subst hd;simpa[aA.LC,hx,kx hf]using this):p:=h
def oZ {p:Prop}(h:p:=by simpa using hi):p:=h
def ix {p:Prop}(h:p:=by simp at h):p:=h
def mj {p:Prop}(h:p:=by simp[aA.val,hx]):p:=h
def Lh {p:Prop}(h:p:=by first|assumption|omega|exact hp0.1.1|exact hp0.1.2):p:=h
def Ug {p:Prop}(h:p:=by rintro⟨h1,h2⟩;rcases hc1 with h|h;omega;exact h h2):p:=h
def Uh {p:Prop}(h:p:=by simp only[aA.eO,hx,hy];exact⟨kx hf,ky hf,h1 hf⟩):p:=h
def Li {p:Prop}(h:p:=by simp only[ho,Op.operands,bI];exact⟨p,hp,rfl⟩):p:=h
def Lj {p:Prop}(h:p:=by simp only[aA.val,hx,MB];exact hv hf):p:=h
def Lk {p:Prop}(h:p:=by refine bB.nl 0 ai ai ai eo ?_;exact bB.nil):p:=h
def Cv {p:Prop}(h:p:=by simp at hf;omega):p:=h
def Ll {p:Prop}(h:p:=by rw[xM _ _ _ ae];exact List.getElem_mem _):p:=h
def uR {p:Prop}(h:p:=by simp only[bJ];omega):p:=h
def gy {p:Prop}(h:p:=by simp[h]):p:=h
def Ui {p:Prop}(h:p:=by simp[tW,Wa,m8]):p:=h
def yU {p:Prop}(h:p:=by rw[dN,Hh];rfl):p:=h
def nU {p:Prop}(h:p:=by simpa using hj):p:=h
def yV {p:Prop}(h:p:=by simpa[D.aV]using hn):p:=h
def Ln {p:Prop}(h:p:=by have:=hj hf;omega):p:=h
def pG {p:Prop}(h:p:=by simpa using hc5):p:=h
def yW {p:Prop}(h:p:=by rw[tJ];exact hl'):p:=h
def uS {p:Prop}(h:p:=by rwa [tJ]at hi):p:=h
def uT {p:Prop}(h:p:=by rw[cG];rfl):p:=h
def uU {p:Prop}(h:p:=by simp[kr];omega):p:=h
def yX {p:Prop}(h:p:=by simpa using hc3):p:=h
def ml {p:Prop}(h:p:=by assumption):p:=h
def mq {p:Prop}(h:p:=by simp[hw0]):p:=h
def nV {p:Prop}(h:p:=by simp[fo]):p:=h
inductive D where
 |any
 |bool (b:Bool)
 |int (k:IntKind) (n:Int)
 |str (s:Ω)
 |agg (cs:List D)
 |tup (ds:List D)
 |aO
 |sl (k:Nat) (es:List D)
 |ref (k:Nat) (es:List D) (i o:Nat)
 |ptr (l k i o:Nat)
 |own (l k i n:Nat)
 |nilp
 |fn (f:Nat) (caps:List D)
 |nilf
 |it (l:Nat)
 deriving Inhabited
abbrev Θ:=List D
abbrev ε:=Option D
inductive Src where
 |s (n:Nat)
 |l (p:Nat)
 |c (d:D)
 deriving Inhabited
abbrev ς:=List Src
abbrev ψ:=List (Nat×Nat×Src)
abbrev Lac:=List (Nat×Src)
abbrev Lal:=Option Src
inductive Sh where
 |a
 |sl (k:Nat) (cs:List Sh)
 |pt (cs:List Sh)
 |kp (cs:List Sh)
 deriving Inhabited
abbrev Ι:=List (List Sh)
abbrev ζ:=List Sh
inductive CK where
 |b|i (k:IntKind)|s
 deriving Inhabited
abbrev Lah:=List CK
inductive aA where
 |mv (x:Src)
 |pick (c a b:Src)
 |box (k:Nat) (x:Src)
 |build (z:Θ) (parts:ψ)
 |bsl (k:Nat) (z:D) (n:Nat) (parts:Lac)
 |ld (n:Nat) (ag:Bool) (p:Src)
 |st (n:Nat) (p v:Src)
 |stU (n:Nat) (p v:Src) (qs:ς)
 |nilck (x:Src)
 |bin (op:BinOp) (x y:Src)
 |eqA (neg ag:Bool) (ks:Lah) (x y:Src)
 |un (op:UnOp) (x:Src)
 |cvi (k:IntKind) (x:Src)
 |mn (g:Bool) (x y:Src)
 |s2b (x:Src)
 |b2s (x:Src)
 |mkf (f:Nat) (caps:ς)
 |mks (k:Nat) (z:D) (ln cp:Src)
 |slS (x:Src) (lo hi:Lal)
 |slA (k:Nat) (x:Src) (lo hi:Lal)
 |slX (k:Nat) (x hi mx:Src)
 |fa (off:Nat) (p:Src)
 |fld (off n:Nat) (ag:Bool) (x:Src)
 |ia (k:Nat) (x i:Src)
 |iaP (n k:Nat) (x i:Src)
 |ixS (x i:Src)
 |ixA (n k:Nat) (ag:Bool) (x i:Src)
 |ext (x:Src) (i:Nat)
 |len (x:Src)
 |lenS (x:Src)
 |app (k:Nat) (x y:Src)
 |call (f:Nat) (args:ς) (sh:Ι)
 |callv (f:Src) (args:ς) (sh:Ι)
 |callM (f:Nat) (args:ς)
 |callvM (f:Src) (args:ς)
 |ldI (n:Nat) (ag:Bool) (p:Src)
 |ldU (n:Nat) (ag:Bool) (p:Src)
 |ldW (n:Nat) (ag:Bool) (p:Src)
 |callF (f:Nat) (r:Src) (args:ς) (sh:Ι)
 |appN (k:Nat) (y:Src)
 |bslI (k:Nat) (z:D) (n:Nat) (parts:Lac)
 |rng (x:Src)
 |aU (x:Src)
 |mkB
 |mkM
 |upM (x k v:Src)
 |lkM (z:D) (x k:Src)
 |isNl (x:Src) (neg:Bool)
 deriving Inhabited
structure GI where
 i:aA
 g:Ν
 deriving Inhabited
abbrev Υ:=List GI
variable(l:Υ)
inductive AC where
 |reg (draw:Bool) (ins:Υ) (cm:Ξ)
 |seq (a b:AC)
 |cond (c:Src) (a b:AC)
 |block (id:Nat) (a:AC)
 |loop (a:AC)
 |exit (id:Nat)
 |ret
 |skip
 deriving Inhabited
structure Hw where
 s:Nat
 mem:Ν
 deriving Inhabited
structure aj where
 np:Nat
 ns:Nat
 res:List Hw
 rsh:Ι
 body:AC
 deriving Inhabited
variable(a:aj)
@[go_sem] def D.cells:D->Θ
 | .agg cs=>cs
 | .any=>[]
 | .tup _=>[]
 |d=>[d]
@[go_sem] def D.isBool:D->Bool
 | .bool _=>true
 |_=>false
@[go_sem] def D.isAgg:D->Bool
 | .agg _=>true
 |_=>false
mutual
@[go_sem] def D.aV:D->Bool
 | .agg cs=>aP cs
 | .tup cs=>aP cs
 | .fn _ cs=>aP cs
 | .ptr .. =>false
 | .own .. =>false
 | .it _=>false
 |_=>true
@[go_sem] def aP:Θ->Bool
 |[]=>true
 |d::r=>d.aV&&aP r
end
mutual
@[go_sem] def D.fG:D->Bool
 | .agg cs=>oD cs
 | .tup cs=>oD cs
 | .fn n cs=>!(Nat.ble 2000000 n)&&oD cs
 | .ptr .. =>false
 | .own .. =>false
 | .it _=>false
 | .sl .. =>false
 | .ref .. =>false
 |_=>true
@[go_sem] def oD:Θ->Bool
 |[]=>true
 |d::r=>d.fG&&oD r
end
inductive bo where
 |buf (k:Nat) (es:Θ)
 |iter (s:Ω) (pos:Nat)
 |row (s:Ω)
 |bld (o:Lad) (n:Nat) (u:Bool)
 |mpb (kvs:Θ)
 deriving Inhabited
abbrev Γ:=List (Nat×bo)
abbrev Χ:=Option bo
structure St where
 nx:Nat
 m:Γ
abbrev Τ:=D->St->Prop
@[go_sem] def look:Γ->Nat->Χ
 |[],_=>none
 |(a,b)::r,l=>if a=l then some b else look r l
@[go_sem] def cW:Γ->Nat->bo->Γ
 |[],l,b=>[(l,b)]
 |(a,x)::r,l,b=>if a=l then(a,b)::r else(a,x)::cW r l b
@[go_sem] def de:Γ->Nat->Γ
 |[],_=>[]
 |(a,x)::r,l=>if a=l then de r l else(a,x)::de r l
structure a7 where
 ok:Bool
 d:D
abbrev Φ:=List a7
@[go_sem] def a7.un:a7:=⟨true,.any⟩
variable(vs:Φ)
@[go_sem] def Src.ev (env vs:Φ):Src->a7
 | .s n=>env.getD n .un
 | .l p=>vs.getD p .un
 | .c d=>⟨true,d⟩
structure Ctx where
 pre:Nat->Θ->Prop
 val:Nat->Θ->D
 tr:Nat->Θ->St->(Τ)->Prop
 fp:Nat->D->Θ->Prop
 fv:Nat->D->Θ->D
 fs:Nat->D->Θ->D
 lo:Nat
@[go_sem] def aK (m:Γ)(l:Nat):Θ:=match look m l with
 |some (.buf _ es)=>es
 |_=>[]
@[go_sem] def ep (m:Γ)(l k n:Nat):Prop:=match look m l with
 |some (.buf k' es)=>k=k'/\n<=es.length
 |_=>False
@[go_sem] def qO (m:Γ):D->Θ
 | .sl _ es=>es
 | .own l _ i n=>((aK m l).drop i).take n
 | .str s=>s.map λb=>.int .u8 b.toNat
 |_=>[]
@[go_sem] def CS (m:Γ)(k:Nat):D->Prop
 | .sl k' _=>k'=k
 | .own l k' i n=>k'=k/\ep m l k (i+n)
 | .str _=>k=1
 | .aO=>True
 |_=>False
mutual
@[go_sem] def k9 (m:Γ):Sh->D->D
 | .a,d=>match d with
  | .aO=>.sl 0 []
  |d=>d
 | .sl k cs,d=>match d with
  | .aO=>.sl k []
  | .own l k' i c=>.sl k' ((((aK m l).drop i).take c).map (jf m cs))
  |d=>d
 | .pt cs,d=>match d with
  | .ptr l k i o=>.ref k ((aK m l).map (jf m cs)) i o
  |d=>d
 | .kp cs,d=>match d with
  | .own l k' i c=>.sl k' ((((aK m l).drop i).take c).map (jf m cs))
  |d=>d
@[go_sem] def jf (m:Γ):ζ->D->D
 |[],d=>d
 |s::r,d=>match d with
  | .agg cs=>.agg (nL m (s::r) cs)
  |d=>k9 m s d
@[go_sem] def nL (m:Γ):ζ->Θ->Θ
 |[],ds=>ds
 |s::r,ds=>match ds with
  |[]=>[]
  |d::ds=>k9 m s d::nL m r ds
end
mutual
@[go_sem] def iD (m:Γ):Sh->D->Prop
 | .a,d=>d.aV=true
 | .sl _ cs,d=>match d with
  | .own l k' i c=>ep m l k' (i+c)/\∀e∈((aK m l).drop i).take c,gL m cs e
  |d=>d.aV=true
 | .pt cs,d=>match d with
  | .ptr l k _ _=>ep m l k 0/\∀e∈aK m l,gL m cs e
  |d=>d.aV=true
 | .kp cs,d=>match d with
  | .own l k' i c=>ep m l k' (i+c)/\∀e∈((aK m l).drop i).take c,gL m cs e
  |d=>d.aV=true
@[go_sem] def gL (m:Γ):ζ->D->Prop
 |[],d=>d.aV=true
 |s::r,d=>match d with
  | .agg cs=>kH m (s::r) cs
  |d=>iD m s d
@[go_sem] def kH (m:Γ):ζ->Θ->Prop
 |[],ds=>aP ds=true
 |s::r,ds=>match ds with
  |[]=>True
  |d::ds=>iD m s d/\kH m r ds
end
@[go_sem] def FB (op:BinOp):D->D->D
 | .int k a,.int _ b=>match op with
  | .add=>.int k (k.wrap (a+b))
  | .sub=>.int k (k.wrap (a-b))
  | .mul=>.int k (k.wrap (a*b))
  | .quo=>.int k (k.wrap (a.tdiv b))
  | .rem=>.int k (a.tmod b)
  | .eql=>.bool (a==b)| .neq=>.bool (a !=b)| .lss=>.bool (decide (a<b))| .leq=>.bool (decide (a<=b))| .gtr=>.bool (decide (b<a))| .geq=>.bool (decide (b<=a))
  | .shl=>.int k (k.wrap (a*2^(min b.toNat k.bits)))
  | .shr=>.int k (a.fdiv (2^(min b.toNat k.bits)))
  | .and=>.int k (k.wrap (((BitVec.ofInt k.bits a)&&&(BitVec.ofInt k.bits b)).toNat))
  | .or=>.int k (k.wrap (((BitVec.ofInt k.bits a) |||(BitVec.ofInt k.bits b)).toNat))
  | .xor=>.int k (k.wrap (((BitVec.ofInt k.bits a)^^^(BitVec.ofInt k.bits b)).toNat))
  | .andNot=>.int k (k.wrap (((BitVec.ofInt k.bits a)&&& ~~~(BitVec.ofInt k.bits b)).toNat))
 | .str a,.str b=>match op with
  | .add=>.str (a++b)
  | .eql=>.bool (a==b)| .neq=>.bool (!(a==b))| .lss=>.bool (Op.bytesLess a b)| .geq=>.bool (!(Op.bytesLess a b))
  | .leq=>.bool (Op.bytesLess a b ||a==b)| .gtr=>.bool (!(Op.bytesLess a b ||a==b))
  |_=>.any
 |_,_=>.any
@[go_sem] def Br (op:BinOp):D->D->Prop
 | .int k a,.int k' b=>match op with
  | .quo=>k=k'/\b≠0
  | .rem=>k=k'/\b≠0
  | .shl=>0<=b
  | .shr=>0<=b
  |_=>k=k'
 | .str a,.str b=>match op with
  | .add=>a.length+b.length<=9223372036854775807
  | .eql=>True| .neq=>True| .lss=>True| .geq=>True| .leq=>True| .gtr=>True
  |_=>False
 |_,_=>False
@[go_sem] def D.pick (b:Bool):D->D->D
 | .bool x,.bool y=>.bool (bif b then x else y)
 |x,y=>bif b then x else y
@[go_sem] def cut (cs:Θ)(o n:Nat)(ag:Bool):D:=bif ag then .agg ((cs.drop o).take n)else cs.getD o .any
@[go_sem] def lC (e:D)(k n o:Nat)(ag:Bool):D:=bif (n==k)&&(e.isAgg==ag)then e else cut e.cells o n ag
@[go_sem] def MB (m:Γ)(n:Nat)(ag:Bool):D->D
 | .ptr l k i o=>lC ((aK m l).getD i .any) k n o ag
 | .ref k es i o=>lC (es.getD i .any) k n o ag
 | .fn _ es=>lC (es.getD 0 .any) 1 n 0 ag
 |_=>.any
@[go_sem] def MA (m:Γ)(n:Nat):D->Prop
 | .ptr l k i o=>ep m l k (i+1)/\o+n<=k
 | .ref k es i o=>i<es.length/\o+n<=k
 | .fn q es=>q=3000000/\n=1/\es.length=1/\(es.getD 0 .any).cells=[es.getD 0 .any]
 |_=>False
mutual
@[go_sem] def eqD:D->D->Bool
 | .bool a,.bool b=>a==b
 | .int _ a,.int _ b=>a==b
 | .str a,.str b=>a==b
 |_,_=>false
@[go_sem] def ig:Θ->Θ->Bool
 |[],[]=>true
 |a::r,b::s=>eqD a b&&ig r s
 |_,_=>false
end
@[go_sem] def CK.fits:CK->D->Prop
 | .b,.bool _=>True
 | .i k,.int k' _=>k'=k
 | .s,.str _=>True
 |_,_=>False
@[go_sem] def fP:Lah->Θ->Prop
 |[],[]=>True
 |c::r,d::s=>c.fits d/\fP r s
 |_,_=>False
@[go_sem] def over (cs:Θ)(o:Nat)(new:Θ):Θ:=cs.take o++(new++cs.drop (o+new.length))
@[go_sem] def tj (e:D)(k n o:Nat)(v:D):D:=bif (n==k)&&(v.isAgg ||!e.isAgg)then v else .agg (over e.cells o v.cells)
@[go_sem] def CY (J:Src->a7)(cs:Θ):ψ->Θ
 |[]=>cs
 |(o,_,s)::r=>CY J (over cs o (J s).d.cells) r
@[go_sem] def Aw (J:Src->a7)(len:Nat):ψ->Prop
 |[]=>True
 |(o,n,s)::r=>(J s).ok=true/\(J s).d.cells.length=n/\o+n<=len/\Aw J len r
@[go_sem] def my (J:Src->a7)(es:Θ):Lac->Θ
 |[]=>es
 |(i,s)::r=>my J (es.set i (J s).d) r
@[go_sem] def qW (J:Src->a7)(k n:Nat):Lac->Prop
 |[]=>True
 |(i,s)::r=>i<n/\(J s).ok=true/\(J s).d.cells.length=k/\qW J k n r
@[go_sem] def D.nat:D->Nat
 | .int _ n=>n.toNat
 |_=>0
@[go_sem] def er (o:ε)(dflt:Nat):Nat:=match o with
 |some (.int _ n)=>n.toNat
 |_=>dflt
@[go_sem] def nE (o:ε)(hi:Nat):Prop:=match o with
 |none=>True
 |some (.int _ n)=>0<=n/\n<=hi
 |_=>False
@[go_sem] def M4 (J:Src->a7):Lal->Prop
 |none=>True
 |some s=>(J s).ok=true
@[go_sem] def dO (J:Src->a7):Lal->ε
 |none=>none
 |some s=>some (J s).d
@[go_sem] def Ci (J:Src->a7):ς->Prop
 |[]=>True
 |s::r=>(J s).ok=true/\Ci J r
@[go_sem] def iU (J:Src->a7):ς->Θ
 |[]=>[]
 |s::r=>(J s).d::iU J r
@[go_sem] def D.u8:D->UInt8
 | .int _ n=>UInt8.ofNat n.toNat
 |_=>0
@[go_sem] def D.Vb:D->Prop
 | .int k n=>k=.u8/\0<=n/\n<256
 |_=>False
variable{d:D}
def y9 (s:Ω)(pos:Nat):Nat×Nat:=Utf8.decode ⟨⟨s⟩⟩ pos
@[go_sem] def iJ (m:Γ):Ι->Θ->Θ
 |_,[]=>[]
 |[],d::r=>jf m [.a] d::iJ m [] r
 |s::ss,d::r=>jf m s d::iJ m ss r
@[go_sem] def jm (m:Γ):Ι->Θ->Prop
 |_,[]=>True
 |[],d::r=>gL m [.a] d/\jm m [] r
 |s::ss,d::r=>gL m s d/\jm m ss r
@[go_sem] def wo:D->Bool
 | .agg [.str _,.str _]=>true
 |_=>false
@[go_sem] def qj:D->D->Bool
 | .agg [.str a,.str b],.agg [.str c,.str d]=>a==c&&b==d
 |_,_=>false
@[go_sem] def xY:Θ->Bool
 |[]=>true
 |k::_::r=>wo k&&xY r
 |[_]=>false
@[go_sem] def OY (k:D):Θ->ε
 |a::v::r=>bif qj a k then some v else OY k r
 |_=>none
@[go_sem] def AK (k v:D):Θ->Θ
 |a::w::r=>bif qj a k then a::v::r else a::w::AK k v r
 |_=>[k,v]
@[go_sem] def DB:D->Ε
 | .fn _ [.it l]=>[l]
 |_=>[]
@[go_sem] def Vp (m:Γ):D->Θ
 | .fn _ [.it l]=>match look m l with
  |some (.mpb kvs)=>kvs
  |_=>[]
 |_=>[]
@[go_sem] def mpO (m:Γ):D->Prop
 | .fn n [.it l]=>n=5000000/\match look m l with
  |some (.mpb kvs)=>xY kvs=true
  |_=>False
 |_=>False
@[go_sem] def aA.val (Y:Ctx)(J:Src->a7)(m:Γ)(L:Nat):aA->D
 | .mv x=>(J x).d
 | .pick c a b=>match(J c).d with| .bool t=>D.pick t (J a).d (J b).d|_=>.any
 | .box k _=>.ptr L k 0 0
 | .build z ps=>.agg (CY J z ps)
 | .bsl k _ n _=>.own L k 0 n
 | .ld n ag p=>MB m n ag (J p).d
 | .st _ _ _=>.any
 | .stU _ _ _ _=>.any
 | .nilck x=>(J x).d
 | .bin op x y=>FB op (J x).d (J y).d
 | .eqA neg _ _ x y=>.bool (bif neg then !(ig (J x).d.cells (J y).d.cells)else ig (J x).d.cells (J y).d.cells)
 | .un op x=>match op,(J x).d with
  | .not,.bool b=>.bool (!b)
  | .neg,.int k n=>.int k (k.wrap (0-n))
  |_,_=>.any
 | .cvi k x=>match(J x).d with| .int _ n=>.int k (k.wrap n)|_=>.any
 | .mn g x y=>match(J x).d,(J y).d with| .int k a,.int _ b=>.int k (if g=true then(if b>a then b else a)else if b<a then b else a)|_,_=>.any
 | .s2b x=>match(J x).d with| .str s=>.own L 1 0 s.length|_=>.any
 | .b2s x=>.str ((qO m (J x).d).map D.u8)
 | .mkf f caps=>.fn f (iU J caps)
 | .mks k _ ln _=>.own L k 0 (J ln).d.nat
 | .slS x lo hi=>match(J x).d with
  | .str s=>.str ((s.take (er (dO J hi) s.length)).drop (er (dO J lo) 0))
  |_=>.any
 | .slA _ x lo hi=>match(J x).d with
  | .sl k es=>.sl k ((es.take (er (dO J hi) es.length)).drop (er (dO J lo) 0))
  | .own l k i n=>.own l k (i+er (dO J lo) 0) (er (dO J hi) n-er (dO J lo) 0)
  | .aO=>.aO
  |_=>.any
 | .slX _ x hi _=>match(J x).d,(J hi).d with
  | .sl k es,.int _ h=>.sl k (es.take h.toNat)
  | .own l k i _,.int _ h=>.own l k i h.toNat
  | .aO,_=>.aO
  |_,_=>.any
 | .fa off p=>match(J p).d with
  | .ptr l k i o=>.ptr l k i (o+off)
  | .ref k es i o=>.ref k es i (o+off)
  |_=>.any
 | .fld off n ag x=>cut (J x).d.cells off n ag
 | .ia _ x i=>match(J x).d,(J i).d with
  | .sl k es,.int _ n=>.ref k es n.toNat 0
  | .own l k j _,.int _ n=>.ptr l k (j+n.toNat) 0
  |_,_=>.any
 | .iaP _ k x i=>match(J x).d,(J i).d with
  | .ptr l k' j o,.int _ n=>.ptr l k' j (o+n.toNat*k)
  | .ref k' es j o,.int _ n=>.ref k' es j (o+n.toNat*k)
  |_,_=>.any
 | .ixS x i=>match(J x).d,(J i).d with
  | .str s,.int _ n=>.int .u8 (s.getD n.toNat 0).toNat
  |_,_=>.any
 | .ixA _ k ag x i=>match(J i).d with
  | .int _ n=>cut (J x).d.cells (n.toNat*k) k ag
  |_=>.any
 | .ext x i=>match(J x).d with| .tup ds=>ds.getD i .any|_=>.any
 | .len x=>match(J x).d with
  | .sl _ es=>.int .i64 es.length
  | .own _ _ _ n=>.int .i64 n
  | .aO=>.int .i64 0
  |_=>.any
 | .lenS x=>match(J x).d with
  | .str s=>.int .i64 s.length
  |_=>.any
 | .app k x y=>match(J x).d with
  | .own _ _ _ n=>.own L k 0 (n+(qO m (J y).d).length)
  |_=>.own L k 0 (qO m (J y).d).length
 | .call f args sh=>Y.val f (iJ m sh (iU J args))
 | .callv f args sh=>match(J f).d with
  | .fn n caps=>Y.val n (iJ m sh (iU J args++caps))
  |_=>.any
 | .callM _ _=>.any
 | .callvM _ _=>.any
 | .ldU n ag p=>MB m n ag (J p).d
 | .ldW n ag p=>MB m n ag (J p).d
 | .ldI n ag p=>match(J p).d with
  | .ref k es i o=>lC (es.getD i .any) k n o ag
  | .fn _ es=>lC (es.getD 0 .any) 1 n 0 ag
  |_=>.any
 | .appN k y=>.own L k 0 (qO m (J y).d).length
 | .bslI k z n ps=>.sl k (my J (List.replicate n z) ps)
 | .callF f r args sh=>match(J r).d with
  | .ptr l _ _ _=>Y.fv f ((aK m l).getD 0 .any) (iJ [] sh (iU J args))
  |_=>.any
 | .rng _=>.it L
 | .mkB=>.ptr L 2 0 0
 | .mkM=>.fn 5000000 [.it L]
 | .upM .. =>.any
 | .lkM z x k=>match OY (J k).d (Vp m (J x).d)with
  |some v=>.tup [v,.bool true]
  |none=>.tup [z,.bool false]
 | .isNl .. =>.any
 | .aU x=>match(J x).d with
  | .it l=>match look m l with
   |some (.iter s pos)=>bif decide (pos<s.length)then .tup [.bool true,.int .i64 pos,.int .i32 (y9 s pos).1]else .tup [.bool false]
   |_=>.any
  |_=>.any
@[go_sem] def cq:D->Ε
 | .ptr l _ _ _=>[l]
 | .own l _ _ _=>[l]
 | .it l=>[l]
 |_=>[]
@[go_sem] def qR (args:Θ)(r:D):Bool:=aP args ||r.fG
@[go_sem] def aA.eO (Y:Ctx)(J:Src->a7)(m:Γ):aA->Prop
 | .mv x=>(J x).ok=true
 | .pick c a b=>(J c).ok=true/\match(J c).d with
  | .bool t=>(t=true->(J a).ok=true)/\(t=false->(J b).ok=true)
  |_=>False
 | .box k x=>(J x).ok=true/\(J x).d.cells.length=k
 | .build z ps=>Aw J z.length ps
 | .bsl k z n ps=>z.cells.length=k/\qW J k n ps
 | .ld n _ p=>(J p).ok=true/\MA m n (J p).d
 | .st n p v=>(J p).ok=true/\(J v).ok=true/\(J v).d.cells.length=n/\match(J p).d with
  | .ptr l k i o=>ep m l k (i+1)/\o+n<=k
  |_=>False
 | .stU n p v qs=>(J p).ok=true/\(J v).ok=true/\(J v).d.cells.length=n/\match(J p).d with
  | .ptr l k i o=>ep m l k (i+1)/\o+n<=k/\(k<=4\/∀q∈qs,l∉cq (J q).d)
  |_=>False
 | .nilck x=>(J x).ok=true/\match(J x).d with| .ptr .. =>True| .ref .. =>True|_=>False
 | .bin op x y=>(J x).ok=true/\(J y).ok=true/\Br op (J x).d (J y).d
 | .eqA _ ag ks x y=>(J x).ok=true/\(J y).ok=true/\(J x).d.isAgg=ag/\(J y).d.isAgg=ag/\fP ks (J x).d.cells/\fP ks (J y).d.cells
 | .un op x=>(J x).ok=true/\match op,(J x).d with
  | .not,.bool _=>True
  | .neg,.int _ _=>True
  |_,_=>False
 | .cvi _ x=>(J x).ok=true/\match(J x).d with| .int _ _=>True|_=>False
 | .mn g x y=>(J x).ok=true/\(J y).ok=true/\match(J x).d,(J y).d with| .int _ _,.int _ _=>True|_,_=>False
 | .s2b x=>(J x).ok=true/\match(J x).d with| .str _=>True|_=>False
 | .b2s x=>(J x).ok=true/\(match(J x).d with| .str _=>False|_=>True)/\CS m 1 (J x).d/\∀e∈qO m (J x).d,e.Vb
 | .mkf _ caps=>Ci J caps
 | .mks k z ln cp=>(J ln).ok=true/\(J cp).ok=true/\z.cells.length=k/\match(J ln).d,(J cp).d with
  | .int _ n,.int _ c=>0<=n/\n<=c/\c<=1073741824
  |_,_=>False
 | .slS x lo hi=>(J x).ok=true/\M4 J lo/\M4 J hi/\match(J x).d with
  | .str s=>nE (dO J hi) s.length/\nE (dO J lo) (er (dO J hi) s.length)
  |_=>False
 | .slA k x lo hi=>(J x).ok=true/\M4 J lo/\M4 J hi/\match(J x).d with
  | .sl k' es=>k'=k/\nE (dO J hi) es.length/\nE (dO J lo) (er (dO J hi) es.length)
  | .own _ k' _ n=>k'=k/\nE (dO J hi) n/\nE (dO J lo) (er (dO J hi) n)
  | .aO=>nE (dO J hi) 0/\nE (dO J lo) 0
  |_=>False
 | .slX k x hi mx=>(J x).ok=true/\(J hi).ok=true/\(J mx).ok=true/\match(J hi).d,(J mx).d with
  | .int _ h,.int _ m=>0<=h/\h<=m/\(match(J x).d with
    | .sl k' es=>k'=k/\m<=es.length
    | .own _ k' _ n=>k'=k/\m<=n
    | .aO=>m=0
    |_=>False)
  |_,_=>False
 | .fa off p=>(J p).ok=true/\match(J p).d with| .ptr .. =>True| .ref .. =>True|_=>False
 | .fld off n ag x=>(J x).ok=true/\match(J x).d with| .agg cs=>off+n<=cs.length/\(ag=false->n=1)|_=>False
 | .ia k x i=>(J x).ok=true/\(J i).ok=true/\match(J x).d,(J i).d with
  | .sl k' es,.int _ n=>k'=k/\0<=n/\n<es.length
  | .own _ k' _ c,.int _ n=>k'=k/\0<=n/\n<c
  |_,_=>False
 | .iaP n k x i=>(J x).ok=true/\(J i).ok=true/\match(J x).d,(J i).d with
  | .ptr ..,.int _ c=>0<=c/\c<n
  | .ref ..,.int _ c=>0<=c/\c<n
  |_,_=>False
 | .ixS x i=>(J x).ok=true/\(J i).ok=true/\match(J x).d,(J i).d with
  | .str s,.int _ n=>0<=n/\n<s.length
  |_,_=>False
 | .ixA n k ag x i=>(J x).ok=true/\(J i).ok=true/\(ag=false->k=1)/\match(J x).d,(J i).d with
  | .agg cs,.int _ c=>0<=c/\c<n/\cs.length=n*k
  |_,_=>False
 | .ext x i=>(J x).ok=true/\match(J x).d with| .tup ds=>i<ds.length|_=>False
 | .len x=>(J x).ok=true/\match(J x).d with| .sl _ _=>True| .own .. =>True| .aO=>True|_=>False
 | .lenS x=>(J x).ok=true/\match(J x).d with| .str _=>True|_=>False
 | .app k x y=>(J x).ok=true/\(J y).ok=true/\CS m k (J y).d/\match(J x).d with
  | .own l k' i n=>k'=k/\ep m l k (i+n)/\n+(qO m (J y).d).length<=1073741824
  | .aO=>(qO m (J y).d).length<=1073741824
  |_=>False
 | .call f args sh=>Ci J args/\jm m sh (iU J args)/\Y.pre f (iJ m sh (iU J args))/\qR (iU J args) (Y.val f (iJ m sh (iU J args)))=true
 | .callv f args sh=>(J f).ok=true/\Ci J args/\match(J f).d with
  | .fn n caps=>n<1000000/\jm m sh (iU J args++caps)/\Y.pre n (iJ m sh (iU J args++caps))/\qR (iU J args++caps) (Y.val n (iJ m sh (iU J args++caps)))=true
  |_=>False
 | .callM _ args=>Ci J args
 | .callvM _ args=>Ci J args
 | .ldW n _ p=>(J p).ok=true/\match(J p).d with
  | .ptr l k i o=>(ep m l k (i+1)/\o+n<=k)/\4<k
  | .ref k es i o=>i<es.length/\o+n<=k
  |_=>False
 | .ldU n _ p=>(J p).ok=true/\match(J p).d with
  | .ptr l k i o=>(ep m l k (i+1)/\o+n<=k)/\aP (aK m l)=false
  | .ref k es i o=>i<es.length/\o+n<=k
  |_=>False
 | .ldI n _ p=>(J p).ok=true/\match(J p).d with
  | .ref k es i o=>i<es.length/\o+n<=k
  | .fn q es=>q=3000000/\n=1/\es.length=1/\(es.getD 0 .any).cells=[es.getD 0 .any]
  |_=>False
 | .appN k y=>(J y).ok=true/\CS m k (J y).d/\(qO m (J y).d).length<=1073741824
 | .bslI k z n ps=>z.cells.length=k/\qW J k n ps/\aP (my J (List.replicate n z) ps)=true
 | .callF f r args sh=>(J r).ok=true/\Ci J args/\aP (iU J args)=true/\match(J r).d with
  | .ptr l k i o=>i=0/\o=0/\ep m l k 1/\(aK m l).length=1/\((aK m l).getD 0 .any).aV=true/\Y.fp f ((aK m l).getD 0 .any) (iJ [] sh (iU J args))
  |_=>False
 | .rng x=>(J x).ok=true/\match(J x).d with| .str _=>True|_=>False
 | .mkB=>True
 | .mkM=>True
 | .upM x k v=>(J x).ok=true/\(J k).ok=true/\(J v).ok=true/\mpO m (J x).d/\wo (J k).d=true/\∃q n,(J v).d=.int q n
 | .lkM _ x k=>(J x).ok=true/\(J k).ok=true/\mpO m (J x).d/\wo (J k).d=true
 | .isNl .. =>True
 | .aU x=>(J x).ok=true/\match(J x).d with
  | .it l=>match look m l with
   |some (.iter _ _)=>True
   |_=>False
  |_=>False
@[go_sem] def Src.Gu:Src->Bool
 | .s _=>true
 |_=>false
@[go_sem] def aA.LC (draw:Bool)(J:Src->a7):aA->Prop
 | .len x=>bif draw&& !x.Gu then True else(J x).ok=true->match(J x).d with
  | .sl _ es=>es.length<=9223372036854775807
  | .own _ _ _ n=>n<=9223372036854775807
  |_=>True
 | .lenS x=>bif draw&& !x.Gu then True else(J x).ok=true->match(J x).d with
  | .str s=>s.length<=9223372036854775807
  |_=>True
 |_=>True
@[go_sem] def aA.bS (Y:Ctx)(J:Src->a7)(m:Γ)(L:Nat):aA->Γ
 | .box k x=>cW m L (.buf k [(J x).d])
 | .bsl k z n ps=>cW m L (.buf k (my J (List.replicate n z) ps))
 | .mks k z ln _=>cW m L (.buf k (List.replicate (J ln).d.nat z))
 | .s2b x=>match(J x).d with
  | .str s=>cW m L (.buf 1 (s.map λb=>.int .u8 b.toNat))
  |_=>m
 | .st n p v=>match(J p).d with
  | .ptr l k i o=>cW m l (.buf k ((aK m l).set i (tj ((aK m l).getD i .any) k n o (J v).d)))
  |_=>m
 | .stU n p v _=>match(J p).d with
  | .ptr l k i o=>cW m l (.buf k ((aK m l).set i (tj ((aK m l).getD i .any) k n o (J v).d)))
  |_=>m
 | .app k x y=>match(J x).d with
  | .own l k' i n=>cW (de m l) L (.buf k ((((aK m l).drop i).take n)++qO m (J y).d))
  |_=>cW m L (.buf k (qO m (J y).d))
 | .appN k y=>cW m L (.buf k (qO m (J y).d))
 | .callF f r args sh=>match(J r).d with
  | .ptr l k _ _=>cW m l (.buf k [Y.fs f ((aK m l).getD 0 .any) (iJ [] sh (iU J args))])
  |_=>m
 | .rng x=>match(J x).d with
  | .str s=>cW m L (.iter s 0)
  |_=>m
 | .mkB=>cW m L (.bld none 0 false)
 | .mkM=>cW m L (.mpb [])
 | .upM x k v=>match(J x).d with
  | .fn _ [.it l]=>cW m l (.mpb (AK (J k).d (J v).d (Vp m (J x).d)))
  |_=>m
 | .aU x=>match(J x).d with
  | .it l=>match look m l with
   |some (.iter s pos)=>bif decide (pos<s.length)then cW m l (.iter s (pos+(y9 s pos).2))else m
   |_=>m
  |_=>m
 |_=>m
@[go_sem] def aA.nB (J:Src->a7):aA->Option (List Nat)
 | .ld _ _ p=>some (cq (J p).d)
 | .ldU _ _ p=>some (cq (J p).d)
 | .ldW _ _ p=>some (cq (J p).d)
 | .st _ p _=>some (cq (J p).d)
 | .stU _ p _ _=>some (cq (J p).d)
 | .b2s x=>some (cq (J x).d)
 | .app _ x y=>some (cq (J x).d++cq (J y).d)
 | .aU x=>some (cq (J x).d)
 | .call _ args _=>bif aP (iU J args)then some []else none
 | .callv f args _=>match(J f).d with
  | .fn _ caps=>bif aP (iU J args++caps)then some []else none
  |_=>none
 | .callM _ _=>none
 | .callvM _ _=>none
 | .isNl .. =>none
 | .callF _ r _ _=>some (cq (J r).d)
 | .upM x _ _=>some (DB (J x).d)
 | .lkM _ x _=>some (DB (J x).d)
 | .appN _ y=>some (cq (J y).d)
 |_=>some []
@[go_sem] def aA.wr (J:Src->a7)(L:Nat):aA->Ε
 | .box .. =>[L]
 | .bsl .. =>[L]
 | .mks .. =>[L]
 | .s2b _=>[L]
 | .rng _=>[L]
 | .mkB=>[L]
 | .mkM=>[L]
 | .upM x _ _=>DB (J x).d
 | .st _ p _=>cq (J p).d
 | .stU _ p _ _=>cq (J p).d
 | .app _ x _=>L::cq (J x).d
 | .aU x=>cq (J x).d
 | .callF _ r _ _=>cq (J r).d
 | .appN .. =>[L]
 |_=>[]
@[go_sem] def aA.calm:aA->Bool
 | .st .. =>false
 | .stU .. =>false
 | .app .. =>false
 | .aU .. =>false
 | .callM .. =>false
 | .callvM .. =>false
 | .isNl .. =>false
 | .callF .. =>false
 | .upM .. =>false
 |_=>true
@[go_sem] def flag:Ν->Bool
 |none=>true
 |some (j,w)=>(vs.getD j .un).ok&&match(vs.getD j .un).d with
  | .bool b=>b==w
  |_=>false
@[go_sem] def Ww (i:aA):Ν->Prop
 |none=>True
 |some (j,_)=>i.calm=true/\((vs.getD j .un).ok=true->(vs.getD j .un).d.isBool=true)
@[go_sem] def aA.lH (draw:Bool)(g:Ν)(i:aA):Bool:=!draw&&(!i.calm&&g.isSome)
@[go_sem] def zk:Ν->Prop
 |none=>True
 |some (j,_)=>(vs.getD j .un).ok=true->(vs.getD j .un).d.isBool=true
@[go_sem] def nlB (d:D)(b:Bool):Prop:=match d with
 | .aO=>b=true
 | .sl _ es=>b=true->es=[]
 | .own _ _ _ n=>b=true->n=0
 |_=>True
@[go_sem] def slB:D->Prop
 | .aO=>True
 | .sl .. =>True
 | .own .. =>True
 |_=>False
@[go_sem] def Ph:Nat:=if n<1000000 then n else n-1000000
@[go_sem] def Pg (aHa caps:Θ):Θ:=if n<1000000 then aHa++caps else caps++aHa
def fg (Y:Ctx)(draw:Bool):Υ->(env vs:Φ)->St->(Φ->St->Prop)->Prop
 |[],_,vs,st,K=>K vs {st with nx:=st.nx+vs.length}
 |⟨.callM f args,g⟩::r,env,vs,st,K=>
  zk vs g/\(flag vs g=true->Ci (Src.ev env vs) args/\
   Y.tr f (iU (Src.ev env vs) args) {st with nx:=st.nx+vs.length} λd st'=>st.nx+vs.length<=st'.nx/\fg Y draw r env (vs++[⟨true,d⟩]) {st' with nx:=st'.nx-vs.length} K)/\
   (flag vs g=false->fg Y draw r env (vs++[⟨false,.any⟩]) st K)
 |⟨.callvM f args,g⟩::r,env,vs,st,K=>
  zk vs g/\(flag vs g=true->(Src.ev env vs f).ok=true/\Ci (Src.ev env vs) args/\match(Src.ev env vs f).d with
   | .fn n caps=>n<2000000/\Y.tr (Ph n) (Pg n (iU (Src.ev env vs) args) caps) {st with nx:=st.nx+vs.length} λd st'=>st.nx+vs.length<=st'.nx/\fg Y draw r env (vs++[⟨true,d⟩]) {st' with nx:=st'.nx-vs.length} K
   |_=>False)/\
   (flag vs g=false->fg Y draw r env (vs++[⟨false,.any⟩]) st K)
 |⟨.isNl x ng,g⟩::r,env,vs,st,K=>
  zk vs g/\(flag vs g=true->(Src.ev env vs x).ok=true/\slB (Src.ev env vs x).d/\∀b,nlB (Src.ev env vs x).d b->fg Y draw r env (vs++[⟨true,.bool (bif ng then !b else b)⟩]) st K)/\
   (flag vs g=false->fg Y draw r env (vs++[⟨false,.any⟩]) st K)
 |⟨i,g⟩::r,env,vs,st,K=>
  if i.lH draw g=true then
   zk vs g/\(flag vs g=true->i.eO Y (Src.ev env vs) st.m/\
     fg Y draw r env (vs++[⟨true,i.val Y (Src.ev env vs) st.m (st.nx+vs.length)⟩]) {st with m:=i.bS Y (Src.ev env vs) st.m (st.nx+vs.length)} K)/\
    (flag vs g=false->fg Y draw r env (vs++[⟨false,.any⟩]) st K)
  else
  Ww vs i g/\(flag vs g=true->i.eO Y (Src.ev env vs) st.m)/\
   ((flag vs g=true->i.LC draw (Src.ev env vs))->∃d,(flag vs g=true->i.val Y (Src.ev env vs) st.m (st.nx+vs.length)=d)/\
     fg Y draw r env (vs++[⟨flag vs g,d⟩]) {st with m:=i.bS Y (Src.ev env vs) st.m (st.nx+vs.length)} K)
mutual
@[go_sem] def jj (l k:Nat)(es:Θ):D->D
 | .own l' k' i n=>if l'=l/\k'=k/\i+n<=es.length then .sl k ((es.drop i).take n)else .own l' k' i n
 | .ptr l' k' i o=>if l'=l/\k'=k then .ref k es i o else .ptr l' k' i o
 | .agg cs=>.agg (pf l k es cs)
 | .tup cs=>.tup (pf l k es cs)
 | .fn f cs=>.fn f (pf l k es cs)
 | .any=>.any
 | .bool b=>.bool b
 | .int k n=>.int k n
 | .str s=>.str s
 | .aO=>.aO
 | .sl k es=>.sl k es
 | .ref k es i o=>.ref k es i o
 | .nilp=>.nilp
 | .nilf=>.nilf
 | .it l=>.it l
@[go_sem] def pf (l k:Nat)(es:Θ):Θ->Θ
 |[]=>[]
 |d::r=>jj l k es d::pf l k es r
end
@[go_sem] def FH (l k:Nat)(es:Θ):bo->bo
 | .buf k' es'=>.buf k' (pf l k es es')
 |b=>b
@[go_sem] def Bv (l k:Nat)(es:Θ):Γ->Γ
 |[]=>[]
 |(a,b)::r=>(a,FH l k es b)::Bv l k es r
@[go_sem] def yY (l k:Nat)(es:Θ):Φ->Φ
 |[]=>[]
 |⟨ok,d⟩::r=>⟨ok,jj l k es d⟩::yY l k es r
@[go_sem] def Wv (l:Nat)(s:Φ×Γ):Φ×Γ:=match look s.2 l with
 |some (.buf k es)=>bif aP es then(yY l k es s.1,Bv l k es (de s.2 l))else s
 |_=>s
@[go_sem] def frzs:Ε->Φ×Γ->Φ×Γ
 |[],s=>s
 |l::r,s=>frzs r (Wv l s)
inductive Ex where
 |normal|exit (id:Nat)|ret
@[go_sem] def iG (env vs:Φ):Ξ->Φ
 |[]=>env
 |(s,p)::r=>iG (env.set s (vs.getD p .un)) vs r
@[go_sem] def m8 (lo:Nat)(σ:Ξ)(l:Nat):Lad:=match σ with
 |[]=>bif Nat.blt l lo then some l else none
 |(a,b)::r=>bif Nat.beq a l then some b else m8 lo r l
@[go_sem] def Wa (σ:Ξ)(l:Nat)(f:Nat->D):ε:=match m8 lo σ l with
 |some l'=>some (f l')
 |none=>none
mutual
@[go_sem] def tW (lo:Nat)(σ:Ξ):D->ε
 | .own l k i n=>Wa lo σ l λl=>.own l k i n
 | .ptr l k i o=>Wa lo σ l λl=>.ptr l k i o
 | .it l=>Wa lo σ l λl=>.it l
 | .agg cs=>match ru lo σ cs with
  |some cs=>some (.agg cs)
  |none=>none
 | .tup cs=>match ru lo σ cs with
  |some cs=>some (.tup cs)
  |none=>none
 | .fn f cs=>match ru lo σ cs with
  |some cs=>some (.fn f cs)
  |none=>none
 | .any=>some .any
 | .bool b=>some (.bool b)
 | .int k n=>some (.int k n)
 | .str s=>some (.str s)
 | .aO=>some .aO
 | .sl k es=>some (.sl k es)
 | .ref k es i o=>some (.ref k es i o)
 | .nilp=>some .nilp
 | .nilf=>some .nilf
@[go_sem] def ru (lo:Nat)(σ:Ξ):Θ->Option (List D)
 |[]=>some []
 |d::r=>match tW lo σ d,ru lo σ r with
  |some d,some r=>some (d::r)
  |_,_=>none
end
mutual
def wV:D->D->Prop
 | .aO,d'=>d'=.aO\/∃l k i,d'=.own l k i 0
 | .agg a,d'=>∃b,d'=.agg b/\O6 a b
 |d,d'=>d'=d/\d.aV=true
def O6:Θ->Θ->Prop
 |[],b=>b=[]
 |d::r,b=>∃d' r',b=d'::r'/\wV d d'/\O6 r r'
end
def RnD (σ:Ξ)(d d':D):Prop:=d'=d/\d.aV=true\/tW lo σ d=some d'\/wV d d'
def qN (σ:Ξ):bo->bo->Prop
 | .buf k es,.buf k' es'=>k'=k/\(es'=es/\aP es=true\/ru lo σ es=some es'\/O6 es es')
 | .iter s p,.iter s' p'=>s'=s/\p'=p
 | .row s,.row s'=>s'=s
 | .mpb s,.mpb s'=>s'=s
 | .bld o n u,.bld o' n' u'=>(match o with
  |none=>o'=none
  |some l=>∃l',m8 lo σ l=some l'/\o'=some l')/\n'=n/\u'=u
 |_,_=>False
def fN (lo:Nat)(σ:Ξ):Φ->Φ->Prop
 |[],[]=>True
 |a::r,b::s=>(b.ok=a.ok/\RnD lo σ a.d b.d\/b=.un)/\fN lo σ r s
 |_,_=>False
def bB (lo c:Nat)(σ:Ξ)(m:Γ):Γ->Prop
 |[]=>True
 |(l',b')::r=>((∃l b,m8 lo σ l=some l'/\look m l=some b/\qN lo σ b b')\/(Nat.ble lo l'=true/\Nat.blt l' c=true/\σ.all (λp=>!Nat.beq p.2 l')=true/\∃k,b'=.buf k []))/\bB lo c σ m r
def gQ (lo c:Nat):Ξ->Bool
 |[]=>Nat.ble lo c
 |(a,b)::r=>(Nat.ble lo b&&(Nat.blt b c&&(r.all (λp=>!Nat.beq p.1 a&& !Nat.beq p.2 b)&&gQ lo c r)))
@[go_sem] def leE:Φ->Φ->Prop
 |[],[]=>True
 |a::r,b::s=>(b=a\/b=.un)/\leE r s
 |_,_=>False
@[go_sem] def abn (m:Γ):Γ->Prop
 |[]=>True
 |(l,b)::r=>look m l=some b/\abn m r
inductive Fz:D->D->Prop
 |refl (d:D):Fz d d
 |nil (k:Nat):Fz .aO (.sl k [])
 |agg (a b:Θ) (hl:b.length=a.length) (h:∀i,Fz (a.getD i .any) (b.getD i .any)):Fz (.agg a) (.agg b)
 |sl (k:Nat) (a b:Θ) (hl:b.length=a.length) (h:∀i,Fz (a.getD i .any) (b.getD i .any)):Fz (.sl k a) (.sl k b)
def RX (a b:Θ):Prop:=b.length=a.length/\∀i,Fz (a.getD i .any) (b.getD i .any)
def WkB:bo->bo->Prop
 | .buf k es,.buf k' es'=>k'=k/\RX es es'
 |b,b'=>b'=b
def WkE:Φ->Φ->Prop
 |[],[]=>True
 |a::r,b::s=>(b.ok=a.ok/\Fz a.d b.d)/\WkE r s
 |_,_=>False
def RY (m:Γ):Γ->Prop
 |[]=>True
 |(l,b')::r=>(∃b,look m l=some b/\WkB b b')/\RY m r
inductive a8 (lo:Nat):Φ->St->Φ->St->Prop
 |refl (env:Φ) (st:St):a8 lo env st env st
 |Wv (l:Nat) (env:Φ) (st:St):a8 lo env st (Wv l (env,st.m)).1 ⟨st.nx,(Wv l (env,st.m)).2⟩
 |ren (σ:Ξ) (c:Nat) (env env':Φ) (nx:Nat) (m m':Γ) (h:gQ lo c σ=true) (he:fN lo σ env env') (hm:bB lo c σ m m'):a8 lo env ⟨nx,m⟩ env' ⟨c,m'⟩
 |wk (env env':Φ) (nx:Nat) (m m':Γ) (he:leE env env') (hm:abn m m'):a8 lo env ⟨nx,m⟩ env' ⟨nx,m'⟩
 |nz (env env':Φ) (nx:Nat) (m m':Γ) (he:WkE env env') (hm:RY m m'):a8 lo env ⟨nx,m⟩ env' ⟨nx,m'⟩
 |trans (env1 env2 env3:Φ) (st1 st2 st3:St) (h:a8 lo env1 st1 env2 st2) (h':a8 lo env2 st2 env3 st3):a8 lo env1 st1 env3 st3
def Gh (p:Φ->St->Prop)(env:Φ)(st:St):=∃env' st',a8 lo env st env' st'/\p env' st'
def dD (Y:Ctx):AC->(Ex->Φ->St->Prop)->Φ->St->Prop
 | .reg draw ins cm,Q=>Gh Y.lo λenv st=>fg Y draw ins env [] st λvs st'=>Q .normal (iG env vs cm) st'
 | .seq a b,Q=>Gh Y.lo (dD Y a (λe env st=>match e with
   | .normal=>dD Y b Q env st
   |e=>Q e env st))
 | .cond c a b,Q=>Gh Y.lo λenv st=>(c.ev env []).ok=true/\match(c.ev env []).d with
  | .bool t=>(t=true->dD Y a Q env st)/\(t=false->dD Y b Q env st)
  |_=>False
 | .block id a,Q=>Gh Y.lo (dD Y a (λe env st=>match e with
   | .exit j=>if j=id then Q .normal env st else Q (.exit j) env st
   |e=>Q e env st))
 | .loop a,Q=>Gh Y.lo λenv st=>∃(I:Φ->St->Prop) (μ:Φ->St->Nat),
   I env st/\∀env st,I env st->
   dD Y a (λe env' st'=>match e with
    | .normal=>∃env2 st2,a8 Y.lo env' st' env2 st2/\I env2 st2/\μ env2 st2<μ env st
    |e=>Q e env' st') env st
 | .exit id,Q=>Gh Y.lo (Q (.exit id))
 | .ret,Q=>Gh Y.lo (Q .ret)
 | .skip,Q=>Gh Y.lo (Q .normal)
def Ctx.at (Y:Ctx)(n:Nat):Ctx:={Y with lo:=n}
@[go_sem] def Jc (m:Γ)(env:Φ)(r:Hw):D:=match r.mem with
 |none=>(env.getD r.s .un).d
 |some (n,ag)=>MB m n ag (env.getD r.s .un).d
@[go_sem] def oO (m:Γ)(env:Φ):List Hw->Prop
 |[]=>True
 |r::rs=>(env.getD r.s .un).ok=true/\(match r.mem with
   |none=>True
   |some (n,_)=>MA m n (env.getD r.s .un).d)/\oO m env rs
@[go_sem] def rr (m:Γ)(env:Φ):List Hw->Θ
 |[]=>[]
 |r::rs=>Jc m env r::rr m env rs
@[go_sem] def ku (env:Φ)(st:St):D:=match a.res with
 |[r]=>Jc st.m env r
 |rs=>.tup (rr st.m env rs)
@[go_sem] def aa7 (env:Φ)(st:St):D:=match a.res with
 |[r]=>jf st.m (a.rsh.getD 0 []) (Jc st.m env r)
 |rs=>.tup (iJ st.m a.rsh (rr st.m env rs))
@[go_sem] def N5 (env:Φ)(st:St):Prop:=match a.res with
 |[r]=>gL st.m (a.rsh.getD 0 []) (Jc st.m env r)
 |rs=>jm st.m a.rsh (rr st.m env rs)
@[go_sem] def Ex.home:Ex->Prop
 | .exit _=>False
 |_=>True
@[go_sem] def fV (ds:Θ):Φ:=(ds.map λd=>⟨true,d⟩)++List.replicate (a.ns-a.np) .un
def trOf (Y:Ctx)(a:aj)(ds:Θ)(st:St)(K:Τ):Prop:=
 ds.length=a.np/\dD (Y.at st.nx) a.body (λe env st=>e.home/\oO st.m env a.res/\K (ku a env st) st) (fV a ds) st
mutual
def fZ:Value->ε
 | .bool b=>some (.bool b)
 | .int k n=>some (.int k n)
 | .string s=>if s.size<=9223372036854775807 then some (.str s.data.toList)else none
 | .pointer none=>some .nilp
 | .slice none 0 0=>some .aO
 | .nilFunc=>some .nilf
 | .map none=>some (.fn 5100000 [])
 | .agg ⟨cs⟩=>if xq cs then(tD cs).map .agg else none
 |_=>none
def tD:η->Option (List D)
 |[]=>some []
 |v::r=>match fZ v,tD r with
  |some d,some ds=>some (d::ds)
  |_,_=>none
def xq:η->Bool
 |[]=>true
 |v::r=>(match v with
  | .agg _=>false
  | .tuple _=>false
  |_=>true)&&xq r
end
def Jf (P:Program):Nat->TypeId->ζ
 |0,_=>[.a]
 |d+1,t=>match P.underlying t with
  |some (.struct fs)=>(fs.toList.map λf=>Jf P d f.type).flatten
  |some (.array n e)=>(List.replicate n (Jf P d e)).flatten
  |some (.slice e)=>[.sl (P.cellsOf e) (Jf P d e)]
  |some (.pointer e)=>[.pt (Jf P d e)]
  |_=>[.a]
def akG:ζ->ζ
 |[.sl _ cs]=>[.kp cs]
 |l=>l
def keepN (fn:Func):Nat:=100000000+fn.endLine*10000+fn.ntmps
structure CC where
 P:Program
 ν:Ξ
 bS:Ε
 slots:Ε
 ntmps:Nat
 vm:Bool
def dV:Ξ->Nat->Lad
 |[],_=>none
 |(a,b)::r,l=>if a=l then some b else dV r l
def Bz:Ε->Nat->Lad
 |[],_=>none
 |a::r,t=>if a=t then some 0 else(Bz r t).map (· +1)
def posOf (t:Nat):Ζ->Lad
 |[]=>none
 |a::r=>if a=some t then some 0 else(posOf t r).map (· +1)
def CC.src (C:CC)(defs:Ζ):Operand->Lal
 | .tmp t=>match posOf t defs with
  |some p=>some (.l p)
  |none=>(Bz C.slots t).map .s
 | .const v=>(fZ v).map .c
 | .func f=>(dV C.ν f).map λn=>.c (.fn n [])
 | .global _=>none
def CC.wP (C:CC)(defs:Ζ):Lai->Option (List Src)
 |[]=>some []
 |x::r=>match C.src defs x,C.wP defs r with
  |some a,some l=>some (a::l)
  |_,_=>none
def CC.opt (C:CC)(defs:Ζ):Option Operand->Option (Option Src)
 |none=>some none
 |some x=>(C.src defs x).map some
def b9 (t:TypeId):Bool:=match P.underlying t with
 |some (.struct _)=>true
 |some (.array ..)=>true
 |_=>false
def mE (P:Program)(k:TypeId->Option (List CK)):Nat->List Field->Option (List CK)
 |_,[]=>some []
 |off,f::r=>if f.name= "_" \/f.offset≠off then none else
  match k f.type,mE P k (off+P.cellsOf f.type) r with
  |some a,some b=>if a.length=P.cellsOf f.type/\a.length≠0/\(P.underlying f.type).isNone=false then some (a++b)else none
  |_,_=>none
def ib (P:Program):Nat->TypeId->Option (List CK)
 |0,_=>none
 |d+1,t=>match P.underlying t with
  |some .bool=>some [.b]
  |some (.int k)=>some [.i k]
  |some .string=>some [.s]
  |some (.struct fs)=>if P.stoodInHeld t then none else mE P (λt=>ib P d t) 0 fs.toList
  |some (.array n e)=>match ib P d e with
   |some l=>if l.length=P.cellsOf e/\l.length≠0/\(P.underlying e).isNone=false then some (List.replicate n l).flatten else none
   |none=>none
  |_=>none
def CC.parts (C:CC)(defs:Ζ)(place:Nat->Option (Nat×Nat)):List (Nat×Operand)->Option (List (Nat×Nat×Src))
 |[]=>some []
 |(i,x)::r=>match place i,C.src defs x,C.parts defs place r with
  |some (o,n),some s,some l=>if n=0 then none else some ((o,n,s)::l)
  |_,_,_=>none
def CC.zI (C:CC)(defs:Ζ):List (Nat×Operand)->Option (List (Nat×Src))
 |[]=>some []
 |(i,x)::r=>match C.src defs x,C.zI defs r with
  |some s,some l=>some ((i,s)::l)
  |_,_=>none
def tu (t:TypeId):ε:=((P.info? t).bind (·.zero)).bind fZ
def zVD:D:=.agg [.int .i64 0,.int .i64 0,.int .i64 0,.str [],.str []]
def CC.Ys (C:CC)(t:TypeId):Operand->ε
 | .global g=>if(C.bS.contains (500000000+g)=true/\g<400000000)/\C.P.cellsOf t=5/\b9 C.P t=true/\(C.P.underlying t).isNone=false then some zVD else none
 |_=>none
def qG (t:TypeId):Bool:=match tu P t with
 |some z=>z.cells.length==P.cellsOf t
 |none=>false
def PK (k:TypeId):Bool:=match P.underlying k with
 |some (.array 2 e)=>(match P.underlying e with
  |some .string=>P.cellsOf e==1&&(P.cellsOf k==2&& !(P.types.size==0))
  |_=>false)
 |_=>false
def CC.op (C:CC)(defs:Ζ)(o:Oper):Option aA:=
 match o.op with
 | .move x=>(C.src defs x).map .mv
 | .assign x=>(C.src defs x).map .mv
 | .pick c a b=>match C.src defs c,C.src defs a,C.src defs b with
  |some c,some a,some b=>some (.pick c a b)
  |_,_,_=>none
 | .alloc t=>match tu C.P t with
  |some z=>if C.P.cellsOf t=0 then none else if C.bS.contains (1000000000+t)then(match z with
   | .agg [.nilp,.aO]=>some .mkB
   |_=>none)else some (.box (C.P.cellsOf t) (.c z))
  |none=>none
 | .box t x=>match C.src defs x with
  |some s=>if C.P.cellsOf t=0 then none else some (.box (C.P.cellsOf t) s)
  |none=>none
 | .build t ps=>match tu C.P t,C.P.underlying t with
  |some (.agg z),some (.struct fs)=>if fs.toList.all (λf=>(C.P.info? f.type).isSome)then(C.parts defs (λi=>(fs[i]?).map λf=>(f.offset,C.P.cellsOf f.type)) ps.toList).map (.build z)else none
  |some (.agg z),some (.array _ e)=>if C.P.cellsOf e=0 then none else(C.parts defs (λi=>some (i*C.P.cellsOf e,C.P.cellsOf e)) ps.toList).map (.build z)
  |_,_=>none
 | .buildSlice t n ps=>match C.P.underlying t with
  |some (.slice e)=>match tu C.P e,C.zI defs ps.toList with
   |some z,some l=>if C.P.cellsOf e=0\/n*C.P.cellsOf e>16777216 then none else some (.bsl (C.P.cellsOf e) z n l)
   |_,_=>none
  |_=>none
 | .load t a=>match C.Ys t a with
  |some d=>some (.mv (.c d))
  |none=>match C.src defs a with
  |some s=>if C.P.cellsOf t=0\/(C.P.underlying t).isNone\/(b9 C.P t=false/\C.P.cellsOf t≠1)then none else some (.ld (C.P.cellsOf t) (b9 C.P t) s)
  |none=>none
 | .store t a x=>match C.src defs a,C.src defs x with
  |some a,some x=>if C.P.cellsOf t=0 then none else some (.st (C.P.cellsOf t) a x)
  |_,_=>none
 | .nilCheck x=>(C.src defs x).map .nilck
 | .binOp op t x y _=>match C.src defs x,C.src defs y with
  |some a,some b=>match C.P.underlying t with
   |some (.int _)=>some (.bin op a b)
   |some .string=>some (.bin op a b)
   |_=>if C.P.eqGuardType C.P.depth t then none else match ib C.P 30 t,op with
    |some ks,.eql=>some (.eqA false (b9 C.P t) ks a b)
    |some ks,.neq=>some (.eqA true (b9 C.P t) ks a b)
    |none,.eql=>match C.P.underlying t,b with
     |some (.slice _),.c .aO=>some (.isNl a false)
     |_,_=>none
    |none,.neq=>match C.P.underlying t,b with
     |some (.slice _),.c .aO=>some (.isNl a true)
     |_,_=>none
    |_,_=>none
  |_,_=>none
 | .unOp op _ x=>(C.src defs x).map (.un op)
 | .convert s d x=>match C.P.underlying s,C.P.underlying d,C.src defs x with
  |some (.int _),some (.int k),some a=>some (.cvi k a)
  |some .string,some (.slice e),some a=>match C.P.underlying e with
   |some (.int .u8)=>some (.s2b a)
   |_=>none
  |some (.slice e),some .string,some a=>match C.P.underlying e with
   |some (.int .u8)=>some (.b2s a)
   |_=>none
  |_,_,_=>none
 | .makeFunc (.func f) first caps=>match dV C.ν f,C.wP defs caps.toList with
  |some n,some l=>if first.isEmpty then some (.mkf n l)else if l.isEmpty then(C.wP defs first.toList).map (.mkf (n+1000000))else none
  |_,_=>none
 | .makeSlice t l c=>match C.P.underlying t with
  |some (.slice e)=>match tu C.P e,C.src defs l,C.src defs c with
   |some z,some l,some c=>if C.P.cellsOf e=0\/C.P.bytesOf e>65536 then none else some (.mks (C.P.cellsOf e) z l c)
   |_,_,_=>none
  |_=>none
 | .slice t x lo hi mx=>match C.P.underlying t,C.src defs x,C.opt defs lo,C.opt defs hi,mx with
  |some .string,some a,some l,some h,none=>some (.slS a l h)
  |some (.slice e),some a,some l,some h,none=>if C.P.cellsOf e=0 then none else some (.slA (C.P.cellsOf e) a l h)
  |some (.slice e),some a,some none,some (some h),some m=>match C.src defs m with
   |some m=>if C.P.cellsOf e=0 then none else some (.slX (C.P.cellsOf e) a h m)
   |none=>none
  |_,_,_,_,_=>none
 | .fieldAddr t x f=>match C.P.underlying t,C.src defs x with
  |some (.struct fs),some a=>match fs[f]? with
   |some f=>if C.P.cellsOf f.type=0 then none else some (.fa f.offset a)
   |none=>none
  |_,_=>none
 | .field t x f=>match C.P.underlying t,C.src defs x with
  |some (.struct fs),some a=>match fs[f]? with
   |some f=>if C.P.cellsOf f.type=0\/(C.P.underlying f.type).isNone then none else some (.fld f.offset (C.P.cellsOf f.type) (b9 C.P f.type) a)
   |none=>none
  |_,_=>none
 | .indexAddr t x i=>match C.P.underlying t,C.src defs x,C.src defs i with
  |some (.slice e),some a,some b=>if C.P.cellsOf e=0 then none else some (.ia (C.P.cellsOf e) a b)
  |some (.array n e),some a,some b=>if C.P.cellsOf e=0 then none else some (.iaP n (C.P.cellsOf e) a b)
  |_,_,_=>none
 | .index t x i=>match C.P.underlying t,C.src defs x,C.src defs i with
  |some .string,some a,some b=>some (.ixS a b)
  |some (.array n e),some a,some b=>if C.P.cellsOf e=0\/(C.P.underlying e).isNone then none else some (.ixA n (C.P.cellsOf e) (b9 C.P e) a b)
  |_,_,_=>none
 | .lookup t x y true=>match C.src defs x,C.src defs y,C.P.underlying t with
  |some a,some b,some (.map k e)=>match tu C.P e with
   |some z=>if PK C.P k=true then some (.lkM z a b)else none
   |none=>none
  |_,_,_=>none
 | .makeMap t none=>match C.P.underlying t with
  |some (.map k _)=>if PK C.P k=true then some .mkM else none
  |_=>none
 | .mapUpdate t x y v=>match C.src defs x,C.src defs y,C.src defs v with
  |some a,some b,some c=>match C.P.underlying t with
   |some (.map k _)=>if PK C.P k=true then some (.upM a b c)else none
   |_=>none
  |_,_,_=>none
 | .range t x=>match C.P.underlying t,C.src defs x with
  |some .string,some a=>some (.rng a)
  |_,_=>none
 | .next it true=>(C.src defs it).map .aU
 | .extract t i=>(C.src defs t).map λs=>.ext s i
 | .call c=>match c.callee with
  | .builtin .len=>match c.args.toList,c.argTypes.toList with
   |[x],[t]=>match C.src defs x,C.P.underlying t with
    |some a,some .string=>some (.lenS a)
    |some a,some (.slice _)=>some (.len a)
    |_,_=>none
   |_,_=>none
  | .builtin .min=>match c.args.toList with
   |[x,y]=>match C.src defs x,C.src defs y with
    |some a,some b=>some (.mn false a b)
    |_,_=>none
   |_=>none
  | .builtin .max=>match c.args.toList with
   |[x,y]=>match C.src defs x,C.src defs y with
    |some a,some b=>some (.mn true a b)
    |_,_=>none
   |_=>none
  | .builtin .append=>match c.args.toList,c.argTypes.toList with
   |[x,y],[t,u]=>match C.src defs x,C.src defs y,C.P.underlying t,C.P.underlying u with
    |some a,some b,some (.slice e),some (.slice _)=>if C.P.cellsOf e=0\/C.P.bytesOf e>65536\/C.P.bytesOf e=0\/qG C.P e=false then none else some (.app (C.P.cellsOf e) a b)
    |some a,some b,some (.slice e),some .string=>if C.P.cellsOf e=0\/C.P.bytesOf e>65536\/C.P.bytesOf e=0\/qG C.P e=false then none else some (.app (C.P.cellsOf e) a b)
    |_,_,_,_=>none
   |_,_=>none
  | .value (.func f)=>match dV C.ν f,C.wP defs c.args.toList with
   |some n,some l=>if C.bS.contains (2*n)then some (.callM n l)else if C.bS.contains (2*n+1)then(match l with
     |r::rest=>some (.callF n r rest ((c.argTypes.toList.map (Jf C.P 8)).drop 1))
     |[]=>none)else some (.call n l (c.argTypes.toList.map (Jf C.P 8)))
   |_,_=>none
  | .value (.tmp t)=>match C.src defs (.tmp t),C.wP defs c.args.toList with
   |some s,some l=>if C.vm then some (.callvM s l)else some (.callv s l (c.argTypes.toList.map (Jf C.P 8)))
   |_,_=>none
  |_=>none
 |_=>none
def CC.guard (defs:Ζ):Ν->Option (Option (Nat×Bool))
 |none=>some none
 |some (j,w)=>match defs[j]? with
  |some (some _)=>some (some (j,w))
  |_=>none
def CC.ops (C:CC):(defs:Ζ)->List Oper->Option (List GI)
 |_,[]=>some []
 |defs,o::r=>match C.op defs o,CC.guard defs o.guard,C.ops (defs++[o.dst]) r with
  |some i,some g,some l=>if o.dst.all (λd=>d<C.ntmps&& !defs.contains (some d))then some (⟨i,g⟩::l)else none
  |_,_,_=>none
def CC.iH (C:CC):Nat->List Oper->Ξ
 |_,[]=>[]
 |p,o::r=>match o.dst.bind (Bz C.slots)with
  |some s=>(s,p)::C.iH (p+1) r
  |none=>C.iH (p+1) r
def rM (acc:Ε):List Edge->Nat
 |[]=>0
 |e::r=>if Region.binds .any e then(2^e.on |||acc.getD e.on 0) |||rM acc r else rM acc r
def qa:Ε->List Oper->Ε
 |acc,[]=>acc
 |acc,o::r=>qa (acc++[rM acc o.after.toList]) r
def tmpsOf (ops:List Oper)(o:Oper):Ε:=
 (o.op.operands.toList.filterMap fun
   | .tmp t=>some t
   |_=>none)++(match o.guard with
   |some (g,_)=>((ops[g]?).bind (·.dst)).toList
   |none=>[])
def Tx (ops:List Oper)(bs:Ε):Bool:=
 (List.range ops.length).all λj=>(List.range ops.length).all λp=>match ops[j]?,ops[p]? with
   |some oj,some op=>match op.dst with
    |some t=>p==j ||!(tmpsOf ops oj).contains t ||(bs.getD (max j p) 0).testBit (min j p)
    |none=>true
   |_,_=>false
def aA.pure:aA->Bool
 | .mv _=>true
 | .pick .. =>true
 | .build .. =>true
 | .nilck _=>true
 | .bin .. =>true
 | .eqA .. =>true
 | .un .. =>true
 | .cvi .. =>true
 | .mn .. =>true
 | .mkf .. =>true
 | .slS .. =>true
 | .slA .. =>true
 | .slX .. =>true
 | .fa .. =>true
 | .fld .. =>true
 | .ia .. =>true
 | .iaP .. =>true
 | .ixS .. =>true
 | .ixA .. =>true
 | .ext .. =>true
 | .len _=>true
 | .lenS _=>true
 | .ldI .. =>true
 | .bslI .. =>true
 |_=>false
def Sh.isA:Sh->Bool
 | .a=>true
 |_=>false
def aA.free:aA->Bool
 | .call _ _ sh=>sh.all λs=>s.all Sh.isA
 |i=>i.pure
def aA.j0:aA->Bool
 | .box .. =>true
 | .bsl .. =>true
 | .mks .. =>true
 | .s2b .. =>true
 | .rng .. =>true
 | .mkB=>true
 | .mkM=>true
 |_=>false
def aA.isApp:aA->Bool
 | .app .. =>true
 |_=>false
def aA.nK:aA->Bool
 | .callF .. =>true
 |_=>false
def aA.ox:aA->Bool
 | .ldU .. =>true
 | .ldW .. =>true
 |_=>false
def aA.isUU:aA->Bool
 | .ldU .. =>true
 |_=>false
def Src.same:Src->Src->Bool
 | .s a,.s b=>Nat.beq a b
 | .l a,.l b=>Nat.beq a b
 |_,_=>false
def aA.narrow (p:Src):aA->Bool
 | .app k _ _=>Nat.ble k 4
 | .stU _ _ _ qs=>qs.any λq=>p.same q
 |_=>false
def aA.SL:aA->Src
 | .ldW _ _ p=>p
 |_=>.c .any
def aA.isW:aA->Bool
 | .ldW .. =>true
 |_=>false
def exU (gj gi:aA)(j i:Nat):Bool:=gi.ox&&((gj.isApp&&decide (j<i)) ||(gi.isUU&&(gj.nK&&(decide (i<j)&&(List.range j).all λq=>decide (q<=i) ||match l[q]? with
 |some g=>g.i.calm ||g.i.nK
 |none=>true))) ||(gi.isW&&(gj.narrow gi.SL&&(decide (i<j)&&(List.range j).all λq=>decide (q<=i) ||match l[q]? with
 |some g=>g.i.calm ||g.i.narrow gi.SL
 |none=>true))))
def agE (bs:Ε):Bool:=
 (List.range l.length).all λj=>(List.range l.length).all λi=>match l[j]?,l[i]? with
   |some gj,some gi=>gj.i.calm ||gi.i.free ||(gi.i.j0&&(!gj.i.isApp ||decide (j<i))) ||i==j ||(bs.getD (max j i) 0).testBit (min j i) ||exU l gj.i gi.i j i
   |_,_=>false
def aA.cR:aA->Bool
 | .callM .. =>true
 | .callvM .. =>true
 | .isNl .. =>true
 |_=>false
def B8:Nat->List Oper->Bool
 |_,[]=>true
 |p,o::r=>o.after.toList.all (λe=>!Region.binds .any e ||decide (e.on<p))&&B8 (p+1) r
def sufG:GI->Bool
 |⟨.mv _,none⟩=>true
 |⟨.un ..,_⟩=>true
 |⟨.pick ..,none⟩=>true
 |⟨.ext ..,none⟩=>true
 |_=>false
def TK:Υ->Bool
 |⟨.callM ..,_⟩::r=>r.all sufG
 |⟨.callvM ..,_⟩::r=>r.all sufG
 |_=>false
def AQ (o:Oper):Option Operand:=match o.op,o.guard with
 | .move x,none=>some x
 | .assign x,none=>some x
 | .extract x _,none=>some x
 |_,_=>none
def Qd (x:Operand)(d:Lad):Bool:=match x,d with
 | .tmp t,some d=>t !=d
 |_,_=>true
def PH (o p:Oper):Bool:=match AQ o,AQ p with
 |some x,some y=>Qd x p.dst&&(Qd y o.dst&&(match o.dst,p.dst with
  |some a,some b=>a !=b
  |_,_=>true))
 |_,_=>false
def SK (ops:List Oper)(l:Υ)(bs:Ε):Bool:=
 let n:=l.findIdx λg=>g.i.cR
 TK (l.drop n)&&((l.take n).all (λg=>!g.i.cR)&&(List.range (l.length-n)).all λq=>(List.range (n+q)).all λp=>(bs.getD (n+q) 0).testBit p ||(match ops[n+q]?,ops[p]? with
  |some o,some o'=>PH o o'
  |_,_=>false))
def CR (ops:List Oper)(l:Υ):Bool:=
 let bs:=qa [] ops
 Tx ops bs&&(agE l bs&&(((l.all λg=>!g.i.cR) ||SK ops l bs)&&B8 0 ops))
def aA.toN:aA->aA
 | .app k (.c .aO) y=>.appN k y
 |i=>i
def looseAt (l:Υ)(i:Nat):Bool:=
 (List.range l.length).any λj=>match l[j]? with
   |some gj=>!(gj.i.toN.calm ||i==j ||(bs.getD (max j i) 0).testBit (min j i))
   |none=>false
def PV (l:Υ)(i:Nat):Bool:=
 (List.range l.length).all λj=>match l[j]? with
   |some gj=>gj.i.toN.calm ||i==j ||(bs.getD (max j i) 0).testBit (min j i) ||(gj.i.isApp&&decide (j<i)) ||(gj.i.nK&&(decide (i<j)&&(List.range j).all λq=>decide (q<=i) ||match l[q]? with
    |some g=>g.i.toN.calm ||g.i.nK
    |none=>true))
   |none=>true
def Src.isFa:Src->Bool
 | .l q=>match l[q]? with
  |some ⟨.fa _ (.s _),_⟩=>true
  |_=>false
 |_=>false
def akU (l:Υ)(i:Nat):Bool:=
 (match l[i]? with
   |some ⟨.ld ..,_⟩=>true
   |_=>false)&&(looseAt bs l i&&(!PV bs l i&&(List.range l.length).all λj=>match l[j]? with
   |some gj=>gj.i.toN.calm ||i==j ||(bs.getD (max j i) 0).testBit (min j i) ||(match gj.i with
    | .st n _ _=>Nat.ble 5 n&&decide (i<j)
    |_=>false)
   |none=>true))
def akT (l:Υ)(i:Nat):Bool:=
 (match l[i]? with
   |some ⟨.ld _ _ x,_⟩=>x.isFa l
   |_=>false)&&(looseAt bs l i&&(!PV bs l i&&(((List.range l.length).all λj=>match l[j]? with
   |some gj=>gj.i.toN.calm ||i==j ||(bs.getD (max j i) 0).testBit (min j i) ||(match gj.i with
    | .app k _ _=>Nat.ble k 4
    | .st n _ _=>Nat.ble n 4&&decide (i<j)
    |_=>false)
   |none=>true)&&(List.range l.length).any λj=>decide (i<j)&&(match l[j]? with
   |some ⟨.app _ (.l _) _,_⟩=>!(bs.getD (max j i) 0).testBit (min j i)
   |_=>false))))
def Zg (l:Υ)(i:Nat):Bool:=akT bs l i ||akU bs l i
def Zf (l:Υ):ς:=(List.range l.length).filterMap λi=>if Zg bs l i=true then(match l[i]? with
 |some ⟨.ld _ _ x,_⟩=>some x
 |_=>none)else none
def akw (l:Υ)(p:Nat):Bool:=
 (List.range l.length).any λj=>match l[j]? with
   |some ⟨.ia _ (.l q) _,_⟩=>Nat.beq q p&&(List.range l.length).any λi=>match l[i]? with
    |some ⟨.ld _ _ (.l r),_⟩=>Nat.beq r j&&looseAt bs l i
    |_=>false
   |_=>false
def argAt (p:Nat):Bool:=l.any λg=>match g.i with
 | .call _ args _=>args.any λs=>match s with
  | .l q=>Nat.beq q p
  |_=>false
 |_=>false
def mW (bs:Ε)(l0:Υ):Nat->Υ->Υ
 |_,[]=>[]
 |p,g::r=>(match g.i with
  | .ld n ag x=>if looseAt bs l0 p then(if PV bs l0 p then⟨.ldU n ag x,g.g⟩else if Zg bs l0 p then⟨.ldW n ag x,g.g⟩else⟨.ldI n ag x,g.g⟩)else g
  | .st n x y=>if(Zf bs l0).isEmpty=true then g else⟨.stU n x y (Zf bs l0),g.g⟩
  | .bsl k z n ps=>if(akw bs l0 p ||(Nat.ble 2 k&&argAt l0 p))=true then⟨.bslI k z n ps,g.g⟩else g
  |i=>⟨i.toN,g.g⟩)::mW bs l0 (p+1) r
def ice (bS:Ε)(l:Υ):Υ:=l.map λg=>match g.i with
 | .bsl k z n ps=>if bS.contains (950000000+100*k+n)then⟨.bslI k z n ps,g.g⟩else g
 |_=>g
def CC.code (C:CC):Code->Option AC
 | .skip=>some .skip
 | .region _ ops draw=>match C.ops [] ops.toList with
  |some l=>if draw then
    if CR ops.toList (mW (qa [] ops.toList) l 0 l)then some (.reg true (mW (qa [] ops.toList) l 0 l) (C.iH 0 ops.toList))else none
   else some (.reg false (ice C.bS l) (C.iH 0 ops.toList))
  |none=>none
 | .seq a b=>match C.code a,C.code b with
  |some a,some b=>some (.seq a b)
  |_,_=>none
 | .cond c a b=>match C.src [] c,C.code a,C.code b with
  |some c,some a,some b=>some (.cond c a b)
  |_,_,_=>none
 | .block id a=>(C.code a).map (.block id)
 | .loop a=>(C.code a).map .loop
 | .exit id=>some (.exit id)
 | .ret=>some .ret
 | .scope a=>C.code a
 | .label _=>some .skip
 |_=>none
def TR:(defs:Ζ)->List Oper->Ε
 |_,[]=>[]
 |defs,o::r=>(o.op.operands.toList.filterMap fun
   | .tmp t=>if(posOf t defs).isNone then some t else none
   |_=>none)++TR (defs++[o.dst]) r
def E0:Code->Ε
 | .region _ ops _=>TR [] ops.toList
 | .seq a b=>E0 a++E0 b
 | .cond c a b=>(match c with
  | .tmp t=>[t]
  |_=>[])++E0 a++E0 b
 | .block _ a=>E0 a
 | .loop a=>E0 a
 | .scope a=>E0 a
 |_=>[]
def tV:List ResultVar->Ε
 |[]=>[]
 | .tmp t::r=>t::tV r
 | .cell t _::r=>t::tV r
def dedup:Ε->Ε->Ε
 |acc,[]=>acc.reverse
 |acc,a::r=>if acc.contains a then dedup acc r else dedup (a::acc) r
def yI (P:Program)(sl:Ε):List ResultVar->Option (List Hw)
 |[]=>some []
 | .tmp t::r=>match Bz sl t,yI P sl r with
  |some a,some l=>some (⟨a,none⟩::l)
  |_,_=>none
 | .cell t ty::r=>match Bz sl t,yI P sl r with
  |some a,some l=>if P.cellsOf ty=0\/(P.underlying ty).isNone\/(b9 P ty=false/\P.cellsOf ty≠1)then none else some (⟨a,some (P.cellsOf ty,b9 P ty)⟩::l)
  |_,_=>none
def slotsOf (fn:Func):Ε:=dedup [] (List.range (fn.params.size+fn.nfree)++tV fn.results.toList++E0 (fn.body.getD .skip))
def vmOps (ops:List Oper):Bool:=ops.any λo=>match o.op with
 | .makeFunc _ first _=>!first.isEmpty
 | .lookup t _ _ _=>(match P.underlying t with
  |some (.map _ e)=>(match P.underlying e with
   |some (.func ..)=>true
   |_=>false)
  |_=>false)
 | .call c=>(match c.callee with
  | .value (.tmp _)=>c.argTypes.toList.any λt=>match P.underlying t with
   |some (.pointer _)=>true
   |_=>false
  |_=>false)
 |_=>false
def OL (P:Program):Code->Bool
 | .region _ ops _=>vmOps P ops.toList
 | .seq a b=>OL P a ||OL P b
 | .cond _ a b=>OL P a ||OL P b
 | .block _ a=>OL P a
 | .loop a=>OL P a
 | .scope a=>OL P a
 |_=>false
def Rm (fn:Func):Bool:=OL P (fn.body.getD .skip)
def compile (ν:Ξ)(bS:Ε)(fn:Func):Option aj:=
 match fn.body with
 |some body=>
  match CC.code {P,ν,bS,slots:=slotsOf fn,ntmps:=fn.ntmps,vm:=Rm P fn} body,yI P (slotsOf fn) fn.results.toList with
  |some a,some res=>
   if fn.params.size+fn.nfree<=fn.ntmps then some {np:=fn.params.size+fn.nfree,ns:=(slotsOf fn).length,res,rsh:=fn.resultTypes.toList.map λt=>bif bS.contains (keepN fn)then akG (Jf P 8 t)else Jf P 8 t,body:=a}else none
  |_,_=>none
 |none=>none
def BD:Ξ:=[(3,1223),(4,89),(5,28),(6,90),(7,29),(8,91),(9,92),(10,1220),(11,25),(12,360),(13,1222),(14,1221),(15,147),(16,594),(17,264),(18,265),(19,52),(20,117),(21,110),(22,112),(23,109),(24,111),(25,135),(26,136),(27,266),(28,114),(29,267),(30,268),(31,269),(32,270),(33,143),(34,581),(35,358),(36,263),(37,1083),(38,145),(39,144),(40,361),(41,362),(42,175),(43,142),(44,138),(45,315),(46,502),(47,410),(48,170),(49,186),(50,310),(51,296),(52,297),(53,298),(54,159),(55,71),(56,344),(57,345),(58,503),(59,504),(60,505),(61,46),(62,506),(63,169),(64,507),(65,508),(66,356),(67,216),(68,75),(69,580),(70,78),(71,1120),(72,359),(73,1121),(74,357),(75,582),(76,583),(77,408),(78,209),(79,295),(80,409),(81,353),(82,354),(83,355),(84,349),(85,553),(86,689),(87,690),(88,274),(89,691),(90,273),(91,623),(92,624),(93,417),(94,311),(95,535),(96,536),(97,217),(98,218),(99,219),(100,572),(101,692),(102,693),(103,694),(104,183),(105,158),(106,629),(107,403),(108,695),(109,453),(110,454),(111,73),(112,221),(113,501),(114,225),(115,226),(116,748),(117,749),(118,750),(119,751),(120,752),(121,753),(122,754),(123,755),(124,531),(125,516),(126,440),(127,441),(128,442),(129,530),(130,532),(131,533),(132,534),(133,622),(134,208),(135,74),(136,511),(137,510),(138,712),(139,628),(140,455),(141,456),(142,457),(143,458),(144,459),(145,460),(146,316),(147,461),(148,462),(149,249),(150,744),(151,745),(152,829),(153,184),(154,830),(155,831),(156,415),(157,381),(158,627),(159,617),(160,618),(161,424),(162,464),(163,477),(164,902),(165,903),(166,156),(167,816),(168,904),(169,905),(170,672),(171,906),(172,907),(173,908),(174,909),(175,704),(176,658),(177,659),(178,714),(179,780),(180,72),(181,220),(182,699),(183,700),(184,701),(185,861),(186,470),(187,666),(188,667),(189,668),(190,669),(191,670),(192,671),(193,673),(194,674),(195,554),(196,896),(197,897),(198,898),(199,899),(200,900),(201,901),(202,416),(203,770),(204,782),(205,777),(206,778),(207,630),(208,631),(209,375),(210,376),(211,377),(212,378),(213,379),(214,955),(215,1009),(216,813),(217,1010),(218,1011),(219,1012),(220,1013),(221,1014),(222,1015),(223,924),(224,925),(225,70),(226,215),(227,463),(228,980),(229,812),(230,814),(231,815),(232,734),(233,1006),(234,1007),(235,1008),(236,482),(237,676),(238,916),(239,917),(240,926),(241,783),(242,599),(243,600),(244,601),(245,602),(246,603),(247,1080),(248,952),(249,953),(250,1081),(251,1082),(252,1084),(253,374),(254,1085),(255,1023),(256,1024),(257,210),(258,211),(259,212),(260,213),(261,214),(262,450),(263,451),(264,242),(265,452),(266,1055),(267,954),(268,882),(269,678),(270,1079),(271,677),(272,1019),(273,1020),(274,1025),(275,927),(276,769),(277,1032),(278,1033),(279,1034),(280,1035),(281,1118),(282,604),(283,1119),(284,598),(285,1122),(286,1087),(287,443),(288,444),(289,445),(290,446),(291,447),(292,448),(293,449),(294,489),(295,664),(296,665),(298,1036),(299,1086),(300,1097),(301,1098),(302,771),(303,1137),(304,1138),(305,1139),(306,919),(307,920),(308,921),(309,495),(310,496),(311,124),(312,660),(313,661),(314,662),(315,254),(316,487),(317,663),(319,336),(321,1099),(322,1100),(323,1126),(324,918),(325,1144),(326,772),(327,1145),(328,1021),(329,682),(330,683),(331,684),(332,685),(334,808),(335,809),(336,810),(337,811),(343,1141),(344,1147),(345,1148),(346,819),(354,827),(355,828),(359,946),(360,947),(361,948),(362,949),(363,950),(364,951),(368,956),(369,957),(376,1031)]
def Ps:Ε:=[219,1091,1354,1894,1896,1616,1320,1618,1898,2062,2066,2282,2068,2252,2194,2064,1904,900,931,937,935,445,978,1328,904,942,944,946,952,448,522,1724,1726,1728,1430,486,500,1842,760,314,310,308,1836,872,870,406,410,412,103920080,104450022,104360064,595,1071,593,597,221,533,1004,1018,1510,1504,1496,1164,1166,724,1818,1502,950000702,1838,1544,1000000362,500000000]
noncomputable def cfY (f:Nat):Option aj:=((Go.Proofs.Tryz.prog).funcs[f]?).bind (compile Go.Proofs.Tryz.prog BD Ps)
def zofN:Int.ofNat (no_index (@OfNat.ofNat Nat n (instOfNatNat n)))=@OfNat.ofNat Int n (@instOfNat n):=rfl
def zofU (h:n<2^8):UInt8.ofBitVec (BitVec.ofFin (Fin.mk (no_index (@OfNat.ofNat Nat n (instOfNatNat n))) h))=(OfNat.ofNat n:UInt8):=pX.1 (by show n=(UInt8.ofNat n).toNat;rw[UInt8.toNat_ofNat'];exact(Nat.mod_eq_of_lt h).symm)
def zofM:Int.negSucc 0=-1:=rfl
noncomputable def bd (f:Nat)(s:{a:aj//cfY f=some a}:=by refine⟨?_, ?_⟩;rotate_left;conv=>lhs;reduce;dsimp only[zofN,zofM];try simp only[zofU]):aj:=s.1
structure X where
 w:World
 I:Lab
 β:Nat->Option (Nat×Nat×Nat)
def Vq (es:List MapEntry)(i:Nat):Value:=match es[i/2]? with
 |some e=>if i%2=0 then e.key else e.val
 |none=>undef
inductive RD (ν:Ξ)(x:X):Value->D->Prop
 |any (v:Value):RD ν x v .any
 |bool (b:Bool):RD ν x (.bool b) (.bool b)
 |int (k:IntKind) (n:Int):RD ν x (.int k n) (.int k n)
 |str (s:Ω) (h:s.length<=maxLen):RD ν x (.string ⟨⟨s⟩⟩) (.str s)
 |agg (cs:Κ) (ds:Θ) (hl:cs.size=ds.length) (h1:∀i,i<ds.length->(cs.getD i undef).oneCell'=true)
   (h:∀i,i<ds.length->RD ν x (cs.getD i undef) (ds.getD i .any)):RD ν x (.agg cs) (.agg ds)
 |tup (cs:Κ) (ds:Θ) (hl:cs.size=ds.length)
   (h:∀i,i<ds.length->RD ν x (cs.getD i undef) (ds.getD i .any)):RD ν x (.tuple cs) (.tup ds)
 |aO:RD ν x (.slice none 0 0) .aO
 |sl (a:Option Addr) (b off len cap k:Nat) (es:Θ) (c:Nat->Nat->Value) (hlen:len=es.length)
   (ha:es=[]\/(a=some ⟨b,off,none⟩/\x.I b)) (hcap:len<=cap) (hm:cap<=maxLen)
   (hk:∀i,i<len->(es.getD i .any).cells.length=k) (hn:∀i,i<len->(es.getD i .any).aV=true)
   (hc:∀i j,i<len->j<k->x.w.cell? ⟨b,off+i*k+j,none⟩=some (c i j))
   (h1:∀i j,i<len->j<k->(c i j).oneCell'=true)
   (h:∀i j,i<len->j<k->RD ν x (c i j) ((es.getD i .any).cells.getD j .any)):RD ν x (.slice a len cap) (.sl k es)
 |ref (b off k i o at_:Nat) (es:Θ) (c:Nat->Nat->Value) (hI:x.I b) (hat:at_=off+i*k+o)
   (hk:∀i,i<es.length->(es.getD i .any).cells.length=k) (hn:∀i,i<es.length->(es.getD i .any).aV=true)
   (hc:∀i j,i<es.length->j<k->x.w.cell? ⟨b,off+i*k+j,none⟩=some (c i j))
   (h1:∀i j,i<es.length->j<k->(c i j).oneCell'=true)
   (h:∀i j,i<es.length->j<k->RD ν x (c i j) ((es.getD i .any).cells.getD j .any)):RD ν x (.pointer (some ⟨b,at_,none⟩)) (.ref k es i o)
 |ptr (l k i o b base tot at_:Nat) (hβ:x.β l=some (b,base,tot)) (hat:at_=base+i*k+o):RD ν x (.pointer (some ⟨b,at_,none⟩)) (.ptr l k i o)
 |own (l k i n b base tot cap:Nat) (a:Addr) (hβ:x.β l=some (b,base,tot)) (ha:0<cap->a=⟨b,base+i*k,none⟩)
   (hcap:n<=cap) (hm:cap<=maxLen) (ht:i+cap<=tot):RD ν x (.slice (some a) n cap) (.own l k i n)
 |own0 (l k i:Nat) (a:Option Addr):RD ν x (.slice a 0 0) (.own l k i 0)
 |nilp:RD ν x (.pointer none) .nilp
 |fn (fid n:Nat) (cs:Κ) (ds:Θ) (hν:dV ν fid=some n) (hl:cs.size=ds.length)
   (h:∀i,i<ds.length->RD ν x (cs.getD i undef) (ds.getD i .any)):RD ν x (.func (.func fid) #[] cs) (.fn n ds)
 |er (fid n:Nat) (fs:Κ) (ds:Θ) (hν:dV ν fid=some n) (hl:fs.size=ds.length)
   (h:∀i,i<ds.length->RD ν x (fs.getD i undef) (ds.getD i .any)):RD ν x (.func (.func fid) fs #[]) (.fn (n+1000000) ds)
 |nilf:RD ν x .nilFunc .nilf
 |bx (b at_:Nat) (ds:Θ) (v:Value) (hI:x.I b) (hc:x.w.cell? ⟨b,at_,none⟩=some v) (h1:v.oneCell'=true) (hl:ds.length=1)
   (h:∀i,i<ds.length->RD ν x v (ds.getD i .any)):RD ν x (.pointer (some ⟨b,at_,none⟩)) (.fn 3000000 ds)
 |mpn:RD ν x (.map none) (.fn 5100000 [])
 |im (l b base tot:Nat) (hβ:x.β l=some (b,base,tot)):RD ν x (.map (some b)) (.fn 5000000 [.it l])
 |it (l b base tot:Nat) (hβ:x.β l=some (b,base,tot)):RD ν x (.pointer (some ⟨b,0,none⟩)) (.it l)
section
variable {ν:Ξ}{x x':X}
structure Le (x x':X):Prop where
 I:∀b,x.I b->x'.I b
 pM:∀b,x.I b->x'.w.heap[b]? =x.w.heap[b]?
 β:∀l p,x.β l=some p->x'.β l=some p
theorem iR {w:World}{b o:Nat}{v:Value}(h:w'.heap[b]? =w.heap[b]?)(hc:w.cell? ⟨b,o,none⟩=some v):w'.cell? ⟨b,o,none⟩=some v:=by
 rw[<-hc];unfold World.cell?;simp only[h]
def Le.refl (x:X):Le x x:=⟨λ_ h=>h,λ_ _=>rfl,λ_ _ h=>h⟩
def Le.trans {x'':X}(h:Le x x')(h':Le x' x''):Le x x'':=
 ⟨λb hb=>h'.I b (h.I b hb),λb hb=>(h'.pM b (h.I b hb)).trans (h.pM b hb),λl p hp=>h'.β l p (h.β l p hp)⟩
def RD.mono {v:Value}(h:RD ν x v d)(hl:Le x x'):RD ν x' v d:=by
 induction h with
 |any v=>exact .any v
 |bool b=>exact .bool b
 |int k n=>exact .int k n
 |str s h=>exact .str s h
 |agg cs ds hl' h1 _ ih=>exact .agg cs ds hl' h1 ih
 |tup cs ds hl' _ ih=>exact .tup cs ds hl' ih
 |aO=>exact .aO
 |sl a b off len cap k es c hlen ha hcap hm hk hn hc h1 _ ih=>
  refine .sl a b off len cap k es c hlen (ha.imp id λ⟨p,q⟩=>⟨p,hl.I _ q⟩) hcap hm hk hn (λi j hi hj=>?_) h1 ih;rcases ha with rfl|⟨_,hI⟩
  .simp at hlen;omega
  .exact iR (hl.pM _ hI) (hc i j hi hj)
 |ref b off k i o at_ es c hI hat hk hn hc h1 _ ih=>
  exact .ref b off k i o at_ es c (hl.I _ hI) hat hk hn (λi j hi hj=>iR (hl.pM _ hI) (hc i j hi hj)) h1 ih
 |ptr l k i o b base tot at_ hβ hat=>exact .ptr l k i o b base tot at_ (hl.β _ _ hβ) hat
 |own l k i n b base tot cap a hβ ha hcap hm ht=>exact .own l k i n b base tot cap a (hl.β _ _ hβ) ha hcap hm ht
 |own0 l k i a=>exact .own0 l k i a
 |nilp=>exact .nilp
 |fn fid n cs ds hν hl' _ ih=>exact .fn fid n cs ds hν hl' ih
 |er fid n cs ds hν hl' _ ih=>exact .er fid n cs ds hν hl' ih
 |nilf=>exact .nilf
 |bx b at_ ds v hI hc h1 hl' _ ih=>exact .bx b at_ ds v (hl.I _ hI) (iR (hl.pM _ hI) hc) h1 hl' ih
 |mpn=>exact .mpn
 |im l b base tot hβ=>exact .im l b base tot (hl.β _ _ hβ)
 |it l b base tot hβ=>exact .it l b base tot (hl.β _ _ hβ)
def cZ:∀{ds:Θ},aP ds=true->∀i,(ds.getD i .any).aV=true
 |[],_,i=>by simp[D.aV]
 |d::r,h,0=>by simp[aP]at h;simpa using h.1
 |d::r,h,i+1=>by simp[aP]at h;simpa using cZ h.2 i
def j1:∀{ds:Θ},oD ds=true->∀i,(ds.getD i .any).fG=true
 |[],_,i=>by simp[D.fG]
 |d::r,h,0=>by simp[oD]at h;simpa using h.1
 |d::r,h,i+1=>by simp[oD]at h;simpa using j1 h.2 i
def sR:∀{ds:Θ},(∀i,i<ds.length->(ds.getD i .any).aV=true)->aP ds=true
 |[],_=>rfl
 |d::r,h=>by
  simp only[aP,aD];exact⟨by simpa using h 0 aJ,sR λi hi=>by simpa using h (i+1) fM⟩
def lV (h:d.aV=true)(j:Nat):(d.cells.getD j .any).aV=true:=by
 cases d<;>simp only[D.cells]<;>first
  |(simp only[D.aV]at h;exact cZ h j)
  |(cases j<;>simp_all[D.aV])
theorem RD.aV {v:Value}{d:D}(h:RD ν x v d)(hn:d.aV=true)(hI:∀b,x.I b->x'.I b)(hk:∀b,x.I b->x'.w.heap[b]? =x.w.heap[b]?):RD ν x' v d:=by
 induction h with
 |any v=>exact .any v
 |bool b=>exact .bool b
 |int k n=>exact .int k n
 |str s h=>exact .str s h
 |agg cs ds hl' h1 _ ih=>exact .agg cs ds hl' h1 λi hi=>ih i hi (cZ yV i)
 |tup cs ds hl' _ ih=>exact .tup cs ds hl' λi hi=>ih i hi (cZ yV i)
 |aO=>exact .aO
 |sl a b off len cap k es c hlen ha hcap hm hk' hn' hc h1 _ ih=>
  refine .sl a b off len cap k es c hlen (ha.imp id λ⟨p,q⟩=>⟨p,hI _ q⟩) hcap hm hk' hn' (λi j hi hj=>?_) h1 λi j hi hj=>ih i j hi hj (lV (hn' i hi) j)
  grind [iR]
 |ref b off k i o at_ es c hIb hat hk' hn' hc h1 _ ih=>
  exact .ref b off k i o at_ es c (hI _ hIb) hat hk' hn' (λi j hi hj=>iR (hk _ hIb) (hc i j hi hj)) h1 λi j hi hj=>ih i j hi hj (lV (hn' i hi) j)
 |ptr=>simp[D.aV]at hn
 |own=>simp[D.aV]at hn
 |own0=>simp[D.aV]at hn
 |nilp=>exact .nilp
 |fn fid n cs ds hν hl' _ ih=>exact .fn fid n cs ds hν hl' λi hi=>ih i hi (cZ yV i)
 |er fid n cs ds hν hl' _ ih=>exact .er fid n cs ds hν hl' λi hi=>ih i hi (cZ yV i)
 |nilf=>exact .nilf
 |bx b at_ ds v hIr hc h1 hl' _ ih=>exact .bx b at_ ds v (hI _ hIr) (iR (hk _ hIr) hc) h1 hl' λi hi=>ih i hi (cZ yV i)
 |mpn=>exact .mpn
 |im=>simp[D.aV,aP]at hn
 |it=>simp[D.aV]at hn
def RD.fG {v:Value}{d:D}(h:RD ν x v d)(hn:d.fG=true):RD ν x' v d:=by
 induction h with
 |any v=>exact .any v
 |bool b=>exact .bool b
 |int k n=>exact .int k n
 |str s h=>exact .str s h
 |agg cs ds hl' h1 _ ih=>exact .agg cs ds hl' h1 λi hi=>ih i hi (j1 (by simpa[D.fG]using hn) i)
 |tup cs ds hl' _ ih=>exact .tup cs ds hl' λi hi=>ih i hi (j1 (by simpa[D.fG]using hn) i)
 |aO=>exact .aO
 |sl=>simp[D.fG]at hn
 |ref=>simp[D.fG]at hn
 |ptr=>simp[D.fG]at hn
 |own=>simp[D.fG]at hn
 |own0=>simp[D.fG]at hn
 |nilp=>exact .nilp
 |fn fid n cs ds hν hl' _ ih=>exact .fn fid n cs ds hν hl' λi hi=>ih i hi (j1 (by simp[D.fG]at hn;exact hn.2) i)
 |er fid n cs ds hν hl' _ ih=>exact .er fid n cs ds hν hl' λi hi=>ih i hi (j1 (by simp[D.fG]at hn;exact hn.2) i)
 |nilf=>exact .nilf
 |bx=>simp[D.fG]at hn
 |mpn=>exact .mpn
 |im=>simp[D.fG]at hn
 |it=>simp[D.fG]at hn
theorem RD.cells {v:Value}{d:D}(h:RD ν x v d)(hd:0<d.cells.length):
  v.cells.size=d.cells.length/\∀j,j<d.cells.length->(v.cells.getD j undef).oneCell'=true/\RD ν x (v.cells.getD j undef) (d.cells.getD j .any):=by
 cases h with
 |any=>simp[D.cells]at hd
 |tup=>simp[D.cells]at hd
 |agg cs ds hl h1 h=>exact⟨hl,λj hj=>⟨h1 j hj,h j hj⟩⟩
 |bool b=>exact⟨rfl,λj hj=>by simp[D.cells]at hj;subst hj;exact⟨rfl,.bool b⟩⟩
 |int k n=>exact⟨rfl,λj hj=>by simp[D.cells]at hj;subst hj;exact⟨rfl,.int k n⟩⟩
 |str s h=>exact⟨rfl,λj hj=>by simp[D.cells]at hj;subst hj;exact⟨rfl,.str s h⟩⟩
 |aO=>exact⟨rfl,λj hj=>by simp[D.cells]at hj;subst hj;exact⟨rfl,.aO⟩⟩
 |sl a b off len cap k es c hlen ha hcap hm hk hn hc h1 h=>exact⟨rfl,λj hj=>by simp[D.cells]at hj;subst hj;exact⟨rfl,.sl a b off len cap k es c hlen ha hcap hm hk hn hc h1 h⟩⟩
 |ref b off k i o at_ es c hI hat hk hn hc h1 h=>exact⟨rfl,λj hj=>by simp[D.cells]at hj;subst hj;exact⟨rfl,.ref b off k i o at_ es c hI hat hk hn hc h1 h⟩⟩
 |ptr l k i o b base tot at_ hβ hat=>exact⟨rfl,λj hj=>by simp[D.cells]at hj;subst hj;exact⟨rfl,.ptr l k i o b base tot at_ hβ hat⟩⟩
 |own l k i n b base tot cap a hβ ha hcap hm ht=>exact⟨rfl,λj hj=>by simp[D.cells]at hj;subst hj;exact⟨rfl,.own l k i n b base tot cap a hβ ha hcap hm ht⟩⟩
 |own0 l k i a=>exact⟨rfl,λj hj=>by simp[D.cells]at hj;subst hj;exact⟨rfl,.own0 l k i a⟩⟩
 |nilp=>exact⟨rfl,λj hj=>by simp[D.cells]at hj;subst hj;exact⟨rfl,.nilp⟩⟩
 |fn fid n cs ds hν hl h=>exact⟨rfl,λj hj=>by simp[D.cells]at hj;subst hj;exact⟨rfl,.fn fid n cs ds hν hl h⟩⟩
 |er fid n cs ds hν hl h=>exact⟨rfl,λj hj=>by simp[D.cells]at hj;subst hj;exact⟨rfl,.er fid n cs ds hν hl h⟩⟩
 |nilf=>exact⟨rfl,λj hj=>by simp[D.cells]at hj;subst hj;exact⟨rfl,.nilf⟩⟩
 |bx b at_ ds v hI hc h1 hl h=>exact⟨rfl,λj hj=>by simp[D.cells]at hj;subst hj;exact⟨rfl,.bx b at_ ds v hI hc h1 hl h⟩⟩
 |mpn=>exact⟨rfl,λj hj=>by simp[D.cells]at hj;subst hj;exact⟨rfl,.mpn⟩⟩
 |im l b base tot hβ=>exact⟨rfl,λj hj=>by simp[D.cells]at hj;subst hj;exact⟨rfl,.im l b base tot hβ⟩⟩
 |it l b base tot hβ=>exact⟨rfl,λj hj=>by simp[D.cells]at hj;subst hj;exact⟨rfl,.it l b base tot hβ⟩⟩
end
section
variable {ν:Ξ}{x x':X}
def zVv (j:Nat):Value:=if j<3 then .int .i64 0 else .string ⟨⟨[]⟩⟩
class cO where
 tB:TypeId:=0
 tU:TypeId:=0
 gd:X->Prop
 le:∀x x':X,(∀b,x.I b->x'.I b)->(∀b,x.I b->x'.w.heap[b]? =x.w.heap[b]?)->gd x->gd x'
 gz:Lab:=λ_=>False
 gzr:∀(x:X) (g:Nat),gd x->gz g->∀j,j<5->x.w.cell? ⟨g,j,none⟩=some (zVv j):=by exact λ_ _ _ h=>h.elim
variable [cO]
def pH (ν:Ξ)(x:X)(b base tot:Nat):bo->Prop
 | .buf k es=>0<k/\es.length<=tot/\∃c T fr,x.w.heap[b]? =some (.cells c T fr)/\base+tot*k<=c.size/\
   (∀o,o<c.size->¬(fr.1<=o/\o<fr.2))/\
   ∀i,i<es.length->(es.getD i .any).cells.length=k/\∀j,j<k->
    (c.getD (base+i*k+j) undef).oneCell'=true/\RD ν x (c.getD (base+i*k+j) undef) ((es.getD i .any).cells.getD j .any)
 | .iter s pos=>x.w.heap[b]? =some (.stringIter ⟨⟨s⟩⟩ pos)/\s.length<=maxLen
 | .row s=>base=0/\∃c,x.w.heap[b]? =some (.cells c cO.tU (0,0))/\c.size=tot/\tot<=maxLen/\s.length<=tot/\∀i,i<s.length->c.getD i undef=.int .u8 (s.getD i 0).toNat
 | .bld o n u=>base=0/\∃v,x.w.heap[b]? =some (.cells #[.pointer (if u=true then some ⟨b,0,none⟩else none),v] cO.tB (0,0))/\
   match o with
   |none=>n=0/\v=.slice none 0 0
   |some l=>∃g t,v=.slice (some ⟨g,0,none⟩) n t/\n<=t/\x.β l=some (g,0,t)
 | .mpb kvs=>aP kvs=true/\∃es cl,x.w.heap[b]? =some (.map es cl)/\2*es.size=kvs.length/\(es.toList.map (·.key)).Nodup/\∀i,i<kvs.length->RD ν x (Vq es.toList i) (kvs.getD i .any)
def rQ (h:Le x x')(hg:cO.gd x):cO.gd x':=cO.le x x' h.I h.pM hg
structure fO (ν:Ξ)(x:X)(f:Nat->Χ):Prop where
 own:∀l blk b base tot,f l=some blk->x.β l=some (b,base,tot)->¬x.I b/\pH ν x b base tot blk
 inj:∀l l' b base tot base' tot',f l≠none->f l'≠none->x.β l=some (b,base,tot)->x.β l'=some (b,base',tot')->l=l'
 imm:∀b,x.I b->b<x.w.heap.size
 er:∀l b base tot,x.β l=some (b,base,tot)->b<x.w.heap.size
 gd:cO.gd x
structure Step (x x':X):Prop where
 os:x'.w.os=x.w.os
 tape:x'.w.tape=x.w.tape
 output:x'.w.output=x.w.output
 size:x.w.heap.size<=x'.w.heap.size
 I:∀b,x.I b->x'.I b
 pM:∀b,x.I b->x'.w.heap[b]? =x.w.heap[b]?
 β:∀l p,x.β l=some p->x'.β l=some p
 old:∀b,b<x.w.heap.size->(∀l p,x.β l=some p->p.1≠b)->x'.w.heap[b]? =x.w.heap[b]?
 newI:∀b,x'.I b->x.I b\/x.w.heap.size<=b\/∃l p,x.β l=some p/\p.1=b
 newβ:∀l p,x'.β l=some p->x.β l=some p\/x.w.heap.size<=p.1\/∃l' p',x.β l'=some p'/\p'.1=p.1
def Step.le (h:Step x x'):Le x x':=⟨h.I,h.pM,h.β⟩
def Step.refl (x:X):Step x x:=⟨rfl,rfl,rfl,aR _,λ_ h=>h,λ_ _=>rfl,λ_ _ h=>h,λ_ _ _=>rfl,λ_ h=>.inl h,λ_ _ h=>.inl h⟩
def Step.trans {x'':X}(h:Step x x')(h':Step x' x''):Step x x'':=by
 refine⟨h'.os.trans h.os,h'.tape.trans h.tape,h'.output.trans h.output,fC h.size h'.size,λb hb=>h'.I b (h.I b hb),
  λb hb=>(h'.pM b (h.I b hb)).trans (h.pM b hb),λl p hp=>h'.β l p (h.β l p hp), ?_, ?_, ?_⟩
 .intro b hb hn;refine(h'.old b (js hb h.size) ?_).trans (h.old b hb hn);intro l p hp e;rcases h.newβ l p hp with h1|h1|⟨l',p',h1,h2⟩
  .exact hn l p h1 e
  .omega
  .exact hn l' p' h1 (h2.trans e)
 .intro b hb;rcases h'.newI b hb with h1|h1|⟨l,p,h1,h2⟩
  .exact h.newI b h1
  .exact .inr (.inl (fC h.size h1))
  .rcases h.newβ l p h1 with h3|h3|⟨l',p',h3,h4⟩
   .exact .inr (.inr ⟨l,p,h3,h2⟩)
   .exact .inr (.inl (h2▸h3))
   .exact .inr (.inr ⟨l',p',h3,h4.trans h2⟩)
 .intro l p hp;rcases h'.newβ l p hp with h1|h1|⟨l',p',h1,h2⟩
  .exact h.newβ l p h1
  .exact .inr (.inl (fC h.size h1))
  .rcases h.newβ l' p' h1 with h3|h3|⟨l'',p'',h3,h4⟩
   .exact .inr (.inr ⟨l',p',h3,h2⟩)
   .exact .inr (.inl (h2▸h3))
   .exact .inr (.inr ⟨l'',p'',h3,h4.trans h2⟩)
def pH.mono {b base tot:Nat}{blk:bo}(h:pH ν x b base tot blk)(hl:Le x x')(hb:x'.w.heap[b]? =x.w.heap[b]?):pH ν x' b base tot blk:=by
 cases blk with
 |buf k es=>
  obtain⟨hk,ht,c,T,fr,h1,h2,h3,h4⟩:=h;exact⟨hk,ht,c,T,fr,hb.trans h1,h2,h3,λi hi=>⟨(h4 i hi).1,λj hj=>⟨((h4 i hi).2 j hj).1,((h4 i hi).2 j hj).2.mono hl⟩⟩⟩
 |iter s pos=>exact⟨hb.trans h.1,h.2⟩
 |row s=>
  obtain⟨h0,c,h1,h2⟩:=h;exact⟨h0,c,hb.trans h1,h2⟩
 |mpb kvs=>
  obtain⟨h0,es,cl,h1,h2,h3,h4⟩:=h;exact⟨h0,es,cl,hb.trans h1,h2,h3,λi hi=>(h4 i hi).mono hl⟩
 |bld o n u=>
  obtain⟨h0,v,h1,h2⟩:=h;refine⟨h0,v,hb.trans h1, ?_⟩;cases o with
  |none=>exact h2
  |some l=>
   obtain⟨g,t,h3,h4,h5⟩:=h2;exact⟨g,t,h3,h4,hl.β _ _ h5⟩
structure iE (w w':World):Prop where
 os:w'.os=w.os
 tape:w'.tape=w.tape
 output:w'.output=w.output
 size:w.heap.size<=w'.heap.size
 old:∀b,b<w.heap.size->w'.heap[b]? =w.heap[b]?
def iE.refl:iE w w:=⟨rfl,rfl,rfl,aR _,λ_ _=>rfl⟩
def mf (o:Obj)(b:Nat)(hb:b<w.heap.size):(w.alloc o).heap[b]? =w.heap[b]? :=by
 simp only[World.alloc,Array.getElem?_push];rw[ah ae]
def ee (o:Obj):(w.alloc o).heap[w.heap.size]? =some o:=by show(w.heap.push o)[w.heap.size]? =some o;simp
def iE.alloc (o:Obj):iE w (w.alloc o):=⟨rfl,rfl,rfl,aJ,λb hb=>mf w o b hb⟩
def iE.trans {w w' w'':World}(h:iE w w')(h':iE w' w''):iE w w'':=
 ⟨h'.os.trans h.os,h'.tape.trans h.tape,h'.output.trans h.output,fC h.size h'.size,λb hb=>(h'.old b (js hb h.size)).trans (h.old b hb)⟩
def iE.drew:iE w w.drew:=⟨rfl,rfl,rfl,aR _,λ_ _=>rfl⟩
def Step.grow (hw:iE x.w w')(himm:∀b,x.I b->b<x.w.heap.size):Step x ⟨w',x.I,x.β⟩:=
 ⟨hw.os,hw.tape,hw.output,hw.size,λ_ h=>h,λb hb=>hw.old b (himm b hb),λ_ _ h=>h,λb hb _=>hw.old b hb,λ_ h=>.inl h,λ_ _ h=>.inl h⟩
def fO.grow {f:Nat->Χ}{w':World}(h:fO ν x f)(hw:iE x.w w'):fO ν ⟨w',x.I,x.β⟩ f:=
 ⟨λl blk b base tot h1 h2=>⟨(h.own l blk b base tot h1 h2).1,(h.own l blk b base tot h1 h2).2.mono (Step.grow hw h.imm).le (hw.old b (h.er l b base tot h2))⟩,
  h.inj,λb hb=>js (h.imm b hb) hw.size,λl b base tot hb=>js (h.er l b base tot hb) hw.size,rQ (Step.grow hw h.imm).le h.gd⟩
def fo (β:Nat->Option (Nat×Nat×Nat))(L:Nat)(p:Nat×Nat×Nat):Nat->Option (Nat×Nat×Nat):=λl=>if l=L then some p else β l
def jI (f:Nat->Χ)(L:Nat)(b:Χ):Nat->Χ:=λl=>if l=L then b else f l
theorem EK {L n base tot:Nat}(hw:iE x.w w')(hn:x.w.heap.size<=n)(hL:x.β L=none)(himm:∀b,x.I b->b<x.w.heap.size):
  Step x ⟨w',x.I,fo x.β L (n,base,tot)⟩:=by
 refine⟨hw.os,hw.tape,hw.output,hw.size,λ_ h=>h,λb hb=>hw.old b (himm b hb),λl p hp=>?_,λb hb _=>hw.old b hb,λ_ h=>.inl h,λl p hp=>?_⟩
 .grind [fo]
 grind [fo]
def afP {f:Nat->Χ}{L n base tot:Nat}{blk:bo}(h:fO ν x f)(hw:iE x.w w')(hn:x.w.heap.size<=n)(hnw:n<w'.heap.size)(hL:x.β L=none)(hb:pH ν ⟨w',x.I,fo x.β L (n,base,tot)⟩ n base tot blk):fO ν ⟨w',x.I,fo x.β L (n,base,tot)⟩ (jI f L (some blk)):=by
 have hle:=(EK (base:=base) (tot:=tot) hw hn hL h.imm).le;refine⟨λl blk' b base' tot' h1 h2=>?_,λl l' b base' tot' base'' tot'' h1 h1' h2 h2'=>?_,λb hb=>js (h.imm b hb) hw.size,λl b base' tot' h2=>?_,rQ hle h.gd⟩
 .by_cases e:l=L
  .subst e;simp only[fo,br,aG,dm]at h2;simp only[jI,br,aG]at h1;obtain⟨rfl,rfl,rfl⟩:=h2;subst h1;exact⟨λhI=>by have:=h.imm _ hI;omega,hb⟩
  .simp only[fo,e,ba]at h2;simp only[jI,e,ba]at h1;obtain⟨a1,a2⟩:=h.own l blk' b base' tot' h1 h2;exact⟨a1,a2.mono hle (hw.old b (h.er l b base' tot' h2))⟩
 .by_cases e:l=L<;>by_cases e':l'=L
  .exact e.trans e'.symm
  .simp only[fo,e,br,aG,dm]at h2;simp only[fo,e',ba]at h2';have:=h.er l' b base'' tot'' h2';obtain⟨h2,_,_⟩:=h2;omega
  .simp only[fo,e',br,aG,dm]at h2';simp only[fo,e,ba]at h2;have:=h.er l b base' tot' h2;obtain⟨h2',_,_⟩:=h2';omega
  .simp only[fo,e,ba]at h2;simp only[fo,e',ba]at h2';simp only[jI,e,ba]at h1;simp only[jI,e',ba]at h1';exact h.inj l l' b base' tot' base'' tot'' h1 h1' h2 h2'
 .by_cases e:l=L
  .simp only[fo,e,br,aG,dm]at h2;obtain⟨h2,_,_⟩:=h2;show b<w'.heap.size;omega
  .simp only[fo,e,ba]at h2;exact js (h.er l b base' tot' h2) hw.size
variable {P:Program}{w:World}
def pL (h:P.cellsOf t≠0):∃i,P.info? t=some i/\i.size=P.cellsOf t:=by
 unfold Program.cellsOf at h⊢;cases hi:P.info? t with
 |none=>simp[hi]at h
 |some i=>exact⟨i,rfl,aJ⟩
def dL (h:P.cellsOf t≠0):(sizeOf t).run P w=.ok (P.cellsOf t) w:=by
 obtain⟨i,hi,hs⟩:=pL h;simp[sizeOf,typeInfo,hi,hs]
def wK (h:(P.underlying t).isNone=false):(isAgg t).run P w=.ok (b9 P t) w:=by
 cases hu:P.underlying t with
 |none=>simp[hu]at h
 |some d=>unfold isAgg b9;rw[Sem.run_bind,run_underlying hu w];simp only[hu,Result.andThen];cases d<;>rfl
theorem Addr.Bq (b o n:Nat):(⟨b,o,none⟩:Addr).add n=⟨b,o+n,none⟩:=by unfold Addr.add;split<;>simp_all
end
section
variable [cO]
section
variable {ν:Ξ}{x:X}{f:Nat->Χ}{P:Program}
mutual
theorem nF:∀(v:Value) (d:D),fZ v=some d->RD ν x v d
 | .bool b,d,h=>by simp[fZ]at h;subst h;exact .bool b
 | .int k n,d,h=>by simp[fZ]at h;subst h;exact .int k n
 | .string ⟨⟨s⟩⟩,d,h=>by
  simp only[fZ]at h;split at h
  .rename_i hs;simp only[aG]at h;subst h;exact .str s (by simpa[maxLen,ByteArray.size]using hs)
  .cases h
 | .pointer none,d,h=>by simp[fZ]at h;subst h;exact .nilp
 | .slice none 0 0,d,h=>by simp[fZ]at h;subst h;exact .aO
 | .nilFunc,d,h=>by simp[fZ]at h;subst h;exact .nilf
 | .map none,d,h=>by simp[fZ]at h;subst h;exact .mpn
 | .agg ⟨cs⟩,d,h=>by
  simp only[fZ]at h;split at h
  .rename_i hone;cases hc:tD cs with
   |none=>simp[hc]at h
   |some ds=>
    simp[hc]at h;subst h;obtain⟨hl,hr⟩:=vt cs ds hc;refine .agg ⟨cs⟩ ds (by simpa using hl) (λi hi=>?_) (λi hi=>by simpa using hr i hi);have:=sr cs hone i ae;simpa using this
  .cases h
 | .float _ _,d,h=>by simp[fZ]at h
 | .complex _ _ _,d,h=>by simp[fZ]at h
 | .pointer (some _),d,h=>by simp[fZ]at h
 | .slice (some _) _ _,d,h=>by simp[fZ]at h
 | .slice none (_+1) _,d,h=>by simp[fZ]at h
 | .slice none 0 (_+1),d,h=>by simp[fZ]at h
 | .map (some _),d,h=>by simp[fZ]at h
 | .chan _,d,h=>by simp[fZ]at h
 | .func _ _ _,d,h=>by simp[fZ]at h
 | .iface _ _,d,h=>by simp[fZ]at h
 | .tuple _,d,h=>by simp[fZ]at h
theorem vt:∀(vs:η) (ds:Θ),tD vs=some ds->vs.length=ds.length/\∀i,i<ds.length->RD ν x (vs.getD i undef) (ds.getD i .any)
 |[],ds,h=>by simp[tD]at h;subst h;simp
 |v::r,ds,h=>by
  simp only[tD]at h;split at h
  .rename_i d ds' h1 h2;simp only[aG]at h;subst h;have a:=nF v d h1;obtain⟨b1,b2⟩:=vt r ds' h2;refine⟨by simp[b1],λi hi=>?_⟩;cases i with
   |zero=>simpa using a
   |succ i=>simpa using b2 i oZ
  .cases h
theorem sr:∀(vs:η),xq vs=true->∀i,i<vs.length->(vs.getD i undef).oneCell'=true
 |[],_,i,hi=>by simp at hi
 |v::r,h,i,hi=>by
  simp only[xq,aD]at h;cases i with
  |zero=>simp;cases v<;>simp_all[Value.oneCell']
  |succ i=>simpa using sr r h.2 i oZ
end
def BY (ν:Ξ)(x:X)(f:Nat->Χ)(L:Nat)(d:D)(r:Result Next):Prop:=
 ∃v x',(r=.ok (.value v) x'.w\/r=.ok .skip x'.w/\v=undef)/\Step x x'/\RD ν x' v d/\fO ν x' f/\∀l,l≠L->x'.β l=x.β l
def om {L:Nat}{v:Value}{r:Result Next}(hs:fO ν x f)(hr:r=.ok (.value v) x.w)(hd:RD ν x v d):BY ν x f L d r:=
 ⟨v,x,.inl hr,.refl x,hd,hs,λ_ _=>rfl⟩
def vS (C:CC)(defs:Ζ)(J:Src->a7)(ev:Operand->Value)(x:X)(os:Lai):Prop:=
 ∀o,o∈os->∀s,C.src defs o=some s->(J s).ok=true->RD C.ν x (ev o) (J s).d
def RD.jV {v:Value}{b:Bool}(h:RD ν x v (.bool b)):v=.bool b:=by cases h;rfl
def RD.dz {v:Value}{k:IntKind}{n:Int}(h:RD ν x v (.int k n)):v=.int k n:=by cases h;rfl
def RD.ke {v:Value}{s:Ω}(h:RD ν x v (.str s)):v=.string ⟨⟨s⟩⟩/\s.length<=maxLen:=by cases h;exact⟨rfl,‹_›⟩
def RD.pick {b:Bool}{u v:Value}{d e:D}(h1:b=true->RD ν x u d)(h2:b=false->RD ν x v e):RD ν x (if b then u else v) (D.pick b d e):=by
 cases b
 .have:=h2 rfl;simp only[iL,ba];cases d<;>cases e<;>simp only[D.pick,cond_false]<;>exact this
 .have:=h1 rfl;simp only[br];cases d<;>cases e<;>simp only[D.pick,cond_true]<;>exact this
def Od {op:BinOp}{k k':IntKind}{a b:Int}(hb:Br op (.int k a) (.int k' b)):
  ∃v,(binOp op t (.int k a) (.int k' b)).run P w=.ok v w/\RD ν x v (FB op (.int k a) (.int k' b)):=by
 cases op<;>simp only[Br]at hb<;>simp only[binOp,FB,ne_eq]
 case shl=>exact⟨_,by simp[Op.shift,show ¬b<0 by omega],.int _ _⟩
 case shr=>exact⟨_,by simp[Op.shift,show ¬b<0 by omega],.int _ _⟩
 case quo=>obtain⟨rfl,hb⟩:=hb;exact⟨_,by simp[Op.intDiv,hb],.int _ _⟩
 case rem=>obtain⟨rfl,hb⟩:=hb;exact⟨_,by simp[Op.intDiv,hb],.int _ _⟩
 case and=>subst hb;exact⟨_,by simp[Op.intBits],.int _ _⟩
 case or=>subst hb;exact⟨_,by simp[Op.intBits],.int _ _⟩
 case xor=>subst hb;exact⟨_,by simp[Op.intBits],.int _ _⟩
 case andNot=>subst hb;exact⟨_,by simp[Op.intBits],.int _ _⟩
 case add=>subst hb;exact⟨_,by simp[Op.intArith],.int _ _⟩
 case sub=>subst hb;exact⟨_,by simp[Op.intArith],.int _ _⟩
 case mul=>subst hb;exact⟨_,by simp[Op.intArith],.int _ _⟩
 case eql=>subst hb;exact⟨_,by simp[Op.intCmp],.bool _⟩
 case neq=>subst hb;exact⟨_,by simp[Op.intCmp],.bool _⟩
 case lss=>subst hb;exact⟨_,by simp[Op.intCmp],.bool _⟩
 case leq=>subst hb;exact⟨_,by simp[Op.intCmp],.bool _⟩
 case gtr=>subst hb;exact⟨_,by simp[Op.intCmp],.bool _⟩
 case geq=>subst hb;exact⟨_,by simp[Op.intCmp],.bool _⟩
def HM (a b:Ω):(⟨⟨a⟩⟩:ByteArray)++⟨⟨b⟩⟩=⟨⟨a++b⟩⟩:=by
 have h:((⟨⟨a⟩⟩:ByteArray)++⟨⟨b⟩⟩).data=(⟨a++b⟩:Array UInt8):=by
  rw[ByteArray.data_append];simp
 exact ay ByteArray.mk h
def Oe {op:BinOp}{a b:Ω}(hb:Br op (.str a) (.str b)):
  ∃v,(binOp op t (.string ⟨⟨a⟩⟩) (.string ⟨⟨b⟩⟩)).run P w=.ok v w/\RD ν x v (FB op (.str a) (.str b)):=by
 have hs:∀l:Ω,(⟨⟨l⟩⟩:ByteArray).size=l.length:=λ_=>rfl
 cases op<;>simp only[Br]at hb<;>simp only[binOp,FB]
 case add=>
  refine⟨.string ⟨⟨a++b⟩⟩, ?_,.str _ (by simp[maxLen];omega)⟩;have:¬(((⟨⟨a⟩⟩:ByteArray).size+(⟨⟨b⟩⟩:ByteArray).size:Nat):Int)>IntKind.i64.max:=by
   rw[hs,hs];simp only[IntKind.max,IntKind.signed,IntKind.bits,br];omega
  simp only[Op.stringOp,this,ba,Sem.run_pure,HM]
 all_goals
  refine⟨_,by simp only[Op.stringOp,Sem.run_pure];rfl, ?_⟩;simp only[ByteArray.toList_eq];exact .bool _
def pn (op:BinOp)(t:TypeId)(p q:Operand){u v:Value}(h:(∀cs,u≠.agg cs)/\u≠.nilIface)(w:World):(eqGuard op t p q u v).run P w=.ok () w:=by
 obtain⟨h1,h2⟩:=h;unfold eqGuard;cases op<;>simp<;>(split<;>first|rfl|simp_all)
theorem ez {α:Type}(l:List α)(o n:Nat)(d:α)(j:Nat)(hj:j<n):((l.drop o).take n).getD j d=l.getD (o+j) d:=by
 grind
def ik {α:Type}(l:List α)(o n:Nat)(h:o+n<=l.length):((l.drop o).take n).length=n:=by
 simp;omega
theorem bT (cs:Κ)(i:Nat)(d:Value):cs.toList.getD i d=cs.getD i d:=by
 simp[List.getD,Array.getD];split<;>simp_all
def qx {cs:Κ}{ds:Θ}{off n:Nat}{ag:Bool}(hv:RD ν x (.agg cs) (.agg ds))(ht:P.cellsOf t≠0)(hu:(P.underlying t).isNone=false)(hn:n=P.cellsOf t)(hag:ag=b9 P t)(hle:off+n<=ds.length)(h1:ag=false->n=1):
  ∃v,(part t cs off).run P w=.ok v w/\RD ν x v (cut ds off n ag):=by
 cases hv with
 |agg _ _ hl hone h=>
  unfold part;rw[Sem.run_bind,wK hu];subst hag;cases hb:b9 P t
  .have hn1:=h1 (by rw[hb]);have hlt:off<cs.size:=ae;refine⟨cs.getD off undef, ?_, ?_⟩
   .simp[Result.andThen,Array.getElem?_eq_getElem hlt,Array.getD,hlt]
   .simp only[cut,cond_false];exact h off ae
  .refine⟨.agg (cs.extract off (off+n)), ?_, ?_⟩
   .simp[Result.andThen,dL ht,hn]
   .simp only[cut,cond_true];refine .agg _ _ ?_ ?_ ?_
    .simp;omega
    .intro i hi;simp at hi;have:=hone (off+i) ae;rw[<-this];congr 1;simp[Array.getD,show off+i<cs.size by omega,show i<min (off+n) cs.size-off by omega]
    .intro i hi;simp at hi;rw[ez _ _ _ _ _ ae];have:=h (off+i) ae;have e:(cs.extract off (off+n)).getD i undef=cs.getD (off+i) undef:=by
      simp[Array.getD,show off+i<cs.size by omega,show i<min (off+n) cs.size-off by omega]
     rw[e];exact this
end
end
section
variable [cO]
section
variable {x:X}{f:Nat->Χ}{C:CC}{defs:Ζ}{J:Src->a7}{ev:Operand->Value}{Y:Ctx}{m:Γ}{L:Nat}
def iK {os':Lai}(hρ:vS C defs J ev x os'):∀(os:Lai) (ss:ς),(∀o∈os,o∈os')->C.wP defs os=some ss->Ci J ss->
  os.length=ss.length/\(iU J ss).length=os.length/\∀i,i<(iU J ss).length->RD C.ν x ((os.map ev).getD i undef) ((iU J ss).getD i .any)
 |[],ss,_,h,_=>by simp[CC.wP]at h;subst h;simp[iU]
 |o::r,ss,hm,h,hk=>by
  simp only[CC.wP]at h;split at h
  .rename_i a l h1 h2;simp only[aG]at h;subst h;simp only[Ci]at hk;obtain⟨b1,b2,b3⟩:=iK hρ r l (λo ho=>hm o (.tail _ ho)) h2 hk.2;refine⟨by simp[b1],by simp[iU,b2],λi hi=>?_⟩;cases i with
   |zero=>simpa[iU]using hρ o (hm o (.head _)) a h1 hk.1
   |succ i=>simpa[iU]using b3 i (by simpa[iU]using hi)
  .cases h
theorem C7 (off:Nat):∀(new:η) (st:Nat) (acc:Κ),off+st+new.length<=acc.size->
  ((new.zipIdx st).foldl (λcs (c,j)=>cs.setIfInBounds (off+j) c) acc).size=acc.size/\
  ∀q,((new.zipIdx st).foldl (λcs (c,j)=>cs.setIfInBounds (off+j) c) acc)[q]? =if off+st<=q/\q<off+st+new.length then new[q-(off+st)]? else acc[q]?
 |[],st,acc,_=>⟨aJ,λq=>fM⟩
 |c::r,st,acc,hb=>by
  simp only[bJ]at hb;obtain⟨h1,h2⟩:=C7 off r (st+1) (acc.setIfInBounds (off+st) c) fM;refine⟨by simpa[List.zipIdx_cons]using h1,λq=>?_⟩;rw[List.zipIdx_cons,List.foldl_cons,h2 q]
  grind
def sS {os':Lai}(hρ:vS C defs J ev x os')(place:Nat->Option (Nat×Nat))(len:Nat):∀(ps:List (Nat×Operand)) (ss:ψ),
  (∀p∈ps,p.2∈os')->C.parts defs place ps=some ss->Aw J len ss->∀(cs:Κ) (ds:Θ),cs.size=len->RD C.ν x (.agg cs) (.agg ds)->
  ∃cs',Instr.fill place cs (ps.map fun(i,o)=>(i,ev o))=some cs'/\RD C.ν x (.agg cs') (.agg (CY J ds ss))
 |[],ss,_,h,_,cs,ds,_,hr=>by simp[CC.parts]at h;subst h;exact⟨cs,by simp[Instr.fill],by simpa[CY]using hr⟩
 |(i,o)::r,ss,hm,h,hk,cs,ds,hlen,hr=>by
  simp only[CC.parts]at h;split at h
  .rename_i off n s l h1 h2 h3;split at h
   .cases h
   rename_i hn0;simp only[aG]at h;subst h;simp only[Aw]at hk;obtain⟨k1,k2,k3,k4⟩:=hk;have hn:0<n:=ae;have hv:=hρ o (hm _ (.head _)) s h2 k1;obtain⟨c1,c2⟩:=hv.cells ae;have hsz:(ev o).cells.size=n:=ae;cases hr with
   |agg _ _ hl hone hh=>
   let cs1:Κ:=((ev o).cells.toList.zipIdx 0).foldl (λcs (c,j)=>cs.setIfInBounds (off+j) c) cs
   have harr:(ev o).cells.zipIdx.foldl (λcs (c,j)=>cs.setIfInBounds (off+j) c) cs=cs1:=by
    rw[<-Array.foldl_toList];simp[cs1]
   have hcs1:=harr;obtain⟨hsz1,hgq⟩:=C7 off (ev o).cells.toList 0 cs fM;have hget:∀q,q<cs.size->cs1.getD q undef=if q<off then cs.getD q undef else if q<off+n then(ev o).cells.getD (q-off) undef else cs.getD q undef:=by
    intro q hq;have:=hgq q;rw[<-bT,<-bT cs,<-bT (ev o).cells];simp only[List.getD,Array.getElem?_toList];rw[show cs1[q]? =_ from this];simp only[Array.length_toList,hsz,Nat.add_zero];by_cases q1:q<off
    .rw[ak q1,ah ae]
    .rw[ah q1];by_cases q2:q<off+n
     .rw[ak q2,ak ae];simp
     .rw[ah q2,ah ae]
   have hsz1:cs1.size=cs.size:=hsz1;have hdlen:(over ds off (J s).d.cells).length=ds.length:=by simp[over];omega
   have hdget:∀q,q<ds.length->(over ds off (J s).d.cells).getD q .any=if q<off then ds.getD q .any else if q<off+n then(J s).d.cells.getD (q-off) .any else ds.getD q .any:=by
    intro q hq;simp only[over,List.getD,List.getElem?_append,eE];by_cases q1:q<off
    .rw[ak ae,ak q1];simp[List.getElem?_take,q1]
    .rw[ah ae,ah q1,show q-min off ds.length=q-off by omega];by_cases q2:q<off+n
     .rw[ak q2,ak ae]
     .rw[ah q2,ah ae];simp only[List.getElem?_drop];congr 3;omega
   have hr1:RD C.ν x (.agg cs1) (.agg (over ds off (J s).d.cells)):=by
    refine .agg _ _ ae (λq hq=>?_) (λq hq=>?_)
    .rw[hdlen]at hq;rw[hget q ae];split
     .exact hone q hq
     .split
      .exact(c2 (q-off) ae).1
      .exact hone q hq
    .rw[hdlen]at hq;rw[hget q ae,hdget q hq];split
     .exact hh q hq
     .split
      .exact(c2 (q-off) ae).2
      .exact hh q hq
   obtain⟨cs',g1,g2⟩:=sS hρ place len r l (λp hp=>hm p (.tail _ hp)) h3 k4 cs1 _ ae hr1;refine⟨cs', ?_,by simpa[CY]using g2⟩;simp only[List.map_cons,Instr.fill,h1];rw[ah (by simp[hsz];omega),hcs1];exact g1
  .cases h
end
section
variable {ν:Ξ}{x:X}{P:Program}
def jB:∀(ks:Lah) (ds:Θ),fP ks ds->ds.length=ks.length
 |[],[],_=>rfl
 |[],_::_,h=>by simp[fP]at h
 |_::_,[],h=>by simp[fP]at h
 |c::r,d::ds,h=>by have:=jB r ds (by simp[fP]at h;exact h.2);simp;omega
theorem kU:∀(a b:Lah) (ds:Θ),fP (a++b) ds->fP a (ds.take a.length)/\fP b (ds.drop a.length)
 |[],b,ds,h=>by simpa[fP]using h
 |c::r,b,[],h=>by simp[fP]at h
 |c::r,b,d::ds,h=>by
  simp only[tv,fP]at h;obtain⟨h1,h2⟩:=kU r b ds h.2
  grind [fP]
def v7:∀(n:Nat) (ds es:Θ),ds.length=es.length->ig ds es=(ig (ds.take n) (es.take n)&&ig (ds.drop n) (es.drop n))
 |0,ds,es,_=>by simp[ig]
 |n+1,[],[],_=>by simp[ig]
 |n+1,[],_::_,h=>by simp at h
 |n+1,_::_,[],h=>by simp at h
 |n+1,d::ds,e::es,h=>by
  simp only[ig,List.take_succ_cons,List.drop_succ_cons];rw[v7 n ds es rJ,Bool.and_assoc]
def Me {c:CK}(h:c.fits d):d.cells=[d]/\d.isAgg=false:=by
 cases c<;>cases d<;>simp_all[CK.fits,D.cells,D.isAgg]
def mz {c:CK}(h:fP [c] d.cells)(ha:d.isAgg=false):c.fits d:=by
 cases d<;>simp_all[D.cells,D.isAgg,fP]
def tE {ds:Θ}{off n:Nat}{ag:Bool}{ks:Lah}(h:fP ks ((ds.drop off).take n))(hn:ag=false->n=1)(hle:off+n<=ds.length):
  (cut ds off n ag).cells=(ds.drop off).take n/\(cut ds off n ag).isAgg=ag:=by
 cases ag
 .have:=hn rfl;subst this;have hlt:off<ds.length:=ae;have e:(ds.drop off).take 1=[ds.getD off .any]:=by
   rw[fD hlt];simp[List.getD,hlt,List.take]
  rw[e]at h⊢;cases ks with
  |nil=>simp[fP]at h
  |cons c r=>
   simp only[fP]at h;exact Me h.1
 .exact⟨rfl,rfl⟩
def O2 (ν:Ξ)(x:X)(P:Program)(n:Nat)(t:TypeId)(ks:Lah):Prop:=
 ∀u v d e (w:World),RD ν x u d->RD ν x v e->d.isAgg=b9 P t->e.isAgg=b9 P t->fP ks d.cells->fP ks e.cells->
  (Op.equalIn n t u v).run P w=.ok (ig d.cells e.cells) w
theorem Dq {n:Nat}{ks:Lah}(h:ib P n t=some ks)(ha:b9 P t=false):ks.length=1:=by
 cases n with
 |zero=>simp[ib]at h
 |succ n=>
  grind [ib,b9]
def xB (n depth:Nat)(ih:∀t ks,ib P depth t=some ks->O2 ν x P n t ks)(xs ys:Κ)(ds es:Θ)(h1:RD ν x (.agg xs) (.agg ds))(h2:RD ν x (.agg ys) (.agg es))(w:World):
  ∀(fs:List Field) (off:Nat) (ks:Lah),mE P (λt=>ib P depth t) off fs=some ks->off<=ds.length->off<=es.length->fP ks (ds.drop off)->fP ks (es.drop off)->
  (Op.eqFields n xs ys fs).run P w=.ok (ig (ds.drop off) (es.drop off)) w
 |[],off,ks,hk,_,_,f1,f2=>by
  simp[mE]at hk;subst hk;have a:=jB _ _ f1;have b:=jB _ _ f2;have a':ds.drop off=[]:=lZ a;have b':es.drop off=[]:=lZ b;rw[a',b'];simp[Op.eqFields,ig]
 |f::fs,off,ks,hk,l1,l2,f1,f2=>by
  simp only[mE]at hk;split at hk
  .cases hk
  .rename_i hne;have hname:f.name≠ "_" :=λe=>hne (.inl e)
   have hoff:f.offset=off:=by
    rcases Nat.decEq f.offset off with h|h
    .exact absurd (.inr h) hne
    .exact h
   split at hk
   .rename_i a b ha hb;split at hk
    .rename_i hlen;obtain⟨hlen,hnz,hund⟩:=hlen;simp only[aG]at hk;subst hk;obtain⟨fa1,fb1⟩:=kU a b _ f1;obtain⟨fa2,fb2⟩:=kU a b _ f2;have la:=jB _ _ f1;have lb:=jB _ _ f2;simp only[jS,cx]at la lb;have hag:b9 P f.type=false->P.cellsOf f.type=1:=λe=>by rw[<-hlen];exact Dq ha e
     obtain⟨u,r1,r2⟩:=qx (P:=P) (off:=off) (n:=P.cellsOf f.type) (ag:=b9 P f.type) w h1 ae hund rfl rfl ae hag;obtain⟨v,s1,s2⟩:=qx (P:=P) (off:=off) (n:=P.cellsOf f.type) (ag:=b9 P f.type) w h2 ae hund rfl rfl ae hag;rw[hlen]at fa1 fa2 fb1 fb2;obtain⟨c1,c2⟩:=tE (ag:=b9 P f.type) fa1 hag ae;obtain⟨d1,d2⟩:=tE (ag:=b9 P f.type) fa2 hag ae;have he:=ih f.type a ha u v _ _ w r2 s2 c2 d2 (by rw[c1];exact fa1) (by rw[d1];exact fa2);rw[List.drop_drop]at fb1 fb2;have hrest:=xB n depth ih xs ys ds es h1 h2 w fs (off+P.cellsOf f.type) b hb ae ae fb1 fb2;rw[v7 (P.cellsOf f.type) (ds.drop off) (es.drop off) fM];simp only[Op.eqFields,hname,ne_eq,not_false_eq_true,br,Sem.run_bind,hoff,r1,s1,he,Result.andThen_ok,Sem.run_ite,hrest];rw[c1,d1,List.drop_drop,List.drop_drop];cases ig ((ds.drop off).take (P.cellsOf f.type)) ((es.drop off).take (P.cellsOf f.type))<;>simp
    .cases hk
   .cases hk
def At (n:Nat)(e:TypeId)(l:Lah)(ih:O2 ν x P n e l)(hc:l.length=P.cellsOf e)(hnz:l.length≠0)(hund:(P.underlying e).isNone=false)(hag:b9 P e=false->P.cellsOf e=1)
  (xs ys:Κ) (ds es:Θ) (h1:RD ν x (.agg xs) (.agg ds)) (h2:RD ν x (.agg ys) (.agg es)) (w:World):
  ∀(len j:Nat),j*P.cellsOf e<=ds.length->j*P.cellsOf e<=es.length->fP (List.replicate len l).flatten (ds.drop (j*P.cellsOf e))->fP (List.replicate len l).flatten (es.drop (j*P.cellsOf e))->
  (Op.eqItems n e (P.cellsOf e) xs ys (List.range' j len)).run P w=.ok (ig (ds.drop (j*P.cellsOf e)) (es.drop (j*P.cellsOf e))) w
 |0,j,_,_,f1,f2=>by
  have a:=jB _ _ f1;have b:=jB _ _ f2;have a':ds.drop (j*P.cellsOf e)=[]:=lZ (by simpa using a);have b':es.drop (j*P.cellsOf e)=[]:=lZ (by simpa using b);rw[a',b'];simp[Op.eqItems,ig]
 |len+1,j,l1,l2,f1,f2=>by
  simp only[List.replicate_succ,List.flatten_cons]at f1 f2;obtain⟨fa1,fb1⟩:=kU _ _ _ f1;obtain⟨fa2,fb2⟩:=kU _ _ _ f2;have la:=jB _ _ f1;have lb:=jB _ _ f2;simp only[jS,cx]at la lb;have hj:(j+1)*P.cellsOf e=j*P.cellsOf e+P.cellsOf e:=Nat.succ_mul _ _;obtain⟨u,r1,r2⟩:=qx (P:=P) (off:=j*P.cellsOf e) (n:=P.cellsOf e) (ag:=b9 P e) w h1 ae hund rfl rfl ae hag;obtain⟨v,s1,s2⟩:=qx (P:=P) (off:=j*P.cellsOf e) (n:=P.cellsOf e) (ag:=b9 P e) w h2 ae hund rfl rfl ae hag;rw[hc]at fa1 fa2 fb1 fb2;obtain⟨c1,c2⟩:=tE (ag:=b9 P e) fa1 hag ae;obtain⟨d1,d2⟩:=tE (ag:=b9 P e) fa2 hag ae;have he:=ih u v _ _ w r2 s2 c2 d2 (by rw[c1];exact fa1) (by rw[d1];exact fa2);rw[List.drop_drop,<-hj]at fb1 fb2;have hrest:=At n e l ih hc hnz hund hag xs ys ds es h1 h2 w len (j+1) ae ae fb1 fb2;rw[v7 (P.cellsOf e) (ds.drop (j*P.cellsOf e)) (es.drop (j*P.cellsOf e)) fM];simp only[List.range'_succ,Op.eqItems,Sem.run_bind,r1,s1,he,Result.andThen_ok,Sem.run_ite,hrest];rw[c1,d1,List.drop_drop,List.drop_drop,<-hj];cases ig ((ds.drop (j*P.cellsOf e)).take (P.cellsOf e)) ((es.drop (j*P.cellsOf e)).take (P.cellsOf e))<;>simp
def sz:∀(depth:Nat) (t:TypeId) (ks:Lah),ib P depth t=some ks->∀n,depth<=n->O2 ν x P n t ks
 |0,t,ks,h,_,_=>by simp[ib]at h
 |depth+1,t,ks,h,n,hn=>by
  obtain⟨n,rfl⟩:∃k,n=k+1:=⟨n-1,ae⟩
  intro u v d e w r1 r2 a1 a2 f1 f2;simp only[ib]at h;split at h
  .rename_i hu;simp only[aG]at h;subst h;have hag:b9 P t=false:=by simp[b9,hu]
   rw[hag]at a1 a2;have g1:=mz f1 a1;have g2:=mz f2 a2;cases d<;>simp only[CK.fits]at g1;cases e<;>simp only[CK.fits]at g2;rw[r1.jV,r2.jV,run_equalIn_bool w n t _ _ hu];simp[D.cells,ig,eqD]
  .rename_i k hu;simp only[aG]at h;subst h;have hag:b9 P t=false:=by simp[b9,hu]
   rw[hag]at a1 a2;have g1:=mz f1 a1;have g2:=mz f2 a2;cases d<;>simp only[CK.fits]at g1;cases e<;>simp only[CK.fits]at g2;subst g1;subst g2;rw[r1.dz,r2.dz,run_equalIn_int w n t _ _ _ _ hu];simp[D.cells,ig,eqD]
  .rename_i hu;simp only[aG]at h;subst h;have hag:b9 P t=false:=by simp[b9,hu]
   rw[hag]at a1 a2;have g1:=mz f1 a1;have g2:=mz f2 a2;cases d<;>simp only[CK.fits]at g1;cases e<;>simp only[CK.fits]at g2;rw[r1.ke.1,r2.ke.1,run_equalIn_string w n t _ _ hu];simp[D.cells,ig,eqD,ByteArray.toList_eq]
  .rename_i fs hu;split at h
   .cases h
   .rename_i hst;have hag:b9 P t=true:=by simp[b9,hu]
    rw[hag]at a1 a2;cases d<;>simp only[D.isAgg,iL]at a1;cases e<;>simp only[D.isAgg,iL]at a2;have hf:P.fieldsOf t=fs:=by simp[Program.fieldsOf,hu]
    cases r1 with
    |agg xs _ p1 p2 p3=>
     cases r2 with
     |agg ys _ q1 q2 q3=>
      rw[run_equalIn_struct w n t xs ys (by rw[hf];exact hu) (by simpa using hst),hf];have:=xB (ν:=ν) (x:=x) n depth (λt ks hk=>sz depth t ks hk n ae) xs ys _ _ (.agg xs _ p1 p2 p3) (.agg ys _ q1 q2 q3) w fs.toList 0 ks h aJ aJ (by simpa[D.cells]using f1) (by simpa[D.cells]using f2);simpa[D.cells]using this
  .rename_i len e' hu;split at h
   .rename_i l hl;split at h
    .rename_i hc;obtain⟨hc,hnz,hund⟩:=hc;simp only[aG]at h;subst h;have hag:b9 P t=true:=by simp[b9,hu]
     rw[hag]at a1 a2;cases d<;>simp only[D.isAgg,iL]at a1;cases e<;>simp only[D.isAgg,iL]at a2;obtain⟨i,hi,_⟩:=pL (P:=P) (t:=e') ae;cases r1 with
     |agg xs _ p1 p2 p3=>
      cases r2 with
      |agg ys _ q1 q2 q3=>
       rw[run_equalIn_array w n xs ys hu hi,List.range_eq_range'];have:=At (ν:=ν) (x:=x) n e' l (sz depth e' l hl n ae) hc hnz hund (λe=>by rw[<-hc];exact Dq hl e) xs ys _ _ (.agg xs _ p1 p2 p3) (.agg ys _ q1 q2 q3) w len 0 aJ aJ (by simpa[D.cells]using f1) (by simpa[D.cells]using f2);simpa[D.cells]using this
    .cases h
   .cases h
  .cases h
end
end
end Go.Abs
