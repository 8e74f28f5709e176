/- A part of the proofs. -/
import Derived.IntWalk
import Derived.KernelRfl
import Derived.Lib.TrimUEq
import Derived.Test.YtaeimnechonnmaaGreatDoorP04
set_option linter.all false
set_option maxRecDepth 4000
namespace Go.Abs
section
section
variable {Y:Ctx} {draw:Bool} {r:List GI} {env rs:List b8} {nx:Nat} {m:List (Nat×bM)} {K:List b8->St->Prop} {g:Option (Nat×Bool)} {f:Bool}
def at8 (s:List UInt8)(i:Nat):Int:=((s.getD i 0).toNat:Int)
def HF (s:List UInt8)(i:Nat):0<=at8 s i/\at8 s i<256:=by
 have:=(s.getD i 0).toNat_lt;unfold at8;omega
def wrap_i64 {a:Int}(h1:-9223372036854775808<=a)(h2:a<=9223372036854775807):IntKind.i64.wrap a=a:=IntWalk.i64_in _ ae
def mN (a b:List UInt8):(a==b)=decide (a=b):=by
 grind
def getD_map {α:Type} [Inhabited α]{q:α->D}{xs:List α}{i:Nat}(h:i<xs.length):(xs.map q).getD i .any=q xs[i]! :=by
 simp[List.getD,h]
def GF (rs:List b8):Option (Nat×Bool)->Bool->Prop
 |none,f=>f=true
 |some (j,w),f=>∃ok b,cN [] rs (.l j)=⟨ok,.bool b⟩/\(ok&&(b==w))=f
def GF.flag (h:GF rs g f):flag rs.reverse g=f/\tj rs.reverse g:=by
 cases g with
 |none=>exact⟨h.symm,trivial⟩
 |some jw=>
  obtain⟨j,w⟩:=jw;obtain⟨ok,b,h1,h2⟩:=h;have h3:rs.reverse.getD j .un=⟨ok,.bool b⟩:=by rw[<-h1,<-kJ];rfl
  simp only[Abs.flag,tj,h3,h2,D.isBool];exact⟨trivial,fun _=>trivial⟩
def I9 {i:aG}(hM:i.cB=false)(hF:i.mr draw g=false)(hC:g.isSome=true->i.calm=true)(hg:GF rs g f)(d:D)(ho:f=true->i.dF Y (cN env rs) m)
  (hv:f=true->i.val Y (cN env rs) m (nx+rs.length)=d) (m':List (Nat×bM)) (hm:i.cC Y (cN env rs) m (nx+rs.length)=m')
  (h:(f=true->i.yi draw (cN env rs))->aI Y draw r env (⟨f,d⟩::rs) nx m' K):aI Y draw (⟨i,g⟩::r) env rs nx m K:=by
 obtain⟨hf,hb⟩:=hg.flag;unfold aI;rw[iV hM hF,kJ,hf];refine⟨?_,ho,fun ha=>⟨d,by simpa using hv, ?_⟩⟩
 .cases g with
  |none=>trivial
  |some jw=>exact⟨hC rfl,hb⟩
 grind [aI]
def fO {i:aG}(hC:i.calm=true)(hg:GF rs g f)(d:D)(ho:f=true->i.dF Y (cN env rs) m)
  (hv:f=true->i.val Y (cN env rs) m (nx+rs.length)=d) (m':List (Nat×bM)) (hm:i.cC Y (cN env rs) m (nx+rs.length)=m')
  (h:(f=true->i.yi draw (cN env rs))->aI Y draw r env (⟨f,d⟩::rs) nx m' K):aI Y draw (⟨i,g⟩::r) env rs nx m K:=
 I9 (by cases i<;>first|rfl|cases hC) (by simp[aG.mr,hC]) (fun _=>hC) hg d ho hv m' hm h
def cq {i:aG}(hC:i.pure=true)(hg:GF rs g f)(d:D)(ho:f=true->i.dF Y (cN env rs) m)
  (hv:f=true->i.val Y (cN env rs) m (nx+rs.length)=d) 
  (h:(f=true->i.yi draw (cN env rs))->aI Y draw r env (⟨f,d⟩::rs) nx m K):aI Y draw (⟨i,g⟩::r) env rs nx m K:=
 fO (Gx hC) hg d ho hv m (Ax hC) h
def qh {i:aG}(hM:i.cB=false)(d:D)(ho:i.dF Y (cN env rs) m)
  (hv:i.val Y (cN env rs) m (nx+rs.length)=d) (m':List (Nat×bM)) (hm:i.cC Y (cN env rs) m (nx+rs.length)=m')
  (h:i.yi draw (cN env rs)->aI Y draw r env (⟨true,d⟩::rs) nx m' K):aI Y draw (⟨i,none⟩::r) env rs nx m K:=
 I9 hM (by simp[aG.mr]) (fun h=>by cases h) rfl d (fun _=>ho) (fun _=>hv) m' hm (fun ha=>h (ha rfl))
def Jc {i:aG}{j:Nat}{w:Bool}(hM:i.cB=false)(hC:i.calm=false)(hg:GF rs (some (j,w)) f)(h1:f=true->∃d,i.dF Y (cN env rs) m/\i.val Y (cN env rs) m (nx+rs.length)=d/\∃m',i.cC Y (cN env rs) m (nx+rs.length)=m'/\aI Y false r env (⟨true,d⟩::rs) nx m' K)
  (h2:f=false->aI Y false r env (⟨false,.any⟩::rs) nx m K):aI Y false (⟨i,some (j,w)⟩::r) env rs nx m K:=by
 obtain⟨hf,hb⟩:=hg.flag
 grind [aI,sy,aG.mr,kJ]
def R8 {x:Src}{fx:Bool}{d:D}(h:aI Y draw r env (⟨f,d⟩::rs) nx m K)(hg:GF rs g f:=by exact dz)(hx:cN env rs x=⟨fx,d⟩:=by exact rfl)(kx:f=true->fx=true:=by exact cF):aI Y draw (⟨.mv x,g⟩::r) env rs nx m K:=
 cq rfl hg _ (fun hf=>by simp[aG.dF,hx,kx hf]) (fun hf=>by simp[aG.val,hx]) (fun ha=>h)
def R9 {x:Src}{fx:Bool}{b:Bool}(h:aI Y draw r env (⟨f,.bool (!b)⟩::rs) nx m K)(hg:GF rs g f:=by exact dz)(hx:cN env rs x=⟨fx,.bool b⟩:=by exact rfl)(kx:f=true->fx=true:=by exact cF):aI Y draw (⟨.un .not x,g⟩::r) env rs nx m K:=
 cq rfl hg _ (fun hf=>by simp[aG.dF,hx,kx hf]) (fun hf=>by simp[aG.val,hx]) (fun ha=>h)
def r_or {c b:Src}{fc fb t y:Bool}(h:aI Y draw r env (⟨f,.bool (t ||y)⟩::rs) nx m K)(hg:GF rs g f:=by exact dz)(hc:cN env rs c=⟨fc,.bool t⟩:=by exact rfl)(hb:cN env rs b=⟨fb,.bool y⟩:=by exact rfl)(kc:f=true->fc=true:=by exact cF)(kb:f=true->t=false->fb=true:=by intro h1 h2;first|(rw[h2];exact rfl)|(rw[h2,h1];rfl)|(rw[h1,h2];rfl)|simp_all):aI Y draw (⟨.pick c (.c (.bool true)) b,g⟩::r) env rs nx m K:=
 cq rfl hg _ (fun hf=>by simp only[aG.dF,hc,hb];exact⟨kc hf,fun _=>rfl,fun e=>kb hf e⟩) (fun hf=>by simp only[aG.val,hc,hb];cases t<;>rfl) (fun _=>h)
def R2 {c a:Src}{fc fa t y:Bool}(h:aI Y draw r env (⟨f,.bool (t&&y)⟩::rs) nx m K)(hg:GF rs g f:=by exact dz)(hc:cN env rs c=⟨fc,.bool t⟩:=by exact rfl)(ha:cN env rs a=⟨fa,.bool y⟩:=by exact rfl)(kc:f=true->fc=true:=by exact cF)(ka:f=true->t=true->fa=true:=by intro h1 h2;first|(rw[h2];exact rfl)|(rw[h2,h1];rfl)|(rw[h1,h2];rfl)|simp_all):aI Y draw (⟨.pick c a (.c (.bool false)),g⟩::r) env rs nx m K:=
 cq rfl hg _ (fun hf=>by simp only[aG.dF,hc,ha];exact⟨kc hf,fun e=>ka hf e,fun _=>rfl⟩) (fun hf=>by simp only[aG.val,hc,ha];cases t<;>rfl) (fun _=>h)
def aC {x y:Src}{fx fy:Bool}{a b:Int}(h:aI Y draw r env (⟨f,.int .i64 (a+b)⟩::rs) nx m K)(hg:GF rs g f:=by exact dz)(hx:cN env rs x=⟨fx,.int .i64 a⟩:=by exact rfl)(hy:cN env rs y=⟨fy,.int .i64 b⟩:=by exact rfl)(kx:f=true->fx=true:=by exact cF)(ky:f=true->fy=true:=by exact cF)(hb:f=true->-9223372036854775808<=a+b/\a+b<=9223372036854775807:=by exact Bk):aI Y draw (⟨.bin .add x y,g⟩::r) env rs nx m K:=
 cq rfl hg _ (fun hf=>by simp[aG.dF,hx,hy,kx hf,ky hf,iZ]) (fun hf=>by simp only[aG.val,hx,hy,jC];rw[wrap_i64 (hb hf).1 (hb hf).2]) (fun ha=>h)
def eS {x y:Src}{fx fy:Bool}{a b:Int}(h:aI Y draw r env (⟨f,.int .i64 (a-b)⟩::rs) nx m K)(hg:GF rs g f:=by exact dz)(hx:cN env rs x=⟨fx,.int .i64 a⟩:=by exact rfl)(hy:cN env rs y=⟨fy,.int .i64 b⟩:=by exact rfl)(kx:f=true->fx=true:=by exact cF)(ky:f=true->fy=true:=by exact cF)(hb:f=true->-9223372036854775808<=a-b/\a-b<=9223372036854775807:=by exact Bk):aI Y draw (⟨.bin .sub x y,g⟩::r) env rs nx m K:=
 cq rfl hg _ (fun hf=>by simp[aG.dF,hx,hy,kx hf,ky hf,iZ]) (fun hf=>by simp only[aG.val,hx,hy,jC];rw[wrap_i64 (hb hf).1 (hb hf).2]) (fun ha=>h)
def Jp {x y:Src}{fx fy:Bool}{k:IntKind}{a b:Int}(v:Int)(h:aI Y draw r env (⟨f,.int k v⟩::rs) nx m K)(hg:GF rs g f:=by exact dz)(hx:cN env rs x=⟨fx,.int k a⟩:=by exact rfl)(hy:cN env rs y=⟨fy,.int k b⟩:=by exact rfl)(kx:f=true->fx=true:=by exact cF)(ky:f=true->fy=true:=by exact cF)(hb:f=true->k.wrap (a-b)=v):aI Y draw (⟨.bin .sub x y,g⟩::r) env rs nx m K:=
 cq rfl hg _ (fun hf=>by simp[aG.dF,hx,hy,kx hf,ky hf,iZ]) (fun hf=>by simp only[aG.val,hx,hy,jC];rw[hb hf]) (fun ha=>h)
def yT {x y:Src}{fx fy:Bool}{a b:Int}(h:aI Y draw r env (⟨f,.int .i64 (a*b)⟩::rs) nx m K)(hg:GF rs g f:=by exact dz)(hx:cN env rs x=⟨fx,.int .i64 a⟩:=by exact rfl)(hy:cN env rs y=⟨fy,.int .i64 b⟩:=by exact rfl)(kx:f=true->fx=true:=by exact cF)(ky:f=true->fy=true:=by exact cF)(hb:f=true->-9223372036854775808<=a*b/\a*b<=9223372036854775807:=by exact Bk):aI Y draw (⟨.bin .mul x y,g⟩::r) env rs nx m K:=
 cq rfl hg _ (fun hf=>by simp[aG.dF,hx,hy,kx hf,ky hf,iZ]) (fun hf=>by simp only[aG.val,hx,hy,jC];rw[wrap_i64 (hb hf).1 (hb hf).2]) (fun ha=>h)
def MP {x y:Src}{fx fy:Bool}{k:IntKind}{a b:Int}(v:Int)(h:aI Y draw r env (⟨f,.int k v⟩::rs) nx m K)(hg:GF rs g f:=by exact dz)(hx:cN env rs x=⟨fx,.int k a⟩:=by exact rfl)(hy:cN env rs y=⟨fy,.int k b⟩:=by exact rfl)(kx:f=true->fx=true:=by exact cF)(ky:f=true->fy=true:=by exact cF)(hn:f=true->b≠0)(hb:f=true->a.tmod b=v):aI Y draw (⟨.bin .rem x y,g⟩::r) env rs nx m K:=
 cq rfl hg _ (fun hf=>by simp[aG.dF,hx,hy,kx hf,ky hf,iZ,hn hf]) (fun hf=>by simp only[aG.val,hx,hy,jC];rw[hb hf]) (fun ha=>h)
def pB {x y:Src}{fx fy:Bool}{k k2:IntKind}{a b:Int}(v:Int)(h:aI Y draw r env (⟨f,.int k v⟩::rs) nx m K)(hg:GF rs g f:=by exact dz)(hx:cN env rs x=⟨fx,.int k a⟩:=by exact rfl)(hy:cN env rs y=⟨fy,.int k2 b⟩:=by exact rfl)(kx:f=true->fx=true:=by exact cF)(ky:f=true->fy=true:=by exact cF)(hn:f=true->0<=b:=by exact wu)(hb:f=true->k.wrap (a*2^(min b.toNat k.bits))=v):aI Y draw (⟨.bin .shl x y,g⟩::r) env rs nx m K:=
 cq rfl hg _ (fun hf=>by simp[aG.dF,hx,hy,kx hf,ky hf,iZ,hn hf]) (fun hf=>by simp only[aG.val,hx,hy,jC];rw[hb hf]) (fun ha=>h)
def MQ {x y:Src}{fx fy:Bool}{k k2:IntKind}{a b:Int}(v:Int)(h:aI Y draw r env (⟨f,.int k v⟩::rs) nx m K)(hg:GF rs g f:=by exact dz)(hx:cN env rs x=⟨fx,.int k a⟩:=by exact rfl)(hy:cN env rs y=⟨fy,.int k2 b⟩:=by exact rfl)(kx:f=true->fx=true:=by exact cF)(ky:f=true->fy=true:=by exact cF)(hn:f=true->0<=b:=by exact wu)(hb:f=true->a.fdiv (2^(min b.toNat k.bits))=v):aI Y draw (⟨.bin .shr x y,g⟩::r) env rs nx m K:=
 cq rfl hg _ (fun hf=>by simp[aG.dF,hx,hy,kx hf,ky hf,iZ,hn hf]) (fun hf=>by simp only[aG.val,hx,hy,jC];rw[hb hf]) (fun ha=>h)
def gC {x y:Src}{fx fy:Bool}{k:IntKind}{a b:Int}(v:Int)(h:aI Y draw r env (⟨f,.int k v⟩::rs) nx m K)(hg:GF rs g f:=by exact dz)(hx:cN env rs x=⟨fx,.int k a⟩:=by exact rfl)(hy:cN env rs y=⟨fy,.int k b⟩:=by exact rfl)(kx:f=true->fx=true:=by exact cF)(ky:f=true->fy=true:=by exact cF)(hb:f=true->k.wrap (((BitVec.ofInt k.bits a)&&&(BitVec.ofInt k.bits b)).toNat)=v):aI Y draw (⟨.bin .and x y,g⟩::r) env rs nx m K:=
 cq rfl hg _ (fun hf=>by simp[aG.dF,hx,hy,kx hf,ky hf,iZ]) (fun hf=>by simp only[aG.val,hx,hy,jC];rw[hb hf]) (fun ha=>h)
def DV {x y:Src}{fx fy:Bool}{k:IntKind}{a b:Int}(v:Int)(h:aI Y draw r env (⟨f,.int k v⟩::rs) nx m K)(hg:GF rs g f:=by exact dz)(hx:cN env rs x=⟨fx,.int k a⟩:=by exact rfl)(hy:cN env rs y=⟨fy,.int k b⟩:=by exact rfl)(kx:f=true->fx=true:=by exact cF)(ky:f=true->fy=true:=by exact cF)(hb:f=true->k.wrap (((BitVec.ofInt k.bits a) |||(BitVec.ofInt k.bits b)).toNat)=v):aI Y draw (⟨.bin .or x y,g⟩::r) env rs nx m K:=
 cq rfl hg _ (fun hf=>by simp[aG.dF,hx,hy,kx hf,ky hf,iZ]) (fun hf=>by simp only[aG.val,hx,hy,jC];rw[hb hf]) (fun ha=>h)
def oX {x y:Src}{fx fy:Bool}{k:IntKind}{a b:Int}(v:Int)(h:aI Y draw r env (⟨f,.int k v⟩::rs) nx m K)(hg:GF rs g f:=by exact dz)(hx:cN env rs x=⟨fx,.int k a⟩:=by exact rfl)(hy:cN env rs y=⟨fy,.int k b⟩:=by exact rfl)(kx:f=true->fx=true:=by exact cF)(ky:f=true->fy=true:=by exact cF)(hb:f=true->k.wrap (((BitVec.ofInt k.bits a)&&& ~~~ (BitVec.ofInt k.bits b)).toNat)=v):aI Y draw (⟨.bin .andNot x y,g⟩::r) env rs nx m K:=
 cq rfl hg _ (fun hf=>by simp[aG.dF,hx,hy,kx hf,ky hf,iZ]) (fun hf=>by simp only[aG.val,hx,hy,jC];rw[hb hf]) (fun ha=>h)
def Cv {x y:Src}{fx fy:Bool}{k:IntKind}{a b:Int}(h:aI Y draw r env (⟨f,.bool (decide (a<b))⟩::rs) nx m K)(hg:GF rs g f:=by exact dz)(hx:cN env rs x=⟨fx,.int k a⟩:=by exact rfl)(hy:cN env rs y=⟨fy,.int k b⟩:=by exact rfl)(kx:f=true->fx=true:=by exact cF)(ky:f=true->fy=true:=by exact cF):aI Y draw (⟨.bin .lss x y,g⟩::r) env rs nx m K:=
 cq rfl hg _ (fun hf=>by simp[aG.dF,hx,hy,kx hf,ky hf,iZ]) (fun hf=>by simp only[aG.val,hx,hy,jC]<;>rfl) (fun ha=>h)
def OM {x y:Src}{fx fy:Bool}{k:IntKind}{a b:Int}(h:aI Y draw r env (⟨f,.bool (decide (a<=b))⟩::rs) nx m K)(hg:GF rs g f:=by exact dz)(hx:cN env rs x=⟨fx,.int k a⟩:=by exact rfl)(hy:cN env rs y=⟨fy,.int k b⟩:=by exact rfl)(kx:f=true->fx=true:=by exact cF)(ky:f=true->fy=true:=by exact cF):aI Y draw (⟨.bin .leq x y,g⟩::r) env rs nx m K:=
 cq rfl hg _ (fun hf=>by simp[aG.dF,hx,hy,kx hf,ky hf,iZ]) (fun hf=>by simp only[aG.val,hx,hy,jC]<;>rfl) (fun ha=>h)
def OH {x y:Src}{fx fy:Bool}{k:IntKind}{a b:Int}(h:aI Y draw r env (⟨f,.bool (decide (b<a))⟩::rs) nx m K)(hg:GF rs g f:=by exact dz)(hx:cN env rs x=⟨fx,.int k a⟩:=by exact rfl)(hy:cN env rs y=⟨fy,.int k b⟩:=by exact rfl)(kx:f=true->fx=true:=by exact cF)(ky:f=true->fy=true:=by exact cF):aI Y draw (⟨.bin .gtr x y,g⟩::r) env rs nx m K:=
 cq rfl hg _ (fun hf=>by simp[aG.dF,hx,hy,kx hf,ky hf,iZ]) (fun hf=>by simp only[aG.val,hx,hy,jC]<;>rfl) (fun ha=>h)
def OF {x y:Src}{fx fy:Bool}{k:IntKind}{a b:Int}(h:aI Y draw r env (⟨f,.bool (decide (b<=a))⟩::rs) nx m K)(hg:GF rs g f:=by exact dz)(hx:cN env rs x=⟨fx,.int k a⟩:=by exact rfl)(hy:cN env rs y=⟨fy,.int k b⟩:=by exact rfl)(kx:f=true->fx=true:=by exact cF)(ky:f=true->fy=true:=by exact cF):aI Y draw (⟨.bin .geq x y,g⟩::r) env rs nx m K:=
 cq rfl hg _ (fun hf=>by simp[aG.dF,hx,hy,kx hf,ky hf,iZ]) (fun hf=>by simp only[aG.val,hx,hy,jC]<;>rfl) (fun ha=>h)
def OD {x y:Src}{fx fy:Bool}{k:IntKind}{a b:Int}(h:aI Y draw r env (⟨f,.bool (decide (a=b))⟩::rs) nx m K)(hg:GF rs g f:=by exact dz)(hx:cN env rs x=⟨fx,.int k a⟩:=by exact rfl)(hy:cN env rs y=⟨fy,.int k b⟩:=by exact rfl)(kx:f=true->fx=true:=by exact cF)(ky:f=true->fy=true:=by exact cF):aI Y draw (⟨.bin .eql x y,g⟩::r) env rs nx m K:=
 cq rfl hg _ (fun hf=>by simp[aG.dF,hx,hy,kx hf,ky hf,iZ]) (fun hf=>by simp only[aG.val,hx,hy,jC]<;>rfl) (fun ha=>h)
def OP {x y:Src}{fx fy:Bool}{k:IntKind}{a b:Int}(h:aI Y draw r env (⟨f,.bool (!decide (a=b))⟩::rs) nx m K)(hg:GF rs g f:=by exact dz)(hx:cN env rs x=⟨fx,.int k a⟩:=by exact rfl)(hy:cN env rs y=⟨fy,.int k b⟩:=by exact rfl)(kx:f=true->fx=true:=by exact cF)(ky:f=true->fy=true:=by exact cF):aI Y draw (⟨.bin .neq x y,g⟩::r) env rs nx m K:=
 cq rfl hg _ (fun hf=>by simp[aG.dF,hx,hy,kx hf,ky hf,iZ]) (fun hf=>by simp only[aG.val,hx,hy,jC]<;>rfl) (fun ha=>h)
def OO {x y:Src}{fx fy:Bool}{a b:List UInt8}(h:aI Y draw r env (⟨f,.bool (Op.bytesLess a b)⟩::rs) nx m K)(hg:GF rs g f:=by exact dz)(hx:cN env rs x=⟨fx,.str a⟩:=by exact rfl)(hy:cN env rs y=⟨fy,.str b⟩:=by exact rfl)(kx:f=true->fx=true:=by exact cF)(ky:f=true->fy=true:=by exact cF):aI Y draw (⟨.bin .lss x y,g⟩::r) env rs nx m K:=
 cq rfl hg _ (fun hf=>by simp[aG.dF,hx,hy,kx hf,ky hf,iZ]) (fun hf=>by simp only[aG.val,hx,hy,jC,mN]) (fun ha=>h)
def ON {x y:Src}{fx fy:Bool}{a b:List UInt8}(h:aI Y draw r env (⟨f,.bool (Op.bytesLess a b ||decide (a=b))⟩::rs) nx m K)(hg:GF rs g f:=by exact dz)(hx:cN env rs x=⟨fx,.str a⟩:=by exact rfl)(hy:cN env rs y=⟨fy,.str b⟩:=by exact rfl)(kx:f=true->fx=true:=by exact cF)(ky:f=true->fy=true:=by exact cF):aI Y draw (⟨.bin .leq x y,g⟩::r) env rs nx m K:=
 cq rfl hg _ (fun hf=>by simp[aG.dF,hx,hy,kx hf,ky hf,iZ]) (fun hf=>by simp only[aG.val,hx,hy,jC,mN]) (fun ha=>h)
def OI {x y:Src}{fx fy:Bool}{a b:List UInt8}(h:aI Y draw r env (⟨f,.bool (!(Op.bytesLess a b ||decide (a=b)))⟩::rs) nx m K)(hg:GF rs g f:=by exact dz)(hx:cN env rs x=⟨fx,.str a⟩:=by exact rfl)(hy:cN env rs y=⟨fy,.str b⟩:=by exact rfl)(kx:f=true->fx=true:=by exact cF)(ky:f=true->fy=true:=by exact cF):aI Y draw (⟨.bin .gtr x y,g⟩::r) env rs nx m K:=
 cq rfl hg _ (fun hf=>by simp[aG.dF,hx,hy,kx hf,ky hf,iZ]) (fun hf=>by simp only[aG.val,hx,hy,jC,mN]) (fun ha=>h)
def OG {x y:Src}{fx fy:Bool}{a b:List UInt8}(h:aI Y draw r env (⟨f,.bool (!Op.bytesLess a b)⟩::rs) nx m K)(hg:GF rs g f:=by exact dz)(hx:cN env rs x=⟨fx,.str a⟩:=by exact rfl)(hy:cN env rs y=⟨fy,.str b⟩:=by exact rfl)(kx:f=true->fx=true:=by exact cF)(ky:f=true->fy=true:=by exact cF):aI Y draw (⟨.bin .geq x y,g⟩::r) env rs nx m K:=
 cq rfl hg _ (fun hf=>by simp[aG.dF,hx,hy,kx hf,ky hf,iZ]) (fun hf=>by simp only[aG.val,hx,hy,jC,mN]) (fun ha=>h)
def OE {x y:Src}{fx fy:Bool}{a b:List UInt8}(h:aI Y draw r env (⟨f,.bool (decide (a=b))⟩::rs) nx m K)(hg:GF rs g f:=by exact dz)(hx:cN env rs x=⟨fx,.str a⟩:=by exact rfl)(hy:cN env rs y=⟨fy,.str b⟩:=by exact rfl)(kx:f=true->fx=true:=by exact cF)(ky:f=true->fy=true:=by exact cF):aI Y draw (⟨.bin .eql x y,g⟩::r) env rs nx m K:=
 cq rfl hg _ (fun hf=>by simp[aG.dF,hx,hy,kx hf,ky hf,iZ]) (fun hf=>by simp only[aG.val,hx,hy,jC,mN]) (fun ha=>h)
def OQ {x y:Src}{fx fy:Bool}{a b:List UInt8}(h:aI Y draw r env (⟨f,.bool (!decide (a=b))⟩::rs) nx m K)(hg:GF rs g f:=by exact dz)(hx:cN env rs x=⟨fx,.str a⟩:=by exact rfl)(hy:cN env rs y=⟨fy,.str b⟩:=by exact rfl)(kx:f=true->fx=true:=by exact cF)(ky:f=true->fy=true:=by exact cF):aI Y draw (⟨.bin .neq x y,g⟩::r) env rs nx m K:=
 cq rfl hg _ (fun hf=>by simp[aG.dF,hx,hy,kx hf,ky hf,iZ]) (fun hf=>by simp only[aG.val,hx,hy,jC,mN]) (fun ha=>h)
def xE {x y:Src}{fx fy:Bool}{ag:Bool}{ks:List CK}{a b:D}{v:Bool}(h:aI Y draw r env (⟨f,.bool (v)⟩::rs) nx m K)(hb:ij a.cells b.cells=v)(hg:GF rs g f:=by exact dz)(hx:cN env rs x=⟨fx,a⟩:=by exact rfl)(hy:cN env rs y=⟨fy,b⟩:=by exact rfl)(kx:f=true->fx=true:=by exact cF)(ky:f=true->fy=true:=by exact cF)(h1:f=true->a.isAgg=ag/\b.isAgg=ag/\ff ks a.cells/\ff ks b.cells:=by exact sD):aI Y draw (⟨.eqA false ag ks x y,g⟩::r) env rs nx m K:=
 cq rfl hg _ (fun hf=>by simp only[aG.dF,hx,hy];exact⟨kx hf,ky hf,h1 hf⟩) (fun hf=>by simp only[aG.val,hx,hy];rw[hb];rfl) (fun ha=>h)
def Jb {x y:Src}{fx fy:Bool}{ag:Bool}{ks:List CK}{a b:D}{v:Bool}(h:aI Y draw r env (⟨f,.bool (!v)⟩::rs) nx m K)(hb:ij a.cells b.cells=v)(hg:GF rs g f:=by exact dz)(hx:cN env rs x=⟨fx,a⟩:=by exact rfl)(hy:cN env rs y=⟨fy,b⟩:=by exact rfl)(kx:f=true->fx=true:=by exact cF)(ky:f=true->fy=true:=by exact cF)(h1:f=true->a.isAgg=ag/\b.isAgg=ag/\ff ks a.cells/\ff ks b.cells:=by exact sD):aI Y draw (⟨.eqA true ag ks x y,g⟩::r) env rs nx m K:=
 cq rfl hg _ (fun hf=>by simp only[aG.dF,hx,hy];exact⟨kx hf,ky hf,h1 hf⟩) (fun hf=>by simp only[aG.val,hx,hy];rw[hb];rfl) (fun ha=>h)
def q5 {x:Src}{fx:Bool}{k k2:IntKind}{a:Int}(v:Int)(h:aI Y draw r env (⟨f,.int k v⟩::rs) nx m K)(hg:GF rs g f:=by exact dz)(hx:cN env rs x=⟨fx,.int k2 a⟩:=by exact rfl)(kx:f=true->fx=true:=by exact cF)(hb:f=true->k.wrap a=v):aI Y draw (⟨.cvi k x,g⟩::r) env rs nx m K:=
 cq rfl hg _ (fun hf=>by simp[aG.dF,hx,kx hf]) (fun hf=>by simp only[aG.val,hx];rw[hb hf]) (fun ha=>h)
def Jj {x:Src}{fx:Bool}{s:List UInt8}(h:(f=true->draw=false->s.length<=9223372036854775807)->aI Y draw r env (⟨f,.int .i64 s.length⟩::rs) nx m K)(hg:GF rs g f:=by exact dz)(hx:cN env rs x=⟨fx,.str s⟩:=by exact rfl)(kx:f=true->fx=true:=by exact cF):aI Y draw (⟨.lenS x,g⟩::r) env rs nx m K:=
 cq rfl hg _ (fun hf=>by simp[aG.dF,hx,kx hf]) (fun hf=>by simp[aG.val,hx]) (fun ha=>h (fun hf hd=>by have:=ha hf;subst hd;simpa[aG.yi,hx,kx hf]using this))
def Jh {x:Src}{fx:Bool}{α:Type}{k:Nat}{q:α->D}{xs:List α}(h:(f=true->draw=false->xs.length<=9223372036854775807)->aI Y draw r env (⟨f,.int .i64 xs.length⟩::rs) nx m K)(hg:GF rs g f:=by exact dz)(hx:cN env rs x=⟨fx,.sl k (xs.map q)⟩:=by exact rfl)(kx:f=true->fx=true:=by exact cF):aI Y draw (⟨.len x,g⟩::r) env rs nx m K:=
 cq rfl hg _ (fun hf=>by simp[aG.dF,hx,kx hf]) (fun hf=>by simp[aG.val,hx]) (fun ha=>h (fun hf hd=>by have:=ha hf;subst hd;simpa[aG.yi,hx,kx hf]using this))
def Ji {x:Src}{fx:Bool}{l k i n:Nat}(h:(f=true->draw=false->n<=9223372036854775807)->aI Y draw r env (⟨f,.int .i64 n⟩::rs) nx m K)(hg:GF rs g f:=by exact dz)(hx:cN env rs x=⟨fx,.own l k i n⟩:=by exact rfl)(kx:f=true->fx=true:=by exact cF):aI Y draw (⟨.len x,g⟩::r) env rs nx m K:=
 cq rfl hg _ (fun hf=>by simp[aG.dF,hx,kx hf]) (fun hf=>by simp[aG.val,hx]) (fun ha=>h (fun hf hd=>by have:=ha hf;subst hd;simpa[aG.yi,hx,kx hf]using this))
def OL {x:Src}{fx:Bool}(h:aI Y draw r env (⟨f,.int .i64 0⟩::rs) nx m K)(hg:GF rs g f:=by exact dz)(hx:cN env rs x=⟨fx,.aB⟩:=by exact rfl)(kx:f=true->fx=true:=by exact cF):aI Y draw (⟨.len x,g⟩::r) env rs nx m K:=
 cq rfl hg _ (fun hf=>by simp[aG.dF,hx,kx hf]) (fun hf=>by simp[aG.val,hx]) (fun ha=>h)
def OR {x:Src}{fx:Bool}{l k i o:Nat}(h:aI Y draw r env (⟨f,.ptr l k i o⟩::rs) nx m K)(hg:GF rs g f:=by exact dz)(hx:cN env rs x=⟨fx,.ptr l k i o⟩:=by exact rfl)(kx:f=true->fx=true:=by exact cF):aI Y draw (⟨.nilck x,g⟩::r) env rs nx m K:=
 cq rfl hg _ (fun hf=>by simp[aG.dF,hx,kx hf]) (fun hf=>by simp[aG.val,hx]) (fun ha=>h)
def OS {x:Src}{fx:Bool}{k i o:Nat}{es:List D}(h:aI Y draw r env (⟨f,.ref k es i o⟩::rs) nx m K)(hg:GF rs g f:=by exact dz)(hx:cN env rs x=⟨fx,.ref k es i o⟩:=by exact rfl)(kx:f=true->fx=true:=by exact cF):aI Y draw (⟨.nilck x,g⟩::r) env rs nx m K:=
 cq rfl hg _ (fun hf=>by simp[aG.dF,hx,kx hf]) (fun hf=>by simp[aG.val,hx]) (fun ha=>h)
def R4 {x:Src}{fx:Bool}{off l k i o:Nat}(h:aI Y draw r env (⟨f,.ptr l k i (o+off)⟩::rs) nx m K)(hg:GF rs g f:=by exact dz)(hx:cN env rs x=⟨fx,.ptr l k i o⟩:=by exact rfl)(kx:f=true->fx=true:=by exact cF):aI Y draw (⟨.fa off x,g⟩::r) env rs nx m K:=
 cq rfl hg _ (fun hf=>by simp[aG.dF,hx,kx hf]) (fun hf=>by simp[aG.val,hx]) (fun ha=>h)
def R5 {x:Src}{fx:Bool}{off k i o:Nat}{es:List D}(h:aI Y draw r env (⟨f,.ref k es i (o+off)⟩::rs) nx m K)(hg:GF rs g f:=by exact dz)(hx:cN env rs x=⟨fx,.ref k es i o⟩:=by exact rfl)(kx:f=true->fx=true:=by exact cF):aI Y draw (⟨.fa off x,g⟩::r) env rs nx m K:=
 cq rfl hg _ (fun hf=>by simp[aG.dF,hx,kx hf]) (fun hf=>by simp[aG.val,hx]) (fun ha=>h)
def aT {x y:Src}{fx fy:Bool}{α:Type}{k:Nat}{q:α->D}{xs:List α}{i:Int}{kk:IntKind}(j:Nat)(h:aI Y draw r env (⟨f,.ref k (xs.map q) j 0⟩::rs) nx m K)(hg:GF rs g f:=by exact dz)(hx:cN env rs x=⟨fx,.sl k (xs.map q)⟩:=by exact rfl)(hy:cN env rs y=⟨fy,.int kk i⟩:=by exact rfl)(kx:f=true->fx=true:=by exact cF)(ky:f=true->fy=true:=by exact cF)(hj:f=true->i=(j:Int):=by exact wq)(hb:f=true->j<xs.length:=by exact wu):aI Y draw (⟨.ia k x y,g⟩::r) env rs nx m K:=
 cq rfl hg _ (fun hf=>by simp only[aG.dF,hx,hy,aK];exact⟨kx hf,ky hf,trivial,by have:=hj hf;omega,by have:=hj hf;have:=hb hf;omega⟩) (fun hf=>by simp only[aG.val,hx,hy];rw[hj hf];rfl) (fun ha=>h)
def gE {x y:Src}{fx fy:Bool}{l k i0 n:Nat}{i:Int}{kk:IntKind}(j:Nat)(h:aI Y draw r env (⟨f,.ptr l k (i0+j) 0⟩::rs) nx m K)(hg:GF rs g f:=by exact dz)(hx:cN env rs x=⟨fx,.own l k i0 n⟩:=by exact rfl)(hy:cN env rs y=⟨fy,.int kk i⟩:=by exact rfl)(kx:f=true->fx=true:=by exact cF)(ky:f=true->fy=true:=by exact cF)(hj:f=true->i=(j:Int):=by exact wq)(hb:f=true->j<n:=by exact wu):aI Y draw (⟨.ia k x y,g⟩::r) env rs nx m K:=
 cq rfl hg _ (fun hf=>by simp only[aG.dF,hx,hy];exact⟨kx hf,ky hf,trivial,by have:=hj hf;omega,by have:=hj hf;have:=hb hf;omega⟩) (fun hf=>by simp only[aG.val,hx,hy];rw[hj hf];rfl) (fun ha=>h)
def Je {x y:Src}{fx fy:Bool}{s:List UInt8}{i:Int}{kk:IntKind}(j:Nat)(h:aI Y draw r env (⟨f,.int .u8 (at8 s j)⟩::rs) nx m K)(hg:GF rs g f:=by exact dz)(hx:cN env rs x=⟨fx,.str s⟩:=by exact rfl)(hy:cN env rs y=⟨fy,.int kk i⟩:=by exact rfl)(kx:f=true->fx=true:=by exact cF)(ky:f=true->fy=true:=by exact cF)(hj:f=true->i=(j:Int):=by exact wq)(hb:f=true->j<s.length:=by exact wu):aI Y draw (⟨.ixS x y,g⟩::r) env rs nx m K:=
 cq rfl hg _ (fun hf=>by simp only[aG.dF,hx,hy];exact⟨kx hf,ky hf,by have:=hj hf;omega,by have:=hj hf;have:=hb hf;omega⟩) (fun hf=>by simp only[aG.val,hx,hy];rw[hj hf];rfl) (fun ha=>h)
def Jd {x y:Src}{fx fy:Bool}{α:Type}{k:Nat}{q:α->D}{xs:List α}{i:Int}{kk:IntKind}(h:aI Y draw r env (⟨f,.ref k (xs.map q) i.toNat 0⟩::rs) nx m K)(hg:GF rs g f:=by exact dz)(hx:cN env rs x=⟨fx,.sl k (xs.map q)⟩:=by exact rfl)(hy:cN env rs y=⟨fy,.int kk i⟩:=by exact rfl)(kx:f=true->fx=true:=by exact cF)(ky:f=true->fy=true:=by exact cF)(hb:f=true->0<=i/\i<(xs.length:Nat):=by exact Bk):aI Y draw (⟨.ia k x y,g⟩::r) env rs nx m K:=
 cq rfl hg _ (fun hf=>by simp only[aG.dF,hx,hy,aK];exact⟨kx hf,ky hf,trivial,(hb hf).1,(hb hf).2⟩) (fun hf=>by simp only[aG.val,hx,hy]<;>rfl) (fun ha=>h)
def OJ {x y:Src}{fx fy:Bool}{l k i0 n:Nat}{i:Int}{kk:IntKind}(h:aI Y draw r env (⟨f,.ptr l k (i0+i.toNat) 0⟩::rs) nx m K)(hg:GF rs g f:=by exact dz)(hx:cN env rs x=⟨fx,.own l k i0 n⟩:=by exact rfl)(hy:cN env rs y=⟨fy,.int kk i⟩:=by exact rfl)(kx:f=true->fx=true:=by exact cF)(ky:f=true->fy=true:=by exact cF)(hb:f=true->0<=i/\i<(n:Nat):=by exact Bk):aI Y draw (⟨.ia k x y,g⟩::r) env rs nx m K:=
 cq rfl hg _ (fun hf=>by simp only[aG.dF,hx,hy,aK];exact⟨kx hf,ky hf,trivial,(hb hf).1,(hb hf).2⟩) (fun hf=>by simp only[aG.val,hx,hy]<;>rfl) (fun ha=>h)
def OK {x y:Src}{fx fy:Bool}{s:List UInt8}{i:Int}{kk:IntKind}(h:aI Y draw r env (⟨f,.int .u8 (at8 s i.toNat)⟩::rs) nx m K)(hg:GF rs g f:=by exact dz)(hx:cN env rs x=⟨fx,.str s⟩:=by exact rfl)(hy:cN env rs y=⟨fy,.int kk i⟩:=by exact rfl)(kx:f=true->fx=true:=by exact cF)(ky:f=true->fy=true:=by exact cF)(hb:f=true->0<=i/\i<(s.length:Nat):=by exact Bk):aI Y draw (⟨.ixS x y,g⟩::r) env rs nx m K:=
 cq rfl hg _ (fun hf=>by simp only[aG.dF,hx,hy,aK];exact⟨kx hf,ky hf,(hb hf).1,(hb hf).2⟩) (fun hf=>by simp only[aG.val,hx,hy]<;>rfl) (fun ha=>h)
def AB {x y:Src}{fx fy:Bool}{s:List UInt8}{k2:IntKind}{a:Int}(i:Nat)(h:aI Y draw r env (⟨f,.str (s.drop i)⟩::rs) nx m K)(hg:GF rs g f:=by exact dz)(hx:cN env rs x=⟨fx,.str s⟩:=by exact rfl)(hy:cN env rs y=⟨fy,.int k2 a⟩:=by exact rfl)(kx:f=true->fx=true:=by exact cF)(ky:f=true->fy=true:=by exact cF)(hi:f=true->a=(i:Int):=by exact wq)(hb:f=true->i<=s.length:=by exact wu):aI Y draw (⟨.slS x (some y) none,g⟩::r) env rs nx m K:=
 cq rfl hg _ (fun hf=>by simp only[aG.dF,Hc,dO,hx,hy];have:=hb hf;have:=hi hf;refine⟨kx hf,ky hf,trivial, ?_⟩;simp only[mP,dW,bC,bz,Int.ofNat_eq_natCast];omega) (fun hf=>by simp only[aG.val,dO,dW,hx,hy];rw[hi hf];simp) (fun ha=>h)
def Az {x y:Src}{fx fy:Bool}{α:Type}{k:Nat}{q:α->D}{s:List α}{k2:IntKind}{a:Int}(i:Nat)(h:aI Y draw r env (⟨f,.sl k ((s.drop i).map q)⟩::rs) nx m K)(hg:GF rs g f:=by exact dz)(hx:cN env rs x=⟨fx,.sl k (s.map q)⟩:=by exact rfl)(hy:cN env rs y=⟨fy,.int k2 a⟩:=by exact rfl)(kx:f=true->fx=true:=by exact cF)(ky:f=true->fy=true:=by exact cF)(hi:f=true->a=(i:Int):=by exact wq)(hb:f=true->i<=s.length:=by exact wu):aI Y draw (⟨.slA k x (some y) none,g⟩::r) env rs nx m K:=
 cq rfl hg _ (fun hf=>by simp only[aG.dF,Hc,dO,hx,hy,aK];have:=hb hf;have:=hi hf;refine⟨kx hf,ky hf,trivial,trivial, ?_⟩;simp only[mP,dW,bC,bz,Int.ofNat_eq_natCast];omega) (fun hf=>by simp only[aG.val,dO,dW,hx,hy];rw[hi hf];first|(simp only[List.take_length,Int.toNat_natCast,List.map_drop];done)|simp[List.map_drop,List.map_take]) (fun ha=>h)
def Jm {x z:Src}{fx fz:Bool}{α:Type}{k:Nat}{q:α->D}{s:List α}{k3:IntKind}{c:Int}(j:Nat)(h:aI Y draw r env (⟨f,.sl k ((s.take j).map q)⟩::rs) nx m K)(hg:GF rs g f:=by exact dz)(hx:cN env rs x=⟨fx,.sl k (s.map q)⟩:=by exact rfl)(hz:cN env rs z=⟨fz,.int k3 c⟩:=by exact rfl)(kx:f=true->fx=true:=by exact cF)(kz:f=true->fz=true:=by exact cF)(hj:f=true->c=(j:Int):=by exact wq)(hb:f=true->j<=s.length:=by exact wu):aI Y draw (⟨.slA k x none (some z),g⟩::r) env rs nx m K:=
 cq rfl hg _ (fun hf=>by simp only[aG.dF,Hc,dO,hx,hz,aK];have:=hb hf;have:=hj hf;refine⟨kx hf,trivial,kz hf,trivial, ?_⟩;simp only[mP,dW,bC,bz,Int.ofNat_eq_natCast];omega) (fun hf=>by simp only[aG.val,dO,dW,hx,hz];rw[hj hf];first|(simp only[List.take_length,Int.toNat_natCast,List.map_drop];done)|simp[List.map_drop,List.map_take]) (fun ha=>h)
def Jo {x z:Src}{fx fz:Bool}{l k i0 n:Nat}{k3:IntKind}{c:Int}(j:Nat)(h:aI Y draw r env (⟨f,.own l k i0 j⟩::rs) nx m K)(hg:GF rs g f:=by exact dz)(hx:cN env rs x=⟨fx,.own l k i0 n⟩:=by exact rfl)(hz:cN env rs z=⟨fz,.int k3 c⟩:=by exact rfl)(kx:f=true->fx=true:=by exact cF)(kz:f=true->fz=true:=by exact cF)(hj:f=true->c=(j:Int):=by exact wq)(hb:f=true->j<=n:=by exact wu):aI Y draw (⟨.slA k x none (some z),g⟩::r) env rs nx m K:=
 cq rfl hg _ (fun hf=>by simp only[aG.dF,Hc,dO,hx,hz];have:=hb hf;have:=hj hf;refine⟨kx hf,trivial,kz hf,trivial, ?_⟩;simp only[mP,dW,bC,bz,Int.ofNat_eq_natCast];omega) (fun hf=>by simp only[aG.val,dO,dW,hx,hz];rw[hj hf];simp) (fun ha=>h)
def AA {x y z:Src}{fx fy fz:Bool}{s:List UInt8}{k2:IntKind}{a:Int}(i:Nat){k3:IntKind}{c:Int}(j:Nat)(h:aI Y draw r env (⟨f,.str ((s.take j).drop i)⟩::rs) nx m K)(hg:GF rs g f:=by exact dz)(hx:cN env rs x=⟨fx,.str s⟩:=by exact rfl)(hy:cN env rs y=⟨fy,.int k2 a⟩:=by exact rfl)(hz:cN env rs z=⟨fz,.int k3 c⟩:=by exact rfl)(kx:f=true->fx=true:=by exact cF)(ky:f=true->fy=true:=by exact cF)(kz:f=true->fz=true:=by exact cF)(hi:f=true->a=(i:Int):=by exact wq)(hj:f=true->c=(j:Int):=by exact wq)(hb:f=true->i<=j/\j<=s.length:=by exact Bk):aI Y draw (⟨.slS x (some y) (some z),g⟩::r) env rs nx m K:=
 cq rfl hg _ (fun hf=>by simp only[aG.dF,Hc,dO,hx,hy,hz];have:=hb hf;have:=hi hf;have:=hj hf;refine⟨kx hf,ky hf,kz hf, ?_⟩;simp only[mP,dW,bC,bz,Int.ofNat_eq_natCast];omega) (fun hf=>by simp only[aG.val,dO,dW,hx,hy,hz];rw[hi hf,hj hf];simp) (fun ha=>h)
def Jn {x y z:Src}{fx fy fz:Bool}{α:Type}{k:Nat}{q:α->D}{s:List α}{k2:IntKind}{a:Int}(i:Nat){k3:IntKind}{c:Int}(j:Nat)(h:aI Y draw r env (⟨f,.sl k (((s.take j).drop i).map q)⟩::rs) nx m K)(hg:GF rs g f:=by exact dz)(hx:cN env rs x=⟨fx,.sl k (s.map q)⟩:=by exact rfl)(hy:cN env rs y=⟨fy,.int k2 a⟩:=by exact rfl)(hz:cN env rs z=⟨fz,.int k3 c⟩:=by exact rfl)(kx:f=true->fx=true:=by exact cF)(ky:f=true->fy=true:=by exact cF)(kz:f=true->fz=true:=by exact cF)(hi:f=true->a=(i:Int):=by exact wq)(hj:f=true->c=(j:Int):=by exact wq)(hb:f=true->i<=j/\j<=s.length:=by exact Bk):aI Y draw (⟨.slA k x (some y) (some z),g⟩::r) env rs nx m K:=
 cq rfl hg _ (fun hf=>by simp only[aG.dF,Hc,dO,hx,hy,hz,aK];have:=hb hf;have:=hi hf;have:=hj hf;refine⟨kx hf,ky hf,kz hf,trivial, ?_⟩;simp only[mP,dW,bC,bz,Int.ofNat_eq_natCast];omega) (fun hf=>by simp only[aG.val,dO,dW,hx,hy,hz];rw[hi hf,hj hf];first|(simp only[List.take_length,Int.toNat_natCast,List.map_drop];done)|simp[List.map_drop,List.map_take]) (fun ha=>h)
def gQ {x:Src}{fx:Bool}{i:Nat}{ds:List D}(v:D)(h:aI Y draw r env (⟨f,v⟩::rs) nx m K)(hg:GF rs g f:=by exact dz)(hx:cN env rs x=⟨fx,.tup ds⟩:=by exact rfl)(kx:f=true->fx=true:=by exact cF)(hv:f=true->ds.getD i .any=v:=by exact fun _=>rfl)(hb:f=true->i<ds.length:=by intro _;simp only[bA,bK];omega):aI Y draw (⟨.ext x i,g⟩::r) env rs nx m K:=
 cq rfl hg _ (fun hf=>by simp only[aG.dF,hx];exact⟨kx hf,hb hf⟩) (fun hf=>by simp only[aG.val,hx];exact hv hf) (fun ha=>h)
def dp {z:List D}{ps:List (Nat×Nat×Src)}(v:List D)(h:aI Y draw r env (⟨f,.agg v⟩::rs) nx m K)(hg:GF rs g f:=by exact dz)(hv:f=true->uI (cN env rs) z ps=v:=by exact fun _=>rfl)(ho:f=true->xg (cN env rs) z.length ps:=by exact sD):aI Y draw (⟨.build z ps,g⟩::r) env rs nx m K:=
 cq rfl hg _ (fun hf=>ho hf) (fun hf=>by simp only[aG.val];rw[hv hf]) (fun _=>h)
def bw {z:List D}{ps:List (Nat×Nat×Src)}(d:D)(h:aI Y draw r env (⟨f,d⟩::rs) nx m K)(hg:GF rs g f:=by exact dz)(hv:f=true->D.agg (uI (cN env rs) z ps)=d:=by exact fun _=>rfl)(ho:f=true->xg (cN env rs) z.length ps:=by exact sD):aI Y draw (⟨.build z ps,g⟩::r) env rs nx m K:=
 cq rfl hg _ (fun hf=>ho hf) (fun hf=>by simp only[aG.val];exact hv hf) (fun _=>h)
def Od {e:D}{n o:Nat}{ag:Bool}(h:e.isAgg=ag):nA e n n o ag=e:=by simp[nA,h]
def aX {x:Src}{fx:Bool}{n l:Nat}{ag:Bool}{d:D}(h:aI Y draw r env (⟨f,d⟩::rs) nx m K)(hg:GF rs g f:=by exact dz)(hx:cN env rs x=⟨fx,.ptr l n 0 0⟩:=by exact rfl)(kx:f=true->fx=true:=by exact cF)(hl:f=true->look m l=some (.buf n [d]):=by exact fun _=>rfl)(ha:f=true->d.isAgg=ag:=by exact fun _=>rfl):aI Y draw (⟨.ld n ag x,g⟩::r) env rs nx m K:=
 fO rfl hg _ (fun hf=>by simp only[aG.dF,hx,wO,eg,hl hf];exact⟨kx hf,⟨trivial,bh⟩,ae⟩) (fun hf=>by simp only[aG.val,hx,tS,aW,hl hf,gW];exact Od (ha hf)) m rfl (fun ha=>h)
def ay {x:Src}{fx:Bool}{n l k o:Nat}{ag:Bool}{d:D}(v:D)(h:aI Y draw r env (⟨f,v⟩::rs) nx m K)(hg:GF rs g f:=by exact dz)(hx:cN env rs x=⟨fx,.ptr l k 0 o⟩:=by exact rfl)(kx:f=true->fx=true:=by exact cF)(hl:f=true->look m l=some (.buf k [d]):=by exact fun _=>rfl)(hv:f=true->nA d k n o ag=v:=by exact fun _=>rfl)(ho:o+n<=k:=by omega):aI Y draw (⟨.ld n ag x,g⟩::r) env rs nx m K:=
 fO rfl hg _ (fun hf=>by simp only[aG.dF,hx,wO,eg,hl hf];exact⟨kx hf,⟨trivial,bh⟩,ho⟩) (fun hf=>by simp only[aG.val,hx,tS,aW,hl hf,gW];exact hv hf) m rfl (fun ha=>h)
def jy {x:Src}{fx:Bool}{α:Type} [Inhabited α]{n l k i o:Nat}{ag:Bool}{q:α->D}{xs:List α}(v:D)(h:aI Y draw r env (⟨f,v⟩::rs) nx m K)(hg:GF rs g f:=by exact dz)(hx:cN env rs x=⟨fx,.ptr l k i o⟩:=by exact rfl)(kx:f=true->fx=true:=by exact cF)(hl:f=true->look m l=some (.buf k (xs.map q)):=by exact fun _=>rfl)(hi:f=true->i<xs.length:=by exact wu)(hv:f=true->nA (q xs[i]!) k n o ag=v:=by exact fun _=>rfl)(ho:o+n<=k:=by omega):aI Y draw (⟨.ld n ag x,g⟩::r) env rs nx m K:=
 fO rfl hg _ (fun hf=>by simp only[aG.dF,hx,wO,eg,hl hf,aK];exact⟨kx hf,⟨trivial,by have:=hi hf;omega⟩,ho⟩) (fun hf=>by simp only[aG.val,hx,tS,aW,hl hf];rw[getD_map (hi hf)];exact hv hf) m rfl (fun ha=>h)
def aS {x:Src}{fx:Bool}{α:Type} [Inhabited α]{n k i o:Nat}{ag:Bool}{q:α->D}{xs:List α}(v:D)(h:aI Y draw r env (⟨f,v⟩::rs) nx m K)(hg:GF rs g f:=by exact dz)(hx:cN env rs x=⟨fx,.ref k (xs.map q) i o⟩:=by exact rfl)(kx:f=true->fx=true:=by exact cF)(hi:f=true->i<xs.length:=by exact wu)(hv:f=true->nA (q xs[i]!) k n o ag=v:=by exact fun _=>rfl)(ho:o+n<=k:=by omega):aI Y draw (⟨.ld n ag x,g⟩::r) env rs nx m K:=
 fO rfl hg _ (fun hf=>by simp only[aG.dF,hx,wO,aK];exact⟨kx hf,hi hf,ho⟩) (fun hf=>by simp only[aG.val,hx,tS];rw[getD_map (hi hf)];exact hv hf) m rfl (fun ha=>h)
def fP {x:Src}{fx:Bool}{n k i o:Nat}{ag:Bool}{es:List D}(v:D)(h:aI Y draw r env (⟨f,v⟩::rs) nx m K)(hg:GF rs g f:=by exact dz)(hx:cN env rs x=⟨fx,.ref k es i o⟩:=by exact rfl)(kx:f=true->fx=true:=by exact cF)(hi:f=true->i<es.length:=by intro _;simp only[bA,bK];omega)(hv:f=true->nA (es.getD i .any) k n o ag=v:=by exact fun _=>rfl)(ho:o+n<=k:=by omega):aI Y draw (⟨.ld n ag x,g⟩::r) env rs nx m K:=
 fO rfl hg _ (fun hf=>by simp only[aG.dF,hx,wO];exact⟨kx hf,hi hf,ho⟩) (fun hf=>by simp only[aG.val,hx,tS];exact hv hf) m rfl (fun ha=>h)
def R3 {x:Src}{fx:Bool}{k:Nat}{d:D}{L:Nat}{m2:List (Nat×bM)}(h:aI Y draw r env (⟨f,.ptr L k 0 0⟩::rs) nx m2 K)(hg:GF rs g f:=by exact dz)(hx:cN env rs x=⟨fx,d⟩:=by exact rfl)(kx:f=true->fx=true:=by exact cF)(hc:d.cells.length=k:=by exact rfl)(hL:nx+rs.length=L:=by exact tF)(hm:cS m L (.buf k [d])=m2:=by simp only[cS,ct,Nat.reduceEqDiff,aN,aL,Nat.reduceAdd,reduceCtorEq];exact rfl):aI Y draw (⟨.box k x,g⟩::r) env rs nx m K:=
 fO rfl hg _ (fun hf=>by simp only[aG.dF,hx];exact⟨kx hf,hc⟩) (fun hf=>by simp only[aG.val,hx,hL]) _ (by simp only[aG.cC,hx,hL];exact hm) (fun _=>h)
def R6 {L:Nat}{m2:List (Nat×bM)}(h:aI Y draw r env (⟨f,.ptr L 2 0 0⟩::rs) nx m2 K)(hg:GF rs g f:=by exact dz)(hL:nx+rs.length=L:=by exact tF)(hm:cS m L (.bld none 0 false)=m2:=by simp only[cS,ct,Nat.reduceEqDiff,aN,aL,Nat.reduceAdd,reduceCtorEq];exact rfl):aI Y draw (⟨.mkB,g⟩::r) env rs nx m K:=
 fO rfl hg _ (fun _=>trivial) (fun hf=>by simp only[aG.val,hL]) _ (by simp only[aG.cC,hL];exact hm) (fun _=>h)
def Sd {x:Src}{fx:Bool}{s:List UInt8}{L:Nat}{m2:List (Nat×bM)}(h:aI Y draw r env (⟨f,.own L 1 0 s.length⟩::rs) nx m2 K)(hg:GF rs g f:=by exact dz)(hx:cN env rs x=⟨fx,.str s⟩:=by exact rfl)(kx:f=true->fx=true:=by exact cF)(hL:nx+rs.length=L:=by exact tF)(hm:cS m L (.buf 1 (s.map fun b=>.int .u8 b.toNat))=m2:=by simp only[cS,ct,Nat.reduceEqDiff,aN,aL,Nat.reduceAdd,reduceCtorEq];exact rfl):aI Y draw (⟨.s2b x,g⟩::r) env rs nx m K:=
 fO rfl hg _ (fun hf=>by simp only[aG.dF,hx];exact⟨kx hf,trivial⟩) (fun hf=>by simp only[aG.val,hx,hL]) _ (by simp only[aG.cC,hx,hL];exact hm) (fun _=>h)
def Sc {x:Src}{fx:Bool}{s:List UInt8}{L:Nat}{m2:List (Nat×bM)}(h:aI Y draw r env (⟨f,.it L⟩::rs) nx m2 K)(hg:GF rs g f:=by exact dz)(hx:cN env rs x=⟨fx,.str s⟩:=by exact rfl)(kx:f=true->fx=true:=by exact cF)(hL:nx+rs.length=L:=by exact tF)(hm:cS m L (.iter s 0)=m2:=by simp only[cS,ct,Nat.reduceEqDiff,aN,aL,Nat.reduceAdd,reduceCtorEq];exact rfl):aI Y draw (⟨.rng x,g⟩::r) env rs nx m K:=
 fO rfl hg _ (fun hf=>by simp only[aG.dF,hx];exact⟨kx hf,trivial⟩) (fun hf=>by simp only[aG.val,hx,hL]) _ (by simp only[aG.cC,hx,hL];exact hm) (fun _=>h)
def cO {k n:Nat}{z:D}{ps:List (Nat×Src)}{L:Nat}{m2:List (Nat×bM)}(es:List D)(h:aI Y draw r env (⟨f,.own L k 0 n⟩::rs) nx m2 K)(hg:GF rs g f:=by exact dz)(he:jZ (cN env rs) (List.replicate n z) ps=es:=by exact rfl)(ho:f=true->n7 (cN env rs) k n ps:=by exact sD)(hz:z.cells.length=k:=by exact rfl)(hL:nx+rs.length=L:=by exact tF)(hm:cS m L (.buf k es)=m2:=by simp only[cS,ct,Nat.reduceEqDiff,aN,aL,Nat.reduceAdd,reduceCtorEq];exact rfl):aI Y draw (⟨.bsl k z n ps,g⟩::r) env rs nx m K:=
 fO rfl hg _ (fun hf=>⟨hz,ho hf⟩) (fun hf=>by simp only[aG.val,hL]) _ (by simp only[aG.cC,he,hL];exact hm) (fun _=>h)
def dm {n l k o:Nat}{x y:Src}{d v:D}{m2:List (Nat×bM)}(e:D)(h:aI Y draw r env (⟨true,.any⟩::rs) nx m2 K)(hx:cN env rs x=⟨true,.ptr l k 0 o⟩:=by exact rfl)(hy:cN env rs y=⟨true,v⟩:=by exact rfl)(hl:look m l=some (.buf k [d]):=by exact rfl)(hc:v.cells.length=n:=by exact rfl)(he:vW d k n o v=e:=by exact rfl)(ho:o+n<=k:=by omega)(hm:cS m l (.buf k [e])=m2:=by simp only[cS,ct,Nat.reduceEqDiff,aN,aL,Nat.reduceAdd,reduceCtorEq];exact rfl):aI Y draw (⟨.st n x y,none⟩::r) env rs nx m K:=
 qh rfl _ (by simp only[aG.dF,hx,hy,eg,hl];exact⟨trivial,trivial,hc,⟨trivial,bh⟩,ho⟩) rfl _ (by simp only[aG.cC,hx,hy,aW,hl,gW,List.set_cons_zero,he];exact hm) (fun _=>h)
def nr {n l k i o:Nat}{x y:Src}{v:D}{es:List D}{m2:List (Nat×bM)}(es2:List D)(h:aI Y draw r env (⟨true,.any⟩::rs) nx m2 K)(hx:cN env rs x=⟨true,.ptr l k i o⟩:=by exact rfl)(hy:cN env rs y=⟨true,v⟩:=by exact rfl)(hl:look m l=some (.buf k es):=by exact rfl)(hi:i<es.length)(hc:v.cells.length=n:=by exact rfl)(he:es.set i (vW (es.getD i .any) k n o v)=es2)(ho:o+n<=k:=by omega)(hm:cS m l (.buf k es2)=m2:=by simp only[cS,ct,Nat.reduceEqDiff,aN,aL,Nat.reduceAdd,reduceCtorEq];exact rfl):aI Y draw (⟨.st n x y,none⟩::r) env rs nx m K:=
 qh rfl _ (by simp only[aG.dF,hx,hy,eg,hl];exact⟨trivial,trivial,hc,⟨trivial,ae⟩,ho⟩) rfl _ (by simp only[aG.cC,hx,hy,aW,hl,he];exact hm) (fun _=>h)
def qt (m:List (Nat×bM))(k:Nat)(d:D)(ys:List D):Prop:=yq m k d/\nw m d=ys
def qt.sl {k:Nat}{es:List D}:qt m k (.sl k es) es:=⟨rfl,rfl⟩
def qt.aB {k:Nat}:qt m k .aB []:=⟨trivial,rfl⟩
def qt.own {l k i n:Nat}{es:List D}(hl:look m l=some (.buf k es))(hb:i+n<=es.length):qt m k (.own l k i n) ((es.drop i).take n):=⟨⟨rfl,by simp only[eg,hl];exact⟨trivial,hb⟩⟩,by simp only[nw,aW,hl]⟩
def qt.all {l k n:Nat}{es:List D}(hl:look m l=some (.buf k es))(hb:n=es.length):qt m k (.own l k 0 n) es:=by
 have:=qt.own (i:=0) (n:=n) hl ae;simpa[hb]using this
def qt.str {s:List UInt8}:qt m 1 (.str s) (s.map fun b=>.int .u8 b.toNat):=⟨rfl,rfl⟩
def yO {k n:Nat}{x y:Src}{d:D}{ys:List D}{L:Nat}{m2:List (Nat×bM)}(h:aI Y draw r env (⟨true,.own L k 0 n⟩::rs) nx m2 K)(hx:cN env rs x=⟨true,.aB⟩:=by exact rfl)(hy:cN env rs y=⟨true,d⟩:=by exact rfl)(he:qt m k d ys)(hn:ys.length=n)(hb:n<=1073741824:=by omega)(hL:nx+rs.length=L:=by exact tF)(hm:cS m L (.buf k ys)=m2:=by simp only[cS,ct,Nat.reduceEqDiff,aN,aL,Nat.reduceAdd,reduceCtorEq];exact rfl):aI Y draw (⟨.app k x y,none⟩::r) env rs nx m K:=
 qh rfl _ (by simp only[aG.dF,hx,hy,he.2,hn];exact⟨trivial,trivial,he.1,hb⟩) (by simp only[aG.val,hx,hy,he.2,hn,hL]) _ (by simp only[aG.cC,hx,hy,he.2,hL];exact hm) (fun _=>h)
def LD {k n:Nat}{y:Src}{fy:Bool}{d:D}{ys:List D}{L:Nat}{m2:List (Nat×bM)}(h:aI Y draw r env (⟨f,.own L k 0 n⟩::rs) nx m2 K)(hg:GF rs g f:=by exact dz)(hy:cN env rs y=⟨fy,d⟩:=by exact rfl)(ky:f=true->fy=true:=by exact cF)(he:qt m k d ys)(hn:ys.length=n)(hb:n<=1073741824:=by omega)(hL:nx+rs.length=L:=by exact tF)(hm:cS m L (.buf k ys)=m2:=by simp only[cS,ct,Nat.reduceEqDiff,aN,aL,Nat.reduceAdd,reduceCtorEq];exact rfl):aI Y draw (⟨.appN k y,g⟩::r) env rs nx m K:=
 fO rfl hg _ (fun hf=>by simp only[aG.dF,hy,he.2,hn];exact⟨ky hf,he.1,hb⟩) (fun hf=>by simp only[aG.val,hy,he.2,hn,hL]) _ (by simp only[aG.cC,hy,he.2,hL];exact hm) (fun _=>h)
def vM {k l i a n:Nat}{x y:Src}{d:D}{xs ys:List D}{L:Nat}{m2:List (Nat×bM)}(zs:List D)(h:aI Y draw r env (⟨true,.own L k 0 n⟩::rs) nx m2 K)(hx:cN env rs x=⟨true,.own l k i a⟩:=by exact rfl)(hy:cN env rs y=⟨true,d⟩:=by exact rfl)(hl:look m l=some (.buf k xs):=by exact rfl)(ha:i+a<=xs.length)(he:qt m k d ys)(hz:(xs.drop i).take a++ys=zs)(hn:a+ys.length=n)(hb:n<=1073741824:=by omega)(hL:nx+rs.length=L:=by exact tF)(hm:cS (ct m l) L (.buf k zs)=m2:=by simp only[cS,ct,Nat.reduceEqDiff,aN,aL,Nat.reduceAdd,reduceCtorEq];exact rfl):aI Y draw (⟨.app k x y,none⟩::r) env rs nx m K:=
 qh rfl _ (by simp only[aG.dF,hx,hy,he.2,eg,hl,hn];exact⟨trivial,trivial,he.1,trivial,⟨trivial,ha⟩,hb⟩) (by simp only[aG.val,hx,hy,he.2,hn,hL]) _ (by simp only[aG.cC,hx,hy,he.2,aW,hl,hz,hL];exact hm) (fun _=>h)
def dY {α:Type}{q:α->D}{xs:List α}{e:α}{k l ly:Nat}{x y:Src}{L:Nat}{m2:List (Nat×bM)}(h:aI Y draw r env (⟨true,.own L k 0 (xs++[e]).length⟩::rs) nx m2 K)(hx:cN env rs x=⟨true,.own l k 0 xs.length⟩:=by exact rfl)(hy:cN env rs y=⟨true,.own ly k 0 1⟩:=by exact rfl)(hl:look m l=some (.buf k (xs.map q)):=by exact rfl)(he:look m ly=some (.buf k [q e]):=by exact rfl)(hb:xs.length+1<=1073741824:=by omega)(hL:nx+rs.length=L:=by exact tF)(hm:cS (ct m l) L (.buf k ((xs++[e]).map q))=m2:=by simp only[cS,ct,Nat.reduceEqDiff,aN,aL,Nat.reduceAdd,reduceCtorEq];exact rfl):aI Y draw (⟨.app k x y,none⟩::r) env rs nx m K:=
 vM (zs:=(xs++[e]).map q) (hx:=hx) (hy:=hy) (hl:=hl) (ha:=bh) (he:=qt.all (es:=[q e]) he rfl) (hz:=by rw[bl,iq bh];simp) (hn:=bh) (hb:=eo) (hL:=hL) (hm:=hm) (h:=h)
def yP {α:Type}{q:α->D}{xs ys:List α}{k l:Nat}{x y:Src}{d:D}{L:Nat}{m2:List (Nat×bM)}(h:aI Y draw r env (⟨true,.own L k 0 (xs++ys).length⟩::rs) nx m2 K)(hx:cN env rs x=⟨true,.own l k 0 xs.length⟩:=by exact rfl)(hy:cN env rs y=⟨true,d⟩:=by exact rfl)(hl:look m l=some (.buf k (xs.map q)):=by exact rfl)(he:qt m k d (ys.map q))(hb:xs.length+ys.length<=1073741824:=by omega)(hL:nx+rs.length=L:=by exact tF)(hm:cS (ct m l) L (.buf k ((xs++ys).map q))=m2:=by simp only[cS,ct,Nat.reduceEqDiff,aN,aL,Nat.reduceAdd,reduceCtorEq];exact rfl):aI Y draw (⟨.app k x y,none⟩::r) env rs nx m K:=
 vM (zs:=(xs++ys).map q) (hx:=hx) (hy:=hy) (hl:=hl) (ha:=bh) (he:=he) (hz:=by rw[bl,iq bh];simp) (hn:=bh) (hb:=eo) (hL:=hL) (hm:=hm) (h:=h)
def Jl {x:Src}{l pos:Nat}{s:List UInt8}{m2:List (Nat×bM)}(c w:Nat)(h:aI Y draw r env (⟨true,.tup [.bool true,.int .i64 pos,.int .i32 c]⟩::rs) nx m2 K)(hx:cN env rs x=⟨true,.it l⟩:=by exact rfl)(hl:look m l=some (.iter s pos):=by exact rfl)(hp:pos<s.length)(hc:rH s pos=(c,w))(hm:cS m l (.iter s (pos+w))=m2:=by simp only[cS,ct,Nat.reduceEqDiff,aN,aL,Nat.reduceAdd,reduceCtorEq];exact rfl):aI Y draw (⟨.bH x,none⟩::r) env rs nx m K:=
 qh rfl _ (by simp only[aG.dF,hx,hl];exact⟨trivial,trivial⟩) (by simp only[aG.val,hx,hl,hc,hp,decide_true,cond_true]) _ (by simp only[aG.cC,hx,hl,hc,hp,decide_true,cond_true];exact hm) (fun _=>h)
def Jk {x:Src}{l pos:Nat}{s:List UInt8}(h:aI Y draw r env (⟨true,.tup [.bool false]⟩::rs) nx m K)(hx:cN env rs x=⟨true,.it l⟩:=by exact rfl)(hl:look m l=some (.iter s pos):=by exact rfl)(hp:¬pos<s.length):aI Y draw (⟨.bH x,none⟩::r) env rs nx m K:=
 qh rfl _ (by simp only[aG.dF,hx,hl];exact⟨trivial,trivial⟩) (by simp only[aG.val,hx,hl,hp,decide_false,cond_false]) _ (by simp only[aG.cC,hx,hl,hp,decide_false,cond_false]) (fun _=>h)
def aq {n:Nat}{args:List Src}{sh:List (List Sh)}{Z5:List D}{v:D}(h:aI Y draw r env (⟨f,v⟩::rs) nx m K)(hg:GF rs g f:=by exact dz)(hc:Y.pre n Z5/\Y.val n Z5=v)(ha:f=true->jL m sh (gL (cN env rs) args)=Z5:=by exact fun _=>rfl)(ho:f=true->sU (cN env rs) args:=by exact sD)(hp:f=true->jm m sh (gL (cN env rs) args):=by exact sD)(hk:f=true->nY (gL (cN env rs) args) v=true:=by exact fun _=>rfl):aI Y draw (⟨.call n args sh,g⟩::r) env rs nx m K:=
 fO rfl hg _ (fun hf=>by simp only[aG.dF,(dc _ _ _).1,ha hf,hc.2];exact⟨ho hf,(dc _ _ _).2.2 (hp hf),hc.1,hk hf⟩) (fun hf=>by simp only[aG.val,(dc _ _ _).1,ha hf,hc.2]) m rfl (fun _=>h)
def bF {n:Nat}{args:List Src}{sh:List (List Sh)}{Z5:List D}{v:D}(h:aI Y draw r env (⟨f,v⟩::rs) nx m K)(hg:GF rs g f:=by exact dz)(hc:f=true->Y.pre n Z5/\Y.val n Z5=v)(ha:f=true->jL m sh (gL (cN env rs) args)=Z5:=by exact fun _=>rfl)(ho:f=true->sU (cN env rs) args:=by exact sD)(hp:f=true->jm m sh (gL (cN env rs) args):=by exact sD)(hk:f=true->nY (gL (cN env rs) args) v=true:=by exact fun _=>rfl):aI Y draw (⟨.call n args sh,g⟩::r) env rs nx m K:=
 fO rfl hg _ (fun hf=>by simp only[aG.dF,(dc _ _ _).1,ha hf,(hc hf).2];exact⟨ho hf,(dc _ _ _).2.2 (hp hf),(hc hf).1,hk hf⟩) (fun hf=>by simp only[aG.val,(dc _ _ _).1,ha hf,(hc hf).2]) m rfl (fun _=>h)
def tX {n:Nat}{x:Src}{fx:Bool}{caps:List D}{args:List Src}{sh:List (List Sh)}{Z5:List D}{v:D}(h:aI Y draw r env (⟨f,v⟩::rs) nx m K)(hg:GF rs g f:=by exact dz)(hx:cN env rs x=⟨fx,.fn n caps⟩:=by exact rfl)(kx:f=true->fx=true:=by exact cF)(hb:n<1000000:=by decide)(hc:f=true->Y.pre n Z5/\Y.val n Z5=v)(ha:f=true->jL m sh (gL (cN env rs) args++caps)=Z5:=by exact fun _=>rfl)(ho:f=true->sU (cN env rs) args:=by exact sD)(hp:f=true->jm m sh (gL (cN env rs) args++caps):=by exact sD)(hk:f=true->nY (gL (cN env rs) args++caps) v=true:=by exact fun _=>rfl):aI Y draw (⟨.callv x args sh,g⟩::r) env rs nx m K:=
 fO rfl hg _ (fun hf=>by simp only[aG.dF,hx,(dc _ _ _).1,ha hf,(hc hf).2];exact⟨kx hf,ho hf,hb,(dc _ _ _).2.2 (hp hf),(hc hf).1,hk hf⟩) (fun hf=>by simp only[aG.val,hx,(dc _ _ _).1,ha hf,(hc hf).2]) m rfl (fun _=>h)
def DW {n:Nat}{caps:List Src}(cs:List D)(h:aI Y draw r env (⟨f,.fn n cs⟩::rs) nx m K)(hg:GF rs g f:=by exact dz)(hc:f=true->gL (cN env rs) caps=cs:=by exact fun _=>rfl)(ho:f=true->sU (cN env rs) caps:=by exact sD):aI Y draw (⟨.mkf n caps,g⟩::r) env rs nx m K:=
 cq rfl hg _ (fun hf=>ho hf) (fun hf=>by simp only[aG.val,hc hf]) (fun _=>h)
def jU {n l k:Nat}{x:Src}{args:List Src}{sh:List (List Sh)}{d v e:D}{Z5:List D}{m2:List (Nat×bM)}(h:aI Y draw r env (⟨true,v⟩::rs) nx m2 K)(hx:cN env rs x=⟨true,.ptr l k 0 0⟩:=by exact rfl)(hl:look m l=some (.buf k [d]):=by exact rfl)(hd:d.bc=true:=by exact rfl)(hc:Y.fp n d Z5/\Y.fv n d Z5=v/\Y.fs n d Z5=e)(ha:jL [] sh (gL (cN env rs) args)=Z5:=by exact rfl)(ho:sU (cN env rs) args:=by repeat' first|exact trivial|exact rfl|refine And.intro ?_ ?_|decide)(hn:aV (gL (cN env rs) args)=true:=by exact rfl)(hm:cS m l (.buf k [e])=m2:=by simp only[cS,ct,Nat.reduceEqDiff,aN,aL,Nat.reduceAdd,reduceCtorEq];exact rfl):aI Y draw (⟨.callF n x args sh,none⟩::r) env rs nx m K:=
 qh rfl _ (by simp only[aG.dF,hx,eg,aW,hl,gW,(dc _ _ _).1,ha];exact⟨trivial,ho,hn,trivial,trivial,⟨trivial,bh⟩,bh,hd,hc.1⟩) (by simp only[aG.val,hx,aW,hl,gW,(dc _ _ _).1,ha,hc.2.1]) _ (by simp only[aG.cC,hx,aW,hl,gW,(dc _ _ _).1,ha,hc.2.2];exact hm) (fun _=>h)
end
end
end Go.Abs
section
namespace Go.Abs
abbrev dy:=List UInt8
structure bd where
 major:Int
 minor:Int
 patch:Int
 pre:dy
 build:dy
 deriving Inhabited,DecidableEq
def bd.D (v:bd):D:=.agg [.int .i64 v.major,.int .i64 v.minor,.int .i64 v.patch,.str v.pre,.str v.build]
structure rv where
 name:dy
 v:bd
 shelf:dy
 sum:Int
 feats:List dy
 deriving Inhabited,DecidableEq
def rv.D (x:rv):D:=.agg [.str x.name,.int .i64 x.v.major,.int .i64 x.v.minor,.int .i64 x.v.patch,.str x.v.pre,.str x.v.build,.str x.shelf,.int .u64 x.sum,.sl 1 (x.feats.map D.str)]
structure Env where
 e0:dy
 e1:dy
 e2:dy
 deriving Inhabited,DecidableEq
def Env.D (e:Env):D:=.agg [.str e.e0,.str e.e1,.str e.e2]
structure zi where
 env:Env
 lines:List rv
 deriving Inhabited,DecidableEq
def zi.D (l:zi):D:=.agg [.str l.env.e0,.str l.env.e1,.str l.env.e2,.sl 9 (l.lines.map rv.D)]
end Go.Abs
namespace Go.Abs
theorem yr (a b:List UInt8):N4 (.str a) (.str b)=decide (a=b):=mN a b
theorem tP (k k2:IntKind)(a b:Int):N4 (.int k a) (.int k2 b)=decide (a=b):=rfl
def bd.eq (a b:bd):ij (bd.D a).cells (bd.D b).cells=decide (a=b):=by
 obtain⟨a1,a2,a3,a4,a5⟩:=a;obtain⟨b1,b2,b3,b4,b5⟩:=b
 grind [bd.D,D.cells,ij,yr,tP]
def Env.eq (a b:Env):ij (Env.D a).cells (Env.D b).cells=decide (a=b):=by
 obtain⟨a1,a2,a3⟩:=a;obtain⟨b1,b2,b3⟩:=b
 grind [Env.D,D.cells,ij,yr,tP]
theorem bd.inj {a b:bd}(h:bd.D a=bd.D b):a=b:=by
 obtain⟨a1,a2,a3,a4,a5⟩:=a;obtain⟨b1,b2,b3,b4,b5⟩:=b
 grind [bd.D]
theorem Env.inj {a b:Env}(h:Env.D a=Env.D b):a=b:=by
 obtain⟨a1,a2,a3⟩:=a;obtain⟨b1,b2,b3⟩:=b
 grind [Env.D]
theorem map_inj {α:Type}{q:α->D}(hq:∀a b,q a=q b->a=b):∀{xs ys:List α},xs.map q=ys.map q->xs=ys
 |[],[],_=>rfl
 |[],_::_,h=>by simp at h
 |_::_,[],h=>by simp at h
 |a::r,b::s,h=>by
  simp only[List.map_cons,sE]at h;rw[hq a b h.1,map_inj hq h.2]
theorem str_inj (a b:List UInt8)(h:D.str a=D.str b):a=b:=by simpa using h
theorem rv.inj {a b:rv}(h:rv.D a=rv.D b):a=b:=by
 obtain⟨a1,⟨v1,v2,v3,v4,v5⟩,a2,a3,a4⟩:=a;obtain⟨b1,⟨w1,w2,w3,w4,w5⟩,b2,b3,b4⟩:=b
 grind [rv.D,map_inj,str_inj]
theorem zi.inj {a b:zi}(h:zi.D a=zi.D b):a=b:=by
 obtain⟨⟨a1,a2,a3⟩,a4⟩:=a;obtain⟨⟨b1,b2,b3⟩,b4⟩:=b
 grind [zi.D,map_inj,rv.inj]
end Go.Abs
end
section
namespace Go.Abs
def allI (p:Nat->Bool):Nat->Nat->Bool
 |_,0=>true
 |i,k+1=>p i&&allI p (i+1) k
def dj (p:Nat->Bool)(i n:Nat):Bool:=allI p i (n-i)
def bJ {p:Nat->Bool}{i n:Nat}(h:i<n):dj p i n=(p i&&dj p (i+1) n):=by
 unfold dj;rw[show n-i=(n-(i+1))+1 by omega];rfl
def dC {p:Nat->Bool}{i n:Nat}(h:n<=i):dj p i n=true:=by
 unfold dj;rw[show n-i=0 by omega];rfl
theorem zz {p:Nat->Bool}:∀{k i:Nat},allI p i k=true↔∀j,i<=j->j<i+k->p j=true
 |0,i=>by simp[allI];intro j h1 h2;omega
 |k+1,i=>by
  simp only[allI,bm,zz (k:=k)]
  grind
def cA {p:Nat->Bool}{i n:Nat}:dj p i n=true↔∀j,i<=j->j<n->p j=true:=by
 grind [dj,zz]
end Go.Abs
namespace Go.Abs
def ef {a a' b b':D}(h1:a=a')(h2:b=b'):D.tup [a,b]=D.tup [a',b']:=by rw[h1,h2]
end Go.Abs
namespace Go.Abs
end Go.Abs
namespace Go.Abs
def zL (s:dy)(pos:Nat)(h:pos<s.length):∃c w,rH s pos=(c,w)/\1<=w/\((w=1/\(c:Int)=at8 s pos/\c<128)\/(128<=c/\128<=at8 s pos)):=by
 refine⟨(rH s pos).1,(rH s pos).2,rfl, ?_⟩;have e:rH s pos=Lib.decodeN (s.length-pos) (s.getD pos 0).toNat (s.getD (pos+1) 0).toNat (s.getD (pos+2) 0).toNat (s.getD (pos+3) 0).toNat:=Lib.decode_N ⟨⟨s⟩⟩ pos;rw[e];unfold at8;generalize (s.getD pos 0).toNat=b0;generalize (s.getD (pos+1) 0).toNat=b1;generalize (s.getD (pos+2) 0).toNat=b2;generalize (s.getD (pos+3) 0).toNat=b3;generalize s.length-pos=n;by_cases hb:b0<128
 .unfold Lib.decodeN;rw[aw hb];exact⟨aE _,.inl ⟨rfl,rfl,hb⟩⟩
 .unfold Lib.decodeN
  grind
end Go.Abs
namespace Go.Abs
def Ed {α:Type}{q:α->D}{xs:List α}{m:List (Nat×bM)}{l:Nat}(hq:∀x,xV m [.a] (q x)=q x)(hl:look m l=some (.buf 1 (xs.map q))):xV m [.sl 1 [.a]] (.own l 1 0 xs.length)=.sl 1 (xs.map q):=by
 show D.sl 1 _=_;simp only[aW,hl,bl,az,List.map_map];congr 1;apply List.map_congr_left;intro x _;have:=hq x;simp only[Function.comp];generalize q x=d at this;cases d<;>exact this
def Bi {α:Type}{q:α->D}{xs:List α}{m:List (Nat×bM)}{l:Nat}(hq:∀x,Hf m [.a] (q x))(hl:look m l=some (.buf 1 (xs.map q))):Hf m [.sl 1 [.a]] (.own l 1 0 xs.length):=by
 grind [Hf,Mh,Kk,eg,aW,az]
end Go.Abs
end
namespace Go.Abs
def Ca (c:Int):Bool:=decide (97<=c)&&decide (c<=122)
def di (c:Int):Bool:=decide (48<=c)&&decide (c<=57)
def eh (s:dy):Nat:=s.foldl (fun n b=>n*10+(b.toNat-48)) 0
def ku (s:dy):Bool:=decide (1<=s.length)&&decide (s.length<=9)&& !(decide (1<s.length)&&decide (at8 s 0=48))&&dj (fun i=>di (at8 s i)) 0 s.length&&decide (eh s<=9999)
def tu (s:dy):Int:=if ku s=true then(eh s:Int)else 0
def rj (s:dy)(i:Nat)(h:i<s.length):s.take (i+1)=s.take i++[s.getD i 0]:=by
 rw[List.take_succ];simp[h]
def sT (s:dy)(i:Nat)(h:i<s.length):eh (s.take (i+1))=eh (s.take i)*10+((at8 s i).toNat-48):=by
 rw[rj s i h];simp[eh,List.foldl_append,at8]
def Gn (s:dy):eh s+23<=23*10^s.length:=by
 have:∀(s:dy) (n k:Nat),n+23<=23*10^k->s.foldl (fun n b=>n*10+(b.toNat-48)) n+23<=23*10^(k+s.length):=by
  intro s;induction s with
  |nil=>intro n k h;simpa using h
  |cons b r ih=>
   intro n k h;have hb:=b.toNat_lt;have:=ih (n*10+(b.toNat-48)) (k+1) (by rw[Nat.pow_succ];omega);simp only[List.foldl_cons,bA];rw[show k+(r.length+1)=k+1+r.length by omega];exact this
 have:=this s 0 0 bh;simpa[eh]using this
def qY (s:dy)(i:Nat)(h:i<=9):eh (s.take i)<=23000000000:=by
 have h1:=Gn (s.take i);have h2:(s.take i).length<=9:=eo;have h3:10^(s.take i).length<=10^9:=Nat.pow_le_pow_right ae h2;omega
def Ao (s:dy):∀n:Nat,s.foldl (fun n b=>n*10+(b.toNat-48)) n=n*10^s.length+eh s:=by
 unfold eh;induction s with
 |nil=>intro n;simp
 |cons b r ih=>
  intro n;simp only[List.foldl_cons,bA];rw[ih,ih (0*10+(b.toNat-48)),Nat.pow_succ];simp only[Nat.zero_mul,aO,Nat.add_mul];rw[Nat.mul_assoc n 10,Nat.mul_comm 10];omega
def sS (b:UInt8)(r:dy):eh (b::r)=(b.toNat-48)*10^r.length+eh r:=by
 have:=Ao r (0*10+(b.toNat-48));simp only[eh,List.foldl_cons]at this⊢;rw[this];simp
def sK {b:UInt8}{r:dy}(h:dj (fun i=>di (at8 (b::r) i)) 0 (b::r).length=true):di b.toNat=true/\dj (fun i=>di (at8 r i)) 0 r.length=true:=by
 rw[cA]at h;refine⟨by simpa[at8]using h 0 ae bh, ?_⟩;rw[cA];intro j _ hj;simpa[at8]using h (j+1) ae eo
def xy:∀(s:dy),dj (fun i=>di (at8 s i)) 0 s.length=true->eh s<10^s.length
 |[],_=>by simp[eh]
 |b::r,h=>by
  obtain⟨h1,h2⟩:=sK h;have:=xy r h2;rw[sS,bA,Nat.pow_succ];simp only[di,bm,bL]at h1;have h3:b.toNat-48<=9:=ae;have:=iN (10^r.length) h3;omega
def Gm {b:UInt8}{r:dy}(h:49<=b.toNat):10^r.length<=eh (b::r):=by
 rw[sS];have:=iN (10^r.length) (show 1<=b.toNat-48 by omega);omega
def IJ (s:dy):ku s=(decide (1<=s.length)&&decide (s.length<=4)&& !(decide (1<s.length)&&decide (at8 s 0=48))&&dj (fun i=>di (at8 s i)) 0 s.length):=by
 unfold ku;cases hd:dj (fun i=>di (at8 s i)) 0 s.length with
 |false=>simp
 |true=>
  have hlt:=xy s hd;by_cases h4:s.length<=4
  .have:10^s.length<=10^4:=Nat.pow_le_pow_right ae h4;rw[cv h4,cv (by omega:s.length<=9),cv (by omega:eh s<=9999)];simp
  .rw[cE h4]
   match s,hd,h4 with
   |b::r,hd,h4=>
    by_cases h0:at8 (b::r) 0=48
    .rw[cv h0,cv (by omega:1<(b::r).length)];simp
    .have h1:=(sK hd).1;simp only[di,bm,bL]at h1;have h2:49<=b.toNat:=by
      simp[at8]at h0;omega
     have h3:=Gm (r:=r) h2;have:10^4<=10^r.length:=Nat.pow_le_pow_right ae (by simp at h4;omega);rw[cE (by omega:¬eh (b::r)<=9999)];simp
def iK (b:Int):dy->dy->List dy
 |[],cur=>[cur]
 |c::r,cur=>if(c.toNat:Int)=b then cur::iK b r []else iK b r (cur++[c])
def bE (s:dy)(b:Int):List dy:=iK b s []
def Dt (s:dy)(i:Nat)(h:i<s.length):s.drop i=s.getD i 0::s.drop (i+1):=by
 rw[jP h];simp[h]
def xR {s:dy}{b:Int}{i fr:Nat}(h:i<s.length)(he:at8 s i=b):iK b (s.drop i) ((s.take i).drop fr)=((s.take i).drop fr)::iK b (s.drop (i+1)) ((s.take (i+1)).drop (i+1)):=by
 rw[Dt s i h];have h2:(s.take (i+1)).drop (i+1)=[]:=bh;rw[h2];simp only[iK];rw[aw (by simpa[at8]using he)]
def xS {s:dy}{b:Int}{i fr:Nat}(h:i<s.length)(hf:fr<=i)(he:¬at8 s i=b):iK b (s.drop i) ((s.take i).drop fr)=iK b (s.drop (i+1)) ((s.take (i+1)).drop fr):=by
 rw[Dt s i h,rj s i h,List.drop_append_of_le_length eo];simp only[iK];rw[ai (by simpa[at8]using he)]
def vV {s:dy}{b:Int}{i fr:Nat}(h:s.length<=i):iK b (s.drop i) ((s.take i).drop fr)=[s.drop fr]:=by
 rw[mf h,iq h];rfl
def ql (b:Int):∀(s cur:dy),(iK b s cur).length<=s.length+1
 |[],cur=>by simp[iK]
 |c::r,cur=>by
  simp only[iK];split
  .have:=ql b r [];simp;omega
  .have:=ql b r (cur++[c]);simp;omega
def qk (s:dy)(b:Int):(bE s b).length<=s.length+1:=ql b s []
def kV (c:Int):Bool:=Ca c ||di c ||decide (c=45)
def pk (t:dy):Bool:=decide (1<=t.length)&&decide (t.length<=8)&&dj (fun i=>kV (at8 t i)) 0 t.length
def cL (t:dy):Bool:=dj (fun i=>di (at8 t i)) 0 t.length&&decide (0<t.length)
def gG (p:Bool)(t:dy):Bool:=pk t&& !(p&&cL t&& !ku t)
def mH (s:dy)(p:Bool):Bool:=decide ((bE s 46).length<=4)&&dj (fun i=>gG p (bE s 46)[i]!) 0 (bE s 46).length
def sY (s:dy)(p:Bool):Bool:=decide (s=[]) ||mH s p
def BT (n:Int):Bool:=decide (0<=n)&&decide (n<=9999)
def ki (v:bd):Bool:=BT v.major&&BT v.minor&&BT v.patch&&sY v.pre true&&sY v.build false
def bd.sm (v:bd):Prop:=v.pre.length<=1048576/\v.build.length<=1048576
def Env.at (e:Env):Nat->dy
 |0=>e.e0
 |1=>e.e1
 |_=>e.e2
def Env.ld (e:Env){i:Nat}(h:i<3):nA (Env.D e) 3 1 (0+i*1) false=.str (e.at i):=by
 match i,h with
 |0,_=>rfl
 |1,_=>rfl
 |2,_=>rfl
def zi.ld (l:zi){i:Nat}(h:i<3):nA (zi.D l) 4 1 (0+i*1) false=.str (l.env.at i):=by
 match i,h with
 |0,_=>rfl
 |1,_=>rfl
 |2,_=>rfl
def Env.cut (e:Env){i:Nat}(h:i<3):Abs.cut [.str e.e0,.str e.e1,.str e.e2] (i*1) 1 false=.str (e.at i):=by
 match i,h with
 |0,_=>rfl
 |1,_=>rfl
 |2,_=>rfl
def rv.sm (x:rv):Prop:=x.v.sm/\x.name.length<=1048576/\x.shelf.length<=1048576/\x.feats.length<=1048576/\∀t∈x.feats,t.length<=1048576
def zi.sm (l:zi):Prop:=l.lines.length<=1048576/\(∀x∈l.lines,x.sm)/\∀i,(l.env.at i).length<=1048576
theorem aj {α:Type} [Inhabited α]{l:List α}{i:Nat}(h:i<l.length):l[i]! ∈l:=by
 simp[h]
structure Kp where
 name:dy
 v:bd
 deriving Inhabited,DecidableEq
def Kp.D (x:Kp):D:=.agg [.str x.name,.int .i64 x.v.major,.int .i64 x.v.minor,.int .i64 x.v.patch,.str x.v.pre,.str x.v.build]
def JK {α:Type} [Inhabited α] [DecidableEq α]{a b:List α}(h:a.length=b.length):decide (a=b)=dj (fun i=>decide (a[i]! =b[i]!)) 0 a.length:=by
 rw[Bool.eq_iff_iff,bL,cA];constructor
 .rintro rfl j _ _;simp
 .intro hj;apply List.ext_getElem h
  grind
def rv.same {a b:rv}(e1:a.name=b.name)(e2:a.v=b.v)(e3:a.shelf=b.shelf)(e4:a.sum=b.sum)(e5:a.feats.length=b.feats.length):decide (a=b)=dj (fun i=>decide (a.feats[i]! =b.feats[i]!)) 0 a.feats.length:=by
 rw[<-JK e5];obtain⟨a1,a2,a3,a4,a5⟩:=a;obtain⟨b1,b2,b3,b4,b5⟩:=b
 grind
def Env.sm (e:Env):Prop:=∀i,(e.at i).length<=1048576
end Go.Abs
section
namespace Go.Abs
def jk (v n:Int):Int:=if n<1 then 0 else if v.tmod n<0 then v.tmod n+n else v.tmod n
def v8 (v n:Int)(h:1<=n):-n<v.tmod n/\v.tmod n<n:=⟨Int.lt_tmod_of_pos v ae,Int.tmod_lt_of_pos v ae⟩
def jl (v n:Int)(h:1<=n):0<=jk v n/\jk v n<n:=by
 have:=v8 v n h
 grind [jk]
def FK (l:List Int)(i:Int):Int:=if i<0\/(l.length:Int)<=i then i.tmod 3 else l[i.toNat]!
structure Gs where
 l:List Int
 i:Int
 deriving Inhabited
def Gs.D (g:Gs):D:=.agg [.sl 1 (g.l.map (D.int .i64)),.int .i64 g.i]
def Gs.val (g:Gs)(n:Int):Int:=jk (FK g.l g.i) n
def Gs.bH (g:Gs):Gs:=⟨g.l,g.i+1⟩
def cutL (s:dy)(b:UInt8):dy×dy×Bool:=match s.findIdx? (fun c=>c==b)with
 |some k=>(s.take k,s.drop (k+1),true)
 |none=>(s,[],false)
structure My where
 s:dy
 at':Nat
 n:Nat
def My.D (r:My):D:=.agg [.str r.s,.int .i64 (r.at':Nat),.int .i64 (r.n:Nat)]
def My.ln (r:My):dy×dy×Bool:=cutL (r.s.drop r.at') 10
def My.bH (r:My):My:=⟨r.s,if r.ln.2.2=true then r.at'+(r.ln.1.length+1)else r.at',r.n+1⟩
end Go.Abs
namespace Go.Abs
end Go.Abs
namespace Go.Abs
end Go.Abs
namespace Go.Abs
end Go.Abs
namespace Go.Abs
end Go.Abs
namespace Go.Abs
variable {e:Env} {f:Nat} {r:My} {ls:List rv}
end Go.Abs
namespace Go.Abs
end Go.Abs
end
namespace Go.Abs
section
section
variable {Y:Ctx} {draw:Bool} {r:List GI} {env rs:List b8} {nx:Nat} {m:List (Nat×bM)} {K:List b8->St->Prop} {g:Option (Nat×Bool)} {f:Bool}
def Ja {n l k j:Nat}{w:Bool}{x:Src}{args:List Src}{sh:List (List Sh)}{d v e:D}{Z5:List D}{m2:List (Nat×bM)}(h:aI Y false r env (⟨true,v⟩::rs) nx m2 K)(hg:GF rs (some (j,w)) true:=by exact⟨_,_,rfl,rfl⟩)(hx:cN env rs x=⟨true,.ptr l k 0 0⟩:=by exact rfl)(hl:look m l=some (.buf k [d]):=by exact rfl)(hd:d.bc=true:=by exact rfl)(hc:Y.fp n d Z5/\Y.fv n d Z5=v/\Y.fs n d Z5=e)(ha:jL [] sh (gL (cN env rs) args)=Z5:=by exact rfl)(ho:sU (cN env rs) args:=by repeat' first|exact trivial|exact rfl|refine And.intro ?_ ?_|decide)(hn:aV (gL (cN env rs) args)=true:=by exact rfl)(hm:cS m l (.buf k [e])=m2:=by simp only[cS,ct,Nat.reduceEqDiff,aN,aL,Nat.reduceAdd,reduceCtorEq];exact rfl):aI Y false (⟨.callF n x args sh,some (j,w)⟩::r) env rs nx m K:=
 Jc rfl rfl hg (fun _=>⟨v,by simp only[aG.dF,hx,eg,aW,hl,gW,(dc _ _ _).1,ha];exact⟨trivial,ho,hn,trivial,trivial,⟨trivial,bh⟩,bh,hd,hc.1⟩,by simp only[aG.val,hx,aW,hl,gW,(dc _ _ _).1,ha,hc.2.1],m2,by simp only[aG.cC,hx,aW,hl,gW,(dc _ _ _).1,ha,hc.2.2];exact hm,h⟩) (fun h=>by cases h)
def OC {i:aG}{j:Nat}{w:Bool}(h:aI Y false r env (⟨false,.any⟩::rs) nx m K)(hM:i.cB=false:=by exact rfl)(hC:i.calm=false:=by exact rfl)(hg:GF rs (some (j,w)) false:=by exact⟨_,_,rfl,rfl⟩):aI Y false (⟨i,some (j,w)⟩::r) env rs nx m K:=
 Jc hM hC hg (fun h=>by cases h) (fun _=>h)
def Sa {i:aG}{j:Nat}{w:Bool}(d:D)(h:aI Y draw r env (⟨false,d⟩::rs) nx m K)(hC:i.pure=true:=by exact rfl)(hg:GF rs (some (j,w)) false:=by exact⟨_,_,rfl,rfl⟩):aI Y draw (⟨i,some (j,w)⟩::r) env rs nx m K:=
 cq hC hg d (fun h=>by cases h) (fun h=>by cases h) (fun _=>h)
def OB {k n:Nat}{z:D}{ps:List (Nat×Src)}(es:List D)(h:aI Y draw r env (⟨f,.sl k es⟩::rs) nx m K)(hg:GF rs g f:=by exact dz)(he:jZ (cN env rs) (List.replicate n z) ps=es:=by exact rfl)(ho:f=true->n7 (cN env rs) k n ps:=by exact sD)(hz:z.cells.length=k:=by exact rfl)(hn:f=true->aV es=true:=by exact fun _=>rfl):aI Y draw (⟨.bslI k z n ps,g⟩::r) env rs nx m K:=
 cq rfl hg _ (fun hf=>by simp only[aG.dF,he];exact⟨hz,ho hf,hn hf⟩) (fun hf=>by simp only[aG.val,he]) (fun _=>h)
def fG {n:Nat}{args:List Src}{Z5:List D}{v:D}{nx':Nat}{m':List (Nat×bM)}(h:aI Y draw r env (⟨true,v⟩::rs) nx' m' K)
  (hc:∀K':D->St->Prop,K' v ⟨nx'+rs.length,m'⟩->Y.tr n Z5 ⟨nx+rs.length,m⟩ K') (hn:nx<=nx') (ha:gL (cN env rs) args=Z5:=by exact rfl)
  (ho:sU (cN env rs) args:=by repeat' first|exact trivial|exact rfl|refine And.intro ?_ ?_):aI Y draw (⟨.callM n args,none⟩::r) env rs nx m K:=by
 unfold aI;show True/\(true=true->sU (Src.ev env rs.reverse) args/\Y.tr n (gL (Src.ev env rs.reverse) args) {nx:=nx+rs.reverse.length,m:=m} _)/\(true=false->_)
 grind [kJ,aI]
def Jg {x:Src}{fx:Bool}{n k i o:Nat}{ag:Bool}{es:List D}(v:D)(h:aI Y draw r env (⟨f,v⟩::rs) nx m K)(hg:GF rs g f:=by exact dz)(hx:cN env rs x=⟨fx,.ref k es i o⟩:=by exact rfl)(kx:f=true->fx=true:=by exact cF)(hi:f=true->i<es.length:=by intro _;simp only[bA,bK];omega)(hv:f=true->nA (es.getD i .any) k n o ag=v:=by exact fun _=>rfl)(ho:o+n<=k:=by omega):aI Y draw (⟨.ldU n ag x,g⟩::r) env rs nx m K:=
 fO rfl hg _ (fun hf=>by simp only[aG.dF,hx,wO];exact⟨kx hf,hi hf,ho⟩) (fun hf=>by simp only[aG.val,hx,tS];exact hv hf) m rfl (fun ha=>h)
def Jf {x:Src}{fx:Bool}{n l k o:Nat}{ag:Bool}{d:D}(v:D)(h:aI Y draw r env (⟨f,v⟩::rs) nx m K)(hg:GF rs g f:=by exact dz)(hx:cN env rs x=⟨fx,.ptr l k 0 o⟩:=by exact rfl)(kx:f=true->fx=true:=by exact cF)(hl:f=true->look m l=some (.buf k [d]):=by exact fun _=>rfl)(hv:f=true->nA d k n o ag=v:=by exact fun _=>rfl)(ho:o+n<=k:=by omega)(hd:f=true->d.bc=false:=by exact fun _=>rfl):aI Y draw (⟨.ldU n ag x,g⟩::r) env rs nx m K:=
 fO rfl hg _ (fun hf=>by simp only[aG.dF,hx,wO,eg,hl hf];exact⟨kx hf,⟨⟨trivial,bh⟩,ho⟩,by simp only[aW,hl hf,aV,hd hf];rfl⟩) (fun hf=>by simp only[aG.val,hx,tS,aW,hl hf,gW];exact hv hf) m rfl (fun ha=>h)
end
end
end Go.Abs
section
namespace Go.Abs
def cM:List bd:=[⟨1,0,0,[],[]⟩,⟨1,2,0,[],[]⟩,⟨2,0,0,[97,46,49],[]⟩,⟨2,0,0,[],[]⟩]
def nlS:List dy->D
 |[]=>.aB
 |a::r=>.sl 1 ((a::r).map D.str)
def rv.N (x:rv):Go.Abs.D:=.agg [.str x.name,.int .i64 x.v.major,.int .i64 x.v.minor,.int .i64 x.v.patch,.str x.v.pre,.str x.v.build,.str x.shelf,.int .u64 x.sum,nlS x.feats]
end Go.Abs
namespace Go.Abs
def rv.F (name:dy)(v:bd)(shelf:dy)(sum:Int)(fs:Go.Abs.D):Go.Abs.D:=.agg [.str name,.int .i64 v.major,.int .i64 v.minor,.int .i64 v.patch,.str v.pre,.str v.build,.str shelf,.int .u64 sum,fs]
mutual
theorem pS (l k:Nat)(es:List D):∀d:D,d.bc=true->er l k es d=d
 | .agg a,h=>by simp only[er,gw l k es a (by simpa[D.bc]using h)]
 | .tup a,h=>by simp only[er,gw l k es a (by simpa[D.bc]using h)]
 | .fn n a,h=>by simp only[er,gw l k es a (by simpa[D.bc]using h)]
 | .own ..,h=>by simp[D.bc]at h
 | .ptr ..,h=>by simp[D.bc]at h
 | .it ..,h=>by simp[D.bc]at h
 | .any,_| .bool _,_| .int ..,_| .str _,_| .aB,_| .sl ..,_| .ref ..,_| .nilp,_| .nilf,_=>rfl
theorem gw (l k:Nat)(es:List D):∀ds:List D,aV ds=true->eD l k es ds=ds
 |[],_=>rfl
 |d::r,h=>by
  simp only[aV,bm]at h;simp only[eD,pS l k es d h.1,gw l k es r h.2]
end
end Go.Abs
namespace Go.Abs
end Go.Abs
namespace Go.Abs
def bq (L c:Nat)(ls:List rv)(k j:Nat):D:=if j=k then rv.F ls[j]!.name ls[j]!.v ls[j]!.shelf ls[j]!.sum (.own L 1 0 c)else rv.D ls[j]!
end Go.Abs
namespace Go.Abs
end Go.Abs
namespace Go.Abs
end Go.Abs
namespace Go.Abs
end Go.Abs
end
section
namespace Go.Abs
end Go.Abs
namespace Go.Abs
def Kp.eq (a b:Kp):ij (Kp.D a).cells (Kp.D b).cells=decide (a=b):=by
 obtain⟨n1,⟨a1,a2,a3,a4,a5⟩⟩:=a;obtain⟨n2,⟨b1,b2,b3,b4,b5⟩⟩:=b
 grind [Kp.D,D.cells,ij,yr,tP]
structure rv.ok (n:Nat)(x:rv):Prop where
 pre:x.v.pre.length<=3
 build:x.v.build.length<=2
 name:x.name.length<=16
 shelf:x.shelf.length<=16
 nf:x.feats.length<=n
 ft:∀t∈x.feats,t.length<=16
 sum:0<=x.sum/\x.sum<18446744073709551616
structure zi.ok (n:Nat)(l:zi):Prop where
 len:l.lines.length<=4
 lines:∀x∈l.lines,x.ok n
 env:∀i,(l.env.at i).length<=16
theorem zi.ok.sm {n:Nat}{l:zi}(h:l.ok n)(hn:n<=1000):l.sm:=by
 refine⟨by have:=h.len;omega,fun x hx=>?_,fun i=>by have:=h.env i;omega⟩;have k:=h.lines x hx;have k1:=k.pre;have k2:=k.build;have k3:=k.name;have k4:=k.shelf;have k5:=k.nf;exact⟨⟨ae,ae⟩,ae,ae,ae,fun t ht=>by have:=k.ft t ht;omega⟩
def rv.ok.mono {n m:Nat}{x:rv}(h:x.ok n)(hm:n<=m):x.ok m:=⟨h.pre,h.build,h.name,h.shelf,eK h.nf hm,h.ft,h.sum⟩
end Go.Abs
end
namespace Go.Abs
section
def lk {α:Type}:List (Nat×α)->Nat->α->α
 |[],_,d=>d
 |(a,b)::r,n,d=>bif Nat.beq a n then b else lk r n d
structure Row where
 key:Nat
 pre:List D->Prop
 val:List D->D
structure Rz where
 pre:D->List D->Prop
 val:D->List D->D
 new:D->List D->D
def Row.no:Row:=⟨0,fun _=>False,fun _=>.any⟩
def Rz.no:Rz:=⟨fun _ _=>False,fun _ _=>.any,fun _ _=>.any⟩
section
variable [dq] {P:Program} {ν:List (Nat×Nat)} {cC:List Nat} {Y:Ctx}
end
end
section
variable [dq]
section
variable {P:Program} {ν:List (Nat×Nat)} {cC:List Nat} {Y:Ctx}
def RD.re {x x':X}{σ:List (Nat×Nat)}(hw:x'.w=x.w)(hI:x'.I=x.I)(hβ:∀l l',fH 0 σ l=some l'->x'.β l'=x.β l){v:Value}{d d':D}(hv:RD ν x v d)(hd:KK 0 σ d d'):RD ν x' v d':=by
 rcases hd with⟨rfl,hn⟩|hd|hd
 .exact hv.bc hn (fun _ h=>by rw[hI];exact h) (fun _ _=>by rw[hw])
 .grind [RD.rn]
 grind [RD.nl]
def lO.re {x x':X}{σ:List (Nat×Nat)}(hw:x'.w=x.w)(hI:x'.I=x.I)(hβ:∀l l',fH 0 σ l=some l'->x'.β l'=x.β l){b base tot:Nat}{b0 blk:bM}(o2:lO ν x b base tot b0)(q3:mK 0 σ b0 blk):lO ν x' b base tot blk:=by
 cases b0 with
 |iter s p=>
  cases blk with
  |iter s' p'=>simp only[mK]at q3;obtain⟨rfl,rfl⟩:=q3;simp only[lO,hw]at o2⊢;exact o2
  |_=>simp[mK]at q3
 |row s=>
  cases blk with
  |row s'=>simp only[mK]at q3;subst q3;simp only[lO,hw]at o2⊢;exact o2
  |_=>simp[mK]at q3
 |bld o n u=>
  cases blk with
  |bld o' n' u'=>
   simp only[mK]at q3;obtain⟨q3,rfl,rfl⟩:=q3;obtain⟨p1,v,p2,p3⟩:=o2;refine⟨p1,v,by rw[hw];exact p2, ?_⟩;cases o with
   |none=>simp only at q3;subst q3;exact p3
   |some l0=>
    obtain⟨l1,q4,rfl⟩:=q3;obtain⟨g,t,p4,p5,p6⟩:=p3;exact⟨g,t,p4,p5,by rw[hβ l0 l1 q4];exact p6⟩
  |_=>simp[mK]at q3
 |buf k es=>
  cases blk with
  |iter s' p'=>simp[mK]at q3
  |row s'=>simp[mK]at q3
  |bld o' n' u'=>simp[mK]at q3
  |buf k' es'=>
   simp only[mK]at q3;obtain⟨rfl,q3⟩:=q3;obtain⟨p1,p2,cc,T,fr,p3,p4,p5,p6⟩:=o2;rw[<-hw]at p3;rcases q3 with⟨rfl,hn⟩|q3|q3
   .exact⟨p1,p2,cc,T,fr,p3,p4,p5,fun i hi=>⟨(p6 i hi).1,fun j hj=>⟨((p6 i hi).2 j hj).1,RD.re hw hI hβ ((p6 i hi).2 j hj).2 (.inl ⟨rfl,jJ (cD hn i) j⟩)⟩⟩⟩
   .obtain⟨r1,r2⟩:=gR q3;refine⟨p1,ae,cc,T,fr,p3,p4,p5,fun i hi=>?_⟩;have hi':i<es.length:=ae;obtain⟨s1,s2⟩:=xK (r2 i hi');exact⟨s1.trans (p6 i hi').1,fun j hj=>⟨((p6 i hi').2 j hj).1,RD.re hw hI hβ ((p6 i hi').2 j hj).2 (.inr (.inl (s2 j (by rw[(p6 i hi').1];exact hj))))⟩⟩
   .obtain⟨r1,r2⟩:=nQ q3;refine⟨p1,ae,cc,T,fr,p3,p4,p5,fun i hi=>?_⟩;have hi':i<es.length:=ae;obtain⟨s1,s2⟩:=w6 (r2 i hi');exact⟨s1.trans (p6 i hi').1,fun j hj=>⟨((p6 i hi').2 j hj).1,RD.re hw hI hβ ((p6 i hi').2 j hj).2 (.inr (.inr (s2 j (by rw[(p6 i hi').1];exact hj))))⟩⟩
def DZ {lo c:Nat}{σ:List (Nat×Nat)}{l l':Nat}(h0:eU 0 c σ=true)(h:fH 0 σ l=some l'):l'<c/\(l,l')∈σ:=by
 obtain⟨h1,h2⟩:=q7 h0 h
 grind
def qX {c:Nat}:∀{σ:List (Nat×Nat)}{a b:Nat},eU 0 c σ=true->(a,b)∈σ->fH 0 σ a=some b
 |[],a,b,_,h=>by cases h
 |(a0,b0)::r,a,b,h0,h=>by
  unfold fH;simp only[eU,bm,List.all_eq_true,eB]at h0;obtain⟨_,_,p4,p5⟩:=h0;rcases dx.1 h with h|h
  .simp only[ea]at h;obtain⟨rfl,rfl⟩:=h;simp
  .have:=(p4 _ h).1;simp only at this;have hne:Nat.beq a0 a=false:=by
    cases hb:Nat.beq a0 a with
    |false=>rfl
    |true=>obtain rfl:=Nat.eq_of_beq_eq_true hb;simp at this
   rw[hne];exact qX p5 h
structure Fr (σi σo:List (Nat×Nat))(q q1:Nat)(m0 m1:List (Nat×bM))(st st':St):Prop where
 oki:eU 0 q σi=true
 oko:eU 0 st'.nx σo=true
 nx:st.nx<=st'.nx
 lt:∀l i,(l,i)∈σi->look st.m l≠none
 io:∀i l,(i,l)∈σo->(l,i)∈σi\/st.nx<=l
 m0:∀i b,look m0 i=some b->∃l b',(l,i)∈σi/\look st.m l=some b'/\mK 0 σi b' b
 m1:∀l b,look st'.m l=some b->(∃i b1,(i,l)∈σo/\look m1 i=some b1/\mK 0 σo b1 b)\/(j6 σo l=none/\(∀i,(l,i)∉σi)/\look st.m l=some b)
def K5 {fid:Nat}{fn:Func}{af:aJ}{K:D->St->Prop}(hΓ:Ok P ν cC Y)(hmix:P.follows .mixedOrders=true)(hf:P.funcs[fid]? =some fn)(hc:compile P ν cC fn=some af)
  {x:X} {args:Array Value} {ds cs:List D} {st:St} {σi:List (Nat×Nat)} {q:Nat} {m0:List (Nat×bM)} (hl:args.size=ds.length) (hargs:∀i,i<ds.length->RD ν x (args.getD i undef) (ds.getD i .any))
  (hs:eG ν x (look st.m)) (hfr:eC st x) (hlen:cs.length=ds.length) (hds:∀i,i<ds.length->KK 0 σi (ds.getD i .any) (cs.getD i .any)) (hnp:cs.length=af.np)
  (oki:eU 0 q σi=true) (hlt:∀l i,(l,i)∈σi->look st.m l≠none) (hm0:∀i b,look m0 i=some b->∃l b',(l,i)∈σi/\look st.m l=some b'/\mK 0 σi b' b)
  (hw:cr (Y.at q) af.body (fun e env st1=>e.home/\oy st1.m env af.res/\∃(σo:List (Nat×Nat)) (q1:Nat) (m1:List (Nat×bM)) (st':St) (vd':D),Fr σi σo q q1 m0 m1 st st'/\KK 0 σo (jM af env st1) vd'/\K vd' st'/\∀i,look st1.m i=look m1 i) (fZ af cs) ⟨q,m0⟩):
  Calls P fid args x.w fun
   | .returned v,w'=>∃x' d st',K d st'/\x'.w=w'/\Step x x'/\RD ν x' v d/\eG ν x' (look st'.m)/\eC st' x'
   |_,_=>False:=by
 obtain⟨body,c1,c2,c3,c4,c5,c6⟩:=hO hc
 let x0:X:=⟨x.w,x.I,fun i=>(j6 σi i).bind x.β⟩
 have hx0:∀l i,(l,i)∈σi->x0.β i=x.β l:=fun l i h=>by simp only[x0,tR oki h,Option.bind_some]
 have hβ0:∀l i,fH 0 σi l=some i->x0.β i=x.β l:=fun l i h=>hx0 l i (DZ (lo:=0) oki h).2
 have hx0':∀i p,x0.β i=some p->∃l,(l,i)∈σi/\x.β l=some p/\i<q:=by
  intro i p h;obtain⟨l,h1,h2⟩:=Option.bind_eq_some_iff.1 (show(j6 σi i).bind x.β=some p from h);exact⟨l,j7 h1,h2,oH oki (j7 h1)⟩
 have hs0:eG ν x0 (look m0):=by
  refine⟨fun i blk b base tot e1 e2=>?_,fun i j b base tot base' tot' e1 e2 e3 e4=>?_,hs.imm,fun i b base tot e=>?_,dq.le x _ (fun _ h=>h) (fun _ _=>rfl) hs.gd⟩
  .obtain⟨l,b',h1,h2,h3⟩:=hm0 i blk e1;rw[hx0 l i h1]at e2;obtain⟨o1,o2⟩:=hs.own l b' b base tot h2 e2;exact⟨o1,lO.re (x:=x) (x':=x0) rfl rfl hβ0 o2 h3⟩
  .obtain⟨l,h1,h2,_⟩:=hx0' i _ e3;obtain⟨l',h1',h2',_⟩:=hx0' j _ e4;have:=hs.inj l l' b base tot base' tot' (hlt _ _ h1) (hlt _ _ h1') h2 h2';subst this;have:=qX oki h1;rw[qX oki h1']at this;exact(bg this).symm
  .obtain⟨l,_,h2,_⟩:=hx0' i _ e;exact hs.dW l b base tot h2
 have hf0:eC ⟨q,m0⟩ x0:=by
  refine⟨fun i hi=>?_,fun i hi=>?_⟩
  .cases h:x0.β i with
   |none=>rfl
   |some p=>obtain⟨_,_,_,h4⟩:=hx0' i p h;simp only at hi;omega
  .cases h:look m0 i with
   |none=>exact absurd h hi
   |some b=>obtain⟨l,b',h1,_⟩:=hm0 i b h;exact oH oki h1
 have hi:=sA (P:=P) (ν:=ν) (cC:=cC) (x:=x0) (ds:=cs) (st:=⟨q,m0⟩) c4 c5 c6 (args:=args) ae hnp (fun i hi=>RD.re (x:=x) (x':=x0) rfl rfl hβ0 (hargs i ae) (hds i ae)) hs0 hf0;have hcs:=pN (C:={P,ν,cC,slots:=slotsOf fn,ntmps:=fn.ntmps,vm:=GY P fn}) (hΓ.at q) (lM fn).1 hmix x0 (fun l h=>hf0.β l h) body af.body c2 _ _ _ _ x0 hw hi (.refl _);refine calls_of_wp hf c1 (wp_mono hcs fun e a w' hp=>?_);obtain⟨e',x',env',st1,he,hxw,hst,hi',hh,hro,σo,q1,m1,st',vd',hfm,hvd,hK,hlk⟩:=hp;subst hxw;obtain⟨v,r1,r2,r3⟩:=oz hΓ.small hi' c3 hro
 let x2:X:=⟨x'.w,x'.I,fun l=>match j6 σo l with|some i=>x'.β i|none=>x.β l⟩
 have hx2:∀i l,(i,l)∈σo->x2.β l=x'.β i:=fun i l h=>by simp only[x2,tR hfm.oko h]
 have hx2n:∀l,j6 σo l=none->x2.β l=x.β l:=fun l h=>by simp only[x2,h]
 have hβ2:∀i l,fH 0 σo i=some l->x2.β l=x'.β i:=fun i l h=>hx2 i l (DZ (lo:=0) hfm.oko h).2
 have hx0s:∀l i p,(l,i)∈σi->x.β l=some p->x'.β i=some p:=fun l i p h e=>hst.β _ _ (by rw[hx0 l i h];exact e)

 have hnew:∀i p,x'.β i=some p->(∃l,(l,i)∈σi/\x.β l=some p)\/x.w.heap.size<=p.1\/∃l p',(∃j,(l,j)∈σi)/\x.β l=some p'/\p'.1=p.1:=by
  intro i p e;rcases hst.newβ i p e with h|h|⟨j,p',h1,h2⟩
  .obtain⟨l,h3,h4,_⟩:=hx0' i p h;exact .inl ⟨l,h3,h4⟩
  .exact .inr (.inl h)
  .obtain⟨l,h3,h4,_⟩:=hx0' j p' h1;exact .inr (.inr ⟨l,p',⟨j,h3⟩,h4,h2⟩)
 have hstep:Step x x2:=by
  refine⟨hst.os,hst.tape,hst.output,hst.size,hst.I,hst.keep,fun l p hp=>?_,fun b hb hn=>hst.old b hb fun i p h e=>?_,fun b h=>?_,fun l p h=>?_⟩
  .cases h:j6 σo l with
   |none=>rw[hx2n l h];exact hp
   |some i=>
    have hm:=j7 h;rw[hx2 i l hm];rcases hfm.io i l hm with h2|h2
    .exact hx0s l i p h2 hp
    .rw[hfr.β l h2]at hp;cases hp
  .obtain⟨l,_,h2,_⟩:=hx0' i p h;exact hn l p h2 e
  .rcases hst.newI b h with h|h|⟨i,p,h1,h2⟩
   .exact .inl h
   .exact .inr (.inl h)
   .obtain⟨l,_,h3,_⟩:=hx0' i p h1;exact .inr (.inr ⟨l,p,h3,h2⟩)
  .cases h1:j6 σo l with
   |none=>rw[hx2n l h1]at h;exact .inl h
   |some i=>
    have hm:=j7 h1;rw[hx2 i l hm]at h;rcases hnew i p h with⟨l',h2,h3⟩|h2|⟨l',p',_,h3,h4⟩
    .exact .inr (.inr ⟨l',p,h3,rfl⟩)
    .exact .inr (.inl h2)
    .exact .inr (.inr ⟨l',p',h3,h4⟩)
 have hsim:eG ν x2 (look st'.m):=by
  refine⟨fun l blk b base tot e1 e2=>?_,fun l1 l2 b base tot base' tot' e1 e2 e3 e4=>?_,hi'.lv.imm,fun l b base tot e=>?_,dq.le x' _ (fun _ h=>h) (fun _ _=>rfl) hi'.lv.gd⟩
  .rcases hfm.m1 l blk e1 with⟨i,b1,h1,h2,h3⟩|⟨h1,h2,h3⟩
   .rw[hx2 i l h1]at e2;obtain⟨o1,o2⟩:=hi'.lv.own i b1 b base tot (by rw[hlk];exact h2) e2;exact⟨o1,lO.re (x:=x') (x':=x2) rfl rfl hβ2 o2 h3⟩
   .rw[hx2n l h1]at e2;obtain⟨o1,o2⟩:=hs.own l blk b base tot h3 e2;have hlt:=hs.dW l b base tot e2;have hno:∀i p,x0.β i=some p->p.1≠b:=by
     rintro i ⟨b',base',tot'⟩ h e;simp only at e;subst e;obtain⟨l',h4,h5,_⟩:=hx0' i _ h;have:=hs.inj l' l b' base' tot' base tot (hfm.lt _ _ h4) (by rw[h3];simp) h5 e2;subst this;exact h2 _ h4
    refine⟨fun h=>?_,o2.mono hstep.le (hst.old b hlt hno)⟩;rcases hst.newI b h with h|h|⟨i,p,h4,h5⟩
    .exact o1 h
    .exact absurd hlt (Nat.not_lt.2 h)
    .exact hno i p h4 h5
  .have mix:∀l1 l2 base tot base' tot',(∃i b1,(i,l1)∈σo/\look m1 i=some b1)->j6 σo l2=none->(∀i,(l2,i)∉σi)->look st.m l2≠none->x2.β l1=some (b,base,tot)->x2.β l2=some (b,base',tot')->False:=by
    rintro l1 l2 base tot base' tot' ⟨i,b1,h1,h2⟩ h3 h4 h5 e3 e4;rw[hx2 i l1 h1]at e3;rw[hx2n l2 h3]at e4;rcases hnew i _ e3 with⟨l',h6,h7⟩|h6|⟨l',⟨pb,pt,pq⟩,⟨j,h6⟩,h7,h8⟩
    .have:=hs.inj l' l2 b base tot base' tot' (hfm.lt _ _ h6) h5 h7 e4;subst this;exact h4 _ h6
    .have:=hs.dW l2 b base' tot' e4;simp only at h6;omega
    .simp only at h8;subst h8;have:=hs.inj l' l2 pb pt pq base' tot' (hfm.lt _ _ h6) h5 h7 e4;subst this;exact h4 _ h6
   cases f1:look st'.m l1 with
   |none=>exact absurd f1 e1
   |some b1=>
    cases f2:look st'.m l2 with
    |none=>exact absurd f2 e2
    |some b2=>
     rcases hfm.m1 l1 b1 f1 with⟨i,c1,h1,h2,_⟩|⟨h1,h2,h3⟩<;>rcases hfm.m1 l2 b2 f2 with⟨j,c2,k1,k2,_⟩|⟨k1,k2,k3⟩
     .rw[hx2 i l1 h1]at e3;rw[hx2 j l2 k1]at e4;have:=hi'.lv.inj i j b base tot base' tot' (by rw[hlk,h2];simp) (by rw[hlk,k2];simp) e3 e4;subst this;have:=qX hfm.oko h1;rw[qX hfm.oko k1]at this;exact(bg this).symm
     .exact(mix l1 l2 base tot base' tot' ⟨i,c1,h1,h2⟩ k1 k2 (by rw[k3];simp) e3 e4).elim
     .exact(mix l2 l1 base' tot' base tot ⟨j,c2,k1,k2⟩ h1 h2 (by rw[h3];simp) e4 e3).elim
     .rw[hx2n l1 h1]at e3;rw[hx2n l2 k1]at e4;exact hs.inj l1 l2 b base tot base' tot' (by rw[h3];simp) (by rw[k3];simp) e3 e4
  .cases h1:j6 σo l with
   |none=>rw[hx2n l h1]at e;exact jq (hs.dW l b base tot e) hst.size
   |some i=>
    rw[hx2 i l (j7 h1)]at e;exact hi'.lv.dW i b base tot e
 have hfr2:eC st' x2:=by
  refine⟨fun l hl=>?_,fun l hl=>?_⟩
  .cases h1:j6 σo l with
   |none=>rw[hx2n l h1];exact hfr.β l (by have:=hfm.nx;omega)
   |some i=>have:=oH hfm.oko (j7 h1);omega
  .cases f1:look st'.m l with
   |none=>exact absurd f1 hl
   |some b1=>
    rcases hfm.m1 l b1 f1 with⟨i,c1,h1,_⟩|⟨_,_,h3⟩
    .exact oH hfm.oko h1
    .have:=hfr.m l (by rw[h3];simp);have:=hfm.nx;omega
 have hrd:=RD.re (ν:=ν) (x:=x') (x':=x2) rfl rfl hβ2 r2 hvd;rcases Ex.yH hh with h|h<;>rw[h]at he<;>subst he<;>exact⟨hi'.defers,v,r1,x2,vd',st',hK,rfl,hstep,hrd,hsim,hfr2⟩
end
end
section
structure RA where
 tr:List D->St->(D->St->Prop)->Prop
 mu:List D->St->Nat
 mono:∀(ds:List D) (st:St) (K K':D->St->Prop),(∀d st',K d st'->K' d st')->tr ds st K->tr ds st K'
def RA.no:RA:=⟨fun _ _ _=>False,fun _ _=>0,fun _ _ _ _ _ h=>h⟩
def lP (af:aJ)(Q:D->List (Nat×bM)->Prop):Ex->List b8->St->Prop:=fun e env st=>e.home/\oy st.m env af.res/\∃m1,(∀i,look st.m i=look m1 i)/\Q (jM af env st) m1
def ey {af:aJ}{Q:D->List (Nat×bM)->Prop}{vd:D}{m1:List (Nat×bM)}{e:Ex}{env:List b8}{st:St}(h1:e.home)(h2:oy st.m env af.res)(h3:jM af env st=vd)(h4:st.m=m1)(h5:Q vd m1):lP af Q e env st:=⟨h1,h2,m1,fun i=>by rw[h4],by rw[h3];exact h5⟩
section
variable [dq] {P:Program} {ν:List (Nat×Nat)} {cC:List Nat} {Y:Ctx}
end
end
section
abbrev RT:=List D->D->Prop
abbrev FT:=D->List D->D->D->Prop
abbrev TT:=List D->St->(D->St->Prop)->Prop
def zq (T:TT):Prop:=∀ds st K K',(∀d st',K d st'->K' d st')->T ds st K->T ds st K'
def uW (A:RT->Prop):RT:=fun ds d=>∀T,A T->T ds d
def uV (A:FT->Prop):FT:=fun d ds v s=>∀T,A T->T d ds v s
def MW (T:TT):Ctx:=⟨fun _ _=>False,fun _ _=>.any,fun _=>T,fun _ _ _=>False,fun _ _ _=>.any,fun _ _ _=>.any,0⟩
def It (C:Ctx->Prop):TT:=fun ds st K=>∀T,zq T->C (MW T)->T ds st K
def Ab (C:Ctx->Prop):zq (It C):=fun _ _ _ _ h h1 T hT hC=>hT _ _ _ _ h (h1 T hT hC)
def noR:RT:=fun _ _=>False
def RZ:FT:=fun _ _ _ _=>False
def noT:TT:=fun _ _ _=>False
def vz:zq noT:=fun _ _ _ _ _ h=>h.elim
structure mi where
 key:Nat
 rel:RT
 mu:List D->Nat
 relF:FT
 tr:TT
 muE:List D->St->Nat
 mono:zq tr
def mu0:List D->Nat:=fun _=>0
def Ll:List D->St->Nat:=fun _ _=>0
def lD:mi:=⟨0,noR,mu0,RZ,noT,Ll,vz⟩
def rP (k:Nat)(A:RT->Prop)(mu:List D->Nat:=mu0):mi:=⟨k,uW A,mu,RZ,noT,Ll,vz⟩
def rF (k:Nat)(A:FT->Prop):mi:=⟨k,noR,mu0,uV A,noT,Ll,vz⟩
def rG (k:Nat)(C:Ctx->Prop)(mu:List D->St->Nat:=Ll):mi:=⟨k,noR,mu0,RZ,It C,mu,Ab C⟩
noncomputable def pick (r:D->Prop):D:=Classical.epsilon r
def jK {r:D->Prop}(h:∃d,r d):r (pick r):=Classical.epsilon_spec h
def O7 (R:RT):Prop:=∀ds d d',R ds d->R ds d'->d=d'
def BB (R:FT):Prop:=∀d ds v s v' s',R d ds v s->R d ds v' s'->v=v'/\s=s'
def HZ {A:RT->Prop}(h:A fun ds d=>A fun ds' d'=>ds'=ds->d=d'):O7 (uW A):=fun ds d d' h1 h2=>h2 _ (h1 _ h) rfl
def KZ {A:FT->Prop}(h:A fun d ds v s=>A fun d' ds' v' s'=>d'=d->ds'=ds->v=v'/\s=s'):BB (uV A):=fun d ds v s v' s' h1 h2=>h2 _ (h1 _ h) rfl rfl
noncomputable def wH (t:List (Nat×mi)):Ctx where
 pre n ds:=∃d,(lk t n lD).rel ds d
 val n ds:=pick ((lk t n lD).rel ds)
 tr n:=(lk t n lD).tr
 fp n d ds:=∃v s,(lk t n lD).relF d ds v s
 fv n d ds:=pick fun v=>∃s,(lk t n lD).relF d ds v s
 fs n d ds:=pick fun s=>∃v,(lk t n lD).relF d ds v s
 lo:=0
def Jr (t:List (Nat×mi)):NL:=⟨fun n=>(lk t n lD).key,fun n=>(lk t n lD).mu,fun n=>(lk t n lD).muE⟩
noncomputable abbrev under (t:List (Nat×mi))(k u:Nat):Ctx:=(wH t).under (Jr t) k u
def pF (t:List (Nat×mi))(k u n:Nat):(((wH t).under (Jr t) k u).at n).cP:=
 fun f ds st K K' h hh=>⟨hh.1,(lk t f lD).mono ds st K K' h hh.2⟩
section
variable {t:List (Nat×mi)} {n k u:Nat} {ds:List D} {d v s:D} {st:St} {K:D->St->Prop}
def dM (hD:O7 (lk t n lD).rel)(hk:(lk t n lD).key<k\/(lk t n lD).key=k/\(lk t n lD).mu ds<u)(h:(lk t n lD).rel ds d):(under t k u).pre n ds/\(under t k u).val n ds=d:=
 ⟨⟨hk,d,h⟩,hD _ _ _ (jK ⟨d,h⟩) h⟩
def okf (hD:BB (lk t n lD).relF)(hk:(lk t n lD).key<k)(h:(lk t n lD).relF d ds v s):(under t k u).fp n d ds/\(under t k u).fv n d ds=v/\(under t k u).fs n d ds=s:=by
 refine⟨⟨.inl hk,v,s,h⟩, ?_, ?_⟩
 .obtain⟨s',h'⟩:=jK (r:=fun v=>∃s,(lk t n lD).relF d ds v s) ⟨v,s,h⟩;exact(hD _ _ _ _ _ _ h' h).1
 .obtain⟨v',h'⟩:=jK (r:=fun s=>∃v,(lk t n lD).relF d ds v s) ⟨s,v,h⟩;exact(hD _ _ _ _ _ _ h' h).2
def Gq (hk:(lk t n lD).key<k\/(lk t n lD).key=k/\(lk t n lD).muE ds st<u)(h:(lk t n lD).tr ds st K):(under t k u).tr n ds st K:=⟨hk,h⟩
end
section
variable [dq] {P:Program} {ν:List (Nat×Nat)} {cC:List Nat} {Y:Ctx} {t:List (Nat×mi)} {fid n key:Nat}
def C9 (P:Program)(ν:List (Nat×Nat))(cC:List Nat)(Y:Ctx)(fid:Nat)(ds:List D)(d:D):Prop:=Ok P ν cC Y->∀(x:X) (args:Array Value),args.size=ds.length->(∀i,i<ds.length->RD ν x (args.getD i undef) (ds.getD i .any))->aV ds=true->
  (∀b,x.I b->b<x.w.heap.size)->dq.gd x->iX P x (fun v x'=>nR x x'/\RD ν x' v d) ((callFunc fid args).run P x.w)
def Da (P:Program)(ν:List (Nat×Nat))(cC:List Nat)(Y:Ctx)(fid:Nat)(d:D)(ds:List D)(vd new:D):Prop:=Ok P ν cC Y->∀(x:X) (f:Nat->Option bM) (args:Array Value) (l k:Nat),args.size=ds.length+1->
   RD ν x (args.getD 0 undef) (.ptr l k 0 0)->(∀i,i<ds.length->RD ν x (args.getD (i+1) undef) (ds.getD i .any))->eG ν x f->f l=some (.buf k [d])->d.bc=true->aV ds=true->
   iX P x (fun v x'=>Step x x'/\RD ν x' v vd/\eG ν x' (fun l'=>if l'=l then some (.buf k [new])else f l')/\x'.β=x.β) ((callFunc fid args).run P x.w)
def lG (P:Program)(ν:List (Nat×Nat))(cC:List Nat)(Y:Ctx)(fid:Nat)(ds:List D)(st:St)(K:D->St->Prop):Prop:=Ok P ν cC Y->∀(x:X) (args:Array Value),args.size=ds.length->(∀i,i<ds.length->RD ν x (args.getD i undef) (ds.getD i .any))->eG ν x (look st.m)->eC st x->
  iX P x (fun v x'=>∃d st',K d st'/\Step x x'/\RD ν x' v d/\eG ν x' (look st'.m)/\eC st' x') ((callFunc fid args).run P x.w)
structure O8 (P:Program)(ν:List (Nat×Nat))(cC:List Nat)(t:List (Nat×mi))(fid n:Nat):Prop where
 p:∀ds d,(lk t n lD).rel ds d->C9 P ν cC (under t (lk t n lD).key ((lk t n lD).mu ds)) fid ds d
 f:BB (lk t n lD).relF/\∀d ds v s,(lk t n lD).relF d ds v s->Da P ν cC (under t (lk t n lD).key ((lk t n lD).mu (d::ds))) fid d ds v s
 g:∀ds st K,(lk t n lD).tr ds st K->lG P ν cC (under t (lk t n lD).key ((lk t n lD).muE ds st)) fid ds st K
def okA (hsm:∀fid n,dr ν fid=some n->n<1000000)(hB:∀t,cC.contains (1000000000+t)=true->t=dq.tB)(hG:∀g,cC.contains (500000000+g)=true->dq.gz g)(h:∀fid n,dr ν fid=some n->O8 P ν cC t fid n):Ok P ν cC (wH t):=by
 refine R0 (Jr t) hsm hB hG (fun fid n hn ds hp hok=>(h fid n hn).p ds _ (jK hp) hok) (fun fid n hn _ d ds hp hok=>?_) (fun fid n hn ds st K htr hok=>(h fid n hn).g ds st K htr hok);obtain⟨v,s,hr⟩:=hp;obtain⟨hD,hf⟩:=(h fid n hn).f;have h2:(wH t).fv n d ds=v/\(wH t).fs n d ds=s:=by
  constructor
  .obtain⟨s',h'⟩:=jK (r:=fun v=>∃s,(lk t n lD).relF d ds v s) ⟨v,s,hr⟩;exact(hD _ _ _ _ _ _ h' hr).1
  .obtain⟨v',h'⟩:=jK (r:=fun s=>∃v,(lk t n lD).relF d ds v s) ⟨s,v,hr⟩;exact(hD _ _ _ _ _ _ h' hr).2
 rw[h2.1,h2.2];exact hf d ds v s hr hok
def yE {Y:D->List D->Ctx}:BB RZ/\∀d ds v s,RZ d ds v s->Da P ν cC (Y d ds) fid d ds v s:=⟨fun _ _ _ _ _ _ h=>h.elim,fun _ _ _ _ h=>h.elim⟩
def cb {A:RT->Prop}{mu:List D->Nat}(hr:lk t n lD=rP key A mu)(h:A fun ds d=>C9 P ν cC (under t key (mu ds)) fid ds d):O8 P ν cC t fid n:=by
 refine⟨?_, ?_, ?_⟩<;>rw[hr]
 .exact fun ds d hd=>hd (fun ds d=>C9 P ν cC (under t key (mu ds)) fid ds d) h
 .exact yE
 .exact fun _ _ _ h=>h.elim
def oweF {A:FT->Prop}(hr:lk t n lD=rF key A)(hD:BB (uV A))(h:A fun d ds v s=>Da P ν cC (under t key 0) fid d ds v s):O8 P ν cC t fid n:=by
 refine⟨?_, ?_, ?_⟩<;>rw[hr]
 .exact fun _ _ h=>h.elim
 .exact⟨hD,fun d ds v s hd=>hd _ h⟩
 .exact fun _ _ _ h=>h.elim
def F8 {Y:List D->St->Ctx}:zq fun ds st K=>lG P ν cC (Y ds st) fid ds st K:=fun ds st K K' h hg hok x args hl ha hs hf=>(hg hok x args hl ha hs hf).mono fun v x' ⟨d,st',h1,h2⟩=>⟨d,st',h _ _ h1,h2⟩
def wU {C:Ctx->Prop}{mu:List D->St->Nat}(hr:lk t n lD=rG key C mu)(h:C (MW fun ds st K=>lG P ν cC (under t key (mu ds st)) fid ds st K)):O8 P ν cC t fid n:=by
 refine⟨?_, ?_, ?_⟩<;>rw[hr]
 .exact fun _ _ h=>h.elim
 .exact yE
 .exact fun ds st K hd=>hd (fun ds st K=>lG P ν cC (under t key (mu ds st)) fid ds st K) F8 h
def Bt (P:Program)(ν:List (Nat×Nat))(cC:List Nat)(fid:Nat)(af:aJ):Prop:=(P.funcs[fid]?).map (fun f=>(compile P ν cC f,f.name== "runtime.NumGoroutine"))=some (some af,false)
def Bt.split {af:aJ}(h:Bt P ν cC fid af):∃fn,P.funcs[fid]? =some fn/\compile P ν cC fn=some af/\(fn.name== "runtime.NumGoroutine")=false:=by
 grind [Bt]
def a7 {af:aJ}{ds:List D}{d:D}(hmix:P.follows .mixedOrders=true)(hC:Bt P ν cC fid af)(h1:ds.length=af.np)(h2:cr (Y.at 0) af.body (Pa af d) (fZ af ds) ⟨0,[]⟩):C9 P ν cC Y fid ds d:=by
 intro hok x args hl hargs hnl himm hgd;obtain⟨fn,hf,hc,hn⟩:=hC.split;obtain⟨body,c1,_⟩:=hO hc;exact .inr ⟨fid,args,jd hf hn (by rw[c1];rfl) args x.w,K6 hok hmix hf hc hl hargs hnl himm hgd h1 h2⟩
def RN {af:aJ}{d:D}{ds:List D}{vd new:D}(k0:Nat)(hmix:P.follows .mixedOrders=true)(hC:Bt P ν cC fid af)(h1:ds.length+1=af.np)(hk:d.cells.length=k0)
  (h2:cr (Y.at 1) af.body (NM af k0 vd new) (fZ af (.ptr 0 k0 0 0::ds)) ⟨1,[(0,.buf k0 [d])]⟩):Da P ν cC Y fid d ds vd new:=by
 intro hok x f args l k hl h0 hargs hs hfl hd hnl;obtain⟨fn,hf,hc,hn⟩:=hC.split;obtain⟨body,c1,_⟩:=hO hc;have hkk:k=k0:=by
  generalize args.getD 0 undef=v0 at h0;cases h0 with
  |ptr _ _ _ _ b base tot at_ hβ hat=>
   obtain⟨p1,p2,c,T,fr,p3,p4,p5,p6⟩:=(hs.own l _ b base tot hfl hβ).2;have:=(p6 0 bh).1
   grind
 subst hkk;exact .inr ⟨fid,args,jd hf hn (by rw[c1];rfl) args x.w,K4 hok hmix hf hc hl h0 hargs hs hfl hd hnl h1 h2⟩
def qO {af:aJ}{ds:List D}{st:St}{K:D->St->Prop}{σi:List (Nat×Nat)}{q:Nat}{m0:List (Nat×bM)}{cs:List D}{Q:D->List (Nat×bM)->Prop}(hmono:∀q,(Y.at q).cP)(hmix:P.follows .mixedOrders=true)(hC:Bt P ν cC fid af)
  (h1:cs.length=ds.length) (h2:∀i,i<ds.length->KK 0 σi (ds.getD i .any) (cs.getD i .any)) (h3:cs.length=af.np)
  (h4:eU 0 q σi=true) (h5:∀l i,(l,i)∈σi->look st.m l≠none) (h6:∀i b,look m0 i=some b->∃l b',(l,i)∈σi/\look st.m l=some b'/\mK 0 σi b' b)
  (h7:cr (Y.at q) af.body (lP af Q) (fZ af cs) ⟨q,m0⟩) (h8:∀d m1,Q d m1->∃(σo:List (Nat×Nat)) (q1:Nat) (st':St) (vd':D),Fr σi σo q q1 m0 m1 st st'/\KK 0 σo d vd'/\K vd' st'):lG P ν cC Y fid ds st K:=by
 intro hok x args hl hargs hs hfr;obtain⟨fn,hf,hc,hn⟩:=hC.split;obtain⟨body,c1,_⟩:=hO hc;refine .inr ⟨fid,args,jd hf hn (by rw[c1];rfl) args x.w, ?_⟩;refine Calls.mono (K5 (K:=K) hok hmix hf hc hl hargs hs hfr h1 h2 h3 h4 h5 h6 (gh (hmono q) _ _ _ _ _ (fun e env st1 h=>?_) h7)) fun e w' he=>?_
 .obtain⟨g1,g2,m1,g3,g4⟩:=h
  grind
 grind
end
end
theorem pj {α:Type}{f:α->D}(hf:∀x y,f x=f y↔x=y):∀a b:List α,a.map f=b.map f↔a=b
 |[],[]=>bh
 |[],_::_=>bh
 |_::_,[]=>bh
 |x::a,y::b=>by simp only[List.map_cons,sE,hf,pj hf a b]
def N7 (a b:Nat):((a:Nat):Int)=(b:Nat)↔a=b:=ae
theorem iU8 (x y:UInt8):((x.toNat:Nat):Int)=(y.toNat:Nat)↔x=y:=(N7 _ _).trans C5
def RR (a b:List dy):a.map D.str=b.map D.str↔a=b:=pj (fun _ _=>bh) a b
def Ga (a b:List Int):a.map (D.int .i64)=b.map (D.int .i64)↔a=b:=pj (fun _ _=>bh) a b
def iByt (a b:dy):(a.map fun c=>D.int .u8 c.toNat)=(b.map fun c=>D.int .u8 c.toNat)↔a=b:=by grind [pj,iU8]
def iVer (a b:bd):bd.D a=bd.D b↔a=b:=by cases a;cases b;simp[bd.D]
def Lx [dq]{P:Program}{ν:List (Nat×Nat)}{cC:List Nat}{t:List (Nat×mi)}{fid n:Nat}(hr:lk t n lD=lD):O8 P ν cC t fid n:=by
 refine⟨?_, ?_, ?_⟩<;>rw[hr]
 .exact fun _ _ h=>h.elim
 .exact yE
 .exact fun _ _ _ h=>h.elim
structure Cut where
 e:Int
 v:bd
 a:Bool
 deriving Inhabited,DecidableEq
def Cut.D (c:Cut):D:=.agg [.int .i64 c.e,.int .i64 c.v.major,.int .i64 c.v.minor,.int .i64 c.v.patch,.str c.v.pre,.str c.v.build,.bool c.a]
structure Span where
 f:Cut
 t:Cut
 deriving Inhabited,DecidableEq
def Span.D (s:Span):D:=.agg [.int .i64 s.f.e,.int .i64 s.f.v.major,.int .i64 s.f.v.minor,.int .i64 s.f.v.patch,.str s.f.v.pre,.str s.f.v.build,.bool s.f.a,
 .int .i64 s.t.e,.int .i64 s.t.v.major,.int .i64 s.t.v.minor,.int .i64 s.t.v.patch,.str s.t.v.pre,.str s.t.v.build,.bool s.t.a]
structure bG where
 rel:List Span
 pr:List Span
 deriving Inhabited,DecidableEq
def bG.D (s:bG):D:=.agg [.sl 14 (s.rel.map Span.D),.sl 14 (s.pr.map Span.D)]
structure Want where
 u:Int
 s:bG
 deriving Inhabited,DecidableEq
def Want.D (w:Want):D:=.agg [.int .i64 w.u,.sl 14 (w.s.rel.map Span.D),.sl 14 (w.s.pr.map Span.D)]
abbrev ko:=List Want
def dL (r:ko):D:=.sl 3 (r.map Want.D)
structure dI where
 v:bd
 sh:Int
 needs:List ko
 bars:List Want
 deriving Inhabited,DecidableEq
def dI.D (c:dI):D:=.agg [.int .i64 c.v.major,.int .i64 c.v.minor,.int .i64 c.v.patch,.str c.v.pre,.str c.v.build,.int .i64 c.sh,.sl 1 (c.needs.map dL),.sl 3 (c.bars.map Want.D)]
structure bQ where
 name:dy
 feat:dy
 cands:List dI
 deriving Inhabited,DecidableEq
def bQ.D (u:bQ):D:=.agg [.str u.name,.str u.feat,.sl 8 (u.cands.map dI.D)]
structure bT where
 us:List bQ
 deriving Inhabited,DecidableEq
def bT.D (w:bT):D:=.agg [.sl 3 (w.us.map bQ.D)]
structure a8 where
 u:Int
 m:Int
 deriving Inhabited,DecidableEq
def a8.D (t:a8):D:=.agg [.int .i64 t.u,.int .i64 t.m]
structure av where
 kind:Int
 unit:Int
 a:Int
 b:Int
 terms:List a8
 deriving Inhabited,DecidableEq
def av.D (r:av):D:=.agg [.int .i64 r.kind,.int .i64 r.unit,.int .i64 r.a,.int .i64 r.b,.sl 2 (r.terms.map a8.D)]
structure ba where
 w:bT
 allow:List Int
 rows:List av
 deriving Inhabited,DecidableEq
def ba.D (c:ba):D:=.agg [.sl 3 (c.w.us.map bQ.D),.sl 1 (c.allow.map (D.int .i64)),.sl 5 (c.rows.map av.D)]
def N3 (a b:Bool):ij (D.bool a).cells (D.bool b).cells=decide (a=b):=by cases a<;>cases b<;>rfl
def rL (f:Nat->Int):Nat->Nat->Int
 |_,0=>0
 |i,k+1=>if f i=0 then rL f (i+1) k else f i
def gM (f:Nat->Int)(i n:Nat):Int:=rL f i (n-i)
def F4 {f:Nat->Int}{i n:Nat}(h:i<n)(hf:f i=0):gM f i n=gM f (i+1) n:=by
 unfold gM;obtain⟨k,hk⟩:∃k,n-i=k+1:=⟨n-i-1,ae⟩
 grind [rL]
def BP {f:Nat->Int}{i n:Nat}(h:i<n)(hf:f i≠0):gM f i n=f i:=by
 unfold gM;obtain⟨k,hk⟩:∃k,n-i=k+1:=⟨n-i-1,ae⟩
 rw[hk];simp only[rL,hf,aL]
def F3 {f:Nat->Int}{i n:Nat}(h:n<=i):gM f i n=0:=by
 unfold gM;rw[show n-i=0 by omega];rfl
def dk (a b:Int):Int:=if a<b then-1 else if b<a then 1 else 0
def lE (a b:dy):Int:=if Op.bytesLess a b=true then-1 else if a=b then 0 else 1
def pn (a b:dy):Int:=if cL a=true/\cL b=true then dk (tu a) (tu b)else if cL a=true then-1 else if cL b=true then 1 else lE a b
def A3 (l m:List dy):Nat->Nat->Int
 |_,0=>dk l.length m.length
 |i,k+1=>if pn l[i]! m[i]! ≠0 then pn l[i]! m[i]! else A3 l m (i+1) k
def pD (l m:List dy)(i:Nat):Int:=A3 l m i (min l.length m.length-i)
def xU {l m:List dy}{i:Nat}(h:i<l.length/\i<m.length)(hn:pn l[i]! m[i]! ≠0):pD l m i=pn l[i]! m[i]! :=by
 unfold pD;rw[show min l.length m.length-i=(min l.length m.length-(i+1))+1 by omega,A3,aw hn]
def A2 {l m:List dy}{i:Nat}(h:i<l.length/\i<m.length)(hn:pn l[i]! m[i]! =0):pD l m i=pD l m (i+1):=by
 unfold pD;rw[show min l.length m.length-i=(min l.length m.length-(i+1))+1 by omega,A3,ai (by rw[hn];simp)]
def xT {l m:List dy}{i:Nat}(h:l.length<=i\/m.length<=i):pD l m i=dk l.length m.length:=by
 unfold pD;rw[show min l.length m.length-i=0 by omega,A3]
def se (a b:dy):Int:=if a=b then 0 else if a=[]then 1 else if b=[]then-1 else pD (bE a 46) (bE b 46) 0
def kY (a b:bd):Int:=if ki a=false\/ki b=false then 0 else
 if dk a.major b.major≠0 then dk a.major b.major else if dk a.minor b.minor≠0 then dk a.minor b.minor else
 if dk a.patch b.patch≠0 then dk a.patch b.patch else se a.pre b.pre
def jW (v:bd):bd:=⟨v.major,v.minor,v.patch,v.pre,[]⟩
theorem FY (a:Int):dk a a=0:=by simp[dk]
def rD {a b:Int}:dk a b=0↔a=b:=by
 grind [dk]
def FZ {a b:bd}(h:jW a=jW b):kY a b=0:=by
 grind [jW,kY,se,FY]
theorem H8 (x y z:Int):gM (fun i=>[x,y,z][i]!) 0 [x,y,z].length=if x≠0 then x else if y≠0 then y else z:=by
 grind [gM,rL]
def Ia {x y z:Int}(h:gM (fun i=>[x,y,z][i]!) 0 [x,y,z].length=0):x=0/\y=0/\z=0:=by
 grind [H8]
def H9 {a b:bd}(hv:¬(ki a=false\/ki b=false))(h:¬gM (fun i=>[dk a.major b.major,dk a.minor b.minor,dk a.patch b.patch][i]!) 0 [dk a.major b.major,dk a.minor b.minor,dk a.patch b.patch].length=0):
  gM (fun i=>[dk a.major b.major,dk a.minor b.minor,dk a.patch b.patch][i]!) 0 [dk a.major b.major,dk a.minor b.minor,dk a.patch b.patch].length=kY a b:=by
 grind [H8,kY]
def HX {a b:bd}(hv:¬(ki a=false\/ki b=false))(h1:dk a.major b.major=0)(h2:dk a.minor b.minor=0)(h3:dk a.patch b.patch=0):kY a b=se a.pre b.pre:=by
 grind [kY]
def KW {a b:bd}(h1:dk a.major b.major=0)(h2:dk a.minor b.minor=0)(h3:dk a.patch b.patch=0)(h4:a.pre=b.pre):jW a=jW b:=by
 unfold jW;rw[rD.1 h1,rD.1 h2,rD.1 h3,h4]
def Cut.sm (c:Cut):Prop:=c.v.sm
def Span.sm (s:Span):Prop:=s.f.sm/\s.t.sm
def bP (l:List Span):Prop:=∀s∈l,s.sm
def bG.sm (s:bG):Prop:=bP s.rel/\bP s.pr
def Want.sm (w:Want):Prop:=w.s.sm
def dI.sm (c:dI):Prop:=c.v.sm/\(∀r∈c.needs,∀w∈r,w.sm)/\∀w∈c.bars,w.sm
def bQ.sm (u:bQ):Prop:=u.cands.length<=16/\∀c∈u.cands,c.sm
def bT.sm (w:bT):Prop:=∀u∈w.us,u.sm
def zV:bd:=⟨0,0,0,[],[]⟩
def lF (c:Cut):Bool:=if c.e=0 then ki c.v&&decide (c.v.build=[])else(decide (c.e=-1) ||decide (c.e=1))&&decide (c.v=zV)&& !c.a
def fY (a b:Cut):Int:=if lF a=false\/lF b=false then 0 else if a.e≠0\/b.e≠0 then dk a.e b.e else
 if kY a.v b.v≠0 then kY a.v b.v else if a.a=b.a then 0 else if b.a=true then-1 else 1
def kd (s:Span):Bool:=lF s.f&&lF s.t&&decide (fY s.f s.t<0)
def gJ (c:Cut)(v:bd):Bool:=if lF c=false\/ki v=false then false else if c.e≠0 then decide (c.e<0)else decide (kY c.v v<0) ||(decide (kY c.v v=0)&& !c.a)
def lT (s:Span)(v:bd):Bool:=kd s&&ki v&&gJ s.f v&& !gJ s.t v
def tv (l:List Span)(i:Nat):Bool:=kd l[i]! && !(decide (0<i)&&decide (0<=fY l[i-1]!.t l[i]!.f))
def lZ (l:List Span):Bool:=dj (tv l) 0 l.length
def pf (f:Nat->Bool)(i n:Nat):Bool:=!dj (fun i=>!f i) i n
def jR {f:Nat->Bool}{i n:Nat}(h:i<n):pf f i n=(f i ||pf f (i+1) n):=by
 unfold pf;rw[bJ h];simp
def qu {f:Nat->Bool}{i n:Nat}(h:n<=i):pf f i n=false:=by
 unfold pf;rw[dC h];rfl
def HC {f:Nat->Bool}{i n:Nat}:pf f i n=true↔∃j,i<=j/\j<n/\f j=true:=by
 unfold pf;rw[eB,<-Bool.not_eq_true,cA];simp
def na (l:List Span)(v:bd):Bool:=lZ l&&pf (fun i=>lT l[i]! v) 0 l.length
def p7 (v:bd):Bool:=decide (v.major=0)&&decide (v.minor=0)&&decide (v.patch=0)
def jN (c:Cut):Bool:=decide (c.e≠0) ||(!c.a&&decide (c.v.pre=[])&& !p7 c.v)
def mF (c:Cut):Bool:=decide (c.e≠0) ||(!c.a&&decide (c.v.pre=[])&& !decide (c.v=zV))
def nb (s:bG):Bool:=lZ s.rel&&lZ s.pr&&dj (fun i=>jN s.rel[i]!.f&&jN s.rel[i]!.t) 0 s.rel.length
def MS (s:bG):Bool:=dj (fun i=>mF s.rel[i]!.f&&mF s.rel[i]!.t) 0 s.rel.length&&(lZ s.rel&&lZ s.pr)
def ny (s:bG)(v:bd):Bool:=nb s&&ki v&&(if v.pre=[]then na s.rel v else na s.pr v)
def vU {c:Cut}(h:lF c=true):mF c=jN c:=by
 obtain⟨e,⟨a,b,c,p,q⟩,f⟩:=c;by_cases he:e=0
 .simp only[lF,he,aN,bm,bL]at h;obtain⟨_,rfl⟩:=h;simp only[mF,jN,p7,zV,bd.mk.injEq];by_cases h1:p=[]<;>by_cases h2:a=0<;>by_cases h3:b=0<;>by_cases h4:c=0<;>simp[h1,h2,h3,h4]
 .simp[mF,jN,he]
def JI {l:List Span}(h:lZ l=true){i:Nat}(hi:i<l.length):lF l[i]!.f=true/\lF l[i]!.t=true:=by
 unfold lZ at h;rw[cA]at h;have:=h i ae hi;simp only[tv,kd,bm]at this;exact⟨this.1.1.1,this.1.1.2⟩
def LY (s:bG):MS s=nb s:=by
 unfold MS nb;cases h:lZ s.rel with
 |false=>simp
 |true=>
  have:dj (fun i=>mF s.rel[i]!.f&&mF s.rel[i]!.t) 0 s.rel.length=dj (fun i=>jN s.rel[i]!.f&&jN s.rel[i]!.t) 0 s.rel.length:=by
   rw[Bool.eq_iff_iff,cA,cA];constructor<;>intro g j h1 h2<;>have q:=JI h h2<;>have:=g j h1 h2<;>rw[vU q.1,vU q.2]at* <;>exact this
  rw[this];cases lZ s.pr<;>simp
def mZ:Cut:=⟨-1,zV,false⟩
def qT:Cut:=⟨1,zV,false⟩
def lI (v:bd):Cut:=⟨0,jW v,false⟩
def tL (v:bd):Cut:=⟨0,jW v,true⟩
def nC (v:bd):bd:=⟨v.major,v.minor,v.patch,[],[]⟩
def eN (v:bd)(p:Int):bd:=if p=0 then⟨v.major+1,0,0,[],[]⟩else if p=1 then⟨v.major,v.minor+1,0,[],[]⟩else⟨v.major,v.minor,v.patch+1,[],[]⟩
def fR (v:bd)(p:Int):bd×Bool:=if ki v=false\/p<0\/2<p then(zV,false)else if ki (eN v p)=false then(zV,false)else(eN v p,true)
def vy (v:bd):Nat->bd×Bool
 |0=>(zV,false)
 |n+1=>if(fR v (n:Int)).2=true then((fR v (n:Int)).1,true)else vy v n
def iR (v:bd):bd×Bool:=if ki v=false then(zV,false)else if v.pre≠[]then(nC v,true)else vy v 3
def nT (v:bd):Cut:=if p7 v=true then mZ else lI (nC v)
def zE (v:bd):Cut:=if(iR (nC v)).2=false then qT else lI (iR (nC v)).1
def kP (l:List Cut)(c:Cut)(i:Nat):Nat:=i+((l.drop i).takeWhile fun x=>decide (fY x c<0)).length
def Lb {l:List Cut}{c:Cut}{i:Nat}(h:i<l.length)(hc:fY l[i]! c<0):kP l c i=kP l c (i+1):=by
 unfold kP;rw[jP h,List.takeWhile_cons_of_pos (by simpa[h]using hc)];simp;omega
def Lc {l:List Cut}{c:Cut}{i:Nat}(h:i<l.length->¬fY l[i]! c<0):kP l c i=i:=by
 unfold kP;rcases cQ i l.length with hi|hi
 .rw[jP hi,List.takeWhile_cons_of_neg (by simpa[hi]using h hi)];rfl
 .rw[mf hi];rfl
def tf (l:List Cut)(c:Cut):List Cut:=if kP l c 0<l.length/\fY l[kP l c 0]! c=0 then l else(l.take (kP l c 0)++[c])++l.drop (kP l c 0)
def mq (l:List Span):Nat->List Cut
 |0=>[mZ,qT]
 |i+1=>tf (tf (mq l i) l[i]!.f) l[i]!.t
def cJ (l:List Span):List Cut:=mq l l.length
def pU (l:List Span)(f t:Cut):Bool:=pf (fun i=>decide (fY l[i]!.f f<=0)&&decide (fY t l[i]!.t<=0)) 0 l.length
def k8 (l:List Span)(f t:Cut):List Span:=if 0<l.length/\fY l[l.length-1]!.t f=0 then l.set (l.length-1) ⟨l[l.length-1]!.f,t⟩else l++[⟨f,t⟩]
def ei (p:Cut->Cut->Bool)(c:List Cut):Nat->List Span
 |0=>[]
 |i+1=>if p c[i]! c[i+1]! =true then k8 (ei p c i) c[i]! c[i+1]! else ei p c i
def AQ (p:Cut->Cut->Bool)(c:List Cut):List Span:=ei p c (c.length-1)
def om (l:List Span):List Span×Bool:=if dj (fun i=>kd l[i]!) 0 l.length=true then(AQ (pU l) (cJ l),true)else([],false)
def Hd (a b:List Span):List Span:=if lZ a=false\/lZ b=false then []else(om (a++b)).1
def tt (a:List Span):List Span:=if lZ a=false then []else AQ (fun x y=>!pU a x y) (cJ a)
def vB:bG:=⟨[],[]⟩
def qp:List Span:=[⟨mZ,qT⟩]
def wE:bG:=⟨qp,qp⟩
def bV (v:bd):bG:=if ki v=false then vB else if v.pre≠[]then⟨[],[⟨lI v,tL v⟩]⟩else⟨[⟨nT v,zE v⟩],[]⟩
def IW (a b:bG):bG:=if nb a=false\/nb b=false then vB else⟨Hd a.rel b.rel,Hd a.pr b.pr⟩
def wS (a:bG):bG:=if nb a=false then vB else⟨tt a.rel,tt a.pr⟩
def nO (l:List Cut):Prop:=∀c∈l,c.sm
def FG (l:List Span):Prop:=bP l/\l.length<=1000
def BH (s:bG):Prop:=FG s.rel/\FG s.pr
def ta:zV.sm:=by simp[zV,bd.sm]
def oP:mZ.sm:=ta
def qU:qT.sm:=ta
def tO {v:bd}(h:v.sm):(jW v).sm:=⟨h.1,by simp[jW]⟩
def y5 (v:bd):(nC v).sm:=by simp[nC,bd.sm]
def qC (v:bd)(p:Int):(eN v p).sm:=by unfold eN;split<;>(try split)<;>simp[bd.sm]
def HJ (v:bd)(p:Int):(fR v p).1.sm:=by unfold fR;split<;>(try split)<;>first|exact ta|exact qC v p
def Aj (v:bd):∀n,(vy v n).1.sm
 |0=>ta
 |n+1=>by
  rw[vy];split
  .exact HJ v _
  .exact Aj v n
def IE (v:bd):(iR v).1.sm:=by
 unfold iR;repeat' split
 all_goals first|exact ta|exact y5 v|exact Aj v _
def J1 {v:bd}(h:ki v=true):(0<=v.major/\v.major<=9999)/\(0<=v.minor/\v.minor<=9999)/\0<=v.patch/\v.patch<=9999:=by
 simp only[ki,BT,bm,bL]at h;omega
def yo {l:List Cut}{c:Cut}(hl:nO l)(hc:c.sm):nO (tf l c):=by
 unfold tf;split
 .exact hl
 .intro x hx;simp only[List.mem_append,bo]at hx;rcases hx with(hx|rfl)|hx
  .exact hl _ (Kf hx)
  .exact hc
  .exact hl _ (List.mem_of_mem_drop hx)
def uB (l:List Cut)(c:Cut):(tf l c).length<=l.length+1:=by
 unfold tf;split<;>simp<;>omega
def uF {l:List Span}(hl:bP l):∀{i:Nat},i<=l.length->nO (mq l i)
 |0,_=>by intro x hx;simp[mq]at hx;rcases hx with rfl|rfl;exact oP;exact qU
 |i+1,h=>yo (yo (uF hl ae) (hl _ (aj ae)).1) (hl _ (aj ae)).2
def qH {l:List Span}(hl:bP l):nO (cJ l):=uF hl (aE _)
def rE (l:List Span):∀i,(mq l i).length<=2+2*i
 |0=>by simp[mq]
 |i+1=>by
  have h1:=rE l i;have h2:=uB (mq l i) l[i]!.f;have h3:=uB (tf (mq l i) l[i]!.f) l[i]!.t;simp only[mq];omega
def oN (l:List Span):(cJ l).length<=2+2*l.length:=rE l _
def Ij {l:List Span}{f t:Cut}(hl:bP l)(hf:f.sm)(ht:t.sm):bP (k8 l f t):=by
 unfold k8;split
 .rename_i h;intro x hx;rcases List.mem_or_eq_of_mem_set hx with hx|rfl
  .exact hl x hx
  .exact⟨(hl _ (aj ae)).1,ht⟩
 .intro x hx;rcases List.mem_append.1 hx with hx|hx
  .exact hl x hx
  .obtain rfl:=bo.1 hx;exact⟨hf,ht⟩
def rM (l:List Span)(f t:Cut):(k8 l f t).length<=l.length+1:=by
 unfold k8;split<;>simp
def oD {p:Cut->Cut->Bool}{c:List Cut}(hc:nO c):∀{i:Nat},i<c.length\/i=0->bP (ei p c i)
 |0,_=>fun _ h=>by cases h
 |i+1,h=>by
  rw[ei];split
  .exact Ij (oD hc ae) (hc _ (aj ae)) (hc _ (aj ae))
  .exact oD hc ae
def o8 {p:Cut->Cut->Bool}{c:List Cut}:∀i,(ei p c i).length<=i
 |0=>by simp[ei]
 |i+1=>by
  have h1:=o8 (p:=p) (c:=c) i;rw[ei];split
  .have:=rM (ei p c i) c[i]! c[i+1]!;omega
  .omega
def AR {p:Cut->Cut->Bool}{c:List Cut}(hc:nO c):bP (AQ p c):=oD hc ae
def xN {p:Cut->Cut->Bool}{c:List Cut}:(AQ p c).length<=c.length:=by
 have:=o8 (p:=p) (c:=c) (c.length-1);unfold AQ;omega
def HE {a b:List Span}(ha:bP a)(hb:bP b):bP (a++b):=fun x hx=>(List.mem_append.1 hx).elim (ha x) (hb x)
def jI:bP []:=fun _ h=>by cases h
def IV {a b:List Span}(ha:bP a)(hb:bP b):bP (Hd a b):=by
 unfold Hd om;split
 .exact jI
 .split
  .exact AR (qH (HE ha hb))
  .exact jI
def DN {a:List Span}(ha:bP a):bP (tt a):=by
 unfold tt;split
 .exact jI
 .exact AR (qH ha)
def Oy {a b:bG}(ha:a.sm)(hb:b.sm):(IW a b).sm:=by
 unfold IW;split
 .exact⟨jI,jI⟩
 .exact⟨IV ha.1 hb.1,IV ha.2 hb.2⟩
def Lo {a:bG}(ha:a.sm):(wS a).sm:=by
 unfold wS;split
 .exact⟨jI,jI⟩
 .exact⟨DN ha.1,DN ha.2⟩
def FI (v:bd):(nT v).sm:=by
 unfold nT;split
 .exact oP
 .exact tO (y5 v)
def KS (v:bd):(zE v).sm:=by
 unfold zE;split
 .exact qU
 .exact tO (IE _)
def xb {v:bd}(h:v.sm):(bV v).sm:=by
 unfold bV;split
 .exact⟨jI,jI⟩
 .split
  .exact⟨jI,fun x hx=>by obtain rfl:=bo.1 hx;exact⟨tO h,tO h⟩⟩
  .exact⟨fun x hx=>by obtain rfl:=bo.1 hx;exact⟨FI v,KS v⟩,jI⟩
def Db:wE.sm:=⟨fun x hx=>by obtain rfl:=bo.1 hx;exact⟨oP,qU⟩,fun x hx=>by obtain rfl:=bo.1 hx;exact⟨oP,qU⟩⟩
def O2 {xs:List Span}{k:Nat}{t:Cut}(h:k<xs.length):(xs.map Span.D).set k (vW ((xs.map Span.D).getD k .any) 14 7 7 (Cut.D t))=(xs.set k ⟨xs[k]!.f,t⟩).map Span.D:=by
 rw[getD_map h,List.map_set];rfl
structure Key where
 n:dy
 f:dy
 deriving Inhabited
def Key.D (k:Key):D:=.agg [.str k.n,.str k.f]
def oF (n:Int)(w:Want):Bool:=decide (0<w.u)&&decide (w.u<n)&&nb w.s
def nj (n:Int)(l:List Want):Bool:=dj (fun i=>oF n l[i]!) 0 l.length
def oB (n:Int)(l:List Want):Bool:=nj n l&&(decide (0<l.length)&&decide (l.length<=24))
def nq (n:Int)(c:dI):Bool:=decide (c.needs.length<=24)&&decide (c.bars.length<=24)&&dj (fun i=>oB n c.needs[i]!) 0 c.needs.length&&nj n c.bars
def vH (a b:Key):Int:=if lE a.n b.n≠0 then lE a.n b.n else lE a.f b.f
def yg (a b:bQ):Bool:=Op.bytesLess a.name b.name ||(decide (a.name=b.name)&&Op.bytesLess a.feat b.feat)
def qG (n:Int)(cs:List dI)(k:Nat):Bool:=ki cs[k]!.v&&nq n cs[k]! && !(decide (0<k)&&decide (0<=kY cs[k-1]!.v cs[k]!.v))
def sZ (us:List bQ)(i:Nat):Bool:=!(decide (0<i)&&decide (us[i]!.name=[]))&& !(decide (1<i)&& !yg us[i-1]! us[i]!)&&decide (us[i]!.cands.length<=16)&&dj (qG us.length us[i]!.cands) 0 us[i]!.cands.length
def DB (us:List bQ):Bool:=decide (us[0]!.name=[])&&decide (us[0]!.feat=[])&&decide (us[0]!.cands.length=1)
def nH (w:bT):Bool:=decide (1<=w.us.length)&&decide (w.us.length<=48)&&DB w.us&&dj (sZ w.us) 0 w.us.length
def Iu (a:dy):Op.bytesLess a a=false:=by
 induction a with
 |nil=>rfl
 |cons x r ih=>unfold Op.bytesLess;simp[ih]
def Gu (a b:bQ):decide (0<=vH ⟨a.name,a.feat⟩ ⟨b.name,b.feat⟩)=!yg a b:=by
 unfold vH yg lE;have h:=Iu b.name;by_cases h1:Op.bytesLess a.name b.name=true<;>by_cases h2:a.name=b.name<;>by_cases h3:Op.bytesLess a.feat b.feat=true<;>by_cases h4:a.feat=b.feat<;>simp_all
def RP (a b:Cut):Cut.D a=Cut.D b↔a=b:=by
 obtain⟨e,⟨v1,v2,v3,v4,v5⟩,x⟩:=a;obtain⟨e',⟨w1,w2,w3,w4,w5⟩,x'⟩:=b;simp[Cut.D,and_assoc]
def RQ (a b:List Cut):a.map Cut.D=b.map Cut.D↔a=b:=pj RP a b
def MF (a b:Span):Span.D a=Span.D b↔a=b:=by
 obtain⟨⟨e,⟨v1,v2,v3,v4,v5⟩,x⟩,⟨f,⟨u1,u2,u3,u4,u5⟩,y⟩⟩:=a;obtain⟨⟨e',⟨w1,w2,w3,w4,w5⟩,x'⟩,⟨f',⟨t1,t2,t3,t4,t5⟩,y'⟩⟩:=b;simp[Span.D,and_assoc]
def BX (a b:List Span):a.map Span.D=b.map Span.D↔a=b:=pj MF a b
def iSet (a b:bG):bG.D a=bG.D b↔a=b:=by cases a;cases b;simp[bG.D,BX]
def MH (a b:Want):Want.D a=Want.D b↔a=b:=by
 obtain⟨u,⟨x,y⟩⟩:=a;obtain⟨u',⟨x',y'⟩⟩:=b;simp[Want.D,BX]
def BY (a b:List Want):a.map Want.D=b.map Want.D↔a=b:=pj MH a b
def MI (a b:ko):dL a=dL b↔a=b:=by simp[dL,BY]
def Im (a b:List ko):a.map dL=b.map dL↔a=b:=pj MI a b
def RO (a b:dI):dI.D a=dI.D b↔a=b:=by
 obtain⟨⟨v1,v2,v3,v4,v5⟩,s,x,y⟩:=a;obtain⟨⟨w1,w2,w3,w4,w5⟩,s',x',y'⟩:=b;simp[dI.D,Im,BY,and_assoc]
def MD (a b:List dI):a.map dI.D=b.map dI.D↔a=b:=pj RO a b
def RW (a b:bQ):bQ.D a=bQ.D b↔a=b:=by cases a;cases b;simp[bQ.D,MD]
def DE (a b:List bQ):a.map bQ.D=b.map bQ.D↔a=b:=pj RW a b
def iWld (a b:bT):bT.D a=bT.D b↔a=b:=by cases a;cases b;simp[bT.D,DE]
def RS (a b:a8):a8.D a=a8.D b↔a=b:=by cases a;cases b;simp[a8.D]
def DC (a b:List a8):a.map a8.D=b.map a8.D↔a=b:=pj RS a b
def ME (a b:av):av.D a=av.D b↔a=b:=by cases a;cases b;simp[av.D,DC]
def BW (a b:List av):a.map av.D=b.map av.D↔a=b:=pj ME a b
def N6 (a b:ba):ba.D a=ba.D b↔a=b:=by
 obtain⟨⟨x⟩,y,z⟩:=a;obtain⟨⟨x'⟩,y',z'⟩:=b;simp[ba.D,DE,Ga,BW]
def iKey (a b:Key):Key.D a=Key.D b↔a=b:=by cases a;cases b;simp[Key.D]
def iTag (a b:Bool):((bif a then 929 else 933)=(bif b then 929 else 933:Nat))↔a=b:=by cases a<;>cases b<;>simp
def iGs (a b:Gs):Gs.D a=Gs.D b↔a=b:=by cases a;cases b;simp[Gs.D,Ga]
def RJ {A:FT->Prop}(h:A (fun d ds v s=>A fun d' ds' v' s'=>d'=d->ds'=ds->v=v'/\s=s'):=by
 (repeat' first|apply And.intro|intro _)
 all_goals rename_i e' e
 all_goals (try simp only[sE,D.str.injEq,D.int.injEq,D.bool.injEq,D.sl.injEq,iGs,RR,iU8,C5,N7,bz,bC]at e e')
 all_goals first|rfl|(simp only[e,e'];done)|simp_all):BB (uV A):=KZ h
def FP (m:Int)(i:Nat):Bool:=decide (IntKind.i64.wrap ((BitVec.ofInt 64 (m.fdiv (2^(min (i:Int).toNat 64))))&&&(BitVec.ofInt 64 1)).toNat=1)
def tW (m:Int)(vs:List bd):Nat->bG
 |0=>vB
 |i+1=>if FP m i=true then IW (tW m vs i) (bV vs[i]!)else tW m vs i
def tx (g:Gs)(vs:List bd):bG:=if g.bH.val 6=0 then wE else if g.bH.val 6=1 then wS (tW (g.val 8) vs vs.length)else tW (g.val 8) vs vs.length
def cG (g:Gs)(n:Nat)(vs:Nat->List bd):Want:=⟨1+g.val ((n:Int) -1),tx g.bH (vs (1+g.val ((n:Int) -1)).toNat)⟩
def Gs.eu (g:Gs):Gs:=g.bH.bH.bH
def ji (n:Nat)(vs:Nat->List bd):Nat->Gs->List ko->List ko×Gs
 |0,g,acc=>(acc,g)
 |k+1,g,acc=>if g.eu.val 3=0 then ji n vs k g.eu.bH.eu (acc++[[cG g n vs,cG g.eu.bH n vs]])else ji n vs k g.eu.bH (acc++[[cG g n vs]])
def ax (g:Gs)(n:Nat)(vs:Nat->List bd)(most:Int):List ko×Gs:=ji n vs (g.val (most+1)).toNat g.bH []
def pe (n:Nat)(s:bG):Prop:=s.sm/\s.rel.length<=n/\s.pr.length<=n
def pe.s {n:Nat}{s:bG}(h:pe n s)(hn:n<=1000):BH s:=⟨⟨h.1.1,eK h.2.1 hn⟩,⟨h.1.2,eK h.2.2 hn⟩⟩
def pe.mono {n k:Nat}{s:bG}(h:pe n s)(hn:n<=k):pe k s:=⟨h.1,eK h.2.1 hn,eK h.2.2 hn⟩
def Lm {n:Nat}:pe n vB:=⟨⟨jI,jI⟩,Nat.zero_le _,Nat.zero_le _⟩
def qJ {v:bd}(h:v.sm):pe 1 (bV v):=by
 refine⟨xb h, ?_, ?_⟩<;>(unfold bV;split;exact Nat.zero_le _;split<;>simp)
def DU (a b:List Span):(Hd a b).length<=2+2*(a.length+b.length):=by
 unfold Hd om;split
 .exact Nat.zero_le _
 .split
  .have h1:=xN (p:=pU (a++b)) (c:=cJ (a++b));have h2:=oN (a++b);simp only[cK]at h2;dsimp only;omega
  .exact Nat.zero_le _
def An (a:List Span):(tt a).length<=2+2*a.length:=by
 unfold tt;split
 .exact Nat.zero_le _
 .have h1:=xN (p:=fun x y=>!pU a x y) (c:=cJ a);have h2:=oN a;omega
def R1 {a b:bG}{n k:Nat}(ha:pe n a)(hb:pe k b):pe (2+2*(n+k)) (IW a b):=by
 refine⟨Oy ha.1 hb.1, ?_, ?_⟩<;>unfold IW<;>split
 .exact Nat.zero_le _
 .have:=DU a.rel b.rel;have:=ha.2.1;have:=hb.2.1;dsimp only;omega
 .exact Nat.zero_le _
 .have:=DU a.pr b.pr;have:=ha.2.2;have:=hb.2.2;dsimp only;omega
def Ol {a:bG}{n:Nat}(ha:pe n a):pe (2+2*n) (wS a):=by
 refine⟨Lo ha.1, ?_, ?_⟩<;>unfold wS<;>split
 .exact Nat.zero_le _
 .have:=An a.rel;have:=ha.2.1;dsimp only;omega
 .exact Nat.zero_le _
 .have:=An a.pr;have:=ha.2.2;dsimp only;omega
def MO {m:Int}{vs:List bd}(hv:∀v∈vs,v.sm):∀{k:Nat},k<=vs.length->pe (4*2^k-4) (tW m vs k)
 |0,_=>Lm
 |k+1,h=>by
  have ih:=MO (m:=m) hv (show k<=vs.length by omega);have h2:4*2^(k+1)=8*2^k:=by rw[Nat.pow_succ];omega
  have h1:1<=2^k:=Nat.one_le_two_pow;rw[tW];split
  .exact(R1 ih (qJ (hv _ (aj ae)))).mono ae
  .exact ih.mono ae
def NS:pe 1 wE:=⟨Db,b7,b7⟩
def IU {m:Int}{vs:List bd}(hv:∀v∈vs,v.sm)(h4:vs.length<=4){k:Nat}(hk:k<=vs.length):pe 60 (tW m vs k):=(MO hv hk).mono (by
 have:2^k<=2^4:=Nat.pow_le_pow_right b7 ae;omega)
def OT {g:Gs}{vs:List bd}(hv:∀v∈vs,v.sm)(h4:vs.length<=4):pe 122 (tx g vs):=by
 have h:=IU (m:=g.val 8) hv h4 (aE _);unfold tx;split
 .exact NS.mono b7
 .split
  .exact Ol h
  .exact h.mono b7
inductive NF where
 |nil|sl (l:List ko)|own (k:Nat)
 deriving Inhabited
inductive BF where
 |nil|sl (l:List Want)|own (k:Nat)
 deriving Inhabited
def NF.D (e:Nat):NF->D
 | .nil=>.aB
 | .sl l=>.sl 1 (l.map dL)
 | .own k=>.own e 1 0 k
def BF.D (e:Nat):BF->D
 | .nil=>.aB
 | .sl l=>.sl 3 (l.map Want.D)
 | .own k=>.own e 3 0 k
structure CW where
 v:bd
 sh:Int
 n:NF
 b:BF
 deriving Inhabited
def CW.D (e:Nat)(c:CW):D:=.agg [.int .i64 c.v.major,.int .i64 c.v.minor,.int .i64 c.v.patch,.str c.v.pre,.str c.v.build,.int .i64 c.sh,c.n.D e,c.b.D e]
def NF.pl:NF->Bool
 | .own _=>false
 |_=>true
def BF.pl:BF->Bool
 | .own _=>false
 |_=>true
def CW.pl (c:CW):Bool:=c.n.pl&&c.b.pl
def Gj (l:List Want):aV (l.map Want.D)=true:=bW (fun _=>by simp only[Want.D,D.bc,aV,eZ]) _
def Gi (r:ko):(dL r).bc=true:=by simp only[dL,D.bc]
def iS (l:List ko):aV (l.map dL)=true:=bW Gi _
def CW.bc {e:Nat}{c:CW}(h:c.pl=true):(c.D e).bc=true:=by
 obtain⟨v,sh,n,b⟩:=c;cases n<;>cases b<;>first|(simp[CW.pl,NF.pl,BF.pl]at h;done)|rfl
theorem CW.rn {e e' lo:Nat}{σ:List (Nat×Nat)}(h:fH lo σ e=some e')(c:CW):kv lo σ (c.D e)=some (c.D e'):=by
 obtain⟨v,sh,n,b⟩:=c;cases n<;>cases b<;>simp[CW.D,NF.D,BF.D,kv,iA,rr,h]
def du {e e' lo:Nat}{σ:List (Nat×Nat)}(h:fH lo σ e=some e'):∀xs:List CW,iA lo σ (xs.map (CW.D e))=some (xs.map (CW.D e'))
 |[]=>rfl
 |c::r=>by simp only[List.map_cons,iA,CW.rn h c,du h r]
def CW.RL {l e k:Nat}{es:List Abs.D}(h:e≠l)(c:CW):er l k es (c.D e)=c.D e:=by
 obtain⟨v,sh,n,b⟩:=c;cases n<;>cases b<;>simp[CW.D,NF.D,BF.D,er,eD,h]
def fX {l e k:Nat}{es:List D}(h:e≠l):∀xs:List CW,eD l k es (xs.map (CW.D e))=xs.map (CW.D e)
 |[]=>rfl
 |c::r=>by simp only[List.map_cons,eD,CW.RL (es:=es) (k:=k) h c,fX h r]
def CW.pl_e {e e':Nat}{c:CW}(h:c.pl=true):c.D e=c.D e':=by
 obtain⟨v,sh,n,b⟩:=c;cases n<;>cases b<;>first|(simp[CW.pl,NF.pl,BF.pl]at h;done)|rfl
def tN {e e':Nat}{xs:List CW}(h:∀c∈xs,c.pl=true):xs.map (CW.D e)=xs.map (CW.D e'):=List.map_congr_left fun c hc=>CW.pl_e (h c hc)
def cu {e:Nat}:∀{xs:List CW},(∀c∈xs,c.pl=true)->aV (xs.map (CW.D e))=true
 |[],_=>rfl
 |c::r,h=>by simp only[List.map_cons,aV,CW.bc (h c (.head _)),cu fun x hx=>h x (.tail _ hx),eZ]
def vc {α β:Type} [Inhabited α] [Inhabited β]{f:α->β}{xs:List α}{i:Nat}(h:i<xs.length):(xs.map f)[i]! =f xs[i]! :=by
 simp[List.getElem!_eq_getElem?_getD,h]
def UD (nm ft:Nat->dy)(ln:Nat->Nat)(j:Nat):D:=.agg [.str (nm j),.str (ft j),.own (2+j) 8 0 (ln j)]
def UB (n:Nat)(nm ft:Nat->dy)(ln:Nat->Nat):List D:=(List.range n).map (UD nm ft ln)
def kT {n i:Nat}(h:i<n):(List.range n)[i]! =i:=by
 simp[List.getElem!_eq_getElem?_getD,h]
def nS {l k n:Nat}{es:List D}{nm ft:Nat->dy}{ln:Nat->Nat}(h:8≠k):eD l k es (UB n nm ft ln)=UB n nm ft ln:=by
 unfold UB;generalize List.range n=r;induction r with
 |nil=>rfl
 |cons a r ih=>simp only[List.map_cons,eD,ih,UD,er,h,bX,bY,aL]
def ju {lo n:Nat}{nm ft:Nat->dy}{ln:Nat->Nat}(σ:List (Nat×Nat))(h:∀j,j<n->fH lo σ (2+j)=some (2+j)):iA lo σ (UB n nm ft ln)=some (UB n nm ft ln):=by
 unfold UB;have h2:∀j∈List.range n,fH lo σ (2+j)=some (2+j):=fun j hj=>h j (List.mem_range.1 hj)
 revert h2;generalize List.range n=r;intro h2;induction r with
 |nil=>rfl
 |cons a r ih=>
  have:=h2 a (.head _);simp only[List.map_cons,iA,UD,kv,rr,this,ih fun j hj=>h2 j (.tail _ hj)]
def ib {a b:bM}{r:List (Nat×bM)}(cs:Nat->List D){v:Nat}(h:v<8):look ((0,a)::(1,b)::(2,.buf 8 (cs 0))::(3,.buf 8 (cs 1))::(4,.buf 8 (cs 2))::(5,.buf 8 (cs 3))::(6,.buf 8 (cs 4))::(7,.buf 8 (cs 5))::(8,.buf 8 (cs 6))::(9,.buf 8 (cs 7))::r) (2+v)=some (.buf 8 (cs v)):=by
 match v,h with
 |0,_=>rfl
 |1,_=>rfl
 |2,_=>rfl
 |3,_=>rfl
 |4,_=>rfl
 |5,_=>rfl
 |6,_=>rfl
 |7,_=>rfl
def KO (m:List (Nat×bM))(g:Gs)(n:Nat)(nm ft:Nat->dy)(cs:Nat->List CW)(kk:Nat)(E:List D):Prop:=
 look m 0=some (.buf 2 [g.D])/\look m 1=some (.buf 3 (UB n nm ft fun j=>(cs j).length))/\(∀v,v<8->look m (2+v)=some (.buf 8 ((cs v).map (CW.D 10))))/\look m 10=some (.buf kk E)
def eight {P:Nat->Prop}(h0:P 0)(h1:P 1)(h2:P 2)(h3:P 3)(h4:P 4)(h5:P 5)(h6:P 6)(h7:P 7):∀v,v<8->P v
 |0,_=>h0
 |1,_=>h1
 |2,_=>h2
 |3,_=>h3
 |4,_=>h4
 |5,_=>h5
 |6,_=>h6
 |7,_=>h7
def Ho (n:Nat)(cs:Nat->List CW):Prop:=(2<=n/\n<=8)/\∀t,(cs t).length<=4/\∀c∈cs t,c.v.sm
def gS (cs:Nat->List CW)(t:Nat):List bd:=(cs t).map CW.v
def gN (l k:Nat)(es:List D)(rs:List ko):eD l k es (rs.map dL)=rs.map dL:=gw l k es _ (iS rs)
def fJ (l k:Nat)(es:List D)(rs:List Want):eD l k es (rs.map Want.D)=rs.map Want.D:=gw l k es _ (Gj rs)
def Want.fz (l k:Nat)(es:List Abs.D)(w:Want):er l k es w.D=w.D:=pS l k es _ (by simp only[Want.D,D.bc,aV,eZ])
def Gs.fz (l k:Nat)(es:List Abs.D)(g:Gs):er l k es g.D=g.D:=pS l k es _ (by simp only[Gs.D,D.bc,aV,eZ])
def JH {lo l:Nat}{σ:List (Nat×Nat)}(h:l<lo)(hs:(σ.all fun p=>Nat.ble lo p.1)=true:=by rfl):fH lo σ l=some l:=by
 induction σ with
 |nil=>simp[fH,Nat.blt,show Nat.ble (l+1) lo=true from eo]
 |cons a r ih=>
  simp only[List.all_cons,bm,Nat.ble_eq]at hs;have hb:Nat.beq a.1 l=false:=by
   cases e:Nat.beq a.1 l with
   |false=>rfl
   |true=>have:=Nat.eq_of_beq_eq_true e;omega
  simp only[fH,hb,cond_false];exact ih (by simpa using hs.2)
structure RU where
 name:dy
 feat:dy
 cs:List CW
 deriving Inhabited
def aY (v:bd):CW:=⟨v,0,.nil,.nil⟩
def wv:CW:=⟨zV,-1,.nil,.nil⟩
def bI:List dy:=[[97,110,116],[98,101,101],[99,111,119],[100,111,103],[101,108,107]]
def vn:bI.length=5:=rfl
def br (m:Int):Nat->List bd
 |0=>[]
 |i+1=>if FP m i=true then br m i++[cM[i]!]else br m i
def fu (vs:List bd):Nat->Gs->List bd->List bd×Gs
 |0,g,acc=>(acc,g)
 |r+1,g,acc=>fu vs r g.bH (if 0<g.val 3 then acc++[vs[vs.length-(r+1)]!]else acc)
def eY (few:Int):Nat->Gs->List RU->List RU×Gs
 |0,g,us=>(us,g.bH)
 |r+1,g,us=>
  if((4-r:Nat):Int)<1+g.val few then
   if 4-r<2/\g.bH.bH.val 3=0 then
    eY few r (fu (br (g.bH.val 16) 4) (br (g.bH.val 16) 4).length g.eu []).2
     ((us++[⟨bI[4-r]!,[],(br (g.bH.val 16) 4).map aY⟩])++[⟨bI[4-r]!,[102],(fu (br (g.bH.val 16) 4) (br (g.bH.val 16) 4).length g.eu []).1.map aY⟩])
   else eY few r (if 4-r<2 then g.eu else g.bH.bH) (us++[⟨bI[4-r]!,[],(br (g.bH.val 16) 4).map aY⟩])
  else(us,g.bH)
def tz:List RU:=[⟨[],[],[wv]⟩]
def ek (g:Gs)(few:Int):List RU×Gs:=eY few 5 g tz
def w7 (us:List RU):List D:=UB us.length (fun j=>us[j]!.name) (fun j=>us[j]!.feat) (fun j=>us[j]!.cs.length)
def UM (g:Gs)(us:List RU):List (Nat×bM):=[(0,.buf 2 [g.D]),(1,.buf 3 (w7 us)),(2,.buf 8 (us[0]!.cs.map (CW.D 10))),(3,.buf 8 (us[1]!.cs.map (CW.D 10))),(4,.buf 8 (us[2]!.cs.map (CW.D 10))),
 (5,.buf 8 (us[3]!.cs.map (CW.D 10))),(6,.buf 8 (us[4]!.cs.map (CW.D 10))),(7,.buf 8 (us[5]!.cs.map (CW.D 10))),(8,.buf 8 (us[6]!.cs.map (CW.D 10))),(9,.buf 8 (us[7]!.cs.map (CW.D 10)))]
def j3 {us:List RU}{x:RU}{t:Nat}(h:t<us.length):(us++[x])[t]! =us[t]! :=by
 simp[List.getElem!_eq_getElem?_getD,List.getElem?_append_left h]
def j4 {us:List RU}{x:RU}{t:Nat}(h:t=us.length):(us++[x])[t]! =x:=by
 subst h;simp[List.getElem!_eq_getElem?_getD]
def qN {us:List RU}{t:Nat}(h:us.length<=t):us[t]! =default:=by
 simp[List.getElem!_eq_getElem?_getD,h]
def KL (us:List RU)(x:RU):w7 (us++[x])=w7 us++[.agg [.str x.name,.str x.feat,.own (2+us.length) 8 0 x.cs.length]]:=by
 unfold w7 UB;rw[cK,List.length_singleton,List.range_succ,List.map_append];congr 1
 .apply List.map_congr_left;intro j hj;simp only[UD,j3 (List.mem_range.1 hj)]
 .simp only[List.map_cons,List.map_nil,UD,j4 rfl]
def AP {lo:Nat}{σ:List (Nat×Nat)}:∀{a b a' b':List D},iA lo σ a=some a'->iA lo σ b=some b'->iA lo σ (a++b)=some (a'++b')
 |[],b,a',b',h1,h2=>by simp only[iA,aZ]at h1;subst h1;exact h2
 |d::r,b,a',b',h1,h2=>by
  simp only[iA]at h1;split at h1
  .rename_i d' r' e1 e2;obtain rfl:=bg h1;simp only[qq,iA,e1,AP e2 h2]
  .cases h1
def CY (LU LC p:Nat):List (Nat×Nat):=(LU,1)::(LC,2+p)::(List.range p).map fun t=>(2+t,2+t)
def eM {a b:Nat}(h:a≠b):Nat.beq a b=false:=by
 cases e:Nat.beq a b with
 |false=>rfl
 |true=>exact absurd (Nat.eq_of_beq_eq_true e) h
def MT {lo:Nat}:∀{r:List Nat}{t:Nat},t∈r->fH lo (r.map fun t=>(2+t,2+t)) (2+t)=some (2+t)
 |a::r,t,h=>by
  simp only[List.map_cons,fH];cases e:Nat.beq (2+a) (2+t)with
  |true=>rw[cond_true,Nat.eq_of_beq_eq_true e]
  |false=>
   rw[cond_false];rcases dx.1 h with rfl|h
   .simp at e
   .exact MT h
def JN {LU LC p t:Nat}(hU:10<=LU)(hC:10<=LC)(hp:p<8)(ht:t<p):fH 1 (CY LU LC p) (2+t)=some (2+t):=by
 simp only[CY,fH,eM (show LU≠2+t by omega),eM (show LC≠2+t by omega),cond_false];exact MT (List.mem_range.2 ht)
def OW {LU LC p:Nat}(hU:10<=LU)(hC:10<=LC)(hne:LU≠LC)(hp:p<8):eU 1 10 (CY LU LC p)=true:=by
 have b1:=eM hne;have b2:=eM (Ne.symm hne);have u2:=eM (show 2≠LU by omega);have u3:=eM (show 3≠LU by omega);have u4:=eM (show 4≠LU by omega);have u5:=eM (show 5≠LU by omega);have u6:=eM (show 6≠LU by omega);have u7:=eM (show 7≠LU by omega);have u8:=eM (show 8≠LU by omega);have c2:=eM (show 2≠LC by omega);have c3:=eM (show 3≠LC by omega);have c4:=eM (show 4≠LC by omega);have c5:=eM (show 5≠LC by omega);have c6:=eM (show 6≠LC by omega);have c7:=eM (show 7≠LC by omega);have c8:=eM (show 8≠LC by omega)
 match p,hp with
 |0,_|1,_|2,_|3,_|4,_|5,_|6,_|7,_=>
  simp only[CY,List.range,List.range.loop,List.map_cons,List.map_nil,eU,List.all_cons,List.all_nil,b1,b2,u2,u3,u4,u5,u6,u7,u8,c2,c3,c4,c5,c6,c7,c8,Nat.reduceAdd,Bool.not_false,jQ,eZ];rfl
def Sj {LU LC p t:Nat}(hp:p<t)(h8:t<8):((CY LU LC p).all fun q=>!Nat.beq q.2 (2+t))=true:=by
 simp only[CY,List.all_cons,bm,eB,List.all_eq_true,ec,List.mem_range];refine⟨eM ae,eM ae, ?_⟩;rintro q ⟨j,hj,rfl⟩;exact eM (by simp only;omega)
def RX (r:List Nat):fH 1 (r.map fun t=>(2+t,2+t)) 0=some 0:=by
 induction r with
 |nil=>rfl
 |cons a r ih=>simp only[List.map_cons,fH,eM (show 2+a≠0 by omega),cond_false];exact ih
def CT {lo k i n l l':Nat}{σ:List (Nat×Nat)}(h:fH lo σ l=some l'):kv lo σ (.own l k i n)=some (.own l' k i n):=by simp only[kv,rr,h]
def D0 {a b k:Nat}{c d:Nat}{r:List (Nat×Nat)}(h:fH 1 r 0=some 0)(ha:a≠0)(hb:c≠0):kv 1 ((a,b)::(c,d)::r) (.ptr 0 k 0 0)=some (.ptr 0 k 0 0):=by simp only[kv,rr,fH,eM ha,eM hb,cond_false,h]
def Si {LU LC p:Nat}(hU:10<=LU)(hC:10<=LC):fH 1 (CY LU LC p) 0=some 0:=by
 simp only[CY,fH,eM (show LU≠0 by omega),eM (show LC≠0 by omega),cond_false];generalize List.range p=r;induction r with
 |nil=>rfl
 |cons a r ih=>simp only[List.map_cons,fH,eM (show 2+a≠0 by omega),cond_false];exact ih
def RU.pl (u:RU):Prop:=∀c∈u.cs,c.pl=true
def xX {nx LU LC:Nat}{g:Gs}{us:List RU}{x:RU}{m:List (Nat×bM)}{env env':List b8}(hp:us.length<8)(hU:10<=LU)(hC:10<=LC)(hne:LU≠LC)(hpl:∀u∈us,u.pl)(hx:x.pl)(h0:look m 0=some (.buf 2 [g.D]))
  (h1:look m LU=some (.buf 3 (w7 us++[.agg [.str x.name,.str x.feat,.own LC 8 0 x.cs.length]]))) (h2:look m LC=some (.buf 8 (x.cs.map (CW.D 10)))) (hcs:∀t,t<us.length->look m (2+t)=some (.buf 8 (us[t]!.cs.map (CW.D 10))))
  (he:∀r,fH 1 r 0=some 0->aH 1 ((LU,1)::(LC,2+us.length)::r) env env'):aP 1 env ⟨nx,m⟩ env' ⟨10,UM g (us++[x])⟩:=by
 refine aP.to (CY LU LC us.length) rfl (OW hU hC hne hp) (he _ (RX _)) ?_;have hLC:fH 1 (CY LU LC us.length) LC=some (2+us.length):=by simp only[CY,fH,eM hne,cond_false,Nat.beq_refl,cond_true]
 have ent:∀t,t<8->((∃l b,fH 1 (CY LU LC us.length) l=some (2+t)/\look m l=some b/\mK 1 (CY LU LC us.length) b (.buf 8 ((us++[x])[t]!.cs.map (CW.D 10))))\/
   (Nat.ble 1 (2+t)=true/\Nat.blt (2+t) 10=true/\(CY LU LC us.length).all (fun p=>!Nat.beq p.2 (2+t))=true/\∃k,bM.buf 8 ((us++[x])[t]!.cs.map (CW.D 10))=.buf k [])):=by
  intro t ht;rcases Nat.lt_trichotomy t us.length with h|h|h
  .exact .inl ⟨2+t,_,JN hU hC hp h,hcs t h,rfl,.inl ⟨by rw[j3 h],cu (hpl _ (aj h))⟩⟩
  .subst h;exact .inl ⟨LC,_,hLC,h2,rfl,.inl ⟨by rw[j4 rfl],cu hx⟩⟩
  .refine .inr ⟨by rw[Nat.ble_eq];omega,by rw[Nat.blt,Nat.ble_eq];omega,Sj h ht,8, ?_⟩;rw[qN eo];rfl
 refine⟨.inl ⟨0,_,Si hU hC,h0,rfl,.inl ⟨rfl,rfl⟩⟩,.inl ⟨LU,_,by simp only[CY,fH,Nat.beq_refl,cond_true],h1,rfl,.inr (.inl ?_)⟩,ent 0 b7,ent 1 b7,ent 2 b7,ent 3 b7,ent 4 b7,ent 5 b7,ent 6 b7,ent 7 b7,trivial⟩;rw[KL];refine AP (ju _ fun j hj=>JN hU hC hp hj) ?_;simp only[iA,kv,rr,hLC]
def kQ (m:Int):∀i,(br m i).length<=i
 |0=>aE _
 |i+1=>by
  have:=kQ m i;rw[br];split
  .simp only[cK,List.length_singleton];omega
  .omega
def xZ:cM.length=4:=rfl
def qy (m:Int):∀i,i<=4->∀v∈br m i,v.sm
 |0,_,v,h=>by cases h
 |i+1,hi,v,h=>by
  rw[br]at h;have hm:∀v∈cM,v.sm:=by
   intro v hv;simp only[cM,dx,dX,or_false]at hv;rcases hv with rfl|rfl|rfl|rfl<;>simp[bd.sm]
  split at h
  .rcases List.mem_append.1 h with h|h
   .exact qy m i ae v h
   .obtain rfl:=bo.1 h;exact hm _ (aj (by rw[xZ];omega))
  .exact qy m i ae v h
def fm (vs:List bd):∀c∈vs.map aY,c.pl=true:=by
 intro c hc;obtain⟨v,_,rfl⟩:=ec.1 hc;rfl
def Ac {a:bM}{r:List (Nat×bM)}(cs:Nat->List D){v:Nat}(h:v<8):look ((0,a)::(2,.buf 8 (cs 0))::(3,.buf 8 (cs 1))::(4,.buf 8 (cs 2))::(5,.buf 8 (cs 3))::(6,.buf 8 (cs 4))::(7,.buf 8 (cs 5))::(8,.buf 8 (cs 6))::(9,.buf 8 (cs 7))::r) (2+v)=some (.buf 8 (cs v)):=by
 match v,h with
 |0,_=>rfl
 |1,_=>rfl
 |2,_=>rfl
 |3,_=>rfl
 |4,_=>rfl
 |5,_=>rfl
 |6,_=>rfl
 |7,_=>rfl
def jo {us:List RU}(h:∀u∈us,u.pl)(t:Nat):aV (us[t]!.cs.map (CW.D 10))=true:=by
 rcases cQ t us.length with ht|ht
 .exact cu (h _ (aj ht))
 .rw[qN ht];rfl
def IZ {us:List RU}{x:RU}(h:∀u∈us,u.pl)(hx:x.pl):∀u∈us++[x],u.pl:=fun u hu=>(List.mem_append.1 hu).elim (h u) fun e=>by obtain rfl:=bo.1 e;exact hx
def mL {lo:Nat}{us:List RU}(σ:List (Nat×Nat))(h:∀j,j<us.length->fH lo σ (2+j)=some (2+j)):iA lo σ (w7 us)=some (w7 us):=ju σ h
def ic {lo v:Nat}{r:List (Nat×Nat)}(h:v<8):fH lo ((1,1)::(2,2)::(3,3)::(4,4)::(5,5)::(6,6)::(7,7)::(8,8)::(9,9)::r) (2+v)=some (2+v):=by
 match v,h with
 |0,_=>rfl
 |1,_=>rfl
 |2,_=>rfl
 |3,_=>rfl
 |4,_=>rfl
 |5,_=>rfl
 |6,_=>rfl
 |7,_=>rfl
def xd (vs:List bd):∀r g acc,(fu vs r g acc).1.length<=acc.length+r
 |0,g,acc=>aE _
 |r+1,g,acc=>by
  have:=xd vs r g.bH (if 0<g.val 3 then acc++[vs[vs.length-(r+1)]!]else acc);rw[fu];split at this<;>rename_i h
  .rw[aw h];simp only[cK,List.length_singleton]at this;omega
  .rw[ai h];omega
def Gs.xY (g:Gs)(n:Int):(1<=n->0<=g.val n/\g.val n<n)/\(n<1->g.val n=0):=⟨fun h=>jl _ _ h,fun h=>by simp only[Gs.val,jk];rw[aw h]⟩
def GW {few:Int}{i:Nat}{h:Gs}{us:List RU}(h5:i<5)(hl:(i:Int)<1+h.val few):eY few (5-i) h us=
   if i<2/\h.bH.bH.val 3=0 then
    eY few (4-i) (fu (br (h.bH.val 16) 4) (br (h.bH.val 16) 4).length h.eu []).2
     ((us++[⟨bI[i]!,[],(br (h.bH.val 16) 4).map aY⟩])++[⟨bI[i]!,[102],(fu (br (h.bH.val 16) 4) (br (h.bH.val 16) 4).length h.eu []).1.map aY⟩])
   else eY few (4-i) (if i<2 then h.eu else h.bH.bH) (us++[⟨bI[i]!,[],(br (h.bH.val 16) 4).map aY⟩]):=by
 obtain⟨r,hr⟩:∃r,5-i=r+1:=⟨4-i,ae⟩
 rw[hr,eY];obtain rfl:r=4-i:=ae;rw[show 4-(4-i)=i by omega,aw hl]
def C0 {few:Int}{i:Nat}{h:Gs}{us:List RU}(h5:i<=5)(hl:i=5\/¬(i:Int)<1+h.val few):eY few (5-i) h us=(us,h.bH):=by
 rcases cQ i 5 with h6|h6
 .obtain⟨r,hr⟩:∃r,5-i=r+1:=⟨4-i,ae⟩
  rw[hr,eY];obtain rfl:r=4-i:=ae;rw[show 4-(4-i)=i by omega,ai (by rcases hl with hl|hl;omega;exact hl)]
 .rw[show 5-i=0 by omega,eY]
def H5 {vs:List bd}{j:Nat}{k:Gs}{acc:List bd}(hj:j<vs.length):fu vs (vs.length-j) k acc=fu vs (vs.length-(j+1)) k.bH (if 0<k.val 3 then acc++[vs[j]!]else acc):=by
 obtain⟨r,hr⟩:∃r,vs.length-j=r+1:=⟨vs.length-j-1,ae⟩
 rw[hr,fu,<-hr,show vs.length-(vs.length-j)=j by omega,show r=vs.length-(j+1)by omega]
end Go.Abs
