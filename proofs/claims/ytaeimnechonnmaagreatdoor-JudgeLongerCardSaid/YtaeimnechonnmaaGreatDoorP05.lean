/- A part of the proofs. -/
import Derived.IntWalk
import Derived.KernelRfl
import Derived.Lib.TrimUEq
import Derived.Test.YtaeimnechonnmaaGreatDoorP04
set_option linter.all false
set_option maxRecDepth 4000
namespace Go.Abs
section
section
variable {Y:Ctx} {draw:Bool} {r:List GI} {env rs:List bH} {nx:Nat} {m:List (Nat×bA)} {K:List bH->St->Prop} {g:Option (Nat×Bool)} {f:Bool}
def at8 (s:List UInt8)(i:Nat):Int:=((s.getD i 0).toNat:Int)
def FH (s:List UInt8)(i:Nat):0<=at8 s i/\at8 s i<256:=by
 have:=(s.getD i 0).toNat_lt;unfold at8;omega
def wrap_i64 {a:Int}(h1:-9223372036854775808<=a)(h2:a<=9223372036854775807):IntKind.i64.wrap a=a:=IntWalk.i64_in _ ae
def lU (a b:List UInt8):(a==b)=decide (a=b):=by
 grind
def getD_map {α:Type} [Inhabited α]{q:α->D}{xs:List α}{i:Nat}(h:i<xs.length):(xs.map q).getD i .any=q xs[i]! :=by
 simp[List.getD,h]
def GF (rs:List bH):Option (Nat×Bool)->Bool->Prop
 |none,f=>f=true
 |some (j,w),f=>∃ok b,cF [] rs (.l j)=⟨ok,.bool b⟩/\(ok&&(b==w))=f
def GF.flag (h:GF rs g f):flag rs.reverse g=f/\xq rs.reverse g:=by
 cases g with
 |none=>exact⟨h.symm,trivial⟩
 |some jw=>
  obtain⟨j,w⟩:=jw;obtain⟨ok,b,h1,h2⟩:=h;have h3:rs.reverse.getD j .un=⟨ok,.bool b⟩:=by rw[<-h1,<-jT];rfl
  simp only[Abs.flag,xq,h3,h2,D.isBool];exact⟨trivial,fun _=>trivial⟩
def G6 {i:aB}(hM:i.cn=false)(hF:i.lA draw g=false)(hC:g.isSome=true->i.calm=true)(hg:GF rs g f)(d:D)(ho:f=true->i.dA Y (cF env rs) m)
  (hv:f=true->i.val Y (cF env rs) m (nx+rs.length)=d) (m':List (Nat×bA)) (hm:i.cq Y (cF env rs) m (nx+rs.length)=m')
  (h:(f=true->i.xd draw (cF env rs))->aC Y draw r env (⟨f,d⟩::rs) nx m' K):aC Y draw (⟨i,g⟩::r) env rs nx m K:=by
 obtain⟨hf,hb⟩:=hg.flag;unfold aC;rw[ik hM hF,jT,hf];refine⟨?_,ho,fun ha=>⟨d,by simpa using hv, ?_⟩⟩
 .cases g with
  |none=>trivial
  |some jw=>exact⟨hC rfl,hb⟩
 grind [aC]
def fL {i:aB}(hC:i.calm=true)(hg:GF rs g f)(d:D)(ho:f=true->i.dA Y (cF env rs) m)
  (hv:f=true->i.val Y (cF env rs) m (nx+rs.length)=d) (m':List (Nat×bA)) (hm:i.cq Y (cF env rs) m (nx+rs.length)=m')
  (h:(f=true->i.xd draw (cF env rs))->aC Y draw r env (⟨f,d⟩::rs) nx m' K):aC Y draw (⟨i,g⟩::r) env rs nx m K:=
 G6 (by cases i<;>first|rfl|cases hC) (by simp[aB.lA,hC]) (fun _=>hC) hg d ho hv m' hm h
def bU {i:aB}(hC:i.pure=true)(hg:GF rs g f)(d:D)(ho:f=true->i.dA Y (cF env rs) m)
  (hv:f=true->i.val Y (cF env rs) m (nx+rs.length)=d) 
  (h:(f=true->i.xd draw (cF env rs))->aC Y draw r env (⟨f,d⟩::rs) nx m K):aC Y draw (⟨i,g⟩::r) env rs nx m K:=
 fL (EK hC) hg d ho hv m (zk hC) h
def pw {i:aB}(hM:i.cn=false)(d:D)(ho:i.dA Y (cF env rs) m)
  (hv:i.val Y (cF env rs) m (nx+rs.length)=d) (m':List (Nat×bA)) (hm:i.cq Y (cF env rs) m (nx+rs.length)=m')
  (h:i.xd draw (cF env rs)->aC Y draw r env (⟨true,d⟩::rs) nx m' K):aC Y draw (⟨i,none⟩::r) env rs nx m K:=
 G6 hM (by simp[aB.lA]) (fun h=>by cases h) rfl d (fun _=>ho) (fun _=>hv) m' hm (fun ha=>h (ha rfl))
def G9 {i:aB}{j:Nat}{w:Bool}(hM:i.cn=false)(hC:i.calm=false)(hg:GF rs (some (j,w)) f)(h1:f=true->∃d,i.dA Y (cF env rs) m/\i.val Y (cF env rs) m (nx+rs.length)=d/\∃m',i.cq Y (cF env rs) m (nx+rs.length)=m'/\aC Y false r env (⟨true,d⟩::rs) nx m' K)
  (h2:f=false->aC Y false r env (⟨false,.any⟩::rs) nx m K):aC Y false (⟨i,some (j,w)⟩::r) env rs nx m K:=by
 obtain⟨hf,hb⟩:=hg.flag
 grind [aC,rj,aB.lA,jT]
def PI {x:Src}{fx:Bool}{d:D}(h:aC Y draw r env (⟨f,d⟩::rs) nx m K)(hg:GF rs g f:=by exact dw)(hx:cF env rs x=⟨fx,d⟩:=by exact rfl)(kx:f=true->fx=true:=by exact cy):aC Y draw (⟨.mv x,g⟩::r) env rs nx m K:=
 bU rfl hg _ (fun hf=>by simp[aB.dA,hx,kx hf]) (fun hf=>by simp[aB.val,hx]) (fun ha=>h)
def PJ {x:Src}{fx:Bool}{b:Bool}(h:aC Y draw r env (⟨f,.bool (!b)⟩::rs) nx m K)(hg:GF rs g f:=by exact dw)(hx:cF env rs x=⟨fx,.bool b⟩:=by exact rfl)(kx:f=true->fx=true:=by exact cy):aC Y draw (⟨.un .not x,g⟩::r) env rs nx m K:=
 bU rfl hg _ (fun hf=>by simp[aB.dA,hx,kx hf]) (fun hf=>by simp[aB.val,hx]) (fun ha=>h)
def r_or {c b:Src}{fc fb t y:Bool}(h:aC Y draw r env (⟨f,.bool (t ||y)⟩::rs) nx m K)(hg:GF rs g f:=by exact dw)(hc:cF env rs c=⟨fc,.bool t⟩:=by exact rfl)(hb:cF env rs b=⟨fb,.bool y⟩:=by exact rfl)(kc:f=true->fc=true:=by exact cy)(kb:f=true->t=false->fb=true:=by intro h1 h2;first|(rw[h2];exact rfl)|(rw[h2,h1];rfl)|(rw[h1,h2];rfl)|simp_all):aC Y draw (⟨.pick c (.c (.bool true)) b,g⟩::r) env rs nx m K:=
 bU rfl hg _ (fun hf=>by simp only[aB.dA,hc,hb];exact⟨kc hf,fun _=>rfl,fun e=>kb hf e⟩) (fun hf=>by simp only[aB.val,hc,hb];cases t<;>rfl) (fun _=>h)
def PC {c a:Src}{fc fa t y:Bool}(h:aC Y draw r env (⟨f,.bool (t&&y)⟩::rs) nx m K)(hg:GF rs g f:=by exact dw)(hc:cF env rs c=⟨fc,.bool t⟩:=by exact rfl)(ha:cF env rs a=⟨fa,.bool y⟩:=by exact rfl)(kc:f=true->fc=true:=by exact cy)(ka:f=true->t=true->fa=true:=by intro h1 h2;first|(rw[h2];exact rfl)|(rw[h2,h1];rfl)|(rw[h1,h2];rfl)|simp_all):aC Y draw (⟨.pick c a (.c (.bool false)),g⟩::r) env rs nx m K:=
 bU rfl hg _ (fun hf=>by simp only[aB.dA,hc,ha];exact⟨kc hf,fun e=>ka hf e,fun _=>rfl⟩) (fun hf=>by simp only[aB.val,hc,ha];cases t<;>rfl) (fun _=>h)
def aG {x y:Src}{fx fy:Bool}{a b:Int}(h:aC Y draw r env (⟨f,.int .i64 (a+b)⟩::rs) nx m K)(hg:GF rs g f:=by exact dw)(hx:cF env rs x=⟨fx,.int .i64 a⟩:=by exact rfl)(hy:cF env rs y=⟨fy,.int .i64 b⟩:=by exact rfl)(kx:f=true->fx=true:=by exact cy)(ky:f=true->fy=true:=by exact cy)(hb:f=true->-9223372036854775808<=a+b/\a+b<=9223372036854775807:=by exact Af):aC Y draw (⟨.bin .add x y,g⟩::r) env rs nx m K:=
 bU rfl hg _ (fun hf=>by simp[aB.dA,hx,hy,kx hf,ky hf,iq]) (fun hf=>by simp only[aB.val,hx,hy,iU];rw[wrap_i64 (hb hf).1 (hb hf).2]) (fun ha=>h)
def eW {x y:Src}{fx fy:Bool}{a b:Int}(h:aC Y draw r env (⟨f,.int .i64 (a-b)⟩::rs) nx m K)(hg:GF rs g f:=by exact dw)(hx:cF env rs x=⟨fx,.int .i64 a⟩:=by exact rfl)(hy:cF env rs y=⟨fy,.int .i64 b⟩:=by exact rfl)(kx:f=true->fx=true:=by exact cy)(ky:f=true->fy=true:=by exact cy)(hb:f=true->-9223372036854775808<=a-b/\a-b<=9223372036854775807:=by exact Af):aC Y draw (⟨.bin .sub x y,g⟩::r) env rs nx m K:=
 bU rfl hg _ (fun hf=>by simp[aB.dA,hx,hy,kx hf,ky hf,iq]) (fun hf=>by simp only[aB.val,hx,hy,iU];rw[wrap_i64 (hb hf).1 (hb hf).2]) (fun ha=>h)
def Hj {x y:Src}{fx fy:Bool}{k:IntKind}{a b:Int}(v:Int)(h:aC Y draw r env (⟨f,.int k v⟩::rs) nx m K)(hg:GF rs g f:=by exact dw)(hx:cF env rs x=⟨fx,.int k a⟩:=by exact rfl)(hy:cF env rs y=⟨fy,.int k b⟩:=by exact rfl)(kx:f=true->fx=true:=by exact cy)(ky:f=true->fy=true:=by exact cy)(hb:f=true->k.wrap (a-b)=v):aC Y draw (⟨.bin .sub x y,g⟩::r) env rs nx m K:=
 bU rfl hg _ (fun hf=>by simp[aB.dA,hx,hy,kx hf,ky hf,iq]) (fun hf=>by simp only[aB.val,hx,hy,iU];rw[hb hf]) (fun ha=>h)
def xU {x y:Src}{fx fy:Bool}{a b:Int}(h:aC Y draw r env (⟨f,.int .i64 (a*b)⟩::rs) nx m K)(hg:GF rs g f:=by exact dw)(hx:cF env rs x=⟨fx,.int .i64 a⟩:=by exact rfl)(hy:cF env rs y=⟨fy,.int .i64 b⟩:=by exact rfl)(kx:f=true->fx=true:=by exact cy)(ky:f=true->fy=true:=by exact cy)(hb:f=true->-9223372036854775808<=a*b/\a*b<=9223372036854775807:=by exact Af):aC Y draw (⟨.bin .mul x y,g⟩::r) env rs nx m K:=
 bU rfl hg _ (fun hf=>by simp[aB.dA,hx,hy,kx hf,ky hf,iq]) (fun hf=>by simp only[aB.val,hx,hy,iU];rw[wrap_i64 (hb hf).1 (hb hf).2]) (fun ha=>h)
def KD {x y:Src}{fx fy:Bool}{k:IntKind}{a b:Int}(v:Int)(h:aC Y draw r env (⟨f,.int k v⟩::rs) nx m K)(hg:GF rs g f:=by exact dw)(hx:cF env rs x=⟨fx,.int k a⟩:=by exact rfl)(hy:cF env rs y=⟨fy,.int k b⟩:=by exact rfl)(kx:f=true->fx=true:=by exact cy)(ky:f=true->fy=true:=by exact cy)(hn:f=true->b≠0)(hb:f=true->a.tmod b=v):aC Y draw (⟨.bin .rem x y,g⟩::r) env rs nx m K:=
 bU rfl hg _ (fun hf=>by simp[aB.dA,hx,hy,kx hf,ky hf,iq,hn hf]) (fun hf=>by simp only[aB.val,hx,hy,iU];rw[hb hf]) (fun ha=>h)
def wC {x y:Src}{fx fy:Bool}{k k2:IntKind}{a b:Int}(v:Int)(h:aC Y draw r env (⟨f,.int k v⟩::rs) nx m K)(hg:GF rs g f:=by exact dw)(hx:cF env rs x=⟨fx,.int k a⟩:=by exact rfl)(hy:cF env rs y=⟨fy,.int k2 b⟩:=by exact rfl)(kx:f=true->fx=true:=by exact cy)(ky:f=true->fy=true:=by exact cy)(hn:f=true->0<=b:=by exact vt)(hb:f=true->k.wrap (a*2^(min b.toNat k.bits))=v):aC Y draw (⟨.bin .shl x y,g⟩::r) env rs nx m K:=
 bU rfl hg _ (fun hf=>by simp[aB.dA,hx,hy,kx hf,ky hf,iq,hn hf]) (fun hf=>by simp only[aB.val,hx,hy,iU];rw[hb hf]) (fun ha=>h)
def KE {x y:Src}{fx fy:Bool}{k k2:IntKind}{a b:Int}(v:Int)(h:aC Y draw r env (⟨f,.int k v⟩::rs) nx m K)(hg:GF rs g f:=by exact dw)(hx:cF env rs x=⟨fx,.int k a⟩:=by exact rfl)(hy:cF env rs y=⟨fy,.int k2 b⟩:=by exact rfl)(kx:f=true->fx=true:=by exact cy)(ky:f=true->fy=true:=by exact cy)(hn:f=true->0<=b:=by exact vt)(hb:f=true->a.fdiv (2^(min b.toNat k.bits))=v):aC Y draw (⟨.bin .shr x y,g⟩::r) env rs nx m K:=
 bU rfl hg _ (fun hf=>by simp[aB.dA,hx,hy,kx hf,ky hf,iq,hn hf]) (fun hf=>by simp only[aB.val,hx,hy,iU];rw[hb hf]) (fun ha=>h)
def gY {x y:Src}{fx fy:Bool}{k:IntKind}{a b:Int}(v:Int)(h:aC Y draw r env (⟨f,.int k v⟩::rs) nx m K)(hg:GF rs g f:=by exact dw)(hx:cF env rs x=⟨fx,.int k a⟩:=by exact rfl)(hy:cF env rs y=⟨fy,.int k b⟩:=by exact rfl)(kx:f=true->fx=true:=by exact cy)(ky:f=true->fy=true:=by exact cy)(hb:f=true->k.wrap (((BitVec.ofInt k.bits a)&&&(BitVec.ofInt k.bits b)).toNat)=v):aC Y draw (⟨.bin .and x y,g⟩::r) env rs nx m K:=
 bU rfl hg _ (fun hf=>by simp[aB.dA,hx,hy,kx hf,ky hf,iq]) (fun hf=>by simp only[aB.val,hx,hy,iU];rw[hb hf]) (fun ha=>h)
def Cv {x y:Src}{fx fy:Bool}{k:IntKind}{a b:Int}(v:Int)(h:aC Y draw r env (⟨f,.int k v⟩::rs) nx m K)(hg:GF rs g f:=by exact dw)(hx:cF env rs x=⟨fx,.int k a⟩:=by exact rfl)(hy:cF env rs y=⟨fy,.int k b⟩:=by exact rfl)(kx:f=true->fx=true:=by exact cy)(ky:f=true->fy=true:=by exact cy)(hb:f=true->k.wrap (((BitVec.ofInt k.bits a) |||(BitVec.ofInt k.bits b)).toNat)=v):aC Y draw (⟨.bin .or x y,g⟩::r) env rs nx m K:=
 bU rfl hg _ (fun hf=>by simp[aB.dA,hx,hy,kx hf,ky hf,iq]) (fun hf=>by simp only[aB.val,hx,hy,iU];rw[hb hf]) (fun ha=>h)
def oc {x y:Src}{fx fy:Bool}{k:IntKind}{a b:Int}(v:Int)(h:aC Y draw r env (⟨f,.int k v⟩::rs) nx m K)(hg:GF rs g f:=by exact dw)(hx:cF env rs x=⟨fx,.int k a⟩:=by exact rfl)(hy:cF env rs y=⟨fy,.int k b⟩:=by exact rfl)(kx:f=true->fx=true:=by exact cy)(ky:f=true->fy=true:=by exact cy)(hb:f=true->k.wrap (((BitVec.ofInt k.bits a)&&& ~~~ (BitVec.ofInt k.bits b)).toNat)=v):aC Y draw (⟨.bin .andNot x y,g⟩::r) env rs nx m K:=
 bU rfl hg _ (fun hf=>by simp[aB.dA,hx,hy,kx hf,ky hf,iq]) (fun hf=>by simp only[aB.val,hx,hy,iU];rw[hb hf]) (fun ha=>h)
def Bd {x y:Src}{fx fy:Bool}{k:IntKind}{a b:Int}(h:aC Y draw r env (⟨f,.bool (decide (a<b))⟩::rs) nx m K)(hg:GF rs g f:=by exact dw)(hx:cF env rs x=⟨fx,.int k a⟩:=by exact rfl)(hy:cF env rs y=⟨fy,.int k b⟩:=by exact rfl)(kx:f=true->fx=true:=by exact cy)(ky:f=true->fy=true:=by exact cy):aC Y draw (⟨.bin .lss x y,g⟩::r) env rs nx m K:=
 bU rfl hg _ (fun hf=>by simp[aB.dA,hx,hy,kx hf,ky hf,iq]) (fun hf=>by simp only[aB.val,hx,hy,iU]<;>rfl) (fun ha=>h)
def My {x y:Src}{fx fy:Bool}{k:IntKind}{a b:Int}(h:aC Y draw r env (⟨f,.bool (decide (a<=b))⟩::rs) nx m K)(hg:GF rs g f:=by exact dw)(hx:cF env rs x=⟨fx,.int k a⟩:=by exact rfl)(hy:cF env rs y=⟨fy,.int k b⟩:=by exact rfl)(kx:f=true->fx=true:=by exact cy)(ky:f=true->fy=true:=by exact cy):aC Y draw (⟨.bin .leq x y,g⟩::r) env rs nx m K:=
 bU rfl hg _ (fun hf=>by simp[aB.dA,hx,hy,kx hf,ky hf,iq]) (fun hf=>by simp only[aB.val,hx,hy,iU]<;>rfl) (fun ha=>h)
def Ms {x y:Src}{fx fy:Bool}{k:IntKind}{a b:Int}(h:aC Y draw r env (⟨f,.bool (decide (b<a))⟩::rs) nx m K)(hg:GF rs g f:=by exact dw)(hx:cF env rs x=⟨fx,.int k a⟩:=by exact rfl)(hy:cF env rs y=⟨fy,.int k b⟩:=by exact rfl)(kx:f=true->fx=true:=by exact cy)(ky:f=true->fy=true:=by exact cy):aC Y draw (⟨.bin .gtr x y,g⟩::r) env rs nx m K:=
 bU rfl hg _ (fun hf=>by simp[aB.dA,hx,hy,kx hf,ky hf,iq]) (fun hf=>by simp only[aB.val,hx,hy,iU]<;>rfl) (fun ha=>h)
def Mq {x y:Src}{fx fy:Bool}{k:IntKind}{a b:Int}(h:aC Y draw r env (⟨f,.bool (decide (b<=a))⟩::rs) nx m K)(hg:GF rs g f:=by exact dw)(hx:cF env rs x=⟨fx,.int k a⟩:=by exact rfl)(hy:cF env rs y=⟨fy,.int k b⟩:=by exact rfl)(kx:f=true->fx=true:=by exact cy)(ky:f=true->fy=true:=by exact cy):aC Y draw (⟨.bin .geq x y,g⟩::r) env rs nx m K:=
 bU rfl hg _ (fun hf=>by simp[aB.dA,hx,hy,kx hf,ky hf,iq]) (fun hf=>by simp only[aB.val,hx,hy,iU]<;>rfl) (fun ha=>h)
def Mo {x y:Src}{fx fy:Bool}{k:IntKind}{a b:Int}(h:aC Y draw r env (⟨f,.bool (decide (a=b))⟩::rs) nx m K)(hg:GF rs g f:=by exact dw)(hx:cF env rs x=⟨fx,.int k a⟩:=by exact rfl)(hy:cF env rs y=⟨fy,.int k b⟩:=by exact rfl)(kx:f=true->fx=true:=by exact cy)(ky:f=true->fy=true:=by exact cy):aC Y draw (⟨.bin .eql x y,g⟩::r) env rs nx m K:=
 bU rfl hg _ (fun hf=>by simp[aB.dA,hx,hy,kx hf,ky hf,iq]) (fun hf=>by simp only[aB.val,hx,hy,iU]<;>rfl) (fun ha=>h)
def MB {x y:Src}{fx fy:Bool}{k:IntKind}{a b:Int}(h:aC Y draw r env (⟨f,.bool (!decide (a=b))⟩::rs) nx m K)(hg:GF rs g f:=by exact dw)(hx:cF env rs x=⟨fx,.int k a⟩:=by exact rfl)(hy:cF env rs y=⟨fy,.int k b⟩:=by exact rfl)(kx:f=true->fx=true:=by exact cy)(ky:f=true->fy=true:=by exact cy):aC Y draw (⟨.bin .neq x y,g⟩::r) env rs nx m K:=
 bU rfl hg _ (fun hf=>by simp[aB.dA,hx,hy,kx hf,ky hf,iq]) (fun hf=>by simp only[aB.val,hx,hy,iU]<;>rfl) (fun ha=>h)
def MA {x y:Src}{fx fy:Bool}{a b:List UInt8}(h:aC Y draw r env (⟨f,.bool (Op.bytesLess a b)⟩::rs) nx m K)(hg:GF rs g f:=by exact dw)(hx:cF env rs x=⟨fx,.str a⟩:=by exact rfl)(hy:cF env rs y=⟨fy,.str b⟩:=by exact rfl)(kx:f=true->fx=true:=by exact cy)(ky:f=true->fy=true:=by exact cy):aC Y draw (⟨.bin .lss x y,g⟩::r) env rs nx m K:=
 bU rfl hg _ (fun hf=>by simp[aB.dA,hx,hy,kx hf,ky hf,iq]) (fun hf=>by simp only[aB.val,hx,hy,iU,lU]) (fun ha=>h)
def Mz {x y:Src}{fx fy:Bool}{a b:List UInt8}(h:aC Y draw r env (⟨f,.bool (Op.bytesLess a b ||decide (a=b))⟩::rs) nx m K)(hg:GF rs g f:=by exact dw)(hx:cF env rs x=⟨fx,.str a⟩:=by exact rfl)(hy:cF env rs y=⟨fy,.str b⟩:=by exact rfl)(kx:f=true->fx=true:=by exact cy)(ky:f=true->fy=true:=by exact cy):aC Y draw (⟨.bin .leq x y,g⟩::r) env rs nx m K:=
 bU rfl hg _ (fun hf=>by simp[aB.dA,hx,hy,kx hf,ky hf,iq]) (fun hf=>by simp only[aB.val,hx,hy,iU,lU]) (fun ha=>h)
def Mt {x y:Src}{fx fy:Bool}{a b:List UInt8}(h:aC Y draw r env (⟨f,.bool (!(Op.bytesLess a b ||decide (a=b)))⟩::rs) nx m K)(hg:GF rs g f:=by exact dw)(hx:cF env rs x=⟨fx,.str a⟩:=by exact rfl)(hy:cF env rs y=⟨fy,.str b⟩:=by exact rfl)(kx:f=true->fx=true:=by exact cy)(ky:f=true->fy=true:=by exact cy):aC Y draw (⟨.bin .gtr x y,g⟩::r) env rs nx m K:=
 bU rfl hg _ (fun hf=>by simp[aB.dA,hx,hy,kx hf,ky hf,iq]) (fun hf=>by simp only[aB.val,hx,hy,iU,lU]) (fun ha=>h)
def Mr {x y:Src}{fx fy:Bool}{a b:List UInt8}(h:aC Y draw r env (⟨f,.bool (!Op.bytesLess a b)⟩::rs) nx m K)(hg:GF rs g f:=by exact dw)(hx:cF env rs x=⟨fx,.str a⟩:=by exact rfl)(hy:cF env rs y=⟨fy,.str b⟩:=by exact rfl)(kx:f=true->fx=true:=by exact cy)(ky:f=true->fy=true:=by exact cy):aC Y draw (⟨.bin .geq x y,g⟩::r) env rs nx m K:=
 bU rfl hg _ (fun hf=>by simp[aB.dA,hx,hy,kx hf,ky hf,iq]) (fun hf=>by simp only[aB.val,hx,hy,iU,lU]) (fun ha=>h)
def Mp {x y:Src}{fx fy:Bool}{a b:List UInt8}(h:aC Y draw r env (⟨f,.bool (decide (a=b))⟩::rs) nx m K)(hg:GF rs g f:=by exact dw)(hx:cF env rs x=⟨fx,.str a⟩:=by exact rfl)(hy:cF env rs y=⟨fy,.str b⟩:=by exact rfl)(kx:f=true->fx=true:=by exact cy)(ky:f=true->fy=true:=by exact cy):aC Y draw (⟨.bin .eql x y,g⟩::r) env rs nx m K:=
 bU rfl hg _ (fun hf=>by simp[aB.dA,hx,hy,kx hf,ky hf,iq]) (fun hf=>by simp only[aB.val,hx,hy,iU,lU]) (fun ha=>h)
def MC {x y:Src}{fx fy:Bool}{a b:List UInt8}(h:aC Y draw r env (⟨f,.bool (!decide (a=b))⟩::rs) nx m K)(hg:GF rs g f:=by exact dw)(hx:cF env rs x=⟨fx,.str a⟩:=by exact rfl)(hy:cF env rs y=⟨fy,.str b⟩:=by exact rfl)(kx:f=true->fx=true:=by exact cy)(ky:f=true->fy=true:=by exact cy):aC Y draw (⟨.bin .neq x y,g⟩::r) env rs nx m K:=
 bU rfl hg _ (fun hf=>by simp[aB.dA,hx,hy,kx hf,ky hf,iq]) (fun hf=>by simp only[aB.val,hx,hy,iU,lU]) (fun ha=>h)
def zn {x y:Src}{fx fy:Bool}{ag:Bool}{ks:List CK}{a b:D}{v:Bool}(h:aC Y draw r env (⟨f,.bool (v)⟩::rs) nx m K)(hb:gL a.cells b.cells=v)(hg:GF rs g f:=by exact dw)(hx:cF env rs x=⟨fx,a⟩:=by exact rfl)(hy:cF env rs y=⟨fy,b⟩:=by exact rfl)(kx:f=true->fx=true:=by exact cy)(ky:f=true->fy=true:=by exact cy)(h1:f=true->a.isAgg=ag/\b.isAgg=ag/\eL ks a.cells/\eL ks b.cells:=by exact rr):aC Y draw (⟨.eqA false ag ks x y,g⟩::r) env rs nx m K:=
 bU rfl hg _ (fun hf=>by simp only[aB.dA,hx,hy];exact⟨kx hf,ky hf,h1 hf⟩) (fun hf=>by simp only[aB.val,hx,hy];rw[hb];rfl) (fun ha=>h)
def G8 {x y:Src}{fx fy:Bool}{ag:Bool}{ks:List CK}{a b:D}{v:Bool}(h:aC Y draw r env (⟨f,.bool (!v)⟩::rs) nx m K)(hb:gL a.cells b.cells=v)(hg:GF rs g f:=by exact dw)(hx:cF env rs x=⟨fx,a⟩:=by exact rfl)(hy:cF env rs y=⟨fy,b⟩:=by exact rfl)(kx:f=true->fx=true:=by exact cy)(ky:f=true->fy=true:=by exact cy)(h1:f=true->a.isAgg=ag/\b.isAgg=ag/\eL ks a.cells/\eL ks b.cells:=by exact rr):aC Y draw (⟨.eqA true ag ks x y,g⟩::r) env rs nx m K:=
 bU rfl hg _ (fun hf=>by simp only[aB.dA,hx,hy];exact⟨kx hf,ky hf,h1 hf⟩) (fun hf=>by simp only[aB.val,hx,hy];rw[hb];rfl) (fun ha=>h)
def zm {x:Src}{fx:Bool}{k k2:IntKind}{a:Int}(v:Int)(h:aC Y draw r env (⟨f,.int k v⟩::rs) nx m K)(hg:GF rs g f:=by exact dw)(hx:cF env rs x=⟨fx,.int k2 a⟩:=by exact rfl)(kx:f=true->fx=true:=by exact cy)(hb:f=true->k.wrap a=v):aC Y draw (⟨.cvi k x,g⟩::r) env rs nx m K:=
 bU rfl hg _ (fun hf=>by simp[aB.dA,hx,kx hf]) (fun hf=>by simp only[aB.val,hx];rw[hb hf]) (fun ha=>h)
def He {x:Src}{fx:Bool}{s:List UInt8}(h:(f=true->draw=false->s.length<=9223372036854775807)->aC Y draw r env (⟨f,.int .i64 s.length⟩::rs) nx m K)(hg:GF rs g f:=by exact dw)(hx:cF env rs x=⟨fx,.str s⟩:=by exact rfl)(kx:f=true->fx=true:=by exact cy):aC Y draw (⟨.lenS x,g⟩::r) env rs nx m K:=
 bU rfl hg _ (fun hf=>by simp[aB.dA,hx,kx hf]) (fun hf=>by simp[aB.val,hx]) (fun ha=>h (fun hf hd=>by have:=ha hf;subst hd;simpa[aB.xd,hx,kx hf]using this))
def Hc {x:Src}{fx:Bool}{α:Type}{k:Nat}{q:α->D}{xs:List α}(h:(f=true->draw=false->xs.length<=9223372036854775807)->aC Y draw r env (⟨f,.int .i64 xs.length⟩::rs) nx m K)(hg:GF rs g f:=by exact dw)(hx:cF env rs x=⟨fx,.sl k (xs.map q)⟩:=by exact rfl)(kx:f=true->fx=true:=by exact cy):aC Y draw (⟨.len x,g⟩::r) env rs nx m K:=
 bU rfl hg _ (fun hf=>by simp[aB.dA,hx,kx hf]) (fun hf=>by simp[aB.val,hx]) (fun ha=>h (fun hf hd=>by have:=ha hf;subst hd;simpa[aB.xd,hx,kx hf]using this))
def Hd {x:Src}{fx:Bool}{l k i n:Nat}(h:(f=true->draw=false->n<=9223372036854775807)->aC Y draw r env (⟨f,.int .i64 n⟩::rs) nx m K)(hg:GF rs g f:=by exact dw)(hx:cF env rs x=⟨fx,.own l k i n⟩:=by exact rfl)(kx:f=true->fx=true:=by exact cy):aC Y draw (⟨.len x,g⟩::r) env rs nx m K:=
 bU rfl hg _ (fun hf=>by simp[aB.dA,hx,kx hf]) (fun hf=>by simp[aB.val,hx]) (fun ha=>h (fun hf hd=>by have:=ha hf;subst hd;simpa[aB.xd,hx,kx hf]using this))
def Mx {x:Src}{fx:Bool}(h:aC Y draw r env (⟨f,.int .i64 0⟩::rs) nx m K)(hg:GF rs g f:=by exact dw)(hx:cF env rs x=⟨fx,.aA⟩:=by exact rfl)(kx:f=true->fx=true:=by exact cy):aC Y draw (⟨.len x,g⟩::r) env rs nx m K:=
 bU rfl hg _ (fun hf=>by simp[aB.dA,hx,kx hf]) (fun hf=>by simp[aB.val,hx]) (fun ha=>h)
def MD {x:Src}{fx:Bool}{l k i o:Nat}(h:aC Y draw r env (⟨f,.ptr l k i o⟩::rs) nx m K)(hg:GF rs g f:=by exact dw)(hx:cF env rs x=⟨fx,.ptr l k i o⟩:=by exact rfl)(kx:f=true->fx=true:=by exact cy):aC Y draw (⟨.nilck x,g⟩::r) env rs nx m K:=
 bU rfl hg _ (fun hf=>by simp[aB.dA,hx,kx hf]) (fun hf=>by simp[aB.val,hx]) (fun ha=>h)
def ME {x:Src}{fx:Bool}{k i o:Nat}{es:List D}(h:aC Y draw r env (⟨f,.ref k es i o⟩::rs) nx m K)(hg:GF rs g f:=by exact dw)(hx:cF env rs x=⟨fx,.ref k es i o⟩:=by exact rfl)(kx:f=true->fx=true:=by exact cy):aC Y draw (⟨.nilck x,g⟩::r) env rs nx m K:=
 bU rfl hg _ (fun hf=>by simp[aB.dA,hx,kx hf]) (fun hf=>by simp[aB.val,hx]) (fun ha=>h)
def PE {x:Src}{fx:Bool}{off l k i o:Nat}(h:aC Y draw r env (⟨f,.ptr l k i (o+off)⟩::rs) nx m K)(hg:GF rs g f:=by exact dw)(hx:cF env rs x=⟨fx,.ptr l k i o⟩:=by exact rfl)(kx:f=true->fx=true:=by exact cy):aC Y draw (⟨.fa off x,g⟩::r) env rs nx m K:=
 bU rfl hg _ (fun hf=>by simp[aB.dA,hx,kx hf]) (fun hf=>by simp[aB.val,hx]) (fun ha=>h)
def PF {x:Src}{fx:Bool}{off k i o:Nat}{es:List D}(h:aC Y draw r env (⟨f,.ref k es i (o+off)⟩::rs) nx m K)(hg:GF rs g f:=by exact dw)(hx:cF env rs x=⟨fx,.ref k es i o⟩:=by exact rfl)(kx:f=true->fx=true:=by exact cy):aC Y draw (⟨.fa off x,g⟩::r) env rs nx m K:=
 bU rfl hg _ (fun hf=>by simp[aB.dA,hx,kx hf]) (fun hf=>by simp[aB.val,hx]) (fun ha=>h)
def bh {x y:Src}{fx fy:Bool}{α:Type}{k:Nat}{q:α->D}{xs:List α}{i:Int}{kk:IntKind}(j:Nat)(h:aC Y draw r env (⟨f,.ref k (xs.map q) j 0⟩::rs) nx m K)(hg:GF rs g f:=by exact dw)(hx:cF env rs x=⟨fx,.sl k (xs.map q)⟩:=by exact rfl)(hy:cF env rs y=⟨fy,.int kk i⟩:=by exact rfl)(kx:f=true->fx=true:=by exact cy)(ky:f=true->fy=true:=by exact cy)(hj:f=true->i=(j:Int):=by exact vo)(hb:f=true->j<xs.length:=by exact vt):aC Y draw (⟨.ia k x y,g⟩::r) env rs nx m K:=
 bU rfl hg _ (fun hf=>by simp only[aB.dA,hx,hy,aS];exact⟨kx hf,ky hf,trivial,by have:=hj hf;omega,by have:=hj hf;have:=hb hf;omega⟩) (fun hf=>by simp only[aB.val,hx,hy];rw[hj hf];rfl) (fun ha=>h)
def fh {x y:Src}{fx fy:Bool}{l k i0 n:Nat}{i:Int}{kk:IntKind}(j:Nat)(h:aC Y draw r env (⟨f,.ptr l k (i0+j) 0⟩::rs) nx m K)(hg:GF rs g f:=by exact dw)(hx:cF env rs x=⟨fx,.own l k i0 n⟩:=by exact rfl)(hy:cF env rs y=⟨fy,.int kk i⟩:=by exact rfl)(kx:f=true->fx=true:=by exact cy)(ky:f=true->fy=true:=by exact cy)(hj:f=true->i=(j:Int):=by exact vo)(hb:f=true->j<n:=by exact vt):aC Y draw (⟨.ia k x y,g⟩::r) env rs nx m K:=
 bU rfl hg _ (fun hf=>by simp only[aB.dA,hx,hy];exact⟨kx hf,ky hf,trivial,by have:=hj hf;omega,by have:=hj hf;have:=hb hf;omega⟩) (fun hf=>by simp only[aB.val,hx,hy];rw[hj hf];rfl) (fun ha=>h)
def Hb {x y:Src}{fx fy:Bool}{s:List UInt8}{i:Int}{kk:IntKind}(j:Nat)(h:aC Y draw r env (⟨f,.int .u8 (at8 s j)⟩::rs) nx m K)(hg:GF rs g f:=by exact dw)(hx:cF env rs x=⟨fx,.str s⟩:=by exact rfl)(hy:cF env rs y=⟨fy,.int kk i⟩:=by exact rfl)(kx:f=true->fx=true:=by exact cy)(ky:f=true->fy=true:=by exact cy)(hj:f=true->i=(j:Int):=by exact vo)(hb:f=true->j<s.length:=by exact vt):aC Y draw (⟨.ixS x y,g⟩::r) env rs nx m K:=
 bU rfl hg _ (fun hf=>by simp only[aB.dA,hx,hy];exact⟨kx hf,ky hf,by have:=hj hf;omega,by have:=hj hf;have:=hb hf;omega⟩) (fun hf=>by simp only[aB.val,hx,hy];rw[hj hf];rfl) (fun ha=>h)
def Ha {x y:Src}{fx fy:Bool}{α:Type}{k:Nat}{q:α->D}{xs:List α}{i:Int}{kk:IntKind}(h:aC Y draw r env (⟨f,.ref k (xs.map q) i.toNat 0⟩::rs) nx m K)(hg:GF rs g f:=by exact dw)(hx:cF env rs x=⟨fx,.sl k (xs.map q)⟩:=by exact rfl)(hy:cF env rs y=⟨fy,.int kk i⟩:=by exact rfl)(kx:f=true->fx=true:=by exact cy)(ky:f=true->fy=true:=by exact cy)(hb:f=true->0<=i/\i<(xs.length:Nat):=by exact Af):aC Y draw (⟨.ia k x y,g⟩::r) env rs nx m K:=
 bU rfl hg _ (fun hf=>by simp only[aB.dA,hx,hy,aS];exact⟨kx hf,ky hf,trivial,(hb hf).1,(hb hf).2⟩) (fun hf=>by simp only[aB.val,hx,hy]<;>rfl) (fun ha=>h)
def Mu {x y:Src}{fx fy:Bool}{l k i0 n:Nat}{i:Int}{kk:IntKind}(h:aC Y draw r env (⟨f,.ptr l k (i0+i.toNat) 0⟩::rs) nx m K)(hg:GF rs g f:=by exact dw)(hx:cF env rs x=⟨fx,.own l k i0 n⟩:=by exact rfl)(hy:cF env rs y=⟨fy,.int kk i⟩:=by exact rfl)(kx:f=true->fx=true:=by exact cy)(ky:f=true->fy=true:=by exact cy)(hb:f=true->0<=i/\i<(n:Nat):=by exact Af):aC Y draw (⟨.ia k x y,g⟩::r) env rs nx m K:=
 bU rfl hg _ (fun hf=>by simp only[aB.dA,hx,hy,aS];exact⟨kx hf,ky hf,trivial,(hb hf).1,(hb hf).2⟩) (fun hf=>by simp only[aB.val,hx,hy]<;>rfl) (fun ha=>h)
def Mw {x y:Src}{fx fy:Bool}{s:List UInt8}{i:Int}{kk:IntKind}(h:aC Y draw r env (⟨f,.int .u8 (at8 s i.toNat)⟩::rs) nx m K)(hg:GF rs g f:=by exact dw)(hx:cF env rs x=⟨fx,.str s⟩:=by exact rfl)(hy:cF env rs y=⟨fy,.int kk i⟩:=by exact rfl)(kx:f=true->fx=true:=by exact cy)(ky:f=true->fy=true:=by exact cy)(hb:f=true->0<=i/\i<(s.length:Nat):=by exact Af):aC Y draw (⟨.ixS x y,g⟩::r) env rs nx m K:=
 bU rfl hg _ (fun hf=>by simp only[aB.dA,hx,hy,aS];exact⟨kx hf,ky hf,(hb hf).1,(hb hf).2⟩) (fun hf=>by simp only[aB.val,hx,hy]<;>rfl) (fun ha=>h)
def zu {x y:Src}{fx fy:Bool}{s:List UInt8}{k2:IntKind}{a:Int}(i:Nat)(h:aC Y draw r env (⟨f,.str (s.drop i)⟩::rs) nx m K)(hg:GF rs g f:=by exact dw)(hx:cF env rs x=⟨fx,.str s⟩:=by exact rfl)(hy:cF env rs y=⟨fy,.int k2 a⟩:=by exact rfl)(kx:f=true->fx=true:=by exact cy)(ky:f=true->fy=true:=by exact cy)(hi:f=true->a=(i:Int):=by exact vo)(hb:f=true->i<=s.length:=by exact vt):aC Y draw (⟨.slS x (some y) none,g⟩::r) env rs nx m K:=
 bU rfl hg _ (fun hf=>by simp only[aB.dA,Fh,dO,hx,hy];have:=hb hf;have:=hi hf;refine⟨kx hf,ky hf,trivial, ?_⟩;simp only[lW,dP,cd,b8,Int.ofNat_eq_natCast];omega) (fun hf=>by simp only[aB.val,dO,dP,hx,hy];rw[hi hf];simp) (fun ha=>h)
def zr {x y:Src}{fx fy:Bool}{α:Type}{k:Nat}{q:α->D}{s:List α}{k2:IntKind}{a:Int}(i:Nat)(h:aC Y draw r env (⟨f,.sl k ((s.drop i).map q)⟩::rs) nx m K)(hg:GF rs g f:=by exact dw)(hx:cF env rs x=⟨fx,.sl k (s.map q)⟩:=by exact rfl)(hy:cF env rs y=⟨fy,.int k2 a⟩:=by exact rfl)(kx:f=true->fx=true:=by exact cy)(ky:f=true->fy=true:=by exact cy)(hi:f=true->a=(i:Int):=by exact vo)(hb:f=true->i<=s.length:=by exact vt):aC Y draw (⟨.slA k x (some y) none,g⟩::r) env rs nx m K:=
 bU rfl hg _ (fun hf=>by simp only[aB.dA,Fh,dO,hx,hy,aS];have:=hb hf;have:=hi hf;refine⟨kx hf,ky hf,trivial,trivial, ?_⟩;simp only[lW,dP,cd,b8,Int.ofNat_eq_natCast];omega) (fun hf=>by simp only[aB.val,dO,dP,hx,hy];rw[hi hf];first|(simp only[List.take_length,Int.toNat_natCast,List.map_drop];done)|simp[List.map_drop,List.map_take]) (fun ha=>h)
def zq {x z:Src}{fx fz:Bool}{α:Type}{k:Nat}{q:α->D}{s:List α}{k3:IntKind}{c:Int}(j:Nat)(h:aC Y draw r env (⟨f,.sl k ((s.take j).map q)⟩::rs) nx m K)(hg:GF rs g f:=by exact dw)(hx:cF env rs x=⟨fx,.sl k (s.map q)⟩:=by exact rfl)(hz:cF env rs z=⟨fz,.int k3 c⟩:=by exact rfl)(kx:f=true->fx=true:=by exact cy)(kz:f=true->fz=true:=by exact cy)(hj:f=true->c=(j:Int):=by exact vo)(hb:f=true->j<=s.length:=by exact vt):aC Y draw (⟨.slA k x none (some z),g⟩::r) env rs nx m K:=
 bU rfl hg _ (fun hf=>by simp only[aB.dA,Fh,dO,hx,hz,aS];have:=hb hf;have:=hj hf;refine⟨kx hf,trivial,kz hf,trivial, ?_⟩;simp only[lW,dP,cd,b8,Int.ofNat_eq_natCast];omega) (fun hf=>by simp only[aB.val,dO,dP,hx,hz];rw[hj hf];first|(simp only[List.take_length,Int.toNat_natCast,List.map_drop];done)|simp[List.map_drop,List.map_take]) (fun ha=>h)
def Hi {x z:Src}{fx fz:Bool}{l k i0 n:Nat}{k3:IntKind}{c:Int}(j:Nat)(h:aC Y draw r env (⟨f,.own l k i0 j⟩::rs) nx m K)(hg:GF rs g f:=by exact dw)(hx:cF env rs x=⟨fx,.own l k i0 n⟩:=by exact rfl)(hz:cF env rs z=⟨fz,.int k3 c⟩:=by exact rfl)(kx:f=true->fx=true:=by exact cy)(kz:f=true->fz=true:=by exact cy)(hj:f=true->c=(j:Int):=by exact vo)(hb:f=true->j<=n:=by exact vt):aC Y draw (⟨.slA k x none (some z),g⟩::r) env rs nx m K:=
 bU rfl hg _ (fun hf=>by simp only[aB.dA,Fh,dO,hx,hz];have:=hb hf;have:=hj hf;refine⟨kx hf,trivial,kz hf,trivial, ?_⟩;simp only[lW,dP,cd,b8,Int.ofNat_eq_natCast];omega) (fun hf=>by simp only[aB.val,dO,dP,hx,hz];rw[hj hf];simp) (fun ha=>h)
def zt {x y z:Src}{fx fy fz:Bool}{s:List UInt8}{k2:IntKind}{a:Int}(i:Nat){k3:IntKind}{c:Int}(j:Nat)(h:aC Y draw r env (⟨f,.str ((s.take j).drop i)⟩::rs) nx m K)(hg:GF rs g f:=by exact dw)(hx:cF env rs x=⟨fx,.str s⟩:=by exact rfl)(hy:cF env rs y=⟨fy,.int k2 a⟩:=by exact rfl)(hz:cF env rs z=⟨fz,.int k3 c⟩:=by exact rfl)(kx:f=true->fx=true:=by exact cy)(ky:f=true->fy=true:=by exact cy)(kz:f=true->fz=true:=by exact cy)(hi:f=true->a=(i:Int):=by exact vo)(hj:f=true->c=(j:Int):=by exact vo)(hb:f=true->i<=j/\j<=s.length:=by exact Af):aC Y draw (⟨.slS x (some y) (some z),g⟩::r) env rs nx m K:=
 bU rfl hg _ (fun hf=>by simp only[aB.dA,Fh,dO,hx,hy,hz];have:=hb hf;have:=hi hf;have:=hj hf;refine⟨kx hf,ky hf,kz hf, ?_⟩;simp only[lW,dP,cd,b8,Int.ofNat_eq_natCast];omega) (fun hf=>by simp only[aB.val,dO,dP,hx,hy,hz];rw[hi hf,hj hf];simp) (fun ha=>h)
def Hh {x y z:Src}{fx fy fz:Bool}{α:Type}{k:Nat}{q:α->D}{s:List α}{k2:IntKind}{a:Int}(i:Nat){k3:IntKind}{c:Int}(j:Nat)(h:aC Y draw r env (⟨f,.sl k (((s.take j).drop i).map q)⟩::rs) nx m K)(hg:GF rs g f:=by exact dw)(hx:cF env rs x=⟨fx,.sl k (s.map q)⟩:=by exact rfl)(hy:cF env rs y=⟨fy,.int k2 a⟩:=by exact rfl)(hz:cF env rs z=⟨fz,.int k3 c⟩:=by exact rfl)(kx:f=true->fx=true:=by exact cy)(ky:f=true->fy=true:=by exact cy)(kz:f=true->fz=true:=by exact cy)(hi:f=true->a=(i:Int):=by exact vo)(hj:f=true->c=(j:Int):=by exact vo)(hb:f=true->i<=j/\j<=s.length:=by exact Af):aC Y draw (⟨.slA k x (some y) (some z),g⟩::r) env rs nx m K:=
 bU rfl hg _ (fun hf=>by simp only[aB.dA,Fh,dO,hx,hy,hz,aS];have:=hb hf;have:=hi hf;have:=hj hf;refine⟨kx hf,ky hf,kz hf,trivial, ?_⟩;simp only[lW,dP,cd,b8,Int.ofNat_eq_natCast];omega) (fun hf=>by simp only[aB.val,dO,dP,hx,hy,hz];rw[hi hf,hj hf];first|(simp only[List.take_length,Int.toNat_natCast,List.map_drop];done)|simp[List.map_drop,List.map_take]) (fun ha=>h)
def gh {x:Src}{fx:Bool}{i:Nat}{ds:List D}(v:D)(h:aC Y draw r env (⟨f,v⟩::rs) nx m K)(hg:GF rs g f:=by exact dw)(hx:cF env rs x=⟨fx,.tup ds⟩:=by exact rfl)(kx:f=true->fx=true:=by exact cy)(hv:f=true->ds.getD i .any=v:=by exact fun _=>rfl)(hb:f=true->i<ds.length:=by intro _;simp only[bR,cb];omega):aC Y draw (⟨.ext x i,g⟩::r) env rs nx m K:=
 bU rfl hg _ (fun hf=>by simp only[aB.dA,hx];exact⟨kx hf,hb hf⟩) (fun hf=>by simp only[aB.val,hx];exact hv hf) (fun ha=>h)
def dq {z:List D}{ps:List (Nat×Nat×Src)}(v:List D)(h:aC Y draw r env (⟨f,.agg v⟩::rs) nx m K)(hg:GF rs g f:=by exact dw)(hv:f=true->tF (cF env rs) z ps=v:=by exact fun _=>rfl)(ho:f=true->wb (cF env rs) z.length ps:=by exact rr):aC Y draw (⟨.build z ps,g⟩::r) env rs nx m K:=
 bU rfl hg _ (fun hf=>ho hf) (fun hf=>by simp only[aB.val];rw[hv hf]) (fun _=>h)
def bz {z:List D}{ps:List (Nat×Nat×Src)}(d:D)(h:aC Y draw r env (⟨f,d⟩::rs) nx m K)(hg:GF rs g f:=by exact dw)(hv:f=true->D.agg (tF (cF env rs) z ps)=d:=by exact fun _=>rfl)(ho:f=true->wb (cF env rs) z.length ps:=by exact rr):aC Y draw (⟨.build z ps,g⟩::r) env rs nx m K:=
 bU rfl hg _ (fun hf=>ho hf) (fun hf=>by simp only[aB.val];exact hv hf) (fun _=>h)
def L4 {e:D}{n o:Nat}{ag:Bool}(h:e.isAgg=ag):ou e n n o ag=e:=by simp[ou,h]
def aW {x:Src}{fx:Bool}{n l:Nat}{ag:Bool}{d:D}(h:aC Y draw r env (⟨f,d⟩::rs) nx m K)(hg:GF rs g f:=by exact dw)(hx:cF env rs x=⟨fx,.ptr l n 0 0⟩:=by exact rfl)(kx:f=true->fx=true:=by exact cy)(hl:f=true->look m l=some (.buf n [d]):=by exact fun _=>rfl)(ha:f=true->d.isAgg=ag:=by exact fun _=>rfl):aC Y draw (⟨.ld n ag x,g⟩::r) env rs nx m K:=
 fL rfl hg _ (fun hf=>by simp only[aB.dA,hx,xy,eh,hl hf];exact⟨kx hf,⟨trivial,bc⟩,ae⟩) (fun hf=>by simp only[aB.val,hx,vB,aQ,hl hf,gO];exact L4 (ha hf)) m rfl (fun ha=>h)
def ay {x:Src}{fx:Bool}{n l k o:Nat}{ag:Bool}{d:D}(v:D)(h:aC Y draw r env (⟨f,v⟩::rs) nx m K)(hg:GF rs g f:=by exact dw)(hx:cF env rs x=⟨fx,.ptr l k 0 o⟩:=by exact rfl)(kx:f=true->fx=true:=by exact cy)(hl:f=true->look m l=some (.buf k [d]):=by exact fun _=>rfl)(hv:f=true->ou d k n o ag=v:=by exact fun _=>rfl)(ho:o+n<=k:=by omega):aC Y draw (⟨.ld n ag x,g⟩::r) env rs nx m K:=
 fL rfl hg _ (fun hf=>by simp only[aB.dA,hx,xy,eh,hl hf];exact⟨kx hf,⟨trivial,bc⟩,ho⟩) (fun hf=>by simp only[aB.val,hx,vB,aQ,hl hf,gO];exact hv hf) m rfl (fun ha=>h)
def ig {x:Src}{fx:Bool}{α:Type} [Inhabited α]{n l k i o:Nat}{ag:Bool}{q:α->D}{xs:List α}(v:D)(h:aC Y draw r env (⟨f,v⟩::rs) nx m K)(hg:GF rs g f:=by exact dw)(hx:cF env rs x=⟨fx,.ptr l k i o⟩:=by exact rfl)(kx:f=true->fx=true:=by exact cy)(hl:f=true->look m l=some (.buf k (xs.map q)):=by exact fun _=>rfl)(hi:f=true->i<xs.length:=by exact vt)(hv:f=true->ou (q xs[i]!) k n o ag=v:=by exact fun _=>rfl)(ho:o+n<=k:=by omega):aC Y draw (⟨.ld n ag x,g⟩::r) env rs nx m K:=
 fL rfl hg _ (fun hf=>by simp only[aB.dA,hx,xy,eh,hl hf,aS];exact⟨kx hf,⟨trivial,by have:=hi hf;omega⟩,ho⟩) (fun hf=>by simp only[aB.val,hx,vB,aQ,hl hf];rw[getD_map (hi hf)];exact hv hf) m rfl (fun ha=>h)
def bd {x:Src}{fx:Bool}{α:Type} [Inhabited α]{n k i o:Nat}{ag:Bool}{q:α->D}{xs:List α}(v:D)(h:aC Y draw r env (⟨f,v⟩::rs) nx m K)(hg:GF rs g f:=by exact dw)(hx:cF env rs x=⟨fx,.ref k (xs.map q) i o⟩:=by exact rfl)(kx:f=true->fx=true:=by exact cy)(hi:f=true->i<xs.length:=by exact vt)(hv:f=true->ou (q xs[i]!) k n o ag=v:=by exact fun _=>rfl)(ho:o+n<=k:=by omega):aC Y draw (⟨.ld n ag x,g⟩::r) env rs nx m K:=
 fL rfl hg _ (fun hf=>by simp only[aB.dA,hx,xy,aS];exact⟨kx hf,hi hf,ho⟩) (fun hf=>by simp only[aB.val,hx,vB];rw[getD_map (hi hf)];exact hv hf) m rfl (fun ha=>h)
def ij {x:Src}{fx:Bool}{n k i o:Nat}{ag:Bool}{es:List D}(v:D)(h:aC Y draw r env (⟨f,v⟩::rs) nx m K)(hg:GF rs g f:=by exact dw)(hx:cF env rs x=⟨fx,.ref k es i o⟩:=by exact rfl)(kx:f=true->fx=true:=by exact cy)(hi:f=true->i<es.length:=by intro _;simp only[bR,cb];omega)(hv:f=true->ou (es.getD i .any) k n o ag=v:=by exact fun _=>rfl)(ho:o+n<=k:=by omega):aC Y draw (⟨.ld n ag x,g⟩::r) env rs nx m K:=
 fL rfl hg _ (fun hf=>by simp only[aB.dA,hx,xy];exact⟨kx hf,hi hf,ho⟩) (fun hf=>by simp only[aB.val,hx,vB];exact hv hf) m rfl (fun ha=>h)
def PD {x:Src}{fx:Bool}{k:Nat}{d:D}{L:Nat}{m2:List (Nat×bA)}(h:aC Y draw r env (⟨f,.ptr L k 0 0⟩::rs) nx m2 K)(hg:GF rs g f:=by exact dw)(hx:cF env rs x=⟨fx,d⟩:=by exact rfl)(kx:f=true->fx=true:=by exact cy)(hc:d.cells.length=k:=by exact rfl)(hL:nx+rs.length=L:=by exact sA)(hm:cH m L (.buf k [d])=m2:=by simp only[cH,cx,Nat.reduceEqDiff,aV,aN,Nat.reduceAdd,reduceCtorEq];exact rfl):aC Y draw (⟨.box k x,g⟩::r) env rs nx m K:=
 fL rfl hg _ (fun hf=>by simp only[aB.dA,hx];exact⟨kx hf,hc⟩) (fun hf=>by simp only[aB.val,hx,hL]) _ (by simp only[aB.cq,hx,hL];exact hm) (fun _=>h)
def PG {L:Nat}{m2:List (Nat×bA)}(h:aC Y draw r env (⟨f,.ptr L 2 0 0⟩::rs) nx m2 K)(hg:GF rs g f:=by exact dw)(hL:nx+rs.length=L:=by exact sA)(hm:cH m L (.bld none 0 false)=m2:=by simp only[cH,cx,Nat.reduceEqDiff,aV,aN,Nat.reduceAdd,reduceCtorEq];exact rfl):aC Y draw (⟨.mkB,g⟩::r) env rs nx m K:=
 fL rfl hg _ (fun _=>trivial) (fun hf=>by simp only[aB.val,hL]) _ (by simp only[aB.cq,hL];exact hm) (fun _=>h)
def PM {x:Src}{fx:Bool}{s:List UInt8}{L:Nat}{m2:List (Nat×bA)}(h:aC Y draw r env (⟨f,.own L 1 0 s.length⟩::rs) nx m2 K)(hg:GF rs g f:=by exact dw)(hx:cF env rs x=⟨fx,.str s⟩:=by exact rfl)(kx:f=true->fx=true:=by exact cy)(hL:nx+rs.length=L:=by exact sA)(hm:cH m L (.buf 1 (s.map fun b=>.int .u8 b.toNat))=m2:=by simp only[cH,cx,Nat.reduceEqDiff,aV,aN,Nat.reduceAdd,reduceCtorEq];exact rfl):aC Y draw (⟨.s2b x,g⟩::r) env rs nx m K:=
 fL rfl hg _ (fun hf=>by simp only[aB.dA,hx];exact⟨kx hf,trivial⟩) (fun hf=>by simp only[aB.val,hx,hL]) _ (by simp only[aB.cq,hx,hL];exact hm) (fun _=>h)
def PL {x:Src}{fx:Bool}{s:List UInt8}{L:Nat}{m2:List (Nat×bA)}(h:aC Y draw r env (⟨f,.it L⟩::rs) nx m2 K)(hg:GF rs g f:=by exact dw)(hx:cF env rs x=⟨fx,.str s⟩:=by exact rfl)(kx:f=true->fx=true:=by exact cy)(hL:nx+rs.length=L:=by exact sA)(hm:cH m L (.iter s 0)=m2:=by simp only[cH,cx,Nat.reduceEqDiff,aV,aN,Nat.reduceAdd,reduceCtorEq];exact rfl):aC Y draw (⟨.rng x,g⟩::r) env rs nx m K:=
 fL rfl hg _ (fun hf=>by simp only[aB.dA,hx];exact⟨kx hf,trivial⟩) (fun hf=>by simp only[aB.val,hx,hL]) _ (by simp only[aB.cq,hx,hL];exact hm) (fun _=>h)
def cT {k n:Nat}{z:D}{ps:List (Nat×Src)}{L:Nat}{m2:List (Nat×bA)}(es:List D)(h:aC Y draw r env (⟨f,.own L k 0 n⟩::rs) nx m2 K)(hg:GF rs g f:=by exact dw)(he:js (cF env rs) (List.replicate n z) ps=es:=by exact rfl)(ho:f=true->nr (cF env rs) k n ps:=by exact rr)(hz:z.cells.length=k:=by exact rfl)(hL:nx+rs.length=L:=by exact sA)(hm:cH m L (.buf k es)=m2:=by simp only[cH,cx,Nat.reduceEqDiff,aV,aN,Nat.reduceAdd,reduceCtorEq];exact rfl):aC Y draw (⟨.bsl k z n ps,g⟩::r) env rs nx m K:=
 fL rfl hg _ (fun hf=>⟨hz,ho hf⟩) (fun hf=>by simp only[aB.val,hL]) _ (by simp only[aB.cq,he,hL];exact hm) (fun _=>h)
def dC {n l k o:Nat}{x y:Src}{d v:D}{m2:List (Nat×bA)}(e:D)(h:aC Y draw r env (⟨true,.any⟩::rs) nx m2 K)(hx:cF env rs x=⟨true,.ptr l k 0 o⟩:=by exact rfl)(hy:cF env rs y=⟨true,v⟩:=by exact rfl)(hl:look m l=some (.buf k [d]):=by exact rfl)(hc:v.cells.length=n:=by exact rfl)(he:qh d k n o v=e:=by exact rfl)(ho:o+n<=k:=by omega)(hm:cH m l (.buf k [e])=m2:=by simp only[cH,cx,Nat.reduceEqDiff,aV,aN,Nat.reduceAdd,reduceCtorEq];exact rfl):aC Y draw (⟨.st n x y,none⟩::r) env rs nx m K:=
 pw rfl _ (by simp only[aB.dA,hx,hy,eh,hl];exact⟨trivial,trivial,hc,⟨trivial,bc⟩,ho⟩) rfl _ (by simp only[aB.cq,hx,hy,aQ,hl,gO,List.set_cons_zero,he];exact hm) (fun _=>h)
def lG {n l k i o:Nat}{x y:Src}{v:D}{es:List D}{m2:List (Nat×bA)}(es2:List D)(h:aC Y draw r env (⟨true,.any⟩::rs) nx m2 K)(hx:cF env rs x=⟨true,.ptr l k i o⟩:=by exact rfl)(hy:cF env rs y=⟨true,v⟩:=by exact rfl)(hl:look m l=some (.buf k es):=by exact rfl)(hi:i<es.length)(hc:v.cells.length=n:=by exact rfl)(he:es.set i (qh (es.getD i .any) k n o v)=es2)(ho:o+n<=k:=by omega)(hm:cH m l (.buf k es2)=m2:=by simp only[cH,cx,Nat.reduceEqDiff,aV,aN,Nat.reduceAdd,reduceCtorEq];exact rfl):aC Y draw (⟨.st n x y,none⟩::r) env rs nx m K:=
 pw rfl _ (by simp only[aB.dA,hx,hy,eh,hl];exact⟨trivial,trivial,hc,⟨trivial,ae⟩,ho⟩) rfl _ (by simp only[aB.cq,hx,hy,aQ,hl,he];exact hm) (fun _=>h)
def oI (m:List (Nat×bA))(k:Nat)(d:D)(ys:List D):Prop:=xo m k d/\mL m d=ys
def oI.sl {k:Nat}{es:List D}:oI m k (.sl k es) es:=⟨rfl,rfl⟩
def oI.aA {k:Nat}:oI m k .aA []:=⟨trivial,rfl⟩
def oI.own {l k i n:Nat}{es:List D}(hl:look m l=some (.buf k es))(hb:i+n<=es.length):oI m k (.own l k i n) ((es.drop i).take n):=⟨⟨rfl,by simp only[eh,hl];exact⟨trivial,hb⟩⟩,by simp only[mL,aQ,hl]⟩
def oI.all {l k n:Nat}{es:List D}(hl:look m l=some (.buf k es))(hb:n=es.length):oI m k (.own l k 0 n) es:=by
 have:=oI.own (i:=0) (n:=n) hl ae;simpa[hb]using this
def oI.str {s:List UInt8}:oI m 1 (.str s) (s.map fun b=>.int .u8 b.toNat):=⟨rfl,rfl⟩
def xR {k n:Nat}{x y:Src}{d:D}{ys:List D}{L:Nat}{m2:List (Nat×bA)}(h:aC Y draw r env (⟨true,.own L k 0 n⟩::rs) nx m2 K)(hx:cF env rs x=⟨true,.aA⟩:=by exact rfl)(hy:cF env rs y=⟨true,d⟩:=by exact rfl)(he:oI m k d ys)(hn:ys.length=n)(hb:n<=1073741824:=by omega)(hL:nx+rs.length=L:=by exact sA)(hm:cH m L (.buf k ys)=m2:=by simp only[cH,cx,Nat.reduceEqDiff,aV,aN,Nat.reduceAdd,reduceCtorEq];exact rfl):aC Y draw (⟨.app k x y,none⟩::r) env rs nx m K:=
 pw rfl _ (by simp only[aB.dA,hx,hy,he.2,hn];exact⟨trivial,trivial,he.1,hb⟩) (by simp only[aB.val,hx,hy,he.2,hn,hL]) _ (by simp only[aB.cq,hx,hy,he.2,hL];exact hm) (fun _=>h)
def Jw {k n:Nat}{y:Src}{fy:Bool}{d:D}{ys:List D}{L:Nat}{m2:List (Nat×bA)}(h:aC Y draw r env (⟨f,.own L k 0 n⟩::rs) nx m2 K)(hg:GF rs g f:=by exact dw)(hy:cF env rs y=⟨fy,d⟩:=by exact rfl)(ky:f=true->fy=true:=by exact cy)(he:oI m k d ys)(hn:ys.length=n)(hb:n<=1073741824:=by omega)(hL:nx+rs.length=L:=by exact sA)(hm:cH m L (.buf k ys)=m2:=by simp only[cH,cx,Nat.reduceEqDiff,aV,aN,Nat.reduceAdd,reduceCtorEq];exact rfl):aC Y draw (⟨.appN k y,g⟩::r) env rs nx m K:=
 fL rfl hg _ (fun hf=>by simp only[aB.dA,hy,he.2,hn];exact⟨ky hf,he.1,hb⟩) (fun hf=>by simp only[aB.val,hy,he.2,hn,hL]) _ (by simp only[aB.cq,hy,he.2,hL];exact hm) (fun _=>h)
def uH {k l i a n:Nat}{x y:Src}{d:D}{xs ys:List D}{L:Nat}{m2:List (Nat×bA)}(zs:List D)(h:aC Y draw r env (⟨true,.own L k 0 n⟩::rs) nx m2 K)(hx:cF env rs x=⟨true,.own l k i a⟩:=by exact rfl)(hy:cF env rs y=⟨true,d⟩:=by exact rfl)(hl:look m l=some (.buf k xs):=by exact rfl)(ha:i+a<=xs.length)(he:oI m k d ys)(hz:(xs.drop i).take a++ys=zs)(hn:a+ys.length=n)(hb:n<=1073741824:=by omega)(hL:nx+rs.length=L:=by exact sA)(hm:cH (cx m l) L (.buf k zs)=m2:=by simp only[cH,cx,Nat.reduceEqDiff,aV,aN,Nat.reduceAdd,reduceCtorEq];exact rfl):aC Y draw (⟨.app k x y,none⟩::r) env rs nx m K:=
 pw rfl _ (by simp only[aB.dA,hx,hy,he.2,eh,hl,hn];exact⟨trivial,trivial,he.1,trivial,⟨trivial,ha⟩,hb⟩) (by simp only[aB.val,hx,hy,he.2,hn,hL]) _ (by simp only[aB.cq,hx,hy,he.2,aQ,hl,hz,hL];exact hm) (fun _=>h)
def fA {α:Type}{q:α->D}{xs:List α}{e:α}{k l ly:Nat}{x y:Src}{L:Nat}{m2:List (Nat×bA)}(h:aC Y draw r env (⟨true,.own L k 0 (xs++[e]).length⟩::rs) nx m2 K)(hx:cF env rs x=⟨true,.own l k 0 xs.length⟩:=by exact rfl)(hy:cF env rs y=⟨true,.own ly k 0 1⟩:=by exact rfl)(hl:look m l=some (.buf k (xs.map q)):=by exact rfl)(he:look m ly=some (.buf k [q e]):=by exact rfl)(hb:xs.length+1<=1073741824:=by omega)(hL:nx+rs.length=L:=by exact sA)(hm:cH (cx m l) L (.buf k ((xs++[e]).map q))=m2:=by simp only[cH,cx,Nat.reduceEqDiff,aV,aN,Nat.reduceAdd,reduceCtorEq];exact rfl):aC Y draw (⟨.app k x y,none⟩::r) env rs nx m K:=
 uH (zs:=(xs++[e]).map q) (hx:=hx) (hy:=hy) (hl:=hl) (ha:=bc) (he:=oI.all (es:=[q e]) he rfl) (hz:=by rw[bS,gN bc];simp) (hn:=bc) (hb:=ed) (hL:=hL) (hm:=hm) (h:=h)
def uI {α:Type}{q:α->D}{xs ys:List α}{k l:Nat}{x y:Src}{d:D}{L:Nat}{m2:List (Nat×bA)}(h:aC Y draw r env (⟨true,.own L k 0 (xs++ys).length⟩::rs) nx m2 K)(hx:cF env rs x=⟨true,.own l k 0 xs.length⟩:=by exact rfl)(hy:cF env rs y=⟨true,d⟩:=by exact rfl)(hl:look m l=some (.buf k (xs.map q)):=by exact rfl)(he:oI m k d (ys.map q))(hb:xs.length+ys.length<=1073741824:=by omega)(hL:nx+rs.length=L:=by exact sA)(hm:cH (cx m l) L (.buf k ((xs++ys).map q))=m2:=by simp only[cH,cx,Nat.reduceEqDiff,aV,aN,Nat.reduceAdd,reduceCtorEq];exact rfl):aC Y draw (⟨.app k x y,none⟩::r) env rs nx m K:=
 uH (zs:=(xs++ys).map q) (hx:=hx) (hy:=hy) (hl:=hl) (ha:=bc) (he:=he) (hz:=by rw[bS,gN bc];simp) (hn:=bc) (hb:=ed) (hL:=hL) (hm:=hm) (h:=h)
def Hg {x:Src}{l pos:Nat}{s:List UInt8}{m2:List (Nat×bA)}(c w:Nat)(h:aC Y draw r env (⟨true,.tup [.bool true,.int .i64 pos,.int .i32 c]⟩::rs) nx m2 K)(hx:cF env rs x=⟨true,.it l⟩:=by exact rfl)(hl:look m l=some (.iter s pos):=by exact rfl)(hp:pos<s.length)(hc:qB s pos=(c,w))(hm:cH m l (.iter s (pos+w))=m2:=by simp only[cH,cx,Nat.reduceEqDiff,aV,aN,Nat.reduceAdd,reduceCtorEq];exact rfl):aC Y draw (⟨.br x,none⟩::r) env rs nx m K:=
 pw rfl _ (by simp only[aB.dA,hx,hl];exact⟨trivial,trivial⟩) (by simp only[aB.val,hx,hl,hc,hp,decide_true,cond_true]) _ (by simp only[aB.cq,hx,hl,hc,hp,decide_true,cond_true];exact hm) (fun _=>h)
def Hf {x:Src}{l pos:Nat}{s:List UInt8}(h:aC Y draw r env (⟨true,.tup [.bool false]⟩::rs) nx m K)(hx:cF env rs x=⟨true,.it l⟩:=by exact rfl)(hl:look m l=some (.iter s pos):=by exact rfl)(hp:¬pos<s.length):aC Y draw (⟨.br x,none⟩::r) env rs nx m K:=
 pw rfl _ (by simp only[aB.dA,hx,hl];exact⟨trivial,trivial⟩) (by simp only[aB.val,hx,hl,hp,decide_false,cond_false]) _ (by simp only[aB.cq,hx,hl,hp,decide_false,cond_false]) (fun _=>h)
def ar {n:Nat}{args:List Src}{sh:List (List Sh)}{Xe:List D}{v:D}(h:aC Y draw r env (⟨f,v⟩::rs) nx m K)(hg:GF rs g f:=by exact dw)(hc:Y.pre n Xe/\Y.val n Xe=v)(ha:f=true->je m sh (fU (cF env rs) args)=Xe:=by exact fun _=>rfl)(ho:f=true->rN (cF env rs) args:=by exact rr)(hp:f=true->iF m sh (fU (cF env rs) args):=by exact rr)(hk:f=true->nb (fU (cF env rs) args) v=true:=by exact fun _=>rfl):aC Y draw (⟨.call n args sh,g⟩::r) env rs nx m K:=
 fL rfl hg _ (fun hf=>by simp only[aB.dA,(cO _ _ _).1,ha hf,hc.2];exact⟨ho hf,(cO _ _ _).2.2 (hp hf),hc.1,hk hf⟩) (fun hf=>by simp only[aB.val,(cO _ _ _).1,ha hf,hc.2]) m rfl (fun _=>h)
def bT {n:Nat}{args:List Src}{sh:List (List Sh)}{Xe:List D}{v:D}(h:aC Y draw r env (⟨f,v⟩::rs) nx m K)(hg:GF rs g f:=by exact dw)(hc:f=true->Y.pre n Xe/\Y.val n Xe=v)(ha:f=true->je m sh (fU (cF env rs) args)=Xe:=by exact fun _=>rfl)(ho:f=true->rN (cF env rs) args:=by exact rr)(hp:f=true->iF m sh (fU (cF env rs) args):=by exact rr)(hk:f=true->nb (fU (cF env rs) args) v=true:=by exact fun _=>rfl):aC Y draw (⟨.call n args sh,g⟩::r) env rs nx m K:=
 fL rfl hg _ (fun hf=>by simp only[aB.dA,(cO _ _ _).1,ha hf,(hc hf).2];exact⟨ho hf,(cO _ _ _).2.2 (hp hf),(hc hf).1,hk hf⟩) (fun hf=>by simp only[aB.val,(cO _ _ _).1,ha hf,(hc hf).2]) m rfl (fun _=>h)
def sP {n:Nat}{x:Src}{fx:Bool}{caps:List D}{args:List Src}{sh:List (List Sh)}{Xe:List D}{v:D}(h:aC Y draw r env (⟨f,v⟩::rs) nx m K)(hg:GF rs g f:=by exact dw)(hx:cF env rs x=⟨fx,.fn n caps⟩:=by exact rfl)(kx:f=true->fx=true:=by exact cy)(hb:n<1000000:=by decide)(hc:f=true->Y.pre n Xe/\Y.val n Xe=v)(ha:f=true->je m sh (fU (cF env rs) args++caps)=Xe:=by exact fun _=>rfl)(ho:f=true->rN (cF env rs) args:=by exact rr)(hp:f=true->iF m sh (fU (cF env rs) args++caps):=by exact rr)(hk:f=true->nb (fU (cF env rs) args++caps) v=true:=by exact fun _=>rfl):aC Y draw (⟨.callv x args sh,g⟩::r) env rs nx m K:=
 fL rfl hg _ (fun hf=>by simp only[aB.dA,hx,(cO _ _ _).1,ha hf,(hc hf).2];exact⟨kx hf,ho hf,hb,(cO _ _ _).2.2 (hp hf),(hc hf).1,hk hf⟩) (fun hf=>by simp only[aB.val,hx,(cO _ _ _).1,ha hf,(hc hf).2]) m rfl (fun _=>h)
def Cw {n:Nat}{caps:List Src}(cs:List D)(h:aC Y draw r env (⟨f,.fn n cs⟩::rs) nx m K)(hg:GF rs g f:=by exact dw)(hc:f=true->fU (cF env rs) caps=cs:=by exact fun _=>rfl)(ho:f=true->rN (cF env rs) caps:=by exact rr):aC Y draw (⟨.mkf n caps,g⟩::r) env rs nx m K:=
 bU rfl hg _ (fun hf=>ho hf) (fun hf=>by simp only[aB.val,hc hf]) (fun _=>h)
def jn {n l k:Nat}{x:Src}{args:List Src}{sh:List (List Sh)}{d v e:D}{Xe:List D}{m2:List (Nat×bA)}(h:aC Y draw r env (⟨true,v⟩::rs) nx m2 K)(hx:cF env rs x=⟨true,.ptr l k 0 0⟩:=by exact rfl)(hl:look m l=some (.buf k [d]):=by exact rfl)(hd:d.a7=true:=by exact rfl)(hc:Y.fp n d Xe/\Y.fv n d Xe=v/\Y.fs n d Xe=e)(ha:je [] sh (fU (cF env rs) args)=Xe:=by exact rfl)(ho:rN (cF env rs) args:=by repeat' first|exact trivial|exact rfl|refine And.intro ?_ ?_|decide)(hn:aL (fU (cF env rs) args)=true:=by exact rfl)(hm:cH m l (.buf k [e])=m2:=by simp only[cH,cx,Nat.reduceEqDiff,aV,aN,Nat.reduceAdd,reduceCtorEq];exact rfl):aC Y draw (⟨.callF n x args sh,none⟩::r) env rs nx m K:=
 pw rfl _ (by simp only[aB.dA,hx,eh,aQ,hl,gO,(cO _ _ _).1,ha];exact⟨trivial,ho,hn,trivial,trivial,⟨trivial,bc⟩,bc,hd,hc.1⟩) (by simp only[aB.val,hx,aQ,hl,gO,(cO _ _ _).1,ha,hc.2.1]) _ (by simp only[aB.cq,hx,aQ,hl,gO,(cO _ _ _).1,ha,hc.2.2];exact hm) (fun _=>h)
end
end
end Go.Abs
section
namespace Go.Abs
abbrev dn:=List UInt8
structure a8 where
 major:Int
 minor:Int
 patch:Int
 pre:dn
 build:dn
 deriving Inhabited,DecidableEq
def a8.D (v:a8):D:=.agg [.int .i64 v.major,.int .i64 v.minor,.int .i64 v.patch,.str v.pre,.str v.build]
structure qt where
 name:dn
 v:a8
 shelf:dn
 sum:Int
 feats:List dn
 deriving Inhabited,DecidableEq
def qt.D (x:qt):D:=.agg [.str x.name,.int .i64 x.v.major,.int .i64 x.v.minor,.int .i64 x.v.patch,.str x.v.pre,.str x.v.build,.str x.shelf,.int .u64 x.sum,.sl 1 (x.feats.map D.str)]
structure Env where
 e0:dn
 e1:dn
 e2:dn
 deriving Inhabited,DecidableEq
def Env.D (e:Env):D:=.agg [.str e.e0,.str e.e1,.str e.e2]
structure yl where
 env:Env
 lines:List qt
 deriving Inhabited,DecidableEq
def yl.D (l:yl):D:=.agg [.str l.env.e0,.str l.env.e1,.str l.env.e2,.sl 9 (l.lines.map qt.D)]
end Go.Abs
namespace Go.Abs
theorem xp (a b:List UInt8):LS (.str a) (.str b)=decide (a=b):=lU a b
theorem sK (k k2:IntKind)(a b:Int):LS (.int k a) (.int k2 b)=decide (a=b):=rfl
def a8.eq (a b:a8):gL (a8.D a).cells (a8.D b).cells=decide (a=b):=by
 obtain⟨a1,a2,a3,a4,a5⟩:=a;obtain⟨b1,b2,b3,b4,b5⟩:=b
 grind [a8.D,D.cells,gL,xp,sK]
def Env.eq (a b:Env):gL (Env.D a).cells (Env.D b).cells=decide (a=b):=by
 obtain⟨a1,a2,a3⟩:=a;obtain⟨b1,b2,b3⟩:=b
 grind [Env.D,D.cells,gL,xp,sK]
theorem a8.inj {a b:a8}(h:a8.D a=a8.D b):a=b:=by
 obtain⟨a1,a2,a3,a4,a5⟩:=a;obtain⟨b1,b2,b3,b4,b5⟩:=b
 grind [a8.D]
theorem Env.inj {a b:Env}(h:Env.D a=Env.D b):a=b:=by
 obtain⟨a1,a2,a3⟩:=a;obtain⟨b1,b2,b3⟩:=b
 grind [Env.D]
theorem map_inj {α:Type}{q:α->D}(hq:∀a b,q a=q b->a=b):∀{xs ys:List α},xs.map q=ys.map q->xs=ys
 |[],[],_=>rfl
 |[],_::_,h=>by simp at h
 |_::_,[],h=>by simp at h
 |a::r,b::s,h=>by
  simp only[List.map_cons,ru]at h;rw[hq a b h.1,map_inj hq h.2]
theorem str_inj (a b:List UInt8)(h:D.str a=D.str b):a=b:=by simpa using h
theorem qt.inj {a b:qt}(h:qt.D a=qt.D b):a=b:=by
 obtain⟨a1,⟨v1,v2,v3,v4,v5⟩,a2,a3,a4⟩:=a;obtain⟨b1,⟨w1,w2,w3,w4,w5⟩,b2,b3,b4⟩:=b
 grind [qt.D,map_inj,str_inj]
theorem yl.inj {a b:yl}(h:yl.D a=yl.D b):a=b:=by
 obtain⟨⟨a1,a2,a3⟩,a4⟩:=a;obtain⟨⟨b1,b2,b3⟩,b4⟩:=b
 grind [yl.D,map_inj,qt.inj]
end Go.Abs
end
section
namespace Go.Abs
def allI (p:Nat->Bool):Nat->Nat->Bool
 |_,0=>true
 |i,k+1=>p i&&allI p (i+1) k
def dj (p:Nat->Bool)(i n:Nat):Bool:=allI p i (n-i)
def bC {p:Nat->Bool}{i n:Nat}(h:i<n):dj p i n=(p i&&dj p (i+1) n):=by
 unfold dj;rw[show n-i=(n-(i+1))+1 by omega];rfl
def dz {p:Nat->Bool}{i n:Nat}(h:n<=i):dj p i n=true:=by
 unfold dj;rw[show n-i=0 by omega];rfl
theorem yB {p:Nat->Bool}:∀{k i:Nat},allI p i k=true↔∀j,i<=j->j<i+k->p j=true
 |0,i=>by simp[allI];intro j h1 h2;omega
 |k+1,i=>by
  simp only[allI,bo,yB (k:=k)]
  grind
def dt {p:Nat->Bool}{i n:Nat}:dj p i n=true↔∀j,i<=j->j<n->p j=true:=by
 grind [dj,yB]
end Go.Abs
namespace Go.Abs
def dX {a a' b b':D}(h1:a=a')(h2:b=b'):D.tup [a,b]=D.tup [a',b']:=by rw[h1,h2]
end Go.Abs
namespace Go.Abs
end Go.Abs
namespace Go.Abs
def yL (s:dn)(pos:Nat)(h:pos<s.length):∃c w,qB s pos=(c,w)/\1<=w/\((w=1/\(c:Int)=at8 s pos/\c<128)\/(128<=c/\128<=at8 s pos)):=by
 refine⟨(qB s pos).1,(qB s pos).2,rfl, ?_⟩;have e:qB s pos=Lib.decodeN (s.length-pos) (s.getD pos 0).toNat (s.getD (pos+1) 0).toNat (s.getD (pos+2) 0).toNat (s.getD (pos+3) 0).toNat:=Lib.decode_N ⟨⟨s⟩⟩ pos;rw[e];unfold at8;generalize (s.getD pos 0).toNat=b0;generalize (s.getD (pos+1) 0).toNat=b1;generalize (s.getD (pos+2) 0).toNat=b2;generalize (s.getD (pos+3) 0).toNat=b3;generalize s.length-pos=n;by_cases hb:b0<128
 .unfold Lib.decodeN;rw[au hb];exact⟨aI _,.inl ⟨rfl,rfl,hb⟩⟩
 .unfold Lib.decodeN
  grind
end Go.Abs
namespace Go.Abs
def CN {α:Type}{q:α->D}{xs:List α}{m:List (Nat×bA)}{l:Nat}(hq:∀x,xV m [.a] (q x)=q x)(hl:look m l=some (.buf 1 (xs.map q))):xV m [.sl 1 [.a]] (.own l 1 0 xs.length)=.sl 1 (xs.map q):=by
 show D.sl 1 _=_;simp only[aQ,hl,bS,aD,List.map_map];congr 1;apply List.map_congr_left;intro x _;have:=hq x;simp only[Function.comp];generalize q x=d at this;cases d<;>exact this
def Ad {α:Type}{q:α->D}{xs:List α}{m:List (Nat×bA)}{l:Nat}(hq:∀x,Ij m [.a] (q x))(hl:look m l=some (.buf 1 (xs.map q))):Ij m [.sl 1 [.a]] (.own l 1 0 xs.length):=by
 grind [Ij,J5,Ii,eh,aQ,aD]
end Go.Abs
end
namespace Go.Abs
def AZ (c:Int):Bool:=decide (97<=c)&&decide (c<=122)
def cW (c:Int):Bool:=decide (48<=c)&&decide (c<=57)
def dY (s:dn):Nat:=s.foldl (fun n b=>n*10+(b.toNat-48)) 0
def jJ (s:dn):Bool:=decide (1<=s.length)&&decide (s.length<=9)&& !(decide (1<s.length)&&decide (at8 s 0=48))&&dj (fun i=>cW (at8 s i)) 0 s.length&&decide (dY s<=9999)
def sg (s:dn):Int:=if jJ s=true then(dY s:Int)else 0
def qj (s:dn)(i:Nat)(h:i<s.length):s.take (i+1)=s.take i++[s.getD i 0]:=by
 rw[List.take_succ];simp[h]
def rM (s:dn)(i:Nat)(h:i<s.length):dY (s.take (i+1))=dY (s.take i)*10+((at8 s i).toNat-48):=by
 rw[qj s i h];simp[dY,List.foldl_append,at8]
def ED (s:dn):dY s+23<=23*10^s.length:=by
 have:∀(s:dn) (n k:Nat),n+23<=23*10^k->s.foldl (fun n b=>n*10+(b.toNat-48)) n+23<=23*10^(k+s.length):=by
  intro s;induction s with
  |nil=>intro n k h;simpa using h
  |cons b r ih=>
   intro n k h;have hb:=b.toNat_lt;have:=ih (n*10+(b.toNat-48)) (k+1) (by rw[Nat.pow_succ];omega);simp only[List.foldl_cons,bR];rw[show k+(r.length+1)=k+1+r.length by omega];exact this
 have:=this s 0 0 bc;simpa[dY]using this
def p9 (s:dn)(i:Nat)(h:i<=9):dY (s.take i)<=23000000000:=by
 have h1:=ED (s.take i);have h2:(s.take i).length<=9:=ed;have h3:10^(s.take i).length<=10^9:=Nat.pow_le_pow_right ae h2;omega
def zc (s:dn):∀n:Nat,s.foldl (fun n b=>n*10+(b.toNat-48)) n=n*10^s.length+dY s:=by
 unfold dY;induction s with
 |nil=>intro n;simp
 |cons b r ih=>
  intro n;simp only[List.foldl_cons,bR];rw[ih,ih (0*10+(b.toNat-48)),Nat.pow_succ];simp only[Nat.zero_mul,aX,Nat.add_mul];rw[Nat.mul_assoc n 10,Nat.mul_comm 10];omega
def rL (b:UInt8)(r:dn):dY (b::r)=(b.toNat-48)*10^r.length+dY r:=by
 have:=zc r (0*10+(b.toNat-48));simp only[dY,List.foldl_cons]at this⊢;rw[this];simp
def rD {b:UInt8}{r:dn}(h:dj (fun i=>cW (at8 (b::r) i)) 0 (b::r).length=true):cW b.toNat=true/\dj (fun i=>cW (at8 r i)) 0 r.length=true:=by
 rw[dt]at h;refine⟨by simpa[at8]using h 0 ae bc, ?_⟩;rw[dt];intro j _ hj;simpa[at8]using h (j+1) ae ed
def wx:∀(s:dn),dj (fun i=>cW (at8 s i)) 0 s.length=true->dY s<10^s.length
 |[],_=>by simp[dY]
 |b::r,h=>by
  obtain⟨h1,h2⟩:=rD h;have:=wx r h2;rw[rL,bR,Nat.pow_succ];simp only[cW,bo,bX]at h1;have h3:b.toNat-48<=9:=ae;have:=hH (10^r.length) h3;omega
def EC {b:UInt8}{r:dn}(h:49<=b.toNat):10^r.length<=dY (b::r):=by
 rw[rL];have:=hH (10^r.length) (show 1<=b.toNat-48 by omega);omega
def GD (s:dn):jJ s=(decide (1<=s.length)&&decide (s.length<=4)&& !(decide (1<s.length)&&decide (at8 s 0=48))&&dj (fun i=>cW (at8 s i)) 0 s.length):=by
 unfold jJ;cases hd:dj (fun i=>cW (at8 s i)) 0 s.length with
 |false=>simp
 |true=>
  have hlt:=wx s hd;by_cases h4:s.length<=4
  .have:10^s.length<=10^4:=Nat.pow_le_pow_right ae h4;rw[cu h4,cu (by omega:s.length<=9),cu (by omega:dY s<=9999)];simp
  .rw[dc h4]
   match s,hd,h4 with
   |b::r,hd,h4=>
    by_cases h0:at8 (b::r) 0=48
    .rw[cu h0,cu (by omega:1<(b::r).length)];simp
    .have h1:=(rD hd).1;simp only[cW,bo,bX]at h1;have h2:49<=b.toNat:=by
      simp[at8]at h0;omega
     have h3:=EC (r:=r) h2;have:10^4<=10^r.length:=Nat.pow_le_pow_right ae (by simp at h4;omega);rw[dc (by omega:¬dY (b::r)<=9999)];simp
def gZ (b:Int):dn->dn->List dn
 |[],cur=>[cur]
 |c::r,cur=>if(c.toNat:Int)=b then cur::gZ b r []else gZ b r (cur++[c])
def bm (s:dn)(b:Int):List dn:=gZ b s []
def B4 (s:dn)(i:Nat)(h:i<s.length):s.drop i=s.getD i 0::s.drop (i+1):=by
 rw[ku h];simp[h]
def wM {s:dn}{b:Int}{i fr:Nat}(h:i<s.length)(he:at8 s i=b):gZ b (s.drop i) ((s.take i).drop fr)=((s.take i).drop fr)::gZ b (s.drop (i+1)) ((s.take (i+1)).drop (i+1)):=by
 rw[B4 s i h];have h2:(s.take (i+1)).drop (i+1)=[]:=bc;rw[h2];simp only[gZ];rw[au (by simpa[at8]using he)]
def wN {s:dn}{b:Int}{i fr:Nat}(h:i<s.length)(hf:fr<=i)(he:¬at8 s i=b):gZ b (s.drop i) ((s.take i).drop fr)=gZ b (s.drop (i+1)) ((s.take (i+1)).drop fr):=by
 rw[B4 s i h,qj s i h,List.drop_append_of_le_length ed];simp only[gZ];rw[ai (by simpa[at8]using he)]
def uS {s:dn}{b:Int}{i fr:Nat}(h:s.length<=i):gZ b (s.drop i) ((s.take i).drop fr)=[s.drop fr]:=by
 rw[mC h,gN h];rfl
def pA (b:Int):∀(s cur:dn),(gZ b s cur).length<=s.length+1
 |[],cur=>by simp[gZ]
 |c::r,cur=>by
  simp only[gZ];split
  .have:=pA b r [];simp;omega
  .have:=pA b r (cur++[c]);simp;omega
def pz (s:dn)(b:Int):(bm s b).length<=s.length+1:=pA b s []
def j5 (c:Int):Bool:=AZ c ||cW c ||decide (c=45)
def ov (t:dn):Bool:=decide (1<=t.length)&&decide (t.length<=8)&&dj (fun i=>j5 (at8 t i)) 0 t.length
def cD (t:dn):Bool:=dj (fun i=>cW (at8 t i)) 0 t.length&&decide (0<t.length)
def fQ (p:Bool)(t:dn):Bool:=ov t&& !(p&&cD t&& !jJ t)
def lL (s:dn)(p:Bool):Bool:=decide ((bm s 46).length<=4)&&dj (fun i=>fQ p (bm s 46)[i]!) 0 (bm s 46).length
def rS (s:dn)(p:Bool):Bool:=decide (s=[]) ||lL s p
def AI (n:Int):Bool:=decide (0<=n)&&decide (n<=9999)
def jD (v:a8):Bool:=AI v.major&&AI v.minor&&AI v.patch&&rS v.pre true&&rS v.build false
def a8.sm (v:a8):Prop:=v.pre.length<=1048576/\v.build.length<=1048576
def Env.at (e:Env):Nat->dn
 |0=>e.e0
 |1=>e.e1
 |_=>e.e2
def Env.ld (e:Env){i:Nat}(h:i<3):ou (Env.D e) 3 1 (0+i*1) false=.str (e.at i):=by
 match i,h with
 |0,_=>rfl
 |1,_=>rfl
 |2,_=>rfl
def yl.ld (l:yl){i:Nat}(h:i<3):ou (yl.D l) 4 1 (0+i*1) false=.str (l.env.at i):=by
 match i,h with
 |0,_=>rfl
 |1,_=>rfl
 |2,_=>rfl
def Env.cut (e:Env){i:Nat}(h:i<3):Abs.cut [.str e.e0,.str e.e1,.str e.e2] (i*1) 1 false=.str (e.at i):=by
 match i,h with
 |0,_=>rfl
 |1,_=>rfl
 |2,_=>rfl
def qt.sm (x:qt):Prop:=x.v.sm/\x.name.length<=1048576/\x.shelf.length<=1048576/\x.feats.length<=1048576/\∀t∈x.feats,t.length<=1048576
def yl.sm (l:yl):Prop:=l.lines.length<=1048576/\(∀x∈l.lines,x.sm)/\∀i,(l.env.at i).length<=1048576
theorem aj {α:Type} [Inhabited α]{l:List α}{i:Nat}(h:i<l.length):l[i]! ∈l:=by
 simp[h]
structure Kp where
 name:dn
 v:a8
 deriving Inhabited,DecidableEq
def Kp.D (x:Kp):D:=.agg [.str x.name,.int .i64 x.v.major,.int .i64 x.v.minor,.int .i64 x.v.patch,.str x.v.pre,.str x.v.build]
def HF {α:Type} [Inhabited α] [DecidableEq α]{a b:List α}(h:a.length=b.length):decide (a=b)=dj (fun i=>decide (a[i]! =b[i]!)) 0 a.length:=by
 rw[Bool.eq_iff_iff,bX,dt];constructor
 .rintro rfl j _ _;simp
 .intro hj;apply List.ext_getElem h
  grind
def qt.same {a b:qt}(e1:a.name=b.name)(e2:a.v=b.v)(e3:a.shelf=b.shelf)(e4:a.sum=b.sum)(e5:a.feats.length=b.feats.length):decide (a=b)=dj (fun i=>decide (a.feats[i]! =b.feats[i]!)) 0 a.feats.length:=by
 rw[<-HF e5];obtain⟨a1,a2,a3,a4,a5⟩:=a;obtain⟨b1,b2,b3,b4,b5⟩:=b
 grind
def Env.sm (e:Env):Prop:=∀i,(e.at i).length<=1048576
end Go.Abs
section
namespace Go.Abs
def ff (v n:Int):Int:=if n<1 then 0 else if v.tmod n<0 then v.tmod n+n else v.tmod n
def uY (v n:Int)(h:1<=n):-n<v.tmod n/\v.tmod n<n:=⟨Int.lt_tmod_of_pos v ae,Int.tmod_lt_of_pos v ae⟩
def gF (v n:Int)(h:1<=n):0<=ff v n/\ff v n<n:=by
 have:=uY v n h
 grind [ff]
def ym (l:List Int)(i:Int):Int:=if i<0\/(l.length:Int)<=i then i.tmod 3 else l[i.toNat]!
structure Gs where
 l:List Int
 i:Int
 deriving Inhabited
def Gs.D (g:Gs):D:=.agg [.sl 1 (g.l.map (D.int .i64)),.int .i64 g.i]
def Gs.val (g:Gs)(n:Int):Int:=ff (ym g.l g.i) n
def Gs.br (g:Gs):Gs:=⟨g.l,g.i+1⟩
def cutL (s:dn)(b:UInt8):dn×dn×Bool:=match s.findIdx? (fun c=>c==b)with
 |some k=>(s.take k,s.drop (k+1),true)
 |none=>(s,[],false)
structure Kl where
 s:dn
 at':Nat
 n:Nat
def Kl.D (r:Kl):D:=.agg [.str r.s,.int .i64 (r.at':Nat),.int .i64 (r.n:Nat)]
def Kl.ln (r:Kl):dn×dn×Bool:=cutL (r.s.drop r.at') 10
def Kl.br (r:Kl):Kl:=⟨r.s,if r.ln.2.2=true then r.at'+(r.ln.1.length+1)else r.at',r.n+1⟩
end Go.Abs
namespace Go.Abs
end Go.Abs
namespace Go.Abs
end Go.Abs
namespace Go.Abs
end Go.Abs
namespace Go.Abs
end Go.Abs
namespace Go.Abs
variable {e:Env} {f:Nat} {r:Kl} {ls:List qt}
end Go.Abs
namespace Go.Abs
end Go.Abs
end
namespace Go.Abs
section
section
variable {Y:Ctx} {draw:Bool} {r:List GI} {env rs:List bH} {nx:Nat} {m:List (Nat×bA)} {K:List bH->St->Prop} {g:Option (Nat×Bool)} {f:Bool}
def G7 {n l k j:Nat}{w:Bool}{x:Src}{args:List Src}{sh:List (List Sh)}{d v e:D}{Xe:List D}{m2:List (Nat×bA)}(h:aC Y false r env (⟨true,v⟩::rs) nx m2 K)(hg:GF rs (some (j,w)) true:=by exact⟨_,_,rfl,rfl⟩)(hx:cF env rs x=⟨true,.ptr l k 0 0⟩:=by exact rfl)(hl:look m l=some (.buf k [d]):=by exact rfl)(hd:d.a7=true:=by exact rfl)(hc:Y.fp n d Xe/\Y.fv n d Xe=v/\Y.fs n d Xe=e)(ha:je [] sh (fU (cF env rs) args)=Xe:=by exact rfl)(ho:rN (cF env rs) args:=by repeat' first|exact trivial|exact rfl|refine And.intro ?_ ?_|decide)(hn:aL (fU (cF env rs) args)=true:=by exact rfl)(hm:cH m l (.buf k [e])=m2:=by simp only[cH,cx,Nat.reduceEqDiff,aV,aN,Nat.reduceAdd,reduceCtorEq];exact rfl):aC Y false (⟨.callF n x args sh,some (j,w)⟩::r) env rs nx m K:=
 G9 rfl rfl hg (fun _=>⟨v,by simp only[aB.dA,hx,eh,aQ,hl,gO,(cO _ _ _).1,ha];exact⟨trivial,ho,hn,trivial,trivial,⟨trivial,bc⟩,bc,hd,hc.1⟩,by simp only[aB.val,hx,aQ,hl,gO,(cO _ _ _).1,ha,hc.2.1],m2,by simp only[aB.cq,hx,aQ,hl,gO,(cO _ _ _).1,ha,hc.2.2];exact hm,h⟩) (fun h=>by cases h)
def Mn {i:aB}{j:Nat}{w:Bool}(h:aC Y false r env (⟨false,.any⟩::rs) nx m K)(hM:i.cn=false:=by exact rfl)(hC:i.calm=false:=by exact rfl)(hg:GF rs (some (j,w)) false:=by exact⟨_,_,rfl,rfl⟩):aC Y false (⟨i,some (j,w)⟩::r) env rs nx m K:=
 G9 hM hC hg (fun h=>by cases h) (fun _=>h)
def PK {i:aB}{j:Nat}{w:Bool}(d:D)(h:aC Y draw r env (⟨false,d⟩::rs) nx m K)(hC:i.pure=true:=by exact rfl)(hg:GF rs (some (j,w)) false:=by exact⟨_,_,rfl,rfl⟩):aC Y draw (⟨i,some (j,w)⟩::r) env rs nx m K:=
 bU hC hg d (fun h=>by cases h) (fun h=>by cases h) (fun _=>h)
def Mm {k n:Nat}{z:D}{ps:List (Nat×Src)}(es:List D)(h:aC Y draw r env (⟨f,.sl k es⟩::rs) nx m K)(hg:GF rs g f:=by exact dw)(he:js (cF env rs) (List.replicate n z) ps=es:=by exact rfl)(ho:f=true->nr (cF env rs) k n ps:=by exact rr)(hz:z.cells.length=k:=by exact rfl)(hn:f=true->aL es=true:=by exact fun _=>rfl):aC Y draw (⟨.bslI k z n ps,g⟩::r) env rs nx m K:=
 bU rfl hg _ (fun hf=>by simp only[aB.dA,he];exact⟨hz,ho hf,hn hf⟩) (fun hf=>by simp only[aB.val,he]) (fun _=>h)
def eD {n:Nat}{args:List Src}{Xe:List D}{v:D}{nx':Nat}{m':List (Nat×bA)}(h:aC Y draw r env (⟨true,v⟩::rs) nx' m' K)
  (hc:∀K':D->St->Prop,K' v ⟨nx'+rs.length,m'⟩->Y.tr n Xe ⟨nx+rs.length,m⟩ K') (hn:nx<=nx') (ha:fU (cF env rs) args=Xe:=by exact rfl)
  (ho:rN (cF env rs) args:=by repeat' first|exact trivial|exact rfl|refine And.intro ?_ ?_):aC Y draw (⟨.callM n args,none⟩::r) env rs nx m K:=by
 unfold aC;show True/\(true=true->rN (Src.ev env rs.reverse) args/\Y.tr n (fU (Src.ev env rs.reverse) args) {nx:=nx+rs.reverse.length,m:=m} _)/\(true=false->_)
 grind [jT,aC]
end
end
end Go.Abs
section
namespace Go.Abs
def cE:List a8:=[⟨1,0,0,[],[]⟩,⟨1,2,0,[],[]⟩,⟨2,0,0,[97,46,49],[]⟩,⟨2,0,0,[],[]⟩]
def nlS:List dn->D
 |[]=>.aA
 |a::r=>.sl 1 ((a::r).map D.str)
def qt.N (x:qt):Go.Abs.D:=.agg [.str x.name,.int .i64 x.v.major,.int .i64 x.v.minor,.int .i64 x.v.patch,.str x.v.pre,.str x.v.build,.str x.shelf,.int .u64 x.sum,nlS x.feats]
end Go.Abs
namespace Go.Abs
def qt.F (name:dn)(v:a8)(shelf:dn)(sum:Int)(fs:Go.Abs.D):Go.Abs.D:=.agg [.str name,.int .i64 v.major,.int .i64 v.minor,.int .i64 v.patch,.str v.pre,.str v.build,.str shelf,.int .u64 sum,fs]
mutual
theorem oT (l k:Nat)(es:List D):∀d:D,d.a7=true->eR l k es d=d
 | .agg a,h=>by simp only[eR,iz l k es a (by simpa[D.a7]using h)]
 | .tup a,h=>by simp only[eR,iz l k es a (by simpa[D.a7]using h)]
 | .fn n a,h=>by simp only[eR,iz l k es a (by simpa[D.a7]using h)]
 | .own ..,h=>by simp[D.a7]at h
 | .ptr ..,h=>by simp[D.a7]at h
 | .it ..,h=>by simp[D.a7]at h
 | .any,_| .bool _,_| .int ..,_| .str _,_| .aA,_| .sl ..,_| .ref ..,_| .nilp,_| .nilf,_=>rfl
theorem iz (l k:Nat)(es:List D):∀ds:List D,aL ds=true->fG l k es ds=ds
 |[],_=>rfl
 |d::r,h=>by
  simp only[aL,bo]at h;simp only[fG,oT l k es d h.1,iz l k es r h.2]
end
end Go.Abs
namespace Go.Abs
end Go.Abs
namespace Go.Abs
def bq (L c:Nat)(ls:List qt)(k j:Nat):D:=if j=k then qt.F ls[j]!.name ls[j]!.v ls[j]!.shelf ls[j]!.sum (.own L 1 0 c)else qt.D ls[j]!
end Go.Abs
namespace Go.Abs
end Go.Abs
namespace Go.Abs
end Go.Abs
namespace Go.Abs
end Go.Abs
end
section
namespace Go.Abs
end Go.Abs
namespace Go.Abs
def Kp.eq (a b:Kp):gL (Kp.D a).cells (Kp.D b).cells=decide (a=b):=by
 obtain⟨n1,⟨a1,a2,a3,a4,a5⟩⟩:=a;obtain⟨n2,⟨b1,b2,b3,b4,b5⟩⟩:=b
 grind [Kp.D,D.cells,gL,xp,sK]
structure qt.ok (n:Nat)(x:qt):Prop where
 pre:x.v.pre.length<=3
 build:x.v.build.length<=2
 name:x.name.length<=16
 shelf:x.shelf.length<=16
 nf:x.feats.length<=n
 ft:∀t∈x.feats,t.length<=16
 sum:0<=x.sum/\x.sum<18446744073709551616
structure yl.ok (n:Nat)(l:yl):Prop where
 len:l.lines.length<=4
 lines:∀x∈l.lines,x.ok n
 env:∀i,(l.env.at i).length<=16
theorem yl.ok.sm {n:Nat}{l:yl}(h:l.ok n)(hn:n<=1000):l.sm:=by
 refine⟨by have:=h.len;omega,fun x hx=>?_,fun i=>by have:=h.env i;omega⟩;have k:=h.lines x hx;have k1:=k.pre;have k2:=k.build;have k3:=k.name;have k4:=k.shelf;have k5:=k.nf;exact⟨⟨ae,ae⟩,ae,ae,ae,fun t ht=>by have:=k.ft t ht;omega⟩
def qt.ok.mono {n m:Nat}{x:qt}(h:x.ok n)(hm:n<=m):x.ok m:=⟨h.pre,h.build,h.name,h.shelf,dQ h.nf hm,h.ft,h.sum⟩
end Go.Abs
end
namespace Go.Abs
section
def lk {α:Type}:List (Nat×α)->Nat->α->α
 |[],_,d=>d
 |(a,b)::r,n,d=>bif Nat.beq a n then b else lk r n d
structure Row where
 key:Nat
 pre:List D->Prop
 val:List D->D
structure O9 where
 pre:D->List D->Prop
 val:D->List D->D
 new:D->List D->D
def Row.no:Row:=⟨0,fun _=>False,fun _=>.any⟩
def O9.no:O9:=⟨fun _ _=>False,fun _ _=>.any,fun _ _=>.any⟩
section
variable [df] {P:Program} {ν:List (Nat×Nat)} {cq:List Nat} {Y:Ctx}
end
end
section
variable [df]
section
variable {P:Program} {ν:List (Nat×Nat)} {cq:List Nat} {Y:Ctx}
def RD.re {x x':X}{σ:List (Nat×Nat)}(hw:x'.w=x.w)(hI:x'.I=x.I)(hβ:∀l l',eS 0 σ l=some l'->x'.β l'=x.β l){v:Value}{d d':D}(hv:RD ν x v d)(hd:IJ 0 σ d d'):RD ν x' v d':=by
 rcases hd with⟨rfl,hn⟩|hd|hd
 .exact hv.a7 hn (fun _ h=>by rw[hI];exact h) (fun _ _=>by rw[hw])
 .grind [RD.rn]
 grind [RD.nl]
def kN.re {x x':X}{σ:List (Nat×Nat)}(hw:x'.w=x.w)(hI:x'.I=x.I)(hβ:∀l l',eS 0 σ l=some l'->x'.β l'=x.β l){b base tot:Nat}{b0 blk:bA}(o2:kN ν x b base tot b0)(q3:lQ 0 σ b0 blk):kN ν x' b base tot blk:=by
 cases b0 with
 |iter s p=>
  cases blk with
  |iter s' p'=>simp only[lQ]at q3;obtain⟨rfl,rfl⟩:=q3;simp only[kN,hw]at o2⊢;exact o2
  |_=>simp[lQ]at q3
 |row s=>
  cases blk with
  |row s'=>simp only[lQ]at q3;subst q3;simp only[kN,hw]at o2⊢;exact o2
  |_=>simp[lQ]at q3
 |bld o n u=>
  cases blk with
  |bld o' n' u'=>
   simp only[lQ]at q3;obtain⟨q3,rfl,rfl⟩:=q3;obtain⟨p1,v,p2,p3⟩:=o2;refine⟨p1,v,by rw[hw];exact p2, ?_⟩;cases o with
   |none=>simp only at q3;subst q3;exact p3
   |some l0=>
    obtain⟨l1,q4,rfl⟩:=q3;obtain⟨g,t,p4,p5,p6⟩:=p3;exact⟨g,t,p4,p5,by rw[hβ l0 l1 q4];exact p6⟩
  |_=>simp[lQ]at q3
 |buf k es=>
  cases blk with
  |iter s' p'=>simp[lQ]at q3
  |row s'=>simp[lQ]at q3
  |bld o' n' u'=>simp[lQ]at q3
  |buf k' es'=>
   simp only[lQ]at q3;obtain⟨rfl,q3⟩:=q3;obtain⟨p1,p2,cc,T,fr,p3,p4,p5,p6⟩:=o2;rw[<-hw]at p3;rcases q3 with⟨rfl,hn⟩|q3|q3
   .exact⟨p1,p2,cc,T,fr,p3,p4,p5,fun i hi=>⟨(p6 i hi).1,fun j hj=>⟨((p6 i hi).2 j hj).1,RD.re hw hI hβ ((p6 i hi).2 j hj).2 (.inl ⟨rfl,jc (cr hn i) j⟩)⟩⟩⟩
   .obtain⟨r1,r2⟩:=gp q3;refine⟨p1,ae,cc,T,fr,p3,p4,p5,fun i hi=>?_⟩;have hi':i<es.length:=ae;obtain⟨s1,s2⟩:=wH (r2 i hi');exact⟨s1.trans (p6 i hi').1,fun j hj=>⟨((p6 i hi').2 j hj).1,RD.re hw hI hβ ((p6 i hi').2 j hj).2 (.inr (.inl (s2 j (by rw[(p6 i hi').1];exact hj))))⟩⟩
   .obtain⟨r1,r2⟩:=mZ q3;refine⟨p1,ae,cc,T,fr,p3,p4,p5,fun i hi=>?_⟩;have hi':i<es.length:=ae;obtain⟨s1,s2⟩:=vU (r2 i hi');exact⟨s1.trans (p6 i hi').1,fun j hj=>⟨((p6 i hi').2 j hj).1,RD.re hw hI hβ ((p6 i hi').2 j hj).2 (.inr (.inr (s2 j (by rw[(p6 i hi').1];exact hj))))⟩⟩
def Cz {lo c:Nat}{σ:List (Nat×Nat)}{l l':Nat}(h0:eE 0 c σ=true)(h:eS 0 σ l=some l'):l'<c/\(l,l')∈σ:=by
 obtain⟨h1,h2⟩:=qf h0 h
 grind
def p8 {c:Nat}:∀{σ:List (Nat×Nat)}{a b:Nat},eE 0 c σ=true->(a,b)∈σ->eS 0 σ a=some b
 |[],a,b,_,h=>by cases h
 |(a0,b0)::r,a,b,h0,h=>by
  unfold eS;simp only[eE,bo,List.all_eq_true,eC]at h0;obtain⟨_,_,p4,p5⟩:=h0;rcases dr.1 h with h|h
  .simp only[dR]at h;obtain⟨rfl,rfl⟩:=h;simp
  .have:=(p4 _ h).1;simp only at this;have hne:Nat.beq a0 a=false:=by
    cases hb:Nat.beq a0 a with
    |false=>rfl
    |true=>obtain rfl:=Nat.eq_of_beq_eq_true hb;simp at this
   rw[hne];exact p8 p5 h
structure Fr (σi σo:List (Nat×Nat))(q q1:Nat)(m0 m1:List (Nat×bA))(st st':St):Prop where
 oki:eE 0 q σi=true
 oko:eE 0 st'.nx σo=true
 nx:st.nx<=st'.nx
 lt:∀l i,(l,i)∈σi->look st.m l≠none
 io:∀i l,(i,l)∈σo->(l,i)∈σi\/st.nx<=l
 m0:∀i b,look m0 i=some b->∃l b',(l,i)∈σi/\look st.m l=some b'/\lQ 0 σi b' b
 m1:∀l b,look st'.m l=some b->(∃i b1,(i,l)∈σo/\look m1 i=some b1/\lQ 0 σo b1 b)\/(jx σo l=none/\(∀i,(l,i)∉σi)/\look st.m l=some b)
def I2 {fid:Nat}{fn:Func}{af:aE}{K:D->St->Prop}(hΓ:Ok P ν cq Y)(hmix:P.follows .mixedOrders=true)(hf:P.funcs[fid]? =some fn)(hc:compile P ν cq fn=some af)
  {x:X} {args:Array Value} {ds cs:List D} {st:St} {σi:List (Nat×Nat)} {q:Nat} {m0:List (Nat×bA)} (hl:args.size=ds.length) (hargs:∀i,i<ds.length->RD ν x (args.getD i undef) (ds.getD i .any))
  (hs:ek ν x (look st.m)) (hfr:eg st x) (hlen:cs.length=ds.length) (hds:∀i,i<ds.length->IJ 0 σi (ds.getD i .any) (cs.getD i .any)) (hnp:cs.length=af.np)
  (oki:eE 0 q σi=true) (hlt:∀l i,(l,i)∈σi->look st.m l≠none) (hm0:∀i b,look m0 i=some b->∃l b',(l,i)∈σi/\look st.m l=some b'/\lQ 0 σi b' b)
  (hw:bZ (Y.at q) af.body (fun e env st1=>e.home/\nJ st1.m env af.res/\∃(σo:List (Nat×Nat)) (q1:Nat) (m1:List (Nat×bA)) (st':St) (vd':D),Fr σi σo q q1 m0 m1 st st'/\IJ 0 σo (jf af env st1) vd'/\K vd' st'/\∀i,look st1.m i=look m1 i) (fq af cs) ⟨q,m0⟩):
  Calls P fid args x.w fun
   | .returned v,w'=>∃x' d st',K d st'/\x'.w=w'/\Step x x'/\RD ν x' v d/\ek ν x' (look st'.m)/\eg st' x'
   |_,_=>False:=by
 obtain⟨body,c1,c2,c3,c4,c5,c6⟩:=gB hc
 let x0:X:=⟨x.w,x.I,fun i=>(jx σi i).bind x.β⟩
 have hx0:∀l i,(l,i)∈σi->x0.β i=x.β l:=fun l i h=>by simp only[x0,sL oki h,Option.bind_some]
 have hβ0:∀l i,eS 0 σi l=some i->x0.β i=x.β l:=fun l i h=>hx0 l i (Cz (lo:=0) oki h).2
 have hx0':∀i p,x0.β i=some p->∃l,(l,i)∈σi/\x.β l=some p/\i<q:=by
  intro i p h;obtain⟨l,h1,h2⟩:=Option.bind_eq_some_iff.1 (show(jx σi i).bind x.β=some p from h);exact⟨l,jy h1,h2,nR oki (jy h1)⟩
 have hs0:ek ν x0 (look m0):=by
  refine⟨fun i blk b base tot e1 e2=>?_,fun i j b base tot base' tot' e1 e2 e3 e4=>?_,hs.imm,fun i b base tot e=>?_,df.le x _ (fun _ h=>h) (fun _ _=>rfl) hs.gd⟩
  .obtain⟨l,b',h1,h2,h3⟩:=hm0 i blk e1;rw[hx0 l i h1]at e2;obtain⟨o1,o2⟩:=hs.own l b' b base tot h2 e2;exact⟨o1,kN.re (x:=x) (x':=x0) rfl rfl hβ0 o2 h3⟩
  .obtain⟨l,h1,h2,_⟩:=hx0' i _ e3;obtain⟨l',h1',h2',_⟩:=hx0' j _ e4;have:=hs.inj l l' b base tot base' tot' (hlt _ _ h1) (hlt _ _ h1') h2 h2';subst this;have:=p8 oki h1;rw[p8 oki h1']at this;exact(ba this).symm
  .obtain⟨l,_,h2,_⟩:=hx0' i _ e;exact hs.dP l b base tot h2
 have hf0:eg ⟨q,m0⟩ x0:=by
  refine⟨fun i hi=>?_,fun i hi=>?_⟩
  .cases h:x0.β i with
   |none=>rfl
   |some p=>obtain⟨_,_,_,h4⟩:=hx0' i p h;simp only at hi;omega
  .cases h:look m0 i with
   |none=>exact absurd h hi
   |some b=>obtain⟨l,b',h1,_⟩:=hm0 i b h;exact nR oki h1
 have hi:=rm (P:=P) (ν:=ν) (cq:=cq) (x:=x0) (ds:=cs) (st:=⟨q,m0⟩) c4 c5 c6 (args:=args) ae hnp (fun i hi=>RD.re (x:=x) (x':=x0) rfl rfl hβ0 (hargs i ae) (hds i ae)) hs0 hf0;have hcs:=oO (C:={P,ν,cq,slots:=slotsOf fn,ntmps:=fn.ntmps,vm:=E5 P fn}) (hΓ.at q) (kL fn).1 hmix x0 (fun l h=>hf0.β l h) body af.body c2 _ _ _ _ x0 hw hi (.refl _);refine calls_of_wp hf c1 (wp_mono hcs fun e a w' hp=>?_);obtain⟨e',x',env',st1,he,hxw,hst,hi',hh,hro,σo,q1,m1,st',vd',hfm,hvd,hK,hlk⟩:=hp;subst hxw;obtain⟨v,r1,r2,r3⟩:=nK hΓ.small hi' c3 hro
 let x2:X:=⟨x'.w,x'.I,fun l=>match jx σo l with|some i=>x'.β i|none=>x.β l⟩
 have hx2:∀i l,(i,l)∈σo->x2.β l=x'.β i:=fun i l h=>by simp only[x2,sL hfm.oko h]
 have hx2n:∀l,jx σo l=none->x2.β l=x.β l:=fun l h=>by simp only[x2,h]
 have hβ2:∀i l,eS 0 σo i=some l->x2.β l=x'.β i:=fun i l h=>hx2 i l (Cz (lo:=0) hfm.oko h).2
 have hx0s:∀l i p,(l,i)∈σi->x.β l=some p->x'.β i=some p:=fun l i p h e=>hst.β _ _ (by rw[hx0 l i h];exact e)

 have hnew:∀i p,x'.β i=some p->(∃l,(l,i)∈σi/\x.β l=some p)\/x.w.heap.size<=p.1\/∃l p',(∃j,(l,j)∈σi)/\x.β l=some p'/\p'.1=p.1:=by
  intro i p e;rcases hst.newβ i p e with h|h|⟨j,p',h1,h2⟩
  .obtain⟨l,h3,h4,_⟩:=hx0' i p h;exact .inl ⟨l,h3,h4⟩
  .exact .inr (.inl h)
  .obtain⟨l,h3,h4,_⟩:=hx0' j p' h1;exact .inr (.inr ⟨l,p',⟨j,h3⟩,h4,h2⟩)
 have hstep:Step x x2:=by
  refine⟨hst.os,hst.tape,hst.output,hst.size,hst.I,hst.keep,fun l p hp=>?_,fun b hb hn=>hst.old b hb fun i p h e=>?_,fun b h=>?_,fun l p h=>?_⟩
  .cases h:jx σo l with
   |none=>rw[hx2n l h];exact hp
   |some i=>
    have hm:=jy h;rw[hx2 i l hm];rcases hfm.io i l hm with h2|h2
    .exact hx0s l i p h2 hp
    .rw[hfr.β l h2]at hp;cases hp
  .obtain⟨l,_,h2,_⟩:=hx0' i p h;exact hn l p h2 e
  .rcases hst.newI b h with h|h|⟨i,p,h1,h2⟩
   .exact .inl h
   .exact .inr (.inl h)
   .obtain⟨l,_,h3,_⟩:=hx0' i p h1;exact .inr (.inr ⟨l,p,h3,h2⟩)
  .cases h1:jx σo l with
   |none=>rw[hx2n l h1]at h;exact .inl h
   |some i=>
    have hm:=jy h1;rw[hx2 i l hm]at h;rcases hnew i p h with⟨l',h2,h3⟩|h2|⟨l',p',_,h3,h4⟩
    .exact .inr (.inr ⟨l',p,h3,rfl⟩)
    .exact .inr (.inl h2)
    .exact .inr (.inr ⟨l',p',h3,h4⟩)
 have hsim:ek ν x2 (look st'.m):=by
  refine⟨fun l blk b base tot e1 e2=>?_,fun l1 l2 b base tot base' tot' e1 e2 e3 e4=>?_,hi'.kn.imm,fun l b base tot e=>?_,df.le x' _ (fun _ h=>h) (fun _ _=>rfl) hi'.kn.gd⟩
  .rcases hfm.m1 l blk e1 with⟨i,b1,h1,h2,h3⟩|⟨h1,h2,h3⟩
   .rw[hx2 i l h1]at e2;obtain⟨o1,o2⟩:=hi'.kn.own i b1 b base tot (by rw[hlk];exact h2) e2;exact⟨o1,kN.re (x:=x') (x':=x2) rfl rfl hβ2 o2 h3⟩
   .rw[hx2n l h1]at e2;obtain⟨o1,o2⟩:=hs.own l blk b base tot h3 e2;have hlt:=hs.dP l b base tot e2;have hno:∀i p,x0.β i=some p->p.1≠b:=by
     rintro i ⟨b',base',tot'⟩ h e;simp only at e;subst e;obtain⟨l',h4,h5,_⟩:=hx0' i _ h;have:=hs.inj l' l b' base' tot' base tot (hfm.lt _ _ h4) (by rw[h3];simp) h5 e2;subst this;exact h2 _ h4
    refine⟨fun h=>?_,o2.mono hstep.le (hst.old b hlt hno)⟩;rcases hst.newI b h with h|h|⟨i,p,h4,h5⟩
    .exact o1 h
    .exact absurd hlt (Nat.not_lt.2 h)
    .exact hno i p h4 h5
  .have mix:∀l1 l2 base tot base' tot',(∃i b1,(i,l1)∈σo/\look m1 i=some b1)->jx σo l2=none->(∀i,(l2,i)∉σi)->look st.m l2≠none->x2.β l1=some (b,base,tot)->x2.β l2=some (b,base',tot')->False:=by
    rintro l1 l2 base tot base' tot' ⟨i,b1,h1,h2⟩ h3 h4 h5 e3 e4;rw[hx2 i l1 h1]at e3;rw[hx2n l2 h3]at e4;rcases hnew i _ e3 with⟨l',h6,h7⟩|h6|⟨l',⟨pb,pt,pq⟩,⟨j,h6⟩,h7,h8⟩
    .have:=hs.inj l' l2 b base tot base' tot' (hfm.lt _ _ h6) h5 h7 e4;subst this;exact h4 _ h6
    .have:=hs.dP l2 b base' tot' e4;simp only at h6;omega
    .simp only at h8;subst h8;have:=hs.inj l' l2 pb pt pq base' tot' (hfm.lt _ _ h6) h5 h7 e4;subst this;exact h4 _ h6
   cases f1:look st'.m l1 with
   |none=>exact absurd f1 e1
   |some b1=>
    cases f2:look st'.m l2 with
    |none=>exact absurd f2 e2
    |some b2=>
     rcases hfm.m1 l1 b1 f1 with⟨i,c1,h1,h2,_⟩|⟨h1,h2,h3⟩<;>rcases hfm.m1 l2 b2 f2 with⟨j,c2,k1,k2,_⟩|⟨k1,k2,k3⟩
     .rw[hx2 i l1 h1]at e3;rw[hx2 j l2 k1]at e4;have:=hi'.kn.inj i j b base tot base' tot' (by rw[hlk,h2];simp) (by rw[hlk,k2];simp) e3 e4;subst this;have:=p8 hfm.oko h1;rw[p8 hfm.oko k1]at this;exact(ba this).symm
     .exact(mix l1 l2 base tot base' tot' ⟨i,c1,h1,h2⟩ k1 k2 (by rw[k3];simp) e3 e4).elim
     .exact(mix l2 l1 base' tot' base tot ⟨j,c2,k1,k2⟩ h1 h2 (by rw[h3];simp) e4 e3).elim
     .rw[hx2n l1 h1]at e3;rw[hx2n l2 k1]at e4;exact hs.inj l1 l2 b base tot base' tot' (by rw[h3];simp) (by rw[k3];simp) e3 e4
  .cases h1:jx σo l with
   |none=>rw[hx2n l h1]at e;exact jj (hs.dP l b base tot e) hst.size
   |some i=>
    rw[hx2 i l (jy h1)]at e;exact hi'.kn.dP i b base tot e
 have hfr2:eg st' x2:=by
  refine⟨fun l hl=>?_,fun l hl=>?_⟩
  .cases h1:jx σo l with
   |none=>rw[hx2n l h1];exact hfr.β l (by have:=hfm.nx;omega)
   |some i=>have:=nR hfm.oko (jy h1);omega
  .cases f1:look st'.m l with
   |none=>exact absurd f1 hl
   |some b1=>
    rcases hfm.m1 l b1 f1 with⟨i,c1,h1,_⟩|⟨_,_,h3⟩
    .exact nR hfm.oko h1
    .have:=hfr.m l (by rw[h3];simp);have:=hfm.nx;omega
 have hrd:=RD.re (ν:=ν) (x:=x') (x':=x2) rfl rfl hβ2 r2 hvd;rcases Ex.xM hh with h|h<;>rw[h]at he<;>subst he<;>exact⟨hi'.defers,v,r1,x2,vd',st',hK,rfl,hstep,hrd,hsim,hfr2⟩
end
end
section
structure Pa where
 tr:List D->St->(D->St->Prop)->Prop
 mu:List D->St->Nat
 mono:∀(ds:List D) (st:St) (K K':D->St->Prop),(∀d st',K d st'->K' d st')->tr ds st K->tr ds st K'
def Pa.no:Pa:=⟨fun _ _ _=>False,fun _ _=>0,fun _ _ _ _ _ h=>h⟩
def kv (af:aE)(Q:D->List (Nat×bA)->Prop):Ex->List bH->St->Prop:=fun e env st=>e.home/\nJ st.m env af.res/\∃m1,(∀i,look st.m i=look m1 i)/\Q (jf af env st) m1
def dW {af:aE}{Q:D->List (Nat×bA)->Prop}{vd:D}{m1:List (Nat×bA)}{e:Ex}{env:List bH}{st:St}(h1:e.home)(h2:nJ st.m env af.res)(h3:jf af env st=vd)(h4:st.m=m1)(h5:Q vd m1):kv af Q e env st:=⟨h1,h2,m1,fun i=>by rw[h4],by rw[h3];exact h5⟩
section
variable [df] {P:Program} {ν:List (Nat×Nat)} {cq:List Nat} {Y:Ctx}
end
end
section
abbrev RT:=List D->D->Prop
abbrev FT:=D->List D->D->D->Prop
abbrev TT:=List D->St->(D->St->Prop)->Prop
def yu (T:TT):Prop:=∀ds st K K',(∀d st',K d st'->K' d st')->T ds st K->T ds st K'
def tW (A:RT->Prop):RT:=fun ds d=>∀T,A T->T ds d
def tV (A:FT->Prop):FT:=fun d ds v s=>∀T,A T->T d ds v s
def KK (T:TT):Ctx:=⟨fun _ _=>False,fun _ _=>.any,fun _=>T,fun _ _ _=>False,fun _ _ _=>.any,fun _ _ _=>.any,0⟩
def Gq (C:Ctx->Prop):TT:=fun ds st K=>∀T,yu T->C (KK T)->T ds st K
def y0 (C:Ctx->Prop):yu (Gq C):=fun _ _ _ _ h h1 T hT hC=>hT _ _ _ _ h (h1 T hT hC)
def noR:RT:=fun _ _=>False
def Pz:FT:=fun _ _ _ _=>False
def noT:TT:=fun _ _ _=>False
def uv:yu noT:=fun _ _ _ _ _ h=>h.elim
structure lr where
 key:Nat
 rel:RT
 mu:List D->Nat
 relF:FT
 tr:TT
 muE:List D->St->Nat
 mono:yu tr
def mu0:List D->Nat:=fun _=>0
def Jg:List D->St->Nat:=fun _ _=>0
def kD:lr:=⟨0,noR,mu0,Pz,noT,Jg,uv⟩
def rP (k:Nat)(A:RT->Prop)(mu:List D->Nat:=mu0):lr:=⟨k,tW A,mu,Pz,noT,Jg,uv⟩
def rF (k:Nat)(A:FT->Prop):lr:=⟨k,noR,mu0,tV A,noT,Jg,uv⟩
def rG (k:Nat)(C:Ctx->Prop)(mu:List D->St->Nat:=Jg):lr:=⟨k,noR,mu0,Pz,Gq C,mu,y0 C⟩
noncomputable def pick (r:D->Prop):D:=Classical.epsilon r
def jd {r:D->Prop}(h:∃d,r d):r (pick r):=Classical.epsilon_spec h
def MT (R:RT):Prop:=∀ds d d',R ds d->R ds d'->d=d'
def As (R:FT):Prop:=∀d ds v s v' s',R d ds v s->R d ds v' s'->v=v'/\s=s'
def F0 {A:RT->Prop}(h:A fun ds d=>A fun ds' d'=>ds'=ds->d=d'):MT (tW A):=fun ds d d' h1 h2=>h2 _ (h1 _ h) rfl
def IX {A:FT->Prop}(h:A fun d ds v s=>A fun d' ds' v' s'=>d'=d->ds'=ds->v=v'/\s=s'):As (tV A):=fun d ds v s v' s' h1 h2=>h2 _ (h1 _ h) rfl rfl
noncomputable def vJ (t:List (Nat×lr)):Ctx where
 pre n ds:=∃d,(lk t n kD).rel ds d
 val n ds:=pick ((lk t n kD).rel ds)
 tr n:=(lk t n kD).tr
 fp n d ds:=∃v s,(lk t n kD).relF d ds v s
 fv n d ds:=pick fun v=>∃s,(lk t n kD).relF d ds v s
 fs n d ds:=pick fun s=>∃v,(lk t n kD).relF d ds v s
 lo:=0
def Hl (t:List (Nat×lr)):Lv:=⟨fun n=>(lk t n kD).key,fun n=>(lk t n kD).mu,fun n=>(lk t n kD).muE⟩
noncomputable abbrev under (t:List (Nat×lr))(k u:Nat):Ctx:=(vJ t).under (Hl t) k u
def oG (t:List (Nat×lr))(k u n:Nat):(((vJ t).under (Hl t) k u).at n).cG:=
 fun f ds st K K' h hh=>⟨hh.1,(lk t f kD).mono ds st K K' h hh.2⟩
section
variable {t:List (Nat×lr)} {n k u:Nat} {ds:List D} {d v s:D} {st:St} {K:D->St->Prop}
def okp (hD:MT (lk t n kD).rel)(hk:(lk t n kD).key<k\/(lk t n kD).key=k/\(lk t n kD).mu ds<u)(h:(lk t n kD).rel ds d):(under t k u).pre n ds/\(under t k u).val n ds=d:=
 ⟨⟨hk,d,h⟩,hD _ _ _ (jd ⟨d,h⟩) h⟩
def okf (hD:As (lk t n kD).relF)(hk:(lk t n kD).key<k)(h:(lk t n kD).relF d ds v s):(under t k u).fp n d ds/\(under t k u).fv n d ds=v/\(under t k u).fs n d ds=s:=by
 refine⟨⟨.inl hk,v,s,h⟩, ?_, ?_⟩
 .obtain⟨s',h'⟩:=jd (r:=fun v=>∃s,(lk t n kD).relF d ds v s) ⟨v,s,h⟩;exact(hD _ _ _ _ _ _ h' h).1
 .obtain⟨v',h'⟩:=jd (r:=fun s=>∃v,(lk t n kD).relF d ds v s) ⟨s,v,h⟩;exact(hD _ _ _ _ _ _ h' h).2
def Ct (hk:(lk t n kD).key<k\/(lk t n kD).key=k/\(lk t n kD).muE ds st<u)(h:(lk t n kD).tr ds st K):(under t k u).tr n ds st K:=⟨hk,h⟩
end
section
variable [df] {P:Program} {ν:List (Nat×Nat)} {cq:List Nat} {Y:Ctx} {t:List (Nat×lr)} {fid n key:Nat}
def BM (P:Program)(ν:List (Nat×Nat))(cq:List Nat)(Y:Ctx)(fid:Nat)(ds:List D)(d:D):Prop:=Ok P ν cq Y->∀(x:X) (args:Array Value),args.size=ds.length->(∀i,i<ds.length->RD ν x (args.getD i undef) (ds.getD i .any))->aL ds=true->
  (∀b,x.I b->b<x.w.heap.size)->df.gd x->il P x (fun v x'=>m5 x x'/\RD ν x' v d) ((callFunc fid args).run P x.w)
def BN (P:Program)(ν:List (Nat×Nat))(cq:List Nat)(Y:Ctx)(fid:Nat)(d:D)(ds:List D)(vd new:D):Prop:=Ok P ν cq Y->∀(x:X) (f:Nat->Option bA) (args:Array Value) (l k:Nat),args.size=ds.length+1->
   RD ν x (args.getD 0 undef) (.ptr l k 0 0)->(∀i,i<ds.length->RD ν x (args.getD (i+1) undef) (ds.getD i .any))->ek ν x f->f l=some (.buf k [d])->d.a7=true->aL ds=true->
   il P x (fun v x'=>Step x x'/\RD ν x' v vd/\ek ν x' (fun l'=>if l'=l then some (.buf k [new])else f l')/\x'.β=x.β) ((callFunc fid args).run P x.w)
def kE (P:Program)(ν:List (Nat×Nat))(cq:List Nat)(Y:Ctx)(fid:Nat)(ds:List D)(st:St)(K:D->St->Prop):Prop:=Ok P ν cq Y->∀(x:X) (args:Array Value),args.size=ds.length->(∀i,i<ds.length->RD ν x (args.getD i undef) (ds.getD i .any))->ek ν x (look st.m)->eg st x->
  il P x (fun v x'=>∃d st',K d st'/\Step x x'/\RD ν x' v d/\ek ν x' (look st'.m)/\eg st' x') ((callFunc fid args).run P x.w)
structure MU (P:Program)(ν:List (Nat×Nat))(cq:List Nat)(t:List (Nat×lr))(fid n:Nat):Prop where
 p:∀ds d,(lk t n kD).rel ds d->BM P ν cq (under t (lk t n kD).key ((lk t n kD).mu ds)) fid ds d
 f:As (lk t n kD).relF/\∀d ds v s,(lk t n kD).relF d ds v s->BN P ν cq (under t (lk t n kD).key ((lk t n kD).mu (d::ds))) fid d ds v s
 g:∀ds st K,(lk t n kD).tr ds st K->kE P ν cq (under t (lk t n kD).key ((lk t n kD).muE ds st)) fid ds st K
def okA (hsm:∀fid n,dh ν fid=some n->n<1000000)(hB:∀t,cq.contains (1000000000+t)=true->t=df.tB)(hG:∀g,cq.contains (500000000+g)=true->df.gz g)(h:∀fid n,dh ν fid=some n->MU P ν cq t fid n):Ok P ν cq (vJ t):=by
 refine PA (Hl t) hsm hB hG (fun fid n hn ds hp hok=>(h fid n hn).p ds _ (jd hp) hok) (fun fid n hn _ d ds hp hok=>?_) (fun fid n hn ds st K htr hok=>(h fid n hn).g ds st K htr hok);obtain⟨v,s,hr⟩:=hp;obtain⟨hD,hf⟩:=(h fid n hn).f;have h2:(vJ t).fv n d ds=v/\(vJ t).fs n d ds=s:=by
  constructor
  .obtain⟨s',h'⟩:=jd (r:=fun v=>∃s,(lk t n kD).relF d ds v s) ⟨v,s,hr⟩;exact(hD _ _ _ _ _ _ h' hr).1
  .obtain⟨v',h'⟩:=jd (r:=fun s=>∃v,(lk t n kD).relF d ds v s) ⟨s,v,hr⟩;exact(hD _ _ _ _ _ _ h' hr).2
 rw[h2.1,h2.2];exact hf d ds v s hr hok
def xI {Y:D->List D->Ctx}:As Pz/\∀d ds v s,Pz d ds v s->BN P ν cq (Y d ds) fid d ds v s:=⟨fun _ _ _ _ _ _ h=>h.elim,fun _ _ _ _ h=>h.elim⟩
def bV {A:RT->Prop}{mu:List D->Nat}(hr:lk t n kD=rP key A mu)(h:A fun ds d=>BM P ν cq (under t key (mu ds)) fid ds d):MU P ν cq t fid n:=by
 refine⟨?_, ?_, ?_⟩<;>rw[hr]
 .exact fun ds d hd=>hd (fun ds d=>BM P ν cq (under t key (mu ds)) fid ds d) h
 .exact xI
 .exact fun _ _ _ h=>h.elim
def oweF {A:FT->Prop}(hr:lk t n kD=rF key A)(hD:As (tV A))(h:A fun d ds v s=>BN P ν cq (under t key 0) fid d ds v s):MU P ν cq t fid n:=by
 refine⟨?_, ?_, ?_⟩<;>rw[hr]
 .exact fun _ _ h=>h.elim
 .exact⟨hD,fun d ds v s hd=>hd _ h⟩
 .exact fun _ _ _ h=>h.elim
def Em {Y:List D->St->Ctx}:yu fun ds st K=>kE P ν cq (Y ds st) fid ds st K:=fun ds st K K' h hg hok x args hl ha hs hf=>(hg hok x args hl ha hs hf).mono fun v x' ⟨d,st',h1,h2⟩=>⟨d,st',h _ _ h1,h2⟩
def uE {C:Ctx->Prop}{mu:List D->St->Nat}(hr:lk t n kD=rG key C mu)(h:C (KK fun ds st K=>kE P ν cq (under t key (mu ds st)) fid ds st K)):MU P ν cq t fid n:=by
 refine⟨?_, ?_, ?_⟩<;>rw[hr]
 .exact fun _ _ h=>h.elim
 .exact xI
 .exact fun ds st K hd=>hd (fun ds st K=>kE P ν cq (under t key (mu ds st)) fid ds st K) Em h
def Ao (P:Program)(ν:List (Nat×Nat))(cq:List Nat)(fid:Nat)(af:aE):Prop:=(P.funcs[fid]?).map (fun f=>(compile P ν cq f,f.name== "runtime.NumGoroutine"))=some (some af,false)
def Ao.split {af:aE}(h:Ao P ν cq fid af):∃fn,P.funcs[fid]? =some fn/\compile P ν cq fn=some af/\(fn.name== "runtime.NumGoroutine")=false:=by
 grind [Ao]
def aZ {af:aE}{ds:List D}{d:D}(hmix:P.follows .mixedOrders=true)(hC:Ao P ν cq fid af)(h1:ds.length=af.np)(h2:bZ (Y.at 0) af.body (MV af d) (fq af ds) ⟨0,[]⟩):BM P ν cq Y fid ds d:=by
 intro hok x args hl hargs hnl himm hgd;obtain⟨fn,hf,hc,hn⟩:=hC.split;obtain⟨body,c1,_⟩:=gB hc;exact .inr ⟨fid,args,iv hf hn (by rw[c1];rfl) args x.w,I3 hok hmix hf hc hl hargs hnl himm hgd h1 h2⟩
def Pm {af:aE}{d:D}{ds:List D}{vd new:D}(k0:Nat)(hmix:P.follows .mixedOrders=true)(hC:Ao P ν cq fid af)(h1:ds.length+1=af.np)(hk:d.cells.length=k0)
  (h2:bZ (Y.at 1) af.body (Lw af k0 vd new) (fq af (.ptr 0 k0 0 0::ds)) ⟨1,[(0,.buf k0 [d])]⟩):BN P ν cq Y fid d ds vd new:=by
 intro hok x f args l k hl h0 hargs hs hfl hd hnl;obtain⟨fn,hf,hc,hn⟩:=hC.split;obtain⟨body,c1,_⟩:=gB hc;have hkk:k=k0:=by
  generalize args.getD 0 undef=v0 at h0;cases h0 with
  |ptr _ _ _ _ b base tot at_ hβ hat=>
   obtain⟨p1,p2,c,T,fr,p3,p4,p5,p6⟩:=(hs.own l _ b base tot hfl hβ).2;have:=(p6 0 bc).1
   grind
 subst hkk;exact .inr ⟨fid,args,iv hf hn (by rw[c1];rfl) args x.w,I1 hok hmix hf hc hl h0 hargs hs hfl hd hnl h1 h2⟩
def pT {af:aE}{ds:List D}{st:St}{K:D->St->Prop}{σi:List (Nat×Nat)}{q:Nat}{m0:List (Nat×bA)}{cs:List D}{Q:D->List (Nat×bA)->Prop}(hmono:∀q,(Y.at q).cG)(hmix:P.follows .mixedOrders=true)(hC:Ao P ν cq fid af)
  (h1:cs.length=ds.length) (h2:∀i,i<ds.length->IJ 0 σi (ds.getD i .any) (cs.getD i .any)) (h3:cs.length=af.np)
  (h4:eE 0 q σi=true) (h5:∀l i,(l,i)∈σi->look st.m l≠none) (h6:∀i b,look m0 i=some b->∃l b',(l,i)∈σi/\look st.m l=some b'/\lQ 0 σi b' b)
  (h7:bZ (Y.at q) af.body (kv af Q) (fq af cs) ⟨q,m0⟩) (h8:∀d m1,Q d m1->∃(σo:List (Nat×Nat)) (q1:Nat) (st':St) (vd':D),Fr σi σo q q1 m0 m1 st st'/\IJ 0 σo d vd'/\K vd' st'):kE P ν cq Y fid ds st K:=by
 intro hok x args hl hargs hs hfr;obtain⟨fn,hf,hc,hn⟩:=hC.split;obtain⟨body,c1,_⟩:=gB hc;refine .inr ⟨fid,args,iv hf hn (by rw[c1];rfl) args x.w, ?_⟩;refine Calls.mono (I2 (K:=K) hok hmix hf hc hl hargs hs hfr h1 h2 h3 h4 h5 h6 (fI (hmono q) _ _ _ _ _ (fun e env st1 h=>?_) h7)) fun e w' he=>?_
 .obtain⟨g1,g2,m1,g3,g4⟩:=h
  grind
 grind
end
end
theorem se {α:Type}{f:α->D}(hf:∀x y,f x=f y↔x=y):∀a b:List α,a.map f=b.map f↔a=b
 |[],[]=>bc
 |[],_::_=>bc
 |_::_,[]=>bc
 |x::a,y::b=>by simp only[List.map_cons,ru,hf,se hf a b]
def LY (a b:Nat):((a:Nat):Int)=(b:Nat)↔a=b:=ae
theorem iU8 (x y:UInt8):((x.toNat:Nat):Int)=(y.toNat:Nat)↔x=y:=(LY _ _).trans BH
def Pr (a b:List dn):a.map D.str=b.map D.str↔a=b:=se (fun _ _=>bc) a b
def LX (a b:List Int):a.map (D.int .i64)=b.map (D.int .i64)↔a=b:=se (fun _ _=>bc) a b
def iByt (a b:dn):(a.map fun c=>D.int .u8 c.toNat)=(b.map fun c=>D.int .u8 c.toNat)↔a=b:=by grind [se,iU8]
def iVer (a b:a8):a8.D a=a8.D b↔a=b:=by cases a;cases b;simp[a8.D]
def Jr [df]{P:Program}{ν:List (Nat×Nat)}{cq:List Nat}{t:List (Nat×lr)}{fid n:Nat}(hr:lk t n kD=kD):MU P ν cq t fid n:=by
 refine⟨?_, ?_, ?_⟩<;>rw[hr]
 .exact fun _ _ h=>h.elim
 .exact xI
 .exact fun _ _ _ h=>h.elim
structure Cut where
 e:Int
 v:a8
 a:Bool
 deriving Inhabited,DecidableEq
def Cut.D (c:Cut):D:=.agg [.int .i64 c.e,.int .i64 c.v.major,.int .i64 c.v.minor,.int .i64 c.v.patch,.str c.v.pre,.str c.v.build,.bool c.a]
structure Span where
 f:Cut
 t:Cut
 deriving Inhabited,DecidableEq
def Span.D (s:Span):D:=.agg [.int .i64 s.f.e,.int .i64 s.f.v.major,.int .i64 s.f.v.minor,.int .i64 s.f.v.patch,.str s.f.v.pre,.str s.f.v.build,.bool s.f.a,
 .int .i64 s.t.e,.int .i64 s.t.v.major,.int .i64 s.t.v.minor,.int .i64 s.t.v.patch,.str s.t.v.pre,.str s.t.v.build,.bool s.t.a]
structure bp where
 rel:List Span
 pr:List Span
 deriving Inhabited,DecidableEq
def bp.D (s:bp):D:=.agg [.sl 14 (s.rel.map Span.D),.sl 14 (s.pr.map Span.D)]
structure Want where
 u:Int
 s:bp
 deriving Inhabited,DecidableEq
def Want.D (w:Want):D:=.agg [.int .i64 w.u,.sl 14 (w.s.rel.map Span.D),.sl 14 (w.s.pr.map Span.D)]
abbrev kA:=List Want
def dH (r:kA):D:=.sl 3 (r.map Want.D)
structure dJ where
 v:a8
 sh:Int
 needs:List kA
 bars:List Want
 deriving Inhabited,DecidableEq
def dJ.D (c:dJ):D:=.agg [.int .i64 c.v.major,.int .i64 c.v.minor,.int .i64 c.v.patch,.str c.v.pre,.str c.v.build,.int .i64 c.sh,.sl 1 (c.needs.map dH),.sl 3 (c.bars.map Want.D)]
structure bP where
 name:dn
 feat:dn
 cands:List dJ
 deriving Inhabited,DecidableEq
def bP.D (u:bP):D:=.agg [.str u.name,.str u.feat,.sl 8 (u.cands.map dJ.D)]
structure bG where
 us:List bP
 deriving Inhabited,DecidableEq
def bG.D (w:bG):D:=.agg [.sl 3 (w.us.map bP.D)]
structure bM where
 u:Int
 m:Int
 deriving Inhabited,DecidableEq
def bM.D (t:bM):D:=.agg [.int .i64 t.u,.int .i64 t.m]
structure aq where
 kind:Int
 unit:Int
 a:Int
 b:Int
 terms:List bM
 deriving Inhabited,DecidableEq
def aq.D (r:aq):D:=.agg [.int .i64 r.kind,.int .i64 r.unit,.int .i64 r.a,.int .i64 r.b,.sl 2 (r.terms.map bM.D)]
structure aY where
 w:bG
 allow:List Int
 rows:List aq
 deriving Inhabited,DecidableEq
def aY.D (c:aY):D:=.agg [.sl 3 (c.w.us.map bP.D),.sl 1 (c.allow.map (D.int .i64)),.sl 5 (c.rows.map aq.D)]
def LR (a b:Bool):gL (D.bool a).cells (D.bool b).cells=decide (a=b):=by cases a<;>cases b<;>rfl
def qF (f:Nat->Int):Nat->Nat->Int
 |_,0=>0
 |i,k+1=>if f i=0 then qF f (i+1) k else f i
def fV (f:Nat->Int)(i n:Nat):Int:=qF f i (n-i)
def Ei {f:Nat->Int}{i n:Nat}(h:i<n)(hf:f i=0):fV f i n=fV f (i+1) n:=by
 unfold fV;obtain⟨k,hk⟩:∃k,n-i=k+1:=⟨n-i-1,ae⟩
 grind [qF]
def AH {f:Nat->Int}{i n:Nat}(h:i<n)(hf:f i≠0):fV f i n=f i:=by
 unfold fV;obtain⟨k,hk⟩:∃k,n-i=k+1:=⟨n-i-1,ae⟩
 rw[hk];simp only[qF,hf,aN]
def Eh {f:Nat->Int}{i n:Nat}(h:n<=i):fV f i n=0:=by
 unfold fV;rw[show n-i=0 by omega];rfl
def cY (a b:Int):Int:=if a<b then-1 else if b<a then 1 else 0
def kB (a b:dn):Int:=if Op.bytesLess a b=true then-1 else if a=b then 0 else 1
def ow (a b:dn):Int:=if cD a=true/\cD b=true then cY (sg a) (sg b)else if cD a=true then-1 else if cD b=true then 1 else kB a b
def zQ (l m:List dn):Nat->Nat->Int
 |_,0=>cY l.length m.length
 |i,k+1=>if ow l[i]! m[i]! ≠0 then ow l[i]! m[i]! else zQ l m (i+1) k
def oE (l m:List dn)(i:Nat):Int:=zQ l m i (min l.length m.length-i)
def wP {l m:List dn}{i:Nat}(h:i<l.length/\i<m.length)(hn:ow l[i]! m[i]! ≠0):oE l m i=ow l[i]! m[i]! :=by
 unfold oE;rw[show min l.length m.length-i=(min l.length m.length-(i+1))+1 by omega,zQ,au hn]
def zP {l m:List dn}{i:Nat}(h:i<l.length/\i<m.length)(hn:ow l[i]! m[i]! =0):oE l m i=oE l m (i+1):=by
 unfold oE;rw[show min l.length m.length-i=(min l.length m.length-(i+1))+1 by omega,zQ,ai (by rw[hn];simp)]
def wO {l m:List dn}{i:Nat}(h:l.length<=i\/m.length<=i):oE l m i=cY l.length m.length:=by
 unfold oE;rw[show min l.length m.length-i=0 by omega,zQ]
def qX (a b:dn):Int:=if a=b then 0 else if a=[]then 1 else if b=[]then-1 else oE (bm a 46) (bm b 46) 0
def j8 (a b:a8):Int:=if jD a=false\/jD b=false then 0 else
 if cY a.major b.major≠0 then cY a.major b.major else if cY a.minor b.minor≠0 then cY a.minor b.minor else
 if cY a.patch b.patch≠0 then cY a.patch b.patch else qX a.pre b.pre
def jo (v:a8):a8:=⟨v.major,v.minor,v.patch,v.pre,[]⟩
theorem Ec (a:Int):cY a a=0:=by simp[cY]
def qz {a b:Int}:cY a b=0↔a=b:=by
 grind [cY]
def Ed {a b:a8}(h:jo a=jo b):j8 a b=0:=by
 grind [jo,j8,qX,Ec]
theorem F7 (x y z:Int):fV (fun i=>[x,y,z][i]!) 0 [x,y,z].length=if x≠0 then x else if y≠0 then y else z:=by
 grind [fV,qF]
def F9 {x y z:Int}(h:fV (fun i=>[x,y,z][i]!) 0 [x,y,z].length=0):x=0/\y=0/\z=0:=by
 grind [F7]
def F8 {a b:a8}(hv:¬(jD a=false\/jD b=false))(h:¬fV (fun i=>[cY a.major b.major,cY a.minor b.minor,cY a.patch b.patch][i]!) 0 [cY a.major b.major,cY a.minor b.minor,cY a.patch b.patch].length=0):
  fV (fun i=>[cY a.major b.major,cY a.minor b.minor,cY a.patch b.patch][i]!) 0 [cY a.major b.major,cY a.minor b.minor,cY a.patch b.patch].length=j8 a b:=by
 grind [F7,j8]
def FY {a b:a8}(hv:¬(jD a=false\/jD b=false))(h1:cY a.major b.major=0)(h2:cY a.minor b.minor=0)(h3:cY a.patch b.patch=0):j8 a b=qX a.pre b.pre:=by
 grind [j8]
def IU {a b:a8}(h1:cY a.major b.major=0)(h2:cY a.minor b.minor=0)(h3:cY a.patch b.patch=0)(h4:a.pre=b.pre):jo a=jo b:=by
 unfold jo;rw[qz.1 h1,qz.1 h2,qz.1 h3,h4]
def Cut.sm (c:Cut):Prop:=c.v.sm
def Span.sm (s:Span):Prop:=s.f.sm/\s.t.sm
def bB (l:List Span):Prop:=∀s∈l,s.sm
def bp.sm (s:bp):Prop:=bB s.rel/\bB s.pr
def Want.sm (w:Want):Prop:=w.s.sm
def dJ.sm (c:dJ):Prop:=c.v.sm/\(∀r∈c.needs,∀w∈r,w.sm)/\∀w∈c.bars,w.sm
def bP.sm (u:bP):Prop:=u.cands.length<=16/\∀c∈u.cands,c.sm
def bG.sm (w:bG):Prop:=∀u∈w.us,u.sm
def zV:a8:=⟨0,0,0,[],[]⟩
def kC (c:Cut):Bool:=if c.e=0 then jD c.v&&decide (c.v.build=[])else(decide (c.e=-1) ||decide (c.e=1))&&decide (c.v=zV)&& !c.a
def fF (a b:Cut):Int:=if kC a=false\/kC b=false then 0 else if a.e≠0\/b.e≠0 then cY a.e b.e else
 if j8 a.v b.v≠0 then j8 a.v b.v else if a.a=b.a then 0 else if b.a=true then-1 else 1
def jB (s:Span):Bool:=kC s.f&&kC s.t&&decide (fF s.f s.t<0)
def fS (c:Cut)(v:a8):Bool:=if kC c=false\/jD v=false then false else if c.e≠0 then decide (c.e<0)else decide (j8 c.v v<0) ||(decide (j8 c.v v=0)&& !c.a)
def kU (s:Span)(v:a8):Bool:=jB s&&jD v&&fS s.f v&& !fS s.t v
def sj (l:List Span)(i:Nat):Bool:=jB l[i]! && !(decide (0<i)&&decide (0<=fF l[i-1]!.t l[i]!.f))
def k8 (l:List Span):Bool:=dj (sj l) 0 l.length
def vG (f:Nat->Bool)(i n:Nat):Bool:=!dj (fun i=>!f i) i n
def nU {f:Nat->Bool}{i n:Nat}(h:i<n):vG f i n=(f i ||vG f (i+1) n):=by
 unfold vG;rw[bC h];simp
def xa {f:Nat->Bool}{i n:Nat}(h:n<=i):vG f i n=false:=by
 unfold vG;rw[dz h];rfl
def my (l:List Span)(v:a8):Bool:=k8 l&&vG (fun i=>kU l[i]! v) 0 l.length
def o9 (v:a8):Bool:=decide (v.major=0)&&decide (v.minor=0)&&decide (v.patch=0)
def jg (c:Cut):Bool:=decide (c.e≠0) ||(!c.a&&decide (c.v.pre=[])&& !o9 c.v)
def lJ (c:Cut):Bool:=decide (c.e≠0) ||(!c.a&&decide (c.v.pre=[])&& !decide (c.v=zV))
def mA (s:bp):Bool:=k8 s.rel&&k8 s.pr&&dj (fun i=>jg s.rel[i]!.f&&jg s.rel[i]!.t) 0 s.rel.length
def KH (s:bp):Bool:=dj (fun i=>lJ s.rel[i]!.f&&lJ s.rel[i]!.t) 0 s.rel.length&&(k8 s.rel&&k8 s.pr)
def mM (s:bp)(v:a8):Bool:=mA s&&jD v&&(if v.pre=[]then my s.rel v else my s.pr v)
def uR {c:Cut}(h:kC c=true):lJ c=jg c:=by
 obtain⟨e,⟨a,b,c,p,q⟩,f⟩:=c;by_cases he:e=0
 .simp only[kC,he,aV,bo,bX]at h;obtain⟨_,rfl⟩:=h;simp only[lJ,jg,o9,zV,a8.mk.injEq];by_cases h1:p=[]<;>by_cases h2:a=0<;>by_cases h3:b=0<;>by_cases h4:c=0<;>simp[h1,h2,h3,h4]
 .simp[lJ,jg,he]
def HD {l:List Span}(h:k8 l=true){i:Nat}(hi:i<l.length):kC l[i]!.f=true/\kC l[i]!.t=true:=by
 unfold k8 at h;rw[dt]at h;have:=h i ae hi;simp only[sj,jB,bo]at this;exact⟨this.1.1.1,this.1.1.2⟩
def JM (s:bp):KH s=mA s:=by
 unfold KH mA;cases h:k8 s.rel with
 |false=>simp
 |true=>
  have:dj (fun i=>lJ s.rel[i]!.f&&lJ s.rel[i]!.t) 0 s.rel.length=dj (fun i=>jg s.rel[i]!.f&&jg s.rel[i]!.t) 0 s.rel.length:=by
   rw[Bool.eq_iff_iff,dt,dt];constructor<;>intro g j h1 h2<;>have q:=HD h h2<;>have:=g j h1 h2<;>rw[uR q.1,uR q.2]at* <;>exact this
  rw[this];cases k8 s.pr<;>simp
def mg:Cut:=⟨-1,zV,false⟩
def pY:Cut:=⟨1,zV,false⟩
def kG (v:a8):Cut:=⟨0,jo v,false⟩
def sF (v:a8):Cut:=⟨0,jo v,true⟩
def mQ (v:a8):a8:=⟨v.major,v.minor,v.patch,[],[]⟩
def eA (v:a8)(p:Int):a8:=if p=0 then⟨v.major+1,0,0,[],[]⟩else if p=1 then⟨v.major,v.minor+1,0,[],[]⟩else⟨v.major,v.minor,v.patch+1,[],[]⟩
def fk (v:a8)(p:Int):a8×Bool:=if jD v=false\/p<0\/2<p then(zV,false)else if jD (eA v p)=false then(zV,false)else(eA v p,true)
def uu (v:a8):Nat->a8×Bool
 |0=>(zV,false)
 |n+1=>if(fk v (n:Int)).2=true then((fk v (n:Int)).1,true)else uu v n
def hZ (v:a8):a8×Bool:=if jD v=false then(zV,false)else if v.pre≠[]then(mQ v,true)else uu v 3
def m7 (v:a8):Cut:=if o9 v=true then mg else kG (mQ v)
def yF (v:a8):Cut:=if(hZ (mQ v)).2=false then pY else kG (hZ (mQ v)).1
def kP (l:List Cut)(c:Cut)(i:Nat):Nat:=i+((l.drop i).takeWhile fun x=>decide (fF x c<0)).length
def I9 {l:List Cut}{c:Cut}{i:Nat}(h:i<l.length)(hc:fF l[i]! c<0):kP l c i=kP l c (i+1):=by
 unfold kP;rw[ku h,List.takeWhile_cons_of_pos (by simpa[h]using hc)];simp;omega
def Ja {l:List Cut}{c:Cut}{i:Nat}(h:i<l.length->¬fF l[i]! c<0):kP l c i=i:=by
 unfold kP;rcases cK i l.length with hi|hi
 .rw[ku hi,List.takeWhile_cons_of_neg (by simpa[hi]using h hi)];rfl
 .rw[mC hi];rfl
def rY (l:List Cut)(c:Cut):List Cut:=if kP l c 0<l.length/\fF l[kP l c 0]! c=0 then l else(l.take (kP l c 0)++[c])++l.drop (kP l c 0)
def lz (l:List Span):Nat->List Cut
 |0=>[mg,pY]
 |i+1=>rY (rY (lz l i) l[i]!.f) l[i]!.t
def cC (l:List Span):List Cut:=lz l l.length
def oU (l:List Span)(f t:Cut):Bool:=vG (fun i=>decide (fF l[i]!.f f<=0)&&decide (fF t l[i]!.t<=0)) 0 l.length
def kd (l:List Span)(f t:Cut):List Span:=if 0<l.length/\fF l[l.length-1]!.t f=0 then l.set (l.length-1) ⟨l[l.length-1]!.f,t⟩else l++[⟨f,t⟩]
def dZ (p:Cut->Cut->Bool)(c:List Cut):Nat->List Span
 |0=>[]
 |i+1=>if p c[i]! c[i+1]! =true then kd (dZ p c i) c[i]! c[i+1]! else dZ p c i
def zE (p:Cut->Cut->Bool)(c:List Cut):List Span:=dZ p c (c.length-1)
def nC (l:List Span):List Span×Bool:=if dj (fun i=>jB l[i]!) 0 l.length=true then(zE (oU l) (cC l),true)else([],false)
def Fi (a b:List Span):List Span:=if k8 a=false\/k8 b=false then []else(nC (a++b)).1
def sf (a:List Span):List Span:=if k8 a=false then []else zE (fun x y=>!oU a x y) (cC a)
def uw:bp:=⟨[],[]⟩
def pE:List Span:=[⟨mg,pY⟩]
def vF:bp:=⟨pE,pE⟩
def bF (v:a8):bp:=if jD v=false then uw else if v.pre≠[]then⟨[],[⟨kG v,sF v⟩]⟩else⟨[⟨m7 v,yF v⟩],[]⟩
def GU (a b:bp):bp:=if mA a=false\/mA b=false then uw else⟨Fi a.rel b.rel,Fi a.pr b.pr⟩
def vP (a:bp):bp:=if mA a=false then uw else⟨sf a.rel,sf a.pr⟩
def mX (l:List Cut):Prop:=∀c∈l,c.sm
def D3 (l:List Span):Prop:=bB l/\l.length<=1000
def Aw (s:bp):Prop:=D3 s.rel/\D3 s.pr
def rT:zV.sm:=by simp[zV,a8.sm]
def nY:mg.sm:=rT
def pZ:pY.sm:=rT
def sJ {v:a8}(h:v.sm):(jo v).sm:=⟨h.1,by simp[jo]⟩
def ya (v:a8):(mQ v).sm:=by simp[mQ,a8.sm]
def pJ (v:a8)(p:Int):(eA v p).sm:=by unfold eA;split<;>(try split)<;>simp[a8.sm]
def FK (v:a8)(p:Int):(fk v p).1.sm:=by unfold fk;split<;>(try split)<;>first|exact rT|exact pJ v p
def y7 (v:a8):∀n,(uu v n).1.sm
 |0=>rT
 |n+1=>by
  rw[uu];split
  .exact FK v _
  .exact y7 v n
def GA (v:a8):(hZ v).1.sm:=by
 unfold hZ;repeat' split
 all_goals first|exact rT|exact ya v|exact y7 v _
def HX {v:a8}(h:jD v=true):(0<=v.major/\v.major<=9999)/\(0<=v.minor/\v.minor<=9999)/\0<=v.patch/\v.patch<=9999:=by
 simp only[jD,AI,bo,bX]at h;omega
def xl {l:List Cut}{c:Cut}(hl:mX l)(hc:c.sm):mX (rY l c):=by
 unfold rY;split
 .exact hl
 .intro x hx;simp only[List.mem_append,bl]at hx;rcases hx with(hx|rfl)|hx
  .exact hl _ (BI hx)
  .exact hc
  .exact hl _ (List.mem_of_mem_drop hx)
def tw (l:List Cut)(c:Cut):(rY l c).length<=l.length+1:=by
 unfold rY;split<;>simp<;>omega
def tC {l:List Span}(hl:bB l):∀{i:Nat},i<=l.length->mX (lz l i)
 |0,_=>by intro x hx;simp[lz]at hx;rcases hx with rfl|rfl;exact nY;exact pZ
 |i+1,h=>xl (xl (tC hl ae) (hl _ (aj ae)).1) (hl _ (aj ae)).2
def pM {l:List Span}(hl:bB l):mX (cC l):=tC hl (aI _)
def qA (l:List Span):∀i,(lz l i).length<=2+2*i
 |0=>by simp[lz]
 |i+1=>by
  have h1:=qA l i;have h2:=tw (lz l i) l[i]!.f;have h3:=tw (rY (lz l i) l[i]!.f) l[i]!.t;simp only[lz];omega
def nX (l:List Span):(cC l).length<=2+2*l.length:=qA l _
def Gg {l:List Span}{f t:Cut}(hl:bB l)(hf:f.sm)(ht:t.sm):bB (kd l f t):=by
 unfold kd;split
 .rename_i h;intro x hx;rcases List.mem_or_eq_of_mem_set hx with hx|rfl
  .exact hl x hx
  .exact⟨(hl _ (aj ae)).1,ht⟩
 .intro x hx;rcases List.mem_append.1 hx with hx|hx
  .exact hl x hx
  .obtain rfl:=bl.1 hx;exact⟨hf,ht⟩
def qG (l:List Span)(f t:Cut):(kd l f t).length<=l.length+1:=by
 unfold kd;split<;>simp
def nN {p:Cut->Cut->Bool}{c:List Cut}(hc:mX c):∀{i:Nat},i<c.length\/i=0->bB (dZ p c i)
 |0,_=>fun _ h=>by cases h
 |i+1,h=>by
  rw[dZ];split
  .exact Gg (nN hc ae) (hc _ (aj ae)) (hc _ (aj ae))
  .exact nN hc ae
def og {p:Cut->Cut->Bool}{c:List Cut}:∀i,(dZ p c i).length<=i
 |0=>by simp[dZ]
 |i+1=>by
  have h1:=og (p:=p) (c:=c) i;rw[dZ];split
  .have:=qG (dZ p c i) c[i]! c[i+1]!;omega
  .omega
def zF {p:Cut->Cut->Bool}{c:List Cut}(hc:mX c):bB (zE p c):=nN hc ae
def wJ {p:Cut->Cut->Bool}{c:List Cut}:(zE p c).length<=c.length:=by
 have:=og (p:=p) (c:=c) (c.length-1);unfold zE;omega
def FG {a b:List Span}(ha:bB a)(hb:bB b):bB (a++b):=fun x hx=>(List.mem_append.1 hx).elim (ha x) (hb x)
def iZ:bB []:=fun _ h=>by cases h
def GS {a b:List Span}(ha:bB a)(hb:bB b):bB (Fi a b):=by
 unfold Fi nC;split
 .exact iZ
 .split
  .exact zF (pM (FG ha hb))
  .exact iZ
def Co {a:List Span}(ha:bB a):bB (sf a):=by
 unfold sf;split
 .exact iZ
 .exact zF (pM ha)
def Mj {a b:bp}(ha:a.sm)(hb:b.sm):(GU a b).sm:=by
 unfold GU;split
 .exact⟨iZ,iZ⟩
 .exact⟨GS ha.1 hb.1,GS ha.2 hb.2⟩
def Jj {a:bp}(ha:a.sm):(vP a).sm:=by
 unfold vP;split
 .exact⟨iZ,iZ⟩
 .exact⟨Co ha.1,Co ha.2⟩
def D5 (v:a8):(m7 v).sm:=by
 unfold m7;split
 .exact nY
 .exact sJ (ya v)
def IS (v:a8):(yF v).sm:=by
 unfold yF;split
 .exact pZ
 .exact sJ (GA _)
def vZ {v:a8}(h:v.sm):(bF v).sm:=by
 unfold bF;split
 .exact⟨iZ,iZ⟩
 .split
  .exact⟨iZ,fun x hx=>by obtain rfl:=bl.1 hx;exact⟨sJ h,sJ h⟩⟩
  .exact⟨fun x hx=>by obtain rfl:=bl.1 hx;exact⟨D5 v,IS v⟩,iZ⟩
def BO:vF.sm:=⟨fun x hx=>by obtain rfl:=bl.1 hx;exact⟨nY,pZ⟩,fun x hx=>by obtain rfl:=bl.1 hx;exact⟨nY,pZ⟩⟩
def MO {xs:List Span}{k:Nat}{t:Cut}(h:k<xs.length):(xs.map Span.D).set k (qh ((xs.map Span.D).getD k .any) 14 7 7 (Cut.D t))=(xs.set k ⟨xs[k]!.f,t⟩).map Span.D:=by
 rw[getD_map h,List.map_set];rfl
structure Key where
 n:dn
 f:dn
 deriving Inhabited
def Key.D (k:Key):D:=.agg [.str k.n,.str k.f]
def oH (n:Int)(w:Want):Bool:=decide (0<w.u)&&decide (w.u<n)&&mA w.s
def pD (n:Int)(l:List Want):Bool:=dj (fun i=>oH n l[i]!) 0 l.length
def oC (n:Int)(l:List Want):Bool:=pD n l&&(decide (0<l.length)&&decide (l.length<=24))
def nd (n:Int)(c:dJ):Bool:=decide (c.needs.length<=24)&&decide (c.bars.length<=24)&&dj (fun i=>oC n c.needs[i]!) 0 c.needs.length&&pD n c.bars
def uD (a b:Key):Int:=if kB a.n b.n≠0 then kB a.n b.n else kB a.f b.f
def w9 (a b:bP):Bool:=Op.bytesLess a.name b.name ||(decide (a.name=b.name)&&Op.bytesLess a.feat b.feat)
def rB (n:Int)(cs:List dJ)(k:Nat):Bool:=jD cs[k]!.v&&nd n cs[k]! && !(decide (0<k)&&decide (0<=j8 cs[k-1]!.v cs[k]!.v))
def ve (us:List bP)(i:Nat):Bool:=!(decide (0<i)&&decide (us[i]!.name=[]))&& !(decide (1<i)&& !w9 us[i-1]! us[i]!)&&decide (us[i]!.cands.length<=16)&&dj (rB us.length us[i]!.cands) 0 us[i]!.cands.length
def Cd (us:List bP):Bool:=decide (us[0]!.name=[])&&decide (us[0]!.feat=[])&&decide (us[0]!.cands.length=1)
def yi (w:bG):Bool:=decide (1<=w.us.length)&&decide (w.us.length<=48)&&Cd w.us&&dj (ve w.us) 0 w.us.length
def Gr (a:dn):Op.bytesLess a a=false:=by
 induction a with
 |nil=>rfl
 |cons x r ih=>unfold Op.bytesLess;simp[ih]
def EG (a b:bP):decide (0<=uD ⟨a.name,a.feat⟩ ⟨b.name,b.feat⟩)=!w9 a b:=by
 unfold uD w9 kB;have h:=Gr b.name;by_cases h1:Op.bytesLess a.name b.name=true<;>by_cases h2:a.name=b.name<;>by_cases h3:Op.bytesLess a.feat b.feat=true<;>by_cases h4:a.feat=b.feat<;>simp_all
def Pp (a b:Cut):Cut.D a=Cut.D b↔a=b:=by
 obtain⟨e,⟨v1,v2,v3,v4,v5⟩,x⟩:=a;obtain⟨e',⟨w1,w2,w3,w4,w5⟩,x'⟩:=b;simp[Cut.D,and_assoc]
def Pq (a b:List Cut):a.map Cut.D=b.map Cut.D↔a=b:=se Pp a b
def Ku (a b:Span):Span.D a=Span.D b↔a=b:=by
 obtain⟨⟨e,⟨v1,v2,v3,v4,v5⟩,x⟩,⟨f,⟨u1,u2,u3,u4,u5⟩,y⟩⟩:=a;obtain⟨⟨e',⟨w1,w2,w3,w4,w5⟩,x'⟩,⟨f',⟨t1,t2,t3,t4,t5⟩,y'⟩⟩:=b;simp[Span.D,and_assoc]
def AO (a b:List Span):a.map Span.D=b.map Span.D↔a=b:=se Ku a b
def iSet (a b:bp):bp.D a=bp.D b↔a=b:=by cases a;cases b;simp[bp.D,AO]
def Kv (a b:Want):Want.D a=Want.D b↔a=b:=by
 obtain⟨u,⟨x,y⟩⟩:=a;obtain⟨u',⟨x',y'⟩⟩:=b;simp[Want.D,AO]
def AP (a b:List Want):a.map Want.D=b.map Want.D↔a=b:=se Kv a b
def Kw (a b:kA):dH a=dH b↔a=b:=by simp[dH,AP]
def Gk (a b:List kA):a.map dH=b.map dH↔a=b:=se Kw a b
def Po (a b:dJ):dJ.D a=dJ.D b↔a=b:=by
 obtain⟨⟨v1,v2,v3,v4,v5⟩,s,x,y⟩:=a;obtain⟨⟨w1,w2,w3,w4,w5⟩,s',x',y'⟩:=b;simp[dJ.D,Gk,AP,and_assoc]
def Ks (a b:List dJ):a.map dJ.D=b.map dJ.D↔a=b:=se Po a b
def Pt (a b:bP):bP.D a=bP.D b↔a=b:=by cases a;cases b;simp[bP.D,Ks]
def Ce (a b:List bP):a.map bP.D=b.map bP.D↔a=b:=se Pt a b
def iWld (a b:bG):bG.D a=bG.D b↔a=b:=by cases a;cases b;simp[bG.D,Ce]
def Ps (a b:bM):bM.D a=bM.D b↔a=b:=by cases a;cases b;simp[bM.D]
def Gj (a b:List bM):a.map bM.D=b.map bM.D↔a=b:=se Ps a b
def Kt (a b:aq):aq.D a=aq.D b↔a=b:=by cases a;cases b;simp[aq.D,Gj]
def AN (a b:List aq):a.map aq.D=b.map aq.D↔a=b:=se Kt a b
def LW (a b:aY):aY.D a=aY.D b↔a=b:=by
 obtain⟨⟨x⟩,y,z⟩:=a;obtain⟨⟨x'⟩,y',z'⟩:=b;simp[aY.D,Ce,LX,AN]
def iKey (a b:Key):Key.D a=Key.D b↔a=b:=by cases a;cases b;simp[Key.D]
def iTag (a b:Bool):((bif a then 929 else 933)=(bif b then 929 else 933:Nat))↔a=b:=by cases a<;>cases b<;>simp
def iGs (a b:Gs):Gs.D a=Gs.D b↔a=b:=by cases a;cases b;simp[Gs.D,LX]
def Ph {A:FT->Prop}(h:A (fun d ds v s=>A fun d' ds' v' s'=>d'=d->ds'=ds->v=v'/\s=s'):=by
 (repeat' first|apply And.intro|intro _)
 all_goals rename_i e' e
 all_goals (try simp only[ru,D.str.injEq,D.int.injEq,D.bool.injEq,D.sl.injEq,iGs,Pr,iU8,BH,LY,b8,cd]at e e')
 all_goals first|rfl|(simp only[e,e'];done)|simp_all):As (tV A):=IX h
def D7 (m:Int)(i:Nat):Bool:=decide (IntKind.i64.wrap ((BitVec.ofInt 64 (m.fdiv (2^(min (i:Int).toNat 64))))&&&(BitVec.ofInt 64 1)).toNat=1)
def sO (m:Int)(vs:List a8):Nat->bp
 |0=>uw
 |i+1=>if D7 m i=true then GU (sO m vs i) (bF vs[i]!)else sO m vs i
def sk (g:Gs)(vs:List a8):bp:=if g.br.val 6=0 then vF else if g.br.val 6=1 then vP (sO (g.val 8) vs vs.length)else sO (g.val 8) vs vs.length
def cw (g:Gs)(n:Nat)(vs:Nat->List a8):Want:=⟨1+g.val ((n:Int) -1),sk g.br (vs (1+g.val ((n:Int) -1)).toNat)⟩
def Gs.ef (g:Gs):Gs:=g.br.br.br
def iD (n:Nat)(vs:Nat->List a8):Nat->Gs->List kA->List kA×Gs
 |0,g,acc=>(acc,g)
 |k+1,g,acc=>if g.ef.val 3=0 then iD n vs k g.ef.br.ef (acc++[[cw g n vs,cw g.ef.br n vs]])else iD n vs k g.ef.br (acc++[[cw g n vs]])
def ax (g:Gs)(n:Nat)(vs:Nat->List a8)(most:Int):List kA×Gs:=iD n vs (g.val (most+1)).toNat g.br []
def oq (n:Nat)(s:bp):Prop:=s.sm/\s.rel.length<=n/\s.pr.length<=n
def oq.s {n:Nat}{s:bp}(h:oq n s)(hn:n<=1000):Aw s:=⟨⟨h.1.1,dQ h.2.1 hn⟩,⟨h.1.2,dQ h.2.2 hn⟩⟩
def oq.mono {n k:Nat}{s:bp}(h:oq n s)(hn:n<=k):oq k s:=⟨h.1,dQ h.2.1 hn,dQ h.2.2 hn⟩
def Jh {n:Nat}:oq n uw:=⟨⟨iZ,iZ⟩,Nat.zero_le _,Nat.zero_le _⟩
def pP {v:a8}(h:v.sm):oq 1 (bF v):=by
 refine⟨vZ h, ?_, ?_⟩<;>(unfold bF;split;exact Nat.zero_le _;split<;>simp)
def Cu (a b:List Span):(Fi a b).length<=2+2*(a.length+b.length):=by
 unfold Fi nC;split
 .exact Nat.zero_le _
 .split
  .have h1:=wJ (p:=oU (a++b)) (c:=cC (a++b));have h2:=nX (a++b);simp only[cj]at h2;dsimp only;omega
  .exact Nat.zero_le _
def zb (a:List Span):(sf a).length<=2+2*a.length:=by
 unfold sf;split
 .exact Nat.zero_le _
 .have h1:=wJ (p:=fun x y=>!oU a x y) (c:=cC a);have h2:=nX a;omega
def PB {a b:bp}{n k:Nat}(ha:oq n a)(hb:oq k b):oq (2+2*(n+k)) (GU a b):=by
 refine⟨Mj ha.1 hb.1, ?_, ?_⟩<;>unfold GU<;>split
 .exact Nat.zero_le _
 .have:=Cu a.rel b.rel;have:=ha.2.1;have:=hb.2.1;dsimp only;omega
 .exact Nat.zero_le _
 .have:=Cu a.pr b.pr;have:=ha.2.2;have:=hb.2.2;dsimp only;omega
def Ma {a:bp}{n:Nat}(ha:oq n a):oq (2+2*n) (vP a):=by
 refine⟨Jj ha.1, ?_, ?_⟩<;>unfold vP<;>split
 .exact Nat.zero_le _
 .have:=zb a.rel;have:=ha.2.1;dsimp only;omega
 .exact Nat.zero_le _
 .have:=zb a.pr;have:=ha.2.2;dsimp only;omega
def KC {m:Int}{vs:List a8}(hv:∀v∈vs,v.sm):∀{k:Nat},k<=vs.length->oq (4*2^k-4) (sO m vs k)
 |0,_=>Jh
 |k+1,h=>by
  have ih:=KC (m:=m) hv (show k<=vs.length by omega);have h2:4*2^(k+1)=8*2^k:=by rw[Nat.pow_succ];omega
  have h1:1<=2^k:=Nat.one_le_two_pow;rw[sO];split
  .exact(PB ih (pP (hv _ (aj ae)))).mono ae
  .exact ih.mono ae
def LD:oq 1 vF:=⟨BO,bL,bL⟩
def GR {m:Int}{vs:List a8}(hv:∀v∈vs,v.sm)(h4:vs.length<=4){k:Nat}(hk:k<=vs.length):oq 60 (sO m vs k):=(KC hv hk).mono (by
 have:2^k<=2^4:=Nat.pow_le_pow_right bL ae;omega)
def MF {g:Gs}{vs:List a8}(hv:∀v∈vs,v.sm)(h4:vs.length<=4):oq 122 (sk g vs):=by
 have h:=GR (m:=g.val 8) hv h4 (aI _);unfold sk;split
 .exact LD.mono bL
 .split
  .exact Ma h
  .exact h.mono bL
inductive NF where
 |nil|sl (l:List kA)|own (k:Nat)
 deriving Inhabited
inductive BF where
 |nil|sl (l:List Want)|own (k:Nat)
 deriving Inhabited
def NF.D (e:Nat):NF->D
 | .nil=>.aA
 | .sl l=>.sl 1 (l.map dH)
 | .own k=>.own e 1 0 k
def BF.D (e:Nat):BF->D
 | .nil=>.aA
 | .sl l=>.sl 3 (l.map Want.D)
 | .own k=>.own e 3 0 k
structure CW where
 v:a8
 sh:Int
 n:NF
 b:BF
 deriving Inhabited
def CW.D (e:Nat)(c:CW):D:=.agg [.int .i64 c.v.major,.int .i64 c.v.minor,.int .i64 c.v.patch,.str c.v.pre,.str c.v.build,.int .i64 c.sh,c.n.D e,c.b.D e]
def NF.pl:NF->Bool
 | .own _=>false
 |_=>true
def BF.pl:BF->Bool
 | .own _=>false
 |_=>true
def CW.pl (c:CW):Bool:=c.n.pl&&c.b.pl
def EB (l:List Want):aL (l.map Want.D)=true:=bQ (fun _=>by simp only[Want.D,D.a7,aL,eO]) _
def EA (r:kA):(dH r).a7=true:=by simp only[dH,D.a7]
def ib (l:List kA):aL (l.map dH)=true:=bQ EA _
def CW.a7 {e:Nat}{c:CW}(h:c.pl=true):(c.D e).a7=true:=by
 obtain⟨v,sh,n,b⟩:=c;cases n<;>cases b<;>first|(simp[CW.pl,NF.pl,BF.pl]at h;done)|rfl
theorem CW.rn {e e' lo:Nat}{σ:List (Nat×Nat)}(h:eS lo σ e=some e')(c:CW):jF lo σ (c.D e)=some (c.D e'):=by
 obtain⟨v,sh,n,b⟩:=c;cases n<;>cases b<;>simp[CW.D,NF.D,BF.D,jF,gU,qe,h]
def dk {e e' lo:Nat}{σ:List (Nat×Nat)}(h:eS lo σ e=some e'):∀xs:List CW,gU lo σ (xs.map (CW.D e))=some (xs.map (CW.D e'))
 |[]=>rfl
 |c::r=>by simp only[List.map_cons,gU,CW.rn h c,dk h r]
def CW.Pk {l e k:Nat}{es:List Abs.D}(h:e≠l)(c:CW):eR l k es (c.D e)=c.D e:=by
 obtain⟨v,sh,n,b⟩:=c;cases n<;>cases b<;>simp[CW.D,NF.D,BF.D,eR,fG,h]
def fE {l e k:Nat}{es:List D}(h:e≠l):∀xs:List CW,fG l k es (xs.map (CW.D e))=xs.map (CW.D e)
 |[]=>rfl
 |c::r=>by simp only[List.map_cons,fG,CW.Pk (es:=es) (k:=k) h c,fE h r]
def CW.pl_e {e e':Nat}{c:CW}(h:c.pl=true):c.D e=c.D e':=by
 obtain⟨v,sh,n,b⟩:=c;cases n<;>cases b<;>first|(simp[CW.pl,NF.pl,BF.pl]at h;done)|rfl
def sI {e e':Nat}{xs:List CW}(h:∀c∈xs,c.pl=true):xs.map (CW.D e)=xs.map (CW.D e'):=List.map_congr_left fun c hc=>CW.pl_e (h c hc)
def ca {e:Nat}:∀{xs:List CW},(∀c∈xs,c.pl=true)->aL (xs.map (CW.D e))=true
 |[],_=>rfl
 |c::r,h=>by simp only[List.map_cons,aL,CW.a7 (h c (.head _)),ca fun x hx=>h x (.tail _ hx),eO]
def uc {α β:Type} [Inhabited α] [Inhabited β]{f:α->β}{xs:List α}{i:Nat}(h:i<xs.length):(xs.map f)[i]! =f xs[i]! :=by
 simp[List.getElem!_eq_getElem?_getD,h]
def UD (nm ft:Nat->dn)(ln:Nat->Nat)(j:Nat):D:=.agg [.str (nm j),.str (ft j),.own (2+j) 8 0 (ln j)]
def UB (n:Nat)(nm ft:Nat->dn)(ln:Nat->Nat):List D:=(List.range n).map (UD nm ft ln)
def j3 {n i:Nat}(h:i<n):(List.range n)[i]! =i:=by
 simp[List.getElem!_eq_getElem?_getD,h]
def m6 {l k n:Nat}{es:List D}{nm ft:Nat->dn}{ln:Nat->Nat}(h:8≠k):fG l k es (UB n nm ft ln)=UB n nm ft ln:=by
 unfold UB;generalize List.range n=r;induction r with
 |nil=>rfl
 |cons a r ih=>simp only[List.map_cons,fG,ih,UD,eR,h,cz,cA,aN]
def iN {lo n:Nat}{nm ft:Nat->dn}{ln:Nat->Nat}(σ:List (Nat×Nat))(h:∀j,j<n->eS lo σ (2+j)=some (2+j)):gU lo σ (UB n nm ft ln)=some (UB n nm ft ln):=by
 unfold UB;have h2:∀j∈List.range n,eS lo σ (2+j)=some (2+j):=fun j hj=>h j (List.mem_range.1 hj)
 revert h2;generalize List.range n=r;intro h2;induction r with
 |nil=>rfl
 |cons a r ih=>
  have:=h2 a (.head _);simp only[List.map_cons,gU,UD,jF,qe,this,ih fun j hj=>h2 j (.tail _ hj)]
def gD {a b:bA}{r:List (Nat×bA)}(cs:Nat->List D){v:Nat}(h:v<8):look ((0,a)::(1,b)::(2,.buf 8 (cs 0))::(3,.buf 8 (cs 1))::(4,.buf 8 (cs 2))::(5,.buf 8 (cs 3))::(6,.buf 8 (cs 4))::(7,.buf 8 (cs 5))::(8,.buf 8 (cs 6))::(9,.buf 8 (cs 7))::r) (2+v)=some (.buf 8 (cs v)):=by
 match v,h with
 |0,_=>rfl
 |1,_=>rfl
 |2,_=>rfl
 |3,_=>rfl
 |4,_=>rfl
 |5,_=>rfl
 |6,_=>rfl
 |7,_=>rfl
def IN (m:List (Nat×bA))(g:Gs)(n:Nat)(nm ft:Nat->dn)(cs:Nat->List CW)(kk:Nat)(E:List D):Prop:=
 look m 0=some (.buf 2 [g.D])/\look m 1=some (.buf 3 (UB n nm ft fun j=>(cs j).length))/\(∀v,v<8->look m (2+v)=some (.buf 8 ((cs v).map (CW.D 10))))/\look m 10=some (.buf kk E)
def eight {P:Nat->Prop}(h0:P 0)(h1:P 1)(h2:P 2)(h3:P 3)(h4:P 4)(h5:P 5)(h6:P 6)(h7:P 7):∀v,v<8->P v
 |0,_=>h0
 |1,_=>h1
 |2,_=>h2
 |3,_=>h3
 |4,_=>h4
 |5,_=>h5
 |6,_=>h6
 |7,_=>h7
def Ft (n:Nat)(cs:Nat->List CW):Prop:=(2<=n/\n<=8)/\∀t,(cs t).length<=4/\∀c∈cs t,c.v.sm
def gr (cs:Nat->List CW)(t:Nat):List a8:=(cs t).map CW.v
def fW (l k:Nat)(es:List D)(rs:List kA):fG l k es (rs.map dH)=rs.map dH:=iz l k es _ (ib rs)
def e8 (l k:Nat)(es:List D)(rs:List Want):fG l k es (rs.map Want.D)=rs.map Want.D:=iz l k es _ (EB rs)
def Want.fz (l k:Nat)(es:List Abs.D)(w:Want):eR l k es w.D=w.D:=oT l k es _ (by simp only[Want.D,D.a7,aL,eO])
def Gs.fz (l k:Nat)(es:List Abs.D)(g:Gs):eR l k es g.D=g.D:=oT l k es _ (by simp only[Gs.D,D.a7,aL,eO])
def HC {lo l:Nat}{σ:List (Nat×Nat)}(h:l<lo)(hs:(σ.all fun p=>Nat.ble lo p.1)=true:=by rfl):eS lo σ l=some l:=by
 induction σ with
 |nil=>simp[eS,Nat.blt,show Nat.ble (l+1) lo=true from ed]
 |cons a r ih=>
  simp only[List.all_cons,bo,Nat.ble_eq]at hs;have hb:Nat.beq a.1 l=false:=by
   cases e:Nat.beq a.1 l with
   |false=>rfl
   |true=>have:=Nat.eq_of_beq_eq_true e;omega
  simp only[eS,hb,cond_false];exact ih (by simpa using hs.2)
structure RU where
 name:dn
 feat:dn
 cs:List CW
 deriving Inhabited
def aM (v:a8):CW:=⟨v,0,.nil,.nil⟩
def vu:CW:=⟨zV,-1,.nil,.nil⟩
def bw:List dn:=[[97,110,116],[98,101,101],[99,111,119],[100,111,103],[101,108,107]]
def uj:bw.length=5:=rfl
def bg (m:Int):Nat->List a8
 |0=>[]
 |i+1=>if D7 m i=true then bg m i++[cE[i]!]else bg m i
def eP (vs:List a8):Nat->Gs->List a8->List a8×Gs
 |0,g,acc=>(acc,g)
 |r+1,g,acc=>eP vs r g.br (if 0<g.val 3 then acc++[vs[vs.length-(r+1)]!]else acc)
def eH (few:Int):Nat->Gs->List RU->List RU×Gs
 |0,g,us=>(us,g.br)
 |r+1,g,us=>
  if((4-r:Nat):Int)<1+g.val few then
   if 4-r<2/\g.br.br.val 3=0 then
    eH few r (eP (bg (g.br.val 16) 4) (bg (g.br.val 16) 4).length g.ef []).2
     ((us++[⟨bw[4-r]!,[],(bg (g.br.val 16) 4).map aM⟩])++[⟨bw[4-r]!,[102],(eP (bg (g.br.val 16) 4) (bg (g.br.val 16) 4).length g.ef []).1.map aM⟩])
   else eH few r (if 4-r<2 then g.ef else g.br.br) (us++[⟨bw[4-r]!,[],(bg (g.br.val 16) 4).map aM⟩])
  else(us,g.br)
def sn:List RU:=[⟨[],[],[vu]⟩]
def ec (g:Gs)(few:Int):List RU×Gs:=eH few 5 g sn
def vV (us:List RU):List D:=UB us.length (fun j=>us[j]!.name) (fun j=>us[j]!.feat) (fun j=>us[j]!.cs.length)
def UM (g:Gs)(us:List RU):List (Nat×bA):=[(0,.buf 2 [g.D]),(1,.buf 3 (vV us)),(2,.buf 8 (us[0]!.cs.map (CW.D 10))),(3,.buf 8 (us[1]!.cs.map (CW.D 10))),(4,.buf 8 (us[2]!.cs.map (CW.D 10))),
 (5,.buf 8 (us[3]!.cs.map (CW.D 10))),(6,.buf 8 (us[4]!.cs.map (CW.D 10))),(7,.buf 8 (us[5]!.cs.map (CW.D 10))),(8,.buf 8 (us[6]!.cs.map (CW.D 10))),(9,.buf 8 (us[7]!.cs.map (CW.D 10)))]
def ju {us:List RU}{x:RU}{t:Nat}(h:t<us.length):(us++[x])[t]! =us[t]! :=by
 simp[List.getElem!_eq_getElem?_getD,List.getElem?_append_left h]
def jv {us:List RU}{x:RU}{t:Nat}(h:t=us.length):(us++[x])[t]! =x:=by
 subst h;simp[List.getElem!_eq_getElem?_getD]
def pS {us:List RU}{t:Nat}(h:us.length<=t):us[t]! =default:=by
 simp[List.getElem!_eq_getElem?_getD,h]
def IK (us:List RU)(x:RU):vV (us++[x])=vV us++[.agg [.str x.name,.str x.feat,.own (2+us.length) 8 0 x.cs.length]]:=by
 unfold vV UB;rw[cj,List.length_singleton,List.range_succ,List.map_append];congr 1
 .apply List.map_congr_left;intro j hj;simp only[UD,ju (List.mem_range.1 hj)]
 .simp only[List.map_cons,List.map_nil,UD,jv rfl]
def zD {lo:Nat}{σ:List (Nat×Nat)}:∀{a b a' b':List D},gU lo σ a=some a'->gU lo σ b=some b'->gU lo σ (a++b)=some (a'++b')
 |[],b,a',b',h1,h2=>by simp only[gU,aO]at h1;subst h1;exact h2
 |d::r,b,a',b',h1,h2=>by
  simp only[gU]at h1;split at h1
  .rename_i d' r' e1 e2;obtain rfl:=ba h1;simp only[pF,gU,e1,zD e2 h2]
  .cases h1
def Bz (LU LC p:Nat):List (Nat×Nat):=(LU,1)::(LC,2+p)::(List.range p).map fun t=>(2+t,2+t)
def ez {a b:Nat}(h:a≠b):Nat.beq a b=false:=by
 cases e:Nat.beq a b with
 |false=>rfl
 |true=>exact absurd (Nat.eq_of_beq_eq_true e) h
def KI {lo:Nat}:∀{r:List Nat}{t:Nat},t∈r->eS lo (r.map fun t=>(2+t,2+t)) (2+t)=some (2+t)
 |a::r,t,h=>by
  simp only[List.map_cons,eS];cases e:Nat.beq (2+a) (2+t)with
  |true=>rw[cond_true,Nat.eq_of_beq_eq_true e]
  |false=>
   rw[cond_false];rcases dr.1 h with rfl|h
   .simp at e
   .exact KI h
def HI {LU LC p t:Nat}(hU:10<=LU)(hC:10<=LC)(hp:p<8)(ht:t<p):eS 1 (Bz LU LC p) (2+t)=some (2+t):=by
 simp only[Bz,eS,ez (show LU≠2+t by omega),ez (show LC≠2+t by omega),cond_false];exact KI (List.mem_range.2 ht)
def MI {LU LC p:Nat}(hU:10<=LU)(hC:10<=LC)(hne:LU≠LC)(hp:p<8):eE 1 10 (Bz LU LC p)=true:=by
 have b1:=ez hne;have b2:=ez (Ne.symm hne);have u2:=ez (show 2≠LU by omega);have u3:=ez (show 3≠LU by omega);have u4:=ez (show 4≠LU by omega);have u5:=ez (show 5≠LU by omega);have u6:=ez (show 6≠LU by omega);have u7:=ez (show 7≠LU by omega);have u8:=ez (show 8≠LU by omega);have c2:=ez (show 2≠LC by omega);have c3:=ez (show 3≠LC by omega);have c4:=ez (show 4≠LC by omega);have c5:=ez (show 5≠LC by omega);have c6:=ez (show 6≠LC by omega);have c7:=ez (show 7≠LC by omega);have c8:=ez (show 8≠LC by omega)
 match p,hp with
 |0,_|1,_|2,_|3,_|4,_|5,_|6,_|7,_=>
  simp only[Bz,List.range,List.range.loop,List.map_cons,List.map_nil,eE,List.all_cons,List.all_nil,b1,b2,u2,u3,u4,u5,u6,u7,u8,c2,c3,c4,c5,c6,c7,c8,Nat.reduceAdd,Bool.not_false,nQ,eO];rfl
def PS {LU LC p t:Nat}(hp:p<t)(h8:t<8):((Bz LU LC p).all fun q=>!Nat.beq q.2 (2+t))=true:=by
 simp only[Bz,List.all_cons,bo,eC,List.all_eq_true,fD,List.mem_range];refine⟨ez ae,ez ae, ?_⟩;rintro q ⟨j,hj,rfl⟩;exact ez (by simp only;omega)
def Pu (r:List Nat):eS 1 (r.map fun t=>(2+t,2+t)) 0=some 0:=by
 induction r with
 |nil=>rfl
 |cons a r ih=>simp only[List.map_cons,eS,ez (show 2+a≠0 by omega),cond_false];exact ih
def Bw {lo k i n l l':Nat}{σ:List (Nat×Nat)}(h:eS lo σ l=some l'):jF lo σ (.own l k i n)=some (.own l' k i n):=by simp only[jF,qe,h]
def CA {a b k:Nat}{c d:Nat}{r:List (Nat×Nat)}(h:eS 1 r 0=some 0)(ha:a≠0)(hb:c≠0):jF 1 ((a,b)::(c,d)::r) (.ptr 0 k 0 0)=some (.ptr 0 k 0 0):=by simp only[jF,qe,eS,ez ha,ez hb,cond_false,h]
def PR {LU LC p:Nat}(hU:10<=LU)(hC:10<=LC):eS 1 (Bz LU LC p) 0=some 0:=by
 simp only[Bz,eS,ez (show LU≠0 by omega),ez (show LC≠0 by omega),cond_false];generalize List.range p=r;induction r with
 |nil=>rfl
 |cons a r ih=>simp only[List.map_cons,eS,ez (show 2+a≠0 by omega),cond_false];exact ih
def RU.pl (u:RU):Prop:=∀c∈u.cs,c.pl=true
def wR {nx LU LC:Nat}{g:Gs}{us:List RU}{x:RU}{m:List (Nat×bA)}{env env':List bH}(hp:us.length<8)(hU:10<=LU)(hC:10<=LC)(hne:LU≠LC)(hpl:∀u∈us,u.pl)(hx:x.pl)(h0:look m 0=some (.buf 2 [g.D]))
  (h1:look m LU=some (.buf 3 (vV us++[.agg [.str x.name,.str x.feat,.own LC 8 0 x.cs.length]]))) (h2:look m LC=some (.buf 8 (x.cs.map (CW.D 10)))) (hcs:∀t,t<us.length->look m (2+t)=some (.buf 8 (us[t]!.cs.map (CW.D 10))))
  (he:∀r,eS 1 r 0=some 0->aJ 1 ((LU,1)::(LC,2+us.length)::r) env env'):aP 1 env ⟨nx,m⟩ env' ⟨10,UM g (us++[x])⟩:=by
 refine aP.to (Bz LU LC us.length) rfl (MI hU hC hne hp) (he _ (Pu _)) ?_;have hLC:eS 1 (Bz LU LC us.length) LC=some (2+us.length):=by simp only[Bz,eS,ez hne,cond_false,Nat.beq_refl,cond_true]
 have ent:∀t,t<8->((∃l b,eS 1 (Bz LU LC us.length) l=some (2+t)/\look m l=some b/\lQ 1 (Bz LU LC us.length) b (.buf 8 ((us++[x])[t]!.cs.map (CW.D 10))))\/
   (Nat.ble 1 (2+t)=true/\Nat.blt (2+t) 10=true/\(Bz LU LC us.length).all (fun p=>!Nat.beq p.2 (2+t))=true/\∃k,bA.buf 8 ((us++[x])[t]!.cs.map (CW.D 10))=.buf k [])):=by
  intro t ht;rcases Nat.lt_trichotomy t us.length with h|h|h
  .exact .inl ⟨2+t,_,HI hU hC hp h,hcs t h,rfl,.inl ⟨by rw[ju h],ca (hpl _ (aj h))⟩⟩
  .subst h;exact .inl ⟨LC,_,hLC,h2,rfl,.inl ⟨by rw[jv rfl],ca hx⟩⟩
  .refine .inr ⟨by rw[Nat.ble_eq];omega,by rw[Nat.blt,Nat.ble_eq];omega,PS h ht,8, ?_⟩;rw[pS ed];rfl
 refine⟨.inl ⟨0,_,PR hU hC,h0,rfl,.inl ⟨rfl,rfl⟩⟩,.inl ⟨LU,_,by simp only[Bz,eS,Nat.beq_refl,cond_true],h1,rfl,.inr (.inl ?_)⟩,ent 0 bL,ent 1 bL,ent 2 bL,ent 3 bL,ent 4 bL,ent 5 bL,ent 6 bL,ent 7 bL,trivial⟩;rw[IK];refine zD (iN _ fun j hj=>HI hU hC hp hj) ?_;simp only[gU,jF,qe,hLC]
def jY (m:Int):∀i,(bg m i).length<=i
 |0=>aI _
 |i+1=>by
  have:=jY m i;rw[bg];split
  .simp only[cj,List.length_singleton];omega
  .omega
def wT:cE.length=4:=rfl
def pG (m:Int):∀i,i<=4->∀v∈bg m i,v.sm
 |0,_,v,h=>by cases h
 |i+1,hi,v,h=>by
  rw[bg]at h;have hm:∀v∈cE,v.sm:=by
   intro v hv;simp only[cE,dr,dS,or_false]at hv;rcases hv with rfl|rfl|rfl|rfl<;>simp[a8.sm]
  split at h
  .rcases List.mem_append.1 h with h|h
   .exact pG m i ae v h
   .obtain rfl:=bl.1 h;exact hm _ (aj (by rw[wT];omega))
  .exact pG m i ae v h
def eN (vs:List a8):∀c∈vs.map aM,c.pl=true:=by
 intro c hc;obtain⟨v,_,rfl⟩:=fD.1 hc;rfl
def y2 {a:bA}{r:List (Nat×bA)}(cs:Nat->List D){v:Nat}(h:v<8):look ((0,a)::(2,.buf 8 (cs 0))::(3,.buf 8 (cs 1))::(4,.buf 8 (cs 2))::(5,.buf 8 (cs 3))::(6,.buf 8 (cs 4))::(7,.buf 8 (cs 5))::(8,.buf 8 (cs 6))::(9,.buf 8 (cs 7))::r) (2+v)=some (.buf 8 (cs v)):=by
 match v,h with
 |0,_=>rfl
 |1,_=>rfl
 |2,_=>rfl
 |3,_=>rfl
 |4,_=>rfl
 |5,_=>rfl
 |6,_=>rfl
 |7,_=>rfl
def iH {us:List RU}(h:∀u∈us,u.pl)(t:Nat):aL (us[t]!.cs.map (CW.D 10))=true:=by
 rcases cK t us.length with ht|ht
 .exact ca (h _ (aj ht))
 .rw[pS ht];rfl
def GX {us:List RU}{x:RU}(h:∀u∈us,u.pl)(hx:x.pl):∀u∈us++[x],u.pl:=fun u hu=>(List.mem_append.1 hu).elim (h u) fun e=>by obtain rfl:=bl.1 e;exact hx
def lR {lo:Nat}{us:List RU}(σ:List (Nat×Nat))(h:∀j,j<us.length->eS lo σ (2+j)=some (2+j)):gU lo σ (vV us)=some (vV us):=iN σ h
def gG {lo v:Nat}{r:List (Nat×Nat)}(h:v<8):eS lo ((1,1)::(2,2)::(3,3)::(4,4)::(5,5)::(6,6)::(7,7)::(8,8)::(9,9)::r) (2+v)=some (2+v):=by
 match v,h with
 |0,_=>rfl
 |1,_=>rfl
 |2,_=>rfl
 |3,_=>rfl
 |4,_=>rfl
 |5,_=>rfl
 |6,_=>rfl
 |7,_=>rfl
def v7 (vs:List a8):∀r g acc,(eP vs r g acc).1.length<=acc.length+r
 |0,g,acc=>aI _
 |r+1,g,acc=>by
  have:=v7 vs r g.br (if 0<g.val 3 then acc++[vs[vs.length-(r+1)]!]else acc);rw[eP];split at this<;>rename_i h
  .rw[au h];simp only[cj,List.length_singleton]at this;omega
  .rw[ai h];omega
def Gs.wS (g:Gs)(n:Int):(1<=n->0<=g.val n/\g.val n<n)/\(n<1->g.val n=0):=⟨fun h=>gF _ _ h,fun h=>by simp only[Gs.val,ff];rw[au h]⟩
def E3 {few:Int}{i:Nat}{h:Gs}{us:List RU}(h5:i<5)(hl:(i:Int)<1+h.val few):eH few (5-i) h us=
   if i<2/\h.br.br.val 3=0 then
    eH few (4-i) (eP (bg (h.br.val 16) 4) (bg (h.br.val 16) 4).length h.ef []).2
     ((us++[⟨bw[i]!,[],(bg (h.br.val 16) 4).map aM⟩])++[⟨bw[i]!,[102],(eP (bg (h.br.val 16) 4) (bg (h.br.val 16) 4).length h.ef []).1.map aM⟩])
   else eH few (4-i) (if i<2 then h.ef else h.br.br) (us++[⟨bw[i]!,[],(bg (h.br.val 16) 4).map aM⟩]):=by
 obtain⟨r,hr⟩:∃r,5-i=r+1:=⟨4-i,ae⟩
 rw[hr,eH];obtain rfl:r=4-i:=ae;rw[show 4-(4-i)=i by omega,au hl]
def BB {few:Int}{i:Nat}{h:Gs}{us:List RU}(h5:i<=5)(hl:i=5\/¬(i:Int)<1+h.val few):eH few (5-i) h us=(us,h.br):=by
 rcases cK i 5 with h6|h6
 .obtain⟨r,hr⟩:∃r,5-i=r+1:=⟨4-i,ae⟩
  rw[hr,eH];obtain rfl:r=4-i:=ae;rw[show 4-(4-i)=i by omega,ai (by rcases hl with hl|hl;omega;exact hl)]
 .rw[show 5-i=0 by omega,eH]
def F5 {vs:List a8}{j:Nat}{k:Gs}{acc:List a8}(hj:j<vs.length):eP vs (vs.length-j) k acc=eP vs (vs.length-(j+1)) k.br (if 0<k.val 3 then acc++[vs[j]!]else acc):=by
 obtain⟨r,hr⟩:∃r,vs.length-j=r+1:=⟨vs.length-j-1,ae⟩
 rw[hr,eP,<-hr,show vs.length-(vs.length-j)=j by omega,show r=vs.length-(j+1)by omega]
end Go.Abs
