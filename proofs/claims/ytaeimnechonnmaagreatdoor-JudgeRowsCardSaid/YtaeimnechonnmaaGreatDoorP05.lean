/- A part of the proofs. -/
import Derived.IntWalk
import Derived.KernelRfl
import Derived.Lib.TrimUEq
import Derived.Test.YtaeimnechonnmaaGreatDoorP04
set_option linter.all false
set_option maxRecDepth 4000
namespace Go.Abs
section
section
variable {Y:Ctx} {draw:Bool} {r:List GI} {env rs:List bz} {nx:Nat} {m:List (Nat×bB)} {K:List bz->St->Prop} {g:Option (Nat×Bool)} {f:Bool}
def at8 (s:List UInt8)(i:Nat):Int:=((s.getD i 0).toNat:Int)
def Cq (s:List UInt8)(i:Nat):0<=at8 s i/\at8 s i<256:=by
 have:=(s.getD i 0).toNat_lt;unfold at8;omega
def wrap_i64 {a:Int}(h1:-9223372036854775808<=a)(h2:a<=9223372036854775807):IntKind.i64.wrap a=a:=IntWalk.i64_in _ ae
def ki (a b:List UInt8):(a==b)=decide (a=b):=by
 grind
def getD_map {α:Type} [Inhabited α]{q:α->D}{xs:List α}{i:Nat}(h:i<xs.length):(xs.map q).getD i .any=q xs[i]! :=by
 simp[List.getD,h]
def GF (rs:List bz):Option (Nat×Bool)->Bool->Prop
 |none,f=>f=true
 |some (j,w),f=>∃ok b,cn [] rs (.l j)=⟨ok,.bool b⟩/\(ok&&(b==w))=f
def GF.flag (h:GF rs g f):flag rs.reverse g=f/\uf rs.reverse g:=by
 cases g with
 |none=>exact⟨h.symm,trivial⟩
 |some jw=>
  obtain⟨j,w⟩:=jw;obtain⟨ok,b,h1,h2⟩:=h;have h3:rs.reverse.getD j .un=⟨ok,.bool b⟩:=by rw[<-h1,<-jC];rfl
  simp only[Abs.flag,uf,h3,h2,D.isBool];exact⟨trivial,fun _=>trivial⟩
def Dv {i:ay}(hM:i.bU=false)(hF:i.jW draw g=false)(hC:g.isSome=true->i.calm=true)(hg:GF rs g f)(d:D)(ho:f=true->i.dd Y (cn env rs) m)
  (hv:f=true->i.val Y (cn env rs) m (nx+rs.length)=d) (m':List (Nat×bB)) (hm:i.bY Y (cn env rs) m (nx+rs.length)=m')
  (h:(f=true->i.tV draw (cn env rs))->az Y draw r env (⟨f,d⟩::rs) nx m' K):az Y draw (⟨i,g⟩::r) env rs nx m K:=by
 obtain⟨hf,hb⟩:=hg.flag;unfold az;rw[gr hM hF,jC,hf];refine⟨?_,ho,fun ha=>⟨d,by simpa using hv, ?_⟩⟩
 .cases g with
  |none=>trivial
  |some jw=>exact⟨hC rfl,hb⟩
 grind [az]
def eR {i:ay}(hC:i.calm=true)(hg:GF rs g f)(d:D)(ho:f=true->i.dd Y (cn env rs) m)
  (hv:f=true->i.val Y (cn env rs) m (nx+rs.length)=d) (m':List (Nat×bB)) (hm:i.bY Y (cn env rs) m (nx+rs.length)=m')
  (h:(f=true->i.tV draw (cn env rs))->az Y draw r env (⟨f,d⟩::rs) nx m' K):az Y draw (⟨i,g⟩::r) env rs nx m K:=
 Dv (by cases i<;>first|rfl|cases hC) (by simp[ay.jW,hC]) (fun _=>hC) hg d ho hv m' hm h
def bM {i:ay}(hC:i.pure=true)(hg:GF rs g f)(d:D)(ho:f=true->i.dd Y (cn env rs) m)
  (hv:f=true->i.val Y (cn env rs) m (nx+rs.length)=d) 
  (h:(f=true->i.tV draw (cn env rs))->az Y draw r env (⟨f,d⟩::rs) nx m K):az Y draw (⟨i,g⟩::r) env rs nx m K:=
 eR (Bu hC) hg d ho hv m (wj hC) h
def nu {i:ay}(hM:i.bU=false)(d:D)(ho:i.dd Y (cn env rs) m)
  (hv:i.val Y (cn env rs) m (nx+rs.length)=d) (m':List (Nat×bB)) (hm:i.bY Y (cn env rs) m (nx+rs.length)=m')
  (h:i.tV draw (cn env rs)->az Y draw r env (⟨true,d⟩::rs) nx m' K):az Y draw (⟨i,none⟩::r) env rs nx m K:=
 Dv hM (by simp[ay.jW]) (fun h=>by cases h) rfl d (fun _=>ho) (fun _=>hv) m' hm (fun ha=>h (ha rfl))
def Dy {i:ay}{j:Nat}{w:Bool}(hM:i.bU=false)(hC:i.calm=false)(hg:GF rs (some (j,w)) f)(h1:f=true->∃d,i.dd Y (cn env rs) m/\i.val Y (cn env rs) m (nx+rs.length)=d/\∃m',i.bY Y (cn env rs) m (nx+rs.length)=m'/\az Y false r env (⟨true,d⟩::rs) nx m' K)
  (h2:f=false->az Y false r env (⟨false,.any⟩::rs) nx m K):az Y false (⟨i,some (j,w)⟩::r) env rs nx m K:=by
 obtain⟨hf,hb⟩:=hg.flag
 grind [az,pk,ay.jW,jC]
def Lk {x:Src}{fx:Bool}{d:D}(h:az Y draw r env (⟨f,d⟩::rs) nx m K)(hg:GF rs g f:=by exact de)(hx:cn env rs x=⟨fx,d⟩:=by exact rfl)(kx:f=true->fx=true:=by exact b9):az Y draw (⟨.mv x,g⟩::r) env rs nx m K:=
 bM rfl hg _ (fun hf=>by simp[ay.dd,hx,kx hf]) (fun hf=>by simp[ay.val,hx]) (fun ha=>h)
def Ll {x:Src}{fx:Bool}{b:Bool}(h:az Y draw r env (⟨f,.bool (!b)⟩::rs) nx m K)(hg:GF rs g f:=by exact de)(hx:cn env rs x=⟨fx,.bool b⟩:=by exact rfl)(kx:f=true->fx=true:=by exact b9):az Y draw (⟨.un .not x,g⟩::r) env rs nx m K:=
 bM rfl hg _ (fun hf=>by simp[ay.dd,hx,kx hf]) (fun hf=>by simp[ay.val,hx]) (fun ha=>h)
def r_or {c b:Src}{fc fb t y:Bool}(h:az Y draw r env (⟨f,.bool (t ||y)⟩::rs) nx m K)(hg:GF rs g f:=by exact de)(hc:cn env rs c=⟨fc,.bool t⟩:=by exact rfl)(hb:cn env rs b=⟨fb,.bool y⟩:=by exact rfl)(kc:f=true->fc=true:=by exact b9)(kb:f=true->t=false->fb=true:=by intro h1 h2;first|(rw[h2];exact rfl)|(rw[h2,h1];rfl)|(rw[h1,h2];rfl)|simp_all):az Y draw (⟨.pick c (.c (.bool true)) b,g⟩::r) env rs nx m K:=
 bM rfl hg _ (fun hf=>by simp only[ay.dd,hc,hb];exact⟨kc hf,fun _=>rfl,fun e=>kb hf e⟩) (fun hf=>by simp only[ay.val,hc,hb];cases t<;>rfl) (fun _=>h)
def Ld {c a:Src}{fc fa t y:Bool}(h:az Y draw r env (⟨f,.bool (t&&y)⟩::rs) nx m K)(hg:GF rs g f:=by exact de)(hc:cn env rs c=⟨fc,.bool t⟩:=by exact rfl)(ha:cn env rs a=⟨fa,.bool y⟩:=by exact rfl)(kc:f=true->fc=true:=by exact b9)(ka:f=true->t=true->fa=true:=by intro h1 h2;first|(rw[h2];exact rfl)|(rw[h2,h1];rfl)|(rw[h1,h2];rfl)|simp_all):az Y draw (⟨.pick c a (.c (.bool false)),g⟩::r) env rs nx m K:=
 bM rfl hg _ (fun hf=>by simp only[ay.dd,hc,ha];exact⟨kc hf,fun e=>ka hf e,fun _=>rfl⟩) (fun hf=>by simp only[ay.val,hc,ha];cases t<;>rfl) (fun _=>h)
def aI {x y:Src}{fx fy:Bool}{a b:Int}(h:az Y draw r env (⟨f,.int .i64 (a+b)⟩::rs) nx m K)(hg:GF rs g f:=by exact de)(hx:cn env rs x=⟨fx,.int .i64 a⟩:=by exact rfl)(hy:cn env rs y=⟨fy,.int .i64 b⟩:=by exact rfl)(kx:f=true->fx=true:=by exact b9)(ky:f=true->fy=true:=by exact b9)(hb:f=true->-9223372036854775808<=a+b/\a+b<=9223372036854775807:=by exact yI):az Y draw (⟨.bin .add x y,g⟩::r) env rs nx m K:=
 bM rfl hg _ (fun hf=>by simp[ay.dd,hx,hy,kx hf,ky hf,gF]) (fun hf=>by simp only[ay.val,hx,hy,gX];rw[wrap_i64 (hb hf).1 (hb hf).2]) (fun ha=>h)
def er {x y:Src}{fx fy:Bool}{a b:Int}(h:az Y draw r env (⟨f,.int .i64 (a-b)⟩::rs) nx m K)(hg:GF rs g f:=by exact de)(hx:cn env rs x=⟨fx,.int .i64 a⟩:=by exact rfl)(hy:cn env rs y=⟨fy,.int .i64 b⟩:=by exact rfl)(kx:f=true->fx=true:=by exact b9)(ky:f=true->fy=true:=by exact b9)(hb:f=true->-9223372036854775808<=a-b/\a-b<=9223372036854775807:=by exact yI):az Y draw (⟨.bin .sub x y,g⟩::r) env rs nx m K:=
 bM rfl hg _ (fun hf=>by simp[ay.dd,hx,hy,kx hf,ky hf,gF]) (fun hf=>by simp only[ay.val,hx,hy,gX];rw[wrap_i64 (hb hf).1 (hb hf).2]) (fun ha=>h)
def DI {x y:Src}{fx fy:Bool}{k:IntKind}{a b:Int}(v:Int)(h:az Y draw r env (⟨f,.int k v⟩::rs) nx m K)(hg:GF rs g f:=by exact de)(hx:cn env rs x=⟨fx,.int k a⟩:=by exact rfl)(hy:cn env rs y=⟨fy,.int k b⟩:=by exact rfl)(kx:f=true->fx=true:=by exact b9)(ky:f=true->fy=true:=by exact b9)(hb:f=true->k.wrap (a-b)=v):az Y draw (⟨.bin .sub x y,g⟩::r) env rs nx m K:=
 bM rfl hg _ (fun hf=>by simp[ay.dd,hx,hy,kx hf,ky hf,gF]) (fun hf=>by simp only[ay.val,hx,hy,gX];rw[hb hf]) (fun ha=>h)
def uL {x y:Src}{fx fy:Bool}{a b:Int}(h:az Y draw r env (⟨f,.int .i64 (a*b)⟩::rs) nx m K)(hg:GF rs g f:=by exact de)(hx:cn env rs x=⟨fx,.int .i64 a⟩:=by exact rfl)(hy:cn env rs y=⟨fy,.int .i64 b⟩:=by exact rfl)(kx:f=true->fx=true:=by exact b9)(ky:f=true->fy=true:=by exact b9)(hb:f=true->-9223372036854775808<=a*b/\a*b<=9223372036854775807:=by exact yI):az Y draw (⟨.bin .mul x y,g⟩::r) env rs nx m K:=
 bM rfl hg _ (fun hf=>by simp[ay.dd,hx,hy,kx hf,ky hf,gF]) (fun hf=>by simp only[ay.val,hx,hy,gX];rw[wrap_i64 (hb hf).1 (hb hf).2]) (fun ha=>h)
def GC {x y:Src}{fx fy:Bool}{k:IntKind}{a b:Int}(v:Int)(h:az Y draw r env (⟨f,.int k v⟩::rs) nx m K)(hg:GF rs g f:=by exact de)(hx:cn env rs x=⟨fx,.int k a⟩:=by exact rfl)(hy:cn env rs y=⟨fy,.int k b⟩:=by exact rfl)(kx:f=true->fx=true:=by exact b9)(ky:f=true->fy=true:=by exact b9)(hn:f=true->b≠0)(hb:f=true->a.tmod b=v):az Y draw (⟨.bin .rem x y,g⟩::r) env rs nx m K:=
 bM rfl hg _ (fun hf=>by simp[ay.dd,hx,hy,kx hf,ky hf,gF,hn hf]) (fun hf=>by simp only[ay.val,hx,hy,gX];rw[hb hf]) (fun ha=>h)
def tn {x y:Src}{fx fy:Bool}{k k2:IntKind}{a b:Int}(v:Int)(h:az Y draw r env (⟨f,.int k v⟩::rs) nx m K)(hg:GF rs g f:=by exact de)(hx:cn env rs x=⟨fx,.int k a⟩:=by exact rfl)(hy:cn env rs y=⟨fy,.int k2 b⟩:=by exact rfl)(kx:f=true->fx=true:=by exact b9)(ky:f=true->fy=true:=by exact b9)(hn:f=true->0<=b:=by exact sN)(hb:f=true->k.wrap (a*2^(min b.toNat k.bits))=v):az Y draw (⟨.bin .shl x y,g⟩::r) env rs nx m K:=
 bM rfl hg _ (fun hf=>by simp[ay.dd,hx,hy,kx hf,ky hf,gF,hn hf]) (fun hf=>by simp only[ay.val,hx,hy,gX];rw[hb hf]) (fun ha=>h)
def GD {x y:Src}{fx fy:Bool}{k k2:IntKind}{a b:Int}(v:Int)(h:az Y draw r env (⟨f,.int k v⟩::rs) nx m K)(hg:GF rs g f:=by exact de)(hx:cn env rs x=⟨fx,.int k a⟩:=by exact rfl)(hy:cn env rs y=⟨fy,.int k2 b⟩:=by exact rfl)(kx:f=true->fx=true:=by exact b9)(ky:f=true->fy=true:=by exact b9)(hn:f=true->0<=b:=by exact sN)(hb:f=true->a.fdiv (2^(min b.toNat k.bits))=v):az Y draw (⟨.bin .shr x y,g⟩::r) env rs nx m K:=
 bM rfl hg _ (fun hf=>by simp[ay.dd,hx,hy,kx hf,ky hf,gF,hn hf]) (fun hf=>by simp only[ay.val,hx,hy,gX];rw[hb hf]) (fun ha=>h)
def eA {x y:Src}{fx fy:Bool}{k:IntKind}{a b:Int}(v:Int)(h:az Y draw r env (⟨f,.int k v⟩::rs) nx m K)(hg:GF rs g f:=by exact de)(hx:cn env rs x=⟨fx,.int k a⟩:=by exact rfl)(hy:cn env rs y=⟨fy,.int k b⟩:=by exact rfl)(kx:f=true->fx=true:=by exact b9)(ky:f=true->fy=true:=by exact b9)(hb:f=true->k.wrap (((BitVec.ofInt k.bits a)&&&(BitVec.ofInt k.bits b)).toNat)=v):az Y draw (⟨.bin .and x y,g⟩::r) env rs nx m K:=
 bM rfl hg _ (fun hf=>by simp[ay.dd,hx,hy,kx hf,ky hf,gF]) (fun hf=>by simp only[ay.val,hx,hy,gX];rw[hb hf]) (fun ha=>h)
def Dw {x y:Src}{fx fy:Bool}{k:IntKind}{a b:Int}(v:Int)(h:az Y draw r env (⟨f,.int k v⟩::rs) nx m K)(hg:GF rs g f:=by exact de)(hx:cn env rs x=⟨fx,.int k a⟩:=by exact rfl)(hy:cn env rs y=⟨fy,.int k b⟩:=by exact rfl)(kx:f=true->fx=true:=by exact b9)(ky:f=true->fy=true:=by exact b9)(hb:f=true->k.wrap (((BitVec.ofInt k.bits a) |||(BitVec.ofInt k.bits b)).toNat)=v):az Y draw (⟨.bin .or x y,g⟩::r) env rs nx m K:=
 bM rfl hg _ (fun hf=>by simp[ay.dd,hx,hy,kx hf,ky hf,gF]) (fun hf=>by simp only[ay.val,hx,hy,gX];rw[hb hf]) (fun ha=>h)
def mr {x y:Src}{fx fy:Bool}{k:IntKind}{a b:Int}(v:Int)(h:az Y draw r env (⟨f,.int k v⟩::rs) nx m K)(hg:GF rs g f:=by exact de)(hx:cn env rs x=⟨fx,.int k a⟩:=by exact rfl)(hy:cn env rs y=⟨fy,.int k b⟩:=by exact rfl)(kx:f=true->fx=true:=by exact b9)(ky:f=true->fy=true:=by exact b9)(hb:f=true->k.wrap (((BitVec.ofInt k.bits a)&&& ~~~ (BitVec.ofInt k.bits b)).toNat)=v):az Y draw (⟨.bin .andNot x y,g⟩::r) env rs nx m K:=
 bM rfl hg _ (fun hf=>by simp[ay.dd,hx,hy,kx hf,ky hf,gF]) (fun hf=>by simp only[ay.val,hx,hy,gX];rw[hb hf]) (fun ha=>h)
def yc {x y:Src}{fx fy:Bool}{k:IntKind}{a b:Int}(h:az Y draw r env (⟨f,.bool (decide (a<b))⟩::rs) nx m K)(hg:GF rs g f:=by exact de)(hx:cn env rs x=⟨fx,.int k a⟩:=by exact rfl)(hy:cn env rs y=⟨fy,.int k b⟩:=by exact rfl)(kx:f=true->fx=true:=by exact b9)(ky:f=true->fy=true:=by exact b9):az Y draw (⟨.bin .lss x y,g⟩::r) env rs nx m K:=
 bM rfl hg _ (fun hf=>by simp[ay.dd,hx,hy,kx hf,ky hf,gF]) (fun hf=>by simp only[ay.val,hx,hy,gX]<;>rfl) (fun ha=>h)
def Io {x y:Src}{fx fy:Bool}{k:IntKind}{a b:Int}(h:az Y draw r env (⟨f,.bool (decide (a<=b))⟩::rs) nx m K)(hg:GF rs g f:=by exact de)(hx:cn env rs x=⟨fx,.int k a⟩:=by exact rfl)(hy:cn env rs y=⟨fy,.int k b⟩:=by exact rfl)(kx:f=true->fx=true:=by exact b9)(ky:f=true->fy=true:=by exact b9):az Y draw (⟨.bin .leq x y,g⟩::r) env rs nx m K:=
 bM rfl hg _ (fun hf=>by simp[ay.dd,hx,hy,kx hf,ky hf,gF]) (fun hf=>by simp only[ay.val,hx,hy,gX]<;>rfl) (fun ha=>h)
def Ii {x y:Src}{fx fy:Bool}{k:IntKind}{a b:Int}(h:az Y draw r env (⟨f,.bool (decide (b<a))⟩::rs) nx m K)(hg:GF rs g f:=by exact de)(hx:cn env rs x=⟨fx,.int k a⟩:=by exact rfl)(hy:cn env rs y=⟨fy,.int k b⟩:=by exact rfl)(kx:f=true->fx=true:=by exact b9)(ky:f=true->fy=true:=by exact b9):az Y draw (⟨.bin .gtr x y,g⟩::r) env rs nx m K:=
 bM rfl hg _ (fun hf=>by simp[ay.dd,hx,hy,kx hf,ky hf,gF]) (fun hf=>by simp only[ay.val,hx,hy,gX]<;>rfl) (fun ha=>h)
def Ig {x y:Src}{fx fy:Bool}{k:IntKind}{a b:Int}(h:az Y draw r env (⟨f,.bool (decide (b<=a))⟩::rs) nx m K)(hg:GF rs g f:=by exact de)(hx:cn env rs x=⟨fx,.int k a⟩:=by exact rfl)(hy:cn env rs y=⟨fy,.int k b⟩:=by exact rfl)(kx:f=true->fx=true:=by exact b9)(ky:f=true->fy=true:=by exact b9):az Y draw (⟨.bin .geq x y,g⟩::r) env rs nx m K:=
 bM rfl hg _ (fun hf=>by simp[ay.dd,hx,hy,kx hf,ky hf,gF]) (fun hf=>by simp only[ay.val,hx,hy,gX]<;>rfl) (fun ha=>h)
def Ic {x y:Src}{fx fy:Bool}{k:IntKind}{a b:Int}(h:az Y draw r env (⟨f,.bool (decide (a=b))⟩::rs) nx m K)(hg:GF rs g f:=by exact de)(hx:cn env rs x=⟨fx,.int k a⟩:=by exact rfl)(hy:cn env rs y=⟨fy,.int k b⟩:=by exact rfl)(kx:f=true->fx=true:=by exact b9)(ky:f=true->fy=true:=by exact b9):az Y draw (⟨.bin .eql x y,g⟩::r) env rs nx m K:=
 bM rfl hg _ (fun hf=>by simp[ay.dd,hx,hy,kx hf,ky hf,gF]) (fun hf=>by simp only[ay.val,hx,hy,gX]<;>rfl) (fun ha=>h)
def Ir {x y:Src}{fx fy:Bool}{k:IntKind}{a b:Int}(h:az Y draw r env (⟨f,.bool (!decide (a=b))⟩::rs) nx m K)(hg:GF rs g f:=by exact de)(hx:cn env rs x=⟨fx,.int k a⟩:=by exact rfl)(hy:cn env rs y=⟨fy,.int k b⟩:=by exact rfl)(kx:f=true->fx=true:=by exact b9)(ky:f=true->fy=true:=by exact b9):az Y draw (⟨.bin .neq x y,g⟩::r) env rs nx m K:=
 bM rfl hg _ (fun hf=>by simp[ay.dd,hx,hy,kx hf,ky hf,gF]) (fun hf=>by simp only[ay.val,hx,hy,gX]<;>rfl) (fun ha=>h)
def Iq {x y:Src}{fx fy:Bool}{a b:List UInt8}(h:az Y draw r env (⟨f,.bool (Op.bytesLess a b)⟩::rs) nx m K)(hg:GF rs g f:=by exact de)(hx:cn env rs x=⟨fx,.str a⟩:=by exact rfl)(hy:cn env rs y=⟨fy,.str b⟩:=by exact rfl)(kx:f=true->fx=true:=by exact b9)(ky:f=true->fy=true:=by exact b9):az Y draw (⟨.bin .lss x y,g⟩::r) env rs nx m K:=
 bM rfl hg _ (fun hf=>by simp[ay.dd,hx,hy,kx hf,ky hf,gF]) (fun hf=>by simp only[ay.val,hx,hy,gX,ki]) (fun ha=>h)
def Ip {x y:Src}{fx fy:Bool}{a b:List UInt8}(h:az Y draw r env (⟨f,.bool (Op.bytesLess a b ||decide (a=b))⟩::rs) nx m K)(hg:GF rs g f:=by exact de)(hx:cn env rs x=⟨fx,.str a⟩:=by exact rfl)(hy:cn env rs y=⟨fy,.str b⟩:=by exact rfl)(kx:f=true->fx=true:=by exact b9)(ky:f=true->fy=true:=by exact b9):az Y draw (⟨.bin .leq x y,g⟩::r) env rs nx m K:=
 bM rfl hg _ (fun hf=>by simp[ay.dd,hx,hy,kx hf,ky hf,gF]) (fun hf=>by simp only[ay.val,hx,hy,gX,ki]) (fun ha=>h)
def Ij {x y:Src}{fx fy:Bool}{a b:List UInt8}(h:az Y draw r env (⟨f,.bool (!(Op.bytesLess a b ||decide (a=b)))⟩::rs) nx m K)(hg:GF rs g f:=by exact de)(hx:cn env rs x=⟨fx,.str a⟩:=by exact rfl)(hy:cn env rs y=⟨fy,.str b⟩:=by exact rfl)(kx:f=true->fx=true:=by exact b9)(ky:f=true->fy=true:=by exact b9):az Y draw (⟨.bin .gtr x y,g⟩::r) env rs nx m K:=
 bM rfl hg _ (fun hf=>by simp[ay.dd,hx,hy,kx hf,ky hf,gF]) (fun hf=>by simp only[ay.val,hx,hy,gX,ki]) (fun ha=>h)
def Ih {x y:Src}{fx fy:Bool}{a b:List UInt8}(h:az Y draw r env (⟨f,.bool (!Op.bytesLess a b)⟩::rs) nx m K)(hg:GF rs g f:=by exact de)(hx:cn env rs x=⟨fx,.str a⟩:=by exact rfl)(hy:cn env rs y=⟨fy,.str b⟩:=by exact rfl)(kx:f=true->fx=true:=by exact b9)(ky:f=true->fy=true:=by exact b9):az Y draw (⟨.bin .geq x y,g⟩::r) env rs nx m K:=
 bM rfl hg _ (fun hf=>by simp[ay.dd,hx,hy,kx hf,ky hf,gF]) (fun hf=>by simp only[ay.val,hx,hy,gX,ki]) (fun ha=>h)
def Ie {x y:Src}{fx fy:Bool}{a b:List UInt8}(h:az Y draw r env (⟨f,.bool (decide (a=b))⟩::rs) nx m K)(hg:GF rs g f:=by exact de)(hx:cn env rs x=⟨fx,.str a⟩:=by exact rfl)(hy:cn env rs y=⟨fy,.str b⟩:=by exact rfl)(kx:f=true->fx=true:=by exact b9)(ky:f=true->fy=true:=by exact b9):az Y draw (⟨.bin .eql x y,g⟩::r) env rs nx m K:=
 bM rfl hg _ (fun hf=>by simp[ay.dd,hx,hy,kx hf,ky hf,gF]) (fun hf=>by simp only[ay.val,hx,hy,gX,ki]) (fun ha=>h)
def Is {x y:Src}{fx fy:Bool}{a b:List UInt8}(h:az Y draw r env (⟨f,.bool (!decide (a=b))⟩::rs) nx m K)(hg:GF rs g f:=by exact de)(hx:cn env rs x=⟨fx,.str a⟩:=by exact rfl)(hy:cn env rs y=⟨fy,.str b⟩:=by exact rfl)(kx:f=true->fx=true:=by exact b9)(ky:f=true->fy=true:=by exact b9):az Y draw (⟨.bin .neq x y,g⟩::r) env rs nx m K:=
 bM rfl hg _ (fun hf=>by simp[ay.dd,hx,hy,kx hf,ky hf,gF]) (fun hf=>by simp only[ay.val,hx,hy,gX,ki]) (fun ha=>h)
def rQ {x y:Src}{fx fy:Bool}{ag:Bool}{ks:List CK}{a b:D}{v:Bool}(h:az Y draw r env (⟨f,.bool (v)⟩::rs) nx m K)(hb:fT a.cells b.cells=v)(hg:GF rs g f:=by exact de)(hx:cn env rs x=⟨fx,a⟩:=by exact rfl)(hy:cn env rs y=⟨fy,b⟩:=by exact rfl)(kx:f=true->fx=true:=by exact b9)(ky:f=true->fy=true:=by exact b9)(h1:f=true->a.isAgg=ag/\b.isAgg=ag/\ee ks a.cells/\ee ks b.cells:=by exact qf):az Y draw (⟨.eqA false ag ks x y,g⟩::r) env rs nx m K:=
 bM rfl hg _ (fun hf=>by simp only[ay.dd,hx,hy];exact⟨kx hf,ky hf,h1 hf⟩) (fun hf=>by simp only[ay.val,hx,hy];rw[hb];rfl) (fun ha=>h)
def zd {x y:Src}{fx fy:Bool}{ag:Bool}{ks:List CK}{a b:D}{v:Bool}(h:az Y draw r env (⟨f,.bool (!v)⟩::rs) nx m K)(hb:fT a.cells b.cells=v)(hg:GF rs g f:=by exact de)(hx:cn env rs x=⟨fx,a⟩:=by exact rfl)(hy:cn env rs y=⟨fy,b⟩:=by exact rfl)(kx:f=true->fx=true:=by exact b9)(ky:f=true->fy=true:=by exact b9)(h1:f=true->a.isAgg=ag/\b.isAgg=ag/\ee ks a.cells/\ee ks b.cells:=by exact qf):az Y draw (⟨.eqA true ag ks x y,g⟩::r) env rs nx m K:=
 bM rfl hg _ (fun hf=>by simp only[ay.dd,hx,hy];exact⟨kx hf,ky hf,h1 hf⟩) (fun hf=>by simp only[ay.val,hx,hy];rw[hb];rfl) (fun ha=>h)
def wo {x:Src}{fx:Bool}{k k2:IntKind}{a:Int}(v:Int)(h:az Y draw r env (⟨f,.int k v⟩::rs) nx m K)(hg:GF rs g f:=by exact de)(hx:cn env rs x=⟨fx,.int k2 a⟩:=by exact rfl)(kx:f=true->fx=true:=by exact b9)(hb:f=true->k.wrap a=v):az Y draw (⟨.cvi k x,g⟩::r) env rs nx m K:=
 bM rfl hg _ (fun hf=>by simp[ay.dd,hx,kx hf]) (fun hf=>by simp only[ay.val,hx];rw[hb hf]) (fun ha=>h)
def DE {x:Src}{fx:Bool}{s:List UInt8}(h:(f=true->draw=false->s.length<=9223372036854775807)->az Y draw r env (⟨f,.int .i64 s.length⟩::rs) nx m K)(hg:GF rs g f:=by exact de)(hx:cn env rs x=⟨fx,.str s⟩:=by exact rfl)(kx:f=true->fx=true:=by exact b9):az Y draw (⟨.lenS x,g⟩::r) env rs nx m K:=
 bM rfl hg _ (fun hf=>by simp[ay.dd,hx,kx hf]) (fun hf=>by simp[ay.val,hx]) (fun ha=>h (fun hf hd=>by have:=ha hf;subst hd;simpa[ay.tV,hx,kx hf]using this))
def DB {x:Src}{fx:Bool}{α:Type}{k:Nat}{q:α->D}{xs:List α}(h:(f=true->draw=false->xs.length<=9223372036854775807)->az Y draw r env (⟨f,.int .i64 xs.length⟩::rs) nx m K)(hg:GF rs g f:=by exact de)(hx:cn env rs x=⟨fx,.sl k (xs.map q)⟩:=by exact rfl)(kx:f=true->fx=true:=by exact b9):az Y draw (⟨.len x,g⟩::r) env rs nx m K:=
 bM rfl hg _ (fun hf=>by simp[ay.dd,hx,kx hf]) (fun hf=>by simp[ay.val,hx]) (fun ha=>h (fun hf hd=>by have:=ha hf;subst hd;simpa[ay.tV,hx,kx hf]using this))
def DC {x:Src}{fx:Bool}{l k i n:Nat}(h:(f=true->draw=false->n<=9223372036854775807)->az Y draw r env (⟨f,.int .i64 n⟩::rs) nx m K)(hg:GF rs g f:=by exact de)(hx:cn env rs x=⟨fx,.own l k i n⟩:=by exact rfl)(kx:f=true->fx=true:=by exact b9):az Y draw (⟨.len x,g⟩::r) env rs nx m K:=
 bM rfl hg _ (fun hf=>by simp[ay.dd,hx,kx hf]) (fun hf=>by simp[ay.val,hx]) (fun ha=>h (fun hf hd=>by have:=ha hf;subst hd;simpa[ay.tV,hx,kx hf]using this))
def Im {x:Src}{fx:Bool}(h:az Y draw r env (⟨f,.int .i64 0⟩::rs) nx m K)(hg:GF rs g f:=by exact de)(hx:cn env rs x=⟨fx,.aC⟩:=by exact rfl)(kx:f=true->fx=true:=by exact b9):az Y draw (⟨.len x,g⟩::r) env rs nx m K:=
 bM rfl hg _ (fun hf=>by simp[ay.dd,hx,kx hf]) (fun hf=>by simp[ay.val,hx]) (fun ha=>h)
def It {x:Src}{fx:Bool}{l k i o:Nat}(h:az Y draw r env (⟨f,.ptr l k i o⟩::rs) nx m K)(hg:GF rs g f:=by exact de)(hx:cn env rs x=⟨fx,.ptr l k i o⟩:=by exact rfl)(kx:f=true->fx=true:=by exact b9):az Y draw (⟨.nilck x,g⟩::r) env rs nx m K:=
 bM rfl hg _ (fun hf=>by simp[ay.dd,hx,kx hf]) (fun hf=>by simp[ay.val,hx]) (fun ha=>h)
def Iu {x:Src}{fx:Bool}{k i o:Nat}{es:List D}(h:az Y draw r env (⟨f,.ref k es i o⟩::rs) nx m K)(hg:GF rs g f:=by exact de)(hx:cn env rs x=⟨fx,.ref k es i o⟩:=by exact rfl)(kx:f=true->fx=true:=by exact b9):az Y draw (⟨.nilck x,g⟩::r) env rs nx m K:=
 bM rfl hg _ (fun hf=>by simp[ay.dd,hx,kx hf]) (fun hf=>by simp[ay.val,hx]) (fun ha=>h)
def Lh {x:Src}{fx:Bool}{off l k i o:Nat}(h:az Y draw r env (⟨f,.ptr l k i (o+off)⟩::rs) nx m K)(hg:GF rs g f:=by exact de)(hx:cn env rs x=⟨fx,.ptr l k i o⟩:=by exact rfl)(kx:f=true->fx=true:=by exact b9):az Y draw (⟨.fa off x,g⟩::r) env rs nx m K:=
 bM rfl hg _ (fun hf=>by simp[ay.dd,hx,kx hf]) (fun hf=>by simp[ay.val,hx]) (fun ha=>h)
def Li {x:Src}{fx:Bool}{off k i o:Nat}{es:List D}(h:az Y draw r env (⟨f,.ref k es i (o+off)⟩::rs) nx m K)(hg:GF rs g f:=by exact de)(hx:cn env rs x=⟨fx,.ref k es i o⟩:=by exact rfl)(kx:f=true->fx=true:=by exact b9):az Y draw (⟨.fa off x,g⟩::r) env rs nx m K:=
 bM rfl hg _ (fun hf=>by simp[ay.dd,hx,kx hf]) (fun hf=>by simp[ay.val,hx]) (fun ha=>h)
def ba {x y:Src}{fx fy:Bool}{α:Type}{k:Nat}{q:α->D}{xs:List α}{i:Int}{kk:IntKind}(j:Nat)(h:az Y draw r env (⟨f,.ref k (xs.map q) j 0⟩::rs) nx m K)(hg:GF rs g f:=by exact de)(hx:cn env rs x=⟨fx,.sl k (xs.map q)⟩:=by exact rfl)(hy:cn env rs y=⟨fy,.int kk i⟩:=by exact rfl)(kx:f=true->fx=true:=by exact b9)(ky:f=true->fy=true:=by exact b9)(hj:f=true->i=(j:Int):=by exact xe)(hb:f=true->j<xs.length:=by exact sN):az Y draw (⟨.ia k x y,g⟩::r) env rs nx m K:=
 bM rfl hg _ (fun hf=>by simp only[ay.dd,hx,hy,bt];exact⟨kx hf,ky hf,trivial,by have:=hj hf;omega,by have:=hj hf;have:=hb hf;omega⟩) (fun hf=>by simp only[ay.val,hx,hy];rw[hj hf];rfl) (fun ha=>h)
def kH {x y:Src}{fx fy:Bool}{l k i0 n:Nat}{i:Int}{kk:IntKind}(j:Nat)(h:az Y draw r env (⟨f,.ptr l k (i0+j) 0⟩::rs) nx m K)(hg:GF rs g f:=by exact de)(hx:cn env rs x=⟨fx,.own l k i0 n⟩:=by exact rfl)(hy:cn env rs y=⟨fy,.int kk i⟩:=by exact rfl)(kx:f=true->fx=true:=by exact b9)(ky:f=true->fy=true:=by exact b9)(hj:f=true->i=(j:Int):=by exact xe)(hb:f=true->j<n:=by exact sN):az Y draw (⟨.ia k x y,g⟩::r) env rs nx m K:=
 bM rfl hg _ (fun hf=>by simp only[ay.dd,hx,hy];exact⟨kx hf,ky hf,trivial,by have:=hj hf;omega,by have:=hj hf;have:=hb hf;omega⟩) (fun hf=>by simp only[ay.val,hx,hy];rw[hj hf];rfl) (fun ha=>h)
def DA {x y:Src}{fx fy:Bool}{s:List UInt8}{i:Int}{kk:IntKind}(j:Nat)(h:az Y draw r env (⟨f,.int .u8 (at8 s j)⟩::rs) nx m K)(hg:GF rs g f:=by exact de)(hx:cn env rs x=⟨fx,.str s⟩:=by exact rfl)(hy:cn env rs y=⟨fy,.int kk i⟩:=by exact rfl)(kx:f=true->fx=true:=by exact b9)(ky:f=true->fy=true:=by exact b9)(hj:f=true->i=(j:Int):=by exact xe)(hb:f=true->j<s.length:=by exact sN):az Y draw (⟨.ixS x y,g⟩::r) env rs nx m K:=
 bM rfl hg _ (fun hf=>by simp only[ay.dd,hx,hy];exact⟨kx hf,ky hf,by have:=hj hf;omega,by have:=hj hf;have:=hb hf;omega⟩) (fun hf=>by simp only[ay.val,hx,hy];rw[hj hf];rfl) (fun ha=>h)
def Dz {x y:Src}{fx fy:Bool}{α:Type}{k:Nat}{q:α->D}{xs:List α}{i:Int}{kk:IntKind}(h:az Y draw r env (⟨f,.ref k (xs.map q) i.toNat 0⟩::rs) nx m K)(hg:GF rs g f:=by exact de)(hx:cn env rs x=⟨fx,.sl k (xs.map q)⟩:=by exact rfl)(hy:cn env rs y=⟨fy,.int kk i⟩:=by exact rfl)(kx:f=true->fx=true:=by exact b9)(ky:f=true->fy=true:=by exact b9)(hb:f=true->0<=i/\i<(xs.length:Nat):=by exact yI):az Y draw (⟨.ia k x y,g⟩::r) env rs nx m K:=
 bM rfl hg _ (fun hf=>by simp only[ay.dd,hx,hy,bt];exact⟨kx hf,ky hf,trivial,(hb hf).1,(hb hf).2⟩) (fun hf=>by simp only[ay.val,hx,hy]<;>rfl) (fun ha=>h)
def Ik {x y:Src}{fx fy:Bool}{l k i0 n:Nat}{i:Int}{kk:IntKind}(h:az Y draw r env (⟨f,.ptr l k (i0+i.toNat) 0⟩::rs) nx m K)(hg:GF rs g f:=by exact de)(hx:cn env rs x=⟨fx,.own l k i0 n⟩:=by exact rfl)(hy:cn env rs y=⟨fy,.int kk i⟩:=by exact rfl)(kx:f=true->fx=true:=by exact b9)(ky:f=true->fy=true:=by exact b9)(hb:f=true->0<=i/\i<(n:Nat):=by exact yI):az Y draw (⟨.ia k x y,g⟩::r) env rs nx m K:=
 bM rfl hg _ (fun hf=>by simp only[ay.dd,hx,hy,bt];exact⟨kx hf,ky hf,trivial,(hb hf).1,(hb hf).2⟩) (fun hf=>by simp only[ay.val,hx,hy]<;>rfl) (fun ha=>h)
def Il {x y:Src}{fx fy:Bool}{s:List UInt8}{i:Int}{kk:IntKind}(h:az Y draw r env (⟨f,.int .u8 (at8 s i.toNat)⟩::rs) nx m K)(hg:GF rs g f:=by exact de)(hx:cn env rs x=⟨fx,.str s⟩:=by exact rfl)(hy:cn env rs y=⟨fy,.int kk i⟩:=by exact rfl)(kx:f=true->fx=true:=by exact b9)(ky:f=true->fy=true:=by exact b9)(hb:f=true->0<=i/\i<(s.length:Nat):=by exact yI):az Y draw (⟨.ixS x y,g⟩::r) env rs nx m K:=
 bM rfl hg _ (fun hf=>by simp only[ay.dd,hx,hy,bt];exact⟨kx hf,ky hf,(hb hf).1,(hb hf).2⟩) (fun hf=>by simp only[ay.val,hx,hy]<;>rfl) (fun ha=>h)
def wx {x y:Src}{fx fy:Bool}{s:List UInt8}{k2:IntKind}{a:Int}(i:Nat)(h:az Y draw r env (⟨f,.str (s.drop i)⟩::rs) nx m K)(hg:GF rs g f:=by exact de)(hx:cn env rs x=⟨fx,.str s⟩:=by exact rfl)(hy:cn env rs y=⟨fy,.int k2 a⟩:=by exact rfl)(kx:f=true->fx=true:=by exact b9)(ky:f=true->fy=true:=by exact b9)(hi:f=true->a=(i:Int):=by exact xe)(hb:f=true->i<=s.length:=by exact sN):az Y draw (⟨.slS x (some y) none,g⟩::r) env rs nx m K:=
 bM rfl hg _ (fun hf=>by simp only[ay.dd,Et,dO,hx,hy];have:=hb hf;have:=hi hf;refine⟨kx hf,ky hf,trivial, ?_⟩;simp only[ll,du,cL,cy,Int.ofNat_eq_natCast];omega) (fun hf=>by simp only[ay.val,dO,du,hx,hy];rw[hi hf];simp) (fun ha=>h)
def wu {x y:Src}{fx fy:Bool}{α:Type}{k:Nat}{q:α->D}{s:List α}{k2:IntKind}{a:Int}(i:Nat)(h:az Y draw r env (⟨f,.sl k ((s.drop i).map q)⟩::rs) nx m K)(hg:GF rs g f:=by exact de)(hx:cn env rs x=⟨fx,.sl k (s.map q)⟩:=by exact rfl)(hy:cn env rs y=⟨fy,.int k2 a⟩:=by exact rfl)(kx:f=true->fx=true:=by exact b9)(ky:f=true->fy=true:=by exact b9)(hi:f=true->a=(i:Int):=by exact xe)(hb:f=true->i<=s.length:=by exact sN):az Y draw (⟨.slA k x (some y) none,g⟩::r) env rs nx m K:=
 bM rfl hg _ (fun hf=>by simp only[ay.dd,Et,dO,hx,hy,bt];have:=hb hf;have:=hi hf;refine⟨kx hf,ky hf,trivial,trivial, ?_⟩;simp only[ll,du,cL,cy,Int.ofNat_eq_natCast];omega) (fun hf=>by simp only[ay.val,dO,du,hx,hy];rw[hi hf];first|(simp only[List.take_length,Int.toNat_natCast,List.map_drop];done)|simp[List.map_drop,List.map_take]) (fun ha=>h)
def DH {x z:Src}{fx fz:Bool}{α:Type}{k:Nat}{q:α->D}{s:List α}{k3:IntKind}{c:Int}(j:Nat)(h:az Y draw r env (⟨f,.sl k ((s.take j).map q)⟩::rs) nx m K)(hg:GF rs g f:=by exact de)(hx:cn env rs x=⟨fx,.sl k (s.map q)⟩:=by exact rfl)(hz:cn env rs z=⟨fz,.int k3 c⟩:=by exact rfl)(kx:f=true->fx=true:=by exact b9)(kz:f=true->fz=true:=by exact b9)(hj:f=true->c=(j:Int):=by exact xe)(hb:f=true->j<=s.length:=by exact sN):az Y draw (⟨.slA k x none (some z),g⟩::r) env rs nx m K:=
 bM rfl hg _ (fun hf=>by simp only[ay.dd,Et,dO,hx,hz,bt];have:=hb hf;have:=hj hf;refine⟨kx hf,trivial,kz hf,trivial, ?_⟩;simp only[ll,du,cL,cy,Int.ofNat_eq_natCast];omega) (fun hf=>by simp only[ay.val,dO,du,hx,hz];rw[hj hf];first|(simp only[List.take_length,Int.toNat_natCast,List.map_drop];done)|simp[List.map_drop,List.map_take]) (fun ha=>h)
def wv {x y z:Src}{fx fy fz:Bool}{s:List UInt8}{k2:IntKind}{a:Int}(i:Nat){k3:IntKind}{c:Int}(j:Nat)(h:az Y draw r env (⟨f,.str ((s.take j).drop i)⟩::rs) nx m K)(hg:GF rs g f:=by exact de)(hx:cn env rs x=⟨fx,.str s⟩:=by exact rfl)(hy:cn env rs y=⟨fy,.int k2 a⟩:=by exact rfl)(hz:cn env rs z=⟨fz,.int k3 c⟩:=by exact rfl)(kx:f=true->fx=true:=by exact b9)(ky:f=true->fy=true:=by exact b9)(kz:f=true->fz=true:=by exact b9)(hi:f=true->a=(i:Int):=by exact xe)(hj:f=true->c=(j:Int):=by exact xe)(hb:f=true->i<=j/\j<=s.length:=by exact yI):az Y draw (⟨.slS x (some y) (some z),g⟩::r) env rs nx m K:=
 bM rfl hg _ (fun hf=>by simp only[ay.dd,Et,dO,hx,hy,hz];have:=hb hf;have:=hi hf;have:=hj hf;refine⟨kx hf,ky hf,kz hf, ?_⟩;simp only[ll,du,cL,cy,Int.ofNat_eq_natCast];omega) (fun hf=>by simp only[ay.val,dO,du,hx,hy,hz];rw[hi hf,hj hf];simp) (fun ha=>h)
def iO {x:Src}{fx:Bool}{i:Nat}{ds:List D}(v:D)(h:az Y draw r env (⟨f,v⟩::rs) nx m K)(hg:GF rs g f:=by exact de)(hx:cn env rs x=⟨fx,.tup ds⟩:=by exact rfl)(kx:f=true->fx=true:=by exact b9)(hv:f=true->ds.getD i .any=v:=by exact fun _=>rfl)(hb:f=true->i<ds.length:=by intro _;simp only[bX,cu];omega):az Y draw (⟨.ext x i,g⟩::r) env rs nx m K:=
 bM rfl hg _ (fun hf=>by simp only[ay.dd,hx];exact⟨kx hf,hb hf⟩) (fun hf=>by simp only[ay.val,hx];exact hv hf) (fun ha=>h)
def di {z:List D}{ps:List (Nat×Nat×Src)}(v:List D)(h:az Y draw r env (⟨f,.agg v⟩::rs) nx m K)(hg:GF rs g f:=by exact de)(hv:f=true->qX (cn env rs) z ps=v:=by exact fun _=>rfl)(ho:f=true->sX (cn env rs) z.length ps:=by exact qf):az Y draw (⟨.build z ps,g⟩::r) env rs nx m K:=
 bM rfl hg _ (fun hf=>ho hf) (fun hf=>by simp only[ay.val];rw[hv hf]) (fun _=>h)
def bP {z:List D}{ps:List (Nat×Nat×Src)}(d:D)(h:az Y draw r env (⟨f,d⟩::rs) nx m K)(hg:GF rs g f:=by exact de)(hv:f=true->D.agg (qX (cn env rs) z ps)=d:=by exact fun _=>rfl)(ho:f=true->sX (cn env rs) z.length ps:=by exact qf):az Y draw (⟨.build z ps,g⟩::r) env rs nx m K:=
 bM rfl hg _ (fun hf=>ho hf) (fun hf=>by simp only[ay.val];exact hv hf) (fun _=>h)
def HU {e:D}{n o:Nat}{ag:Bool}(h:e.isAgg=ag):mF e n n o ag=e:=by simp[mF,h]
def aH {x:Src}{fx:Bool}{n l:Nat}{ag:Bool}{d:D}(h:az Y draw r env (⟨f,d⟩::rs) nx m K)(hg:GF rs g f:=by exact de)(hx:cn env rs x=⟨fx,.ptr l n 0 0⟩:=by exact rfl)(kx:f=true->fx=true:=by exact b9)(hl:f=true->look m l=some (.buf n [d]):=by exact fun _=>rfl)(ha:f=true->d.isAgg=ag:=by exact fun _=>rfl):az Y draw (⟨.ld n ag x,g⟩::r) env rs nx m K:=
 eR rfl hg _ (fun hf=>by simp only[ay.dd,hx,uv,ec,hl hf];exact⟨kx hf,⟨trivial,a8⟩,ae⟩) (fun hf=>by simp only[ay.val,hx,su,aP,hl hf,fK];exact HU (ha hf)) m rfl (fun ha=>h)
def au {x:Src}{fx:Bool}{n l k o:Nat}{ag:Bool}{d:D}(v:D)(h:az Y draw r env (⟨f,v⟩::rs) nx m K)(hg:GF rs g f:=by exact de)(hx:cn env rs x=⟨fx,.ptr l k 0 o⟩:=by exact rfl)(kx:f=true->fx=true:=by exact b9)(hl:f=true->look m l=some (.buf k [d]):=by exact fun _=>rfl)(hv:f=true->mF d k n o ag=v:=by exact fun _=>rfl)(ho:o+n<=k:=by omega):az Y draw (⟨.ld n ag x,g⟩::r) env rs nx m K:=
 eR rfl hg _ (fun hf=>by simp only[ay.dd,hx,uv,ec,hl hf];exact⟨kx hf,⟨trivial,a8⟩,ho⟩) (fun hf=>by simp only[ay.val,hx,su,aP,hl hf,fK];exact hv hf) m rfl (fun ha=>h)
def lN {x:Src}{fx:Bool}{α:Type} [Inhabited α]{n l k i o:Nat}{ag:Bool}{q:α->D}{xs:List α}(v:D)(h:az Y draw r env (⟨f,v⟩::rs) nx m K)(hg:GF rs g f:=by exact de)(hx:cn env rs x=⟨fx,.ptr l k i o⟩:=by exact rfl)(kx:f=true->fx=true:=by exact b9)(hl:f=true->look m l=some (.buf k (xs.map q)):=by exact fun _=>rfl)(hi:f=true->i<xs.length:=by exact sN)(hv:f=true->mF (q xs[i]!) k n o ag=v:=by exact fun _=>rfl)(ho:o+n<=k:=by omega):az Y draw (⟨.ld n ag x,g⟩::r) env rs nx m K:=
 eR rfl hg _ (fun hf=>by simp only[ay.dd,hx,uv,ec,hl hf,bt];exact⟨kx hf,⟨trivial,by have:=hi hf;omega⟩,ho⟩) (fun hf=>by simp only[ay.val,hx,su,aP,hl hf];rw[getD_map (hi hf)];exact hv hf) m rfl (fun ha=>h)
def a7 {x:Src}{fx:Bool}{α:Type} [Inhabited α]{n k i o:Nat}{ag:Bool}{q:α->D}{xs:List α}(v:D)(h:az Y draw r env (⟨f,v⟩::rs) nx m K)(hg:GF rs g f:=by exact de)(hx:cn env rs x=⟨fx,.ref k (xs.map q) i o⟩:=by exact rfl)(kx:f=true->fx=true:=by exact b9)(hi:f=true->i<xs.length:=by exact sN)(hv:f=true->mF (q xs[i]!) k n o ag=v:=by exact fun _=>rfl)(ho:o+n<=k:=by omega):az Y draw (⟨.ld n ag x,g⟩::r) env rs nx m K:=
 eR rfl hg _ (fun hf=>by simp only[ay.dd,hx,uv,bt];exact⟨kx hf,hi hf,ho⟩) (fun hf=>by simp only[ay.val,hx,su];rw[getD_map (hi hf)];exact hv hf) m rfl (fun ha=>h)
def iP {x:Src}{fx:Bool}{n k i o:Nat}{ag:Bool}{es:List D}(v:D)(h:az Y draw r env (⟨f,v⟩::rs) nx m K)(hg:GF rs g f:=by exact de)(hx:cn env rs x=⟨fx,.ref k es i o⟩:=by exact rfl)(kx:f=true->fx=true:=by exact b9)(hi:f=true->i<es.length:=by intro _;simp only[bX,cu];omega)(hv:f=true->mF (es.getD i .any) k n o ag=v:=by exact fun _=>rfl)(ho:o+n<=k:=by omega):az Y draw (⟨.ld n ag x,g⟩::r) env rs nx m K:=
 eR rfl hg _ (fun hf=>by simp only[ay.dd,hx,uv];exact⟨kx hf,hi hf,ho⟩) (fun hf=>by simp only[ay.val,hx,su];exact hv hf) m rfl (fun ha=>h)
def Lg {x:Src}{fx:Bool}{k:Nat}{d:D}{L:Nat}{m2:List (Nat×bB)}(h:az Y draw r env (⟨f,.ptr L k 0 0⟩::rs) nx m2 K)(hg:GF rs g f:=by exact de)(hx:cn env rs x=⟨fx,d⟩:=by exact rfl)(kx:f=true->fx=true:=by exact b9)(hc:d.cells.length=k:=by exact rfl)(hL:nx+rs.length=L:=by exact qg)(hm:cz m L (.buf k [d])=m2:=by simp only[cz,cO,Nat.reduceEqDiff,aX,aS,Nat.reduceAdd,reduceCtorEq];exact rfl):az Y draw (⟨.box k x,g⟩::r) env rs nx m K:=
 eR rfl hg _ (fun hf=>by simp only[ay.dd,hx];exact⟨kx hf,hc⟩) (fun hf=>by simp only[ay.val,hx,hL]) _ (by simp only[ay.bY,hx,hL];exact hm) (fun _=>h)
def Lj {L:Nat}{m2:List (Nat×bB)}(h:az Y draw r env (⟨f,.ptr L 2 0 0⟩::rs) nx m2 K)(hg:GF rs g f:=by exact de)(hL:nx+rs.length=L:=by exact qg)(hm:cz m L (.bld none 0 false)=m2:=by simp only[cz,cO,Nat.reduceEqDiff,aX,aS,Nat.reduceAdd,reduceCtorEq];exact rfl):az Y draw (⟨.mkB,g⟩::r) env rs nx m K:=
 eR rfl hg _ (fun _=>trivial) (fun hf=>by simp only[ay.val,hL]) _ (by simp only[ay.bY,hL];exact hm) (fun _=>h)
def Lo {x:Src}{fx:Bool}{s:List UInt8}{L:Nat}{m2:List (Nat×bB)}(h:az Y draw r env (⟨f,.own L 1 0 s.length⟩::rs) nx m2 K)(hg:GF rs g f:=by exact de)(hx:cn env rs x=⟨fx,.str s⟩:=by exact rfl)(kx:f=true->fx=true:=by exact b9)(hL:nx+rs.length=L:=by exact qg)(hm:cz m L (.buf 1 (s.map fun b=>.int .u8 b.toNat))=m2:=by simp only[cz,cO,Nat.reduceEqDiff,aX,aS,Nat.reduceAdd,reduceCtorEq];exact rfl):az Y draw (⟨.s2b x,g⟩::r) env rs nx m K:=
 eR rfl hg _ (fun hf=>by simp only[ay.dd,hx];exact⟨kx hf,trivial⟩) (fun hf=>by simp only[ay.val,hx,hL]) _ (by simp only[ay.bY,hx,hL];exact hm) (fun _=>h)
def Ln {x:Src}{fx:Bool}{s:List UInt8}{L:Nat}{m2:List (Nat×bB)}(h:az Y draw r env (⟨f,.it L⟩::rs) nx m2 K)(hg:GF rs g f:=by exact de)(hx:cn env rs x=⟨fx,.str s⟩:=by exact rfl)(kx:f=true->fx=true:=by exact b9)(hL:nx+rs.length=L:=by exact qg)(hm:cz m L (.iter s 0)=m2:=by simp only[cz,cO,Nat.reduceEqDiff,aX,aS,Nat.reduceAdd,reduceCtorEq];exact rfl):az Y draw (⟨.rng x,g⟩::r) env rs nx m K:=
 eR rfl hg _ (fun hf=>by simp only[ay.dd,hx];exact⟨kx hf,trivial⟩) (fun hf=>by simp only[ay.val,hx,hL]) _ (by simp only[ay.bY,hx,hL];exact hm) (fun _=>h)
def dp {k n:Nat}{z:D}{ps:List (Nat×Src)}{L:Nat}{m2:List (Nat×bB)}(es:List D)(h:az Y draw r env (⟨f,.own L k 0 n⟩::rs) nx m2 K)(hg:GF rs g f:=by exact de)(he:iK (cn env rs) (List.replicate n z) ps=es:=by exact rfl)(ho:f=true->mZ (cn env rs) k n ps:=by exact qf)(hz:z.cells.length=k:=by exact rfl)(hL:nx+rs.length=L:=by exact qg)(hm:cz m L (.buf k es)=m2:=by simp only[cz,cO,Nat.reduceEqDiff,aX,aS,Nat.reduceAdd,reduceCtorEq];exact rfl):az Y draw (⟨.bsl k z n ps,g⟩::r) env rs nx m K:=
 eR rfl hg _ (fun hf=>⟨hz,ho hf⟩) (fun hf=>by simp only[ay.val,hL]) _ (by simp only[ay.bY,he,hL];exact hm) (fun _=>h)
def dq {n l k o:Nat}{x y:Src}{d v:D}{m2:List (Nat×bB)}(e:D)(h:az Y draw r env (⟨true,.any⟩::rs) nx m2 K)(hx:cn env rs x=⟨true,.ptr l k 0 o⟩:=by exact rfl)(hy:cn env rs y=⟨true,v⟩:=by exact rfl)(hl:look m l=some (.buf k [d]):=by exact rfl)(hc:v.cells.length=n:=by exact rfl)(he:uU d k n o v=e:=by exact rfl)(ho:o+n<=k:=by omega)(hm:cz m l (.buf k [e])=m2:=by simp only[cz,cO,Nat.reduceEqDiff,aX,aS,Nat.reduceAdd,reduceCtorEq];exact rfl):az Y draw (⟨.st n x y,none⟩::r) env rs nx m K:=
 nu rfl _ (by simp only[ay.dd,hx,hy,ec,hl];exact⟨trivial,trivial,hc,⟨trivial,a8⟩,ho⟩) rfl _ (by simp only[ay.bY,hx,hy,aP,hl,fK,List.set_cons_zero,he];exact hm) (fun _=>h)
def rS {n l k i o:Nat}{x y:Src}{v:D}{es:List D}{m2:List (Nat×bB)}(es2:List D)(h:az Y draw r env (⟨true,.any⟩::rs) nx m2 K)(hx:cn env rs x=⟨true,.ptr l k i o⟩:=by exact rfl)(hy:cn env rs y=⟨true,v⟩:=by exact rfl)(hl:look m l=some (.buf k es):=by exact rfl)(hi:i<es.length)(hc:v.cells.length=n:=by exact rfl)(he:es.set i (uU (es.getD i .any) k n o v)=es2)(ho:o+n<=k:=by omega)(hm:cz m l (.buf k es2)=m2:=by simp only[cz,cO,Nat.reduceEqDiff,aX,aS,Nat.reduceAdd,reduceCtorEq];exact rfl):az Y draw (⟨.st n x y,none⟩::r) env rs nx m K:=
 nu rfl _ (by simp only[ay.dd,hx,hy,ec,hl];exact⟨trivial,trivial,hc,⟨trivial,ae⟩,ho⟩) rfl _ (by simp only[ay.bY,hx,hy,aP,hl,he];exact hm) (fun _=>h)
def pO (m:List (Nat×bB))(k:Nat)(d:D)(ys:List D):Prop:=uc m k d/\kM m d=ys
def pO.sl {k:Nat}{es:List D}:pO m k (.sl k es) es:=⟨rfl,rfl⟩
def pO.aC {k:Nat}:pO m k .aC []:=⟨trivial,rfl⟩
def pO.own {l k i n:Nat}{es:List D}(hl:look m l=some (.buf k es))(hb:i+n<=es.length):pO m k (.own l k i n) ((es.drop i).take n):=⟨⟨rfl,by simp only[ec,hl];exact⟨trivial,hb⟩⟩,by simp only[kM,aP,hl]⟩
def pO.all {l k n:Nat}{es:List D}(hl:look m l=some (.buf k es))(hb:n=es.length):pO m k (.own l k 0 n) es:=by
 have:=pO.own (i:=0) (n:=n) hl ae;simpa[hb]using this
def pO.str {s:List UInt8}:pO m 1 (.str s) (s.map fun b=>.int .u8 b.toNat):=⟨rfl,rfl⟩
def ya {k n:Nat}{x y:Src}{d:D}{ys:List D}{L:Nat}{m2:List (Nat×bB)}(h:az Y draw r env (⟨true,.own L k 0 n⟩::rs) nx m2 K)(hx:cn env rs x=⟨true,.aC⟩:=by exact rfl)(hy:cn env rs y=⟨true,d⟩:=by exact rfl)(he:pO m k d ys)(hn:ys.length=n)(hb:n<=1073741824:=by omega)(hL:nx+rs.length=L:=by exact qg)(hm:cz m L (.buf k ys)=m2:=by simp only[cz,cO,Nat.reduceEqDiff,aX,aS,Nat.reduceAdd,reduceCtorEq];exact rfl):az Y draw (⟨.app k x y,none⟩::r) env rs nx m K:=
 nu rfl _ (by simp only[ay.dd,hx,hy,he.2,hn];exact⟨trivial,trivial,he.1,hb⟩) (by simp only[ay.val,hx,hy,he.2,hn,hL]) _ (by simp only[ay.bY,hx,hy,he.2,hL];exact hm) (fun _=>h)
def FE {k n:Nat}{y:Src}{fy:Bool}{d:D}{ys:List D}{L:Nat}{m2:List (Nat×bB)}(h:az Y draw r env (⟨f,.own L k 0 n⟩::rs) nx m2 K)(hg:GF rs g f:=by exact de)(hy:cn env rs y=⟨fy,d⟩:=by exact rfl)(ky:f=true->fy=true:=by exact b9)(he:pO m k d ys)(hn:ys.length=n)(hb:n<=1073741824:=by omega)(hL:nx+rs.length=L:=by exact qg)(hm:cz m L (.buf k ys)=m2:=by simp only[cz,cO,Nat.reduceEqDiff,aX,aS,Nat.reduceAdd,reduceCtorEq];exact rfl):az Y draw (⟨.appN k y,g⟩::r) env rs nx m K:=
 eR rfl hg _ (fun hf=>by simp only[ay.dd,hy,he.2,hn];exact⟨ky hf,he.1,hb⟩) (fun hf=>by simp only[ay.val,hy,he.2,hn,hL]) _ (by simp only[ay.bY,hy,he.2,hL];exact hm) (fun _=>h)
def zc {k l i a n:Nat}{x y:Src}{d:D}{xs ys:List D}{L:Nat}{m2:List (Nat×bB)}(zs:List D)(h:az Y draw r env (⟨true,.own L k 0 n⟩::rs) nx m2 K)(hx:cn env rs x=⟨true,.own l k i a⟩:=by exact rfl)(hy:cn env rs y=⟨true,d⟩:=by exact rfl)(hl:look m l=some (.buf k xs):=by exact rfl)(ha:i+a<=xs.length)(he:pO m k d ys)(hz:(xs.drop i).take a++ys=zs)(hn:a+ys.length=n)(hb:n<=1073741824:=by omega)(hL:nx+rs.length=L:=by exact qg)(hm:cz (cO m l) L (.buf k zs)=m2:=by simp only[cz,cO,Nat.reduceEqDiff,aX,aS,Nat.reduceAdd,reduceCtorEq];exact rfl):az Y draw (⟨.app k x y,none⟩::r) env rs nx m K:=
 nu rfl _ (by simp only[ay.dd,hx,hy,he.2,ec,hl,hn];exact⟨trivial,trivial,he.1,trivial,⟨trivial,ha⟩,hb⟩) (by simp only[ay.val,hx,hy,he.2,hn,hL]) _ (by simp only[ay.bY,hx,hy,he.2,aP,hl,hz,hL];exact hm) (fun _=>h)
def iH {α:Type}{q:α->D}{xs:List α}{e:α}{k l ly:Nat}{x y:Src}{L:Nat}{m2:List (Nat×bB)}(h:az Y draw r env (⟨true,.own L k 0 (xs++[e]).length⟩::rs) nx m2 K)(hx:cn env rs x=⟨true,.own l k 0 xs.length⟩:=by exact rfl)(hy:cn env rs y=⟨true,.own ly k 0 1⟩:=by exact rfl)(hl:look m l=some (.buf k (xs.map q)):=by exact rfl)(he:look m ly=some (.buf k [q e]):=by exact rfl)(hb:xs.length+1<=1073741824:=by omega)(hL:nx+rs.length=L:=by exact qg)(hm:cz (cO m l) L (.buf k ((xs++[e]).map q))=m2:=by simp only[cz,cO,Nat.reduceEqDiff,aX,aS,Nat.reduceAdd,reduceCtorEq];exact rfl):az Y draw (⟨.app k x y,none⟩::r) env rs nx m K:=
 zc (zs:=(xs++[e]).map q) (hx:=hx) (hy:=hy) (hl:=hl) (ha:=a8) (he:=pO.all (es:=[q e]) he rfl) (hz:=by rw[ch,ic a8];simp) (hn:=a8) (hb:=dT) (hL:=hL) (hm:=hm) (h:=h)
def yb {α:Type}{q:α->D}{xs ys:List α}{k l:Nat}{x y:Src}{d:D}{L:Nat}{m2:List (Nat×bB)}(h:az Y draw r env (⟨true,.own L k 0 (xs++ys).length⟩::rs) nx m2 K)(hx:cn env rs x=⟨true,.own l k 0 xs.length⟩:=by exact rfl)(hy:cn env rs y=⟨true,d⟩:=by exact rfl)(hl:look m l=some (.buf k (xs.map q)):=by exact rfl)(he:pO m k d (ys.map q))(hb:xs.length+ys.length<=1073741824:=by omega)(hL:nx+rs.length=L:=by exact qg)(hm:cz (cO m l) L (.buf k ((xs++ys).map q))=m2:=by simp only[cz,cO,Nat.reduceEqDiff,aX,aS,Nat.reduceAdd,reduceCtorEq];exact rfl):az Y draw (⟨.app k x y,none⟩::r) env rs nx m K:=
 zc (zs:=(xs++ys).map q) (hx:=hx) (hy:=hy) (hl:=hl) (ha:=a8) (he:=he) (hz:=by rw[ch,ic a8];simp) (hn:=a8) (hb:=dT) (hL:=hL) (hm:=hm) (h:=h)
def DG {x:Src}{l pos:Nat}{s:List UInt8}{m2:List (Nat×bB)}(c w:Nat)(h:az Y draw r env (⟨true,.tup [.bool true,.int .i64 pos,.int .i32 c]⟩::rs) nx m2 K)(hx:cn env rs x=⟨true,.it l⟩:=by exact rfl)(hl:look m l=some (.iter s pos):=by exact rfl)(hp:pos<s.length)(hc:oH s pos=(c,w))(hm:cz m l (.iter s (pos+w))=m2:=by simp only[cz,cO,Nat.reduceEqDiff,aX,aS,Nat.reduceAdd,reduceCtorEq];exact rfl):az Y draw (⟨.bl x,none⟩::r) env rs nx m K:=
 nu rfl _ (by simp only[ay.dd,hx,hl];exact⟨trivial,trivial⟩) (by simp only[ay.val,hx,hl,hc,hp,decide_true,cond_true]) _ (by simp only[ay.bY,hx,hl,hc,hp,decide_true,cond_true];exact hm) (fun _=>h)
def DF {x:Src}{l pos:Nat}{s:List UInt8}(h:az Y draw r env (⟨true,.tup [.bool false]⟩::rs) nx m K)(hx:cn env rs x=⟨true,.it l⟩:=by exact rfl)(hl:look m l=some (.iter s pos):=by exact rfl)(hp:¬pos<s.length):az Y draw (⟨.bl x,none⟩::r) env rs nx m K:=
 nu rfl _ (by simp only[ay.dd,hx,hl];exact⟨trivial,trivial⟩) (by simp only[ay.val,hx,hl,hp,decide_false,cond_false]) _ (by simp only[ay.bY,hx,hl,hp,decide_false,cond_false]) (fun _=>h)
def al {n:Nat}{args:List Src}{sh:List (List Sh)}{S2:List D}{v:D}(h:az Y draw r env (⟨f,v⟩::rs) nx m K)(hg:GF rs g f:=by exact de)(hc:Y.pre n S2/\Y.val n S2=v)(ha:f=true->hN m sh (e8 (cn env rs) args)=S2:=by exact fun _=>rfl)(ho:f=true->pH (cn env rs) args:=by exact qf)(hp:f=true->im m sh (e8 (cn env rs) args):=by exact qf)(hk:f=true->lq (e8 (cn env rs) args) v=true:=by exact fun _=>rfl):az Y draw (⟨.call n args sh,g⟩::r) env rs nx m K:=
 eR rfl hg _ (fun hf=>by simp only[ay.dd,(cx _ _ _).1,ha hf,hc.2];exact⟨ho hf,(cx _ _ _).2.2 (hp hf),hc.1,hk hf⟩) (fun hf=>by simp only[ay.val,(cx _ _ _).1,ha hf,hc.2]) m rfl (fun _=>h)
def bp {n:Nat}{args:List Src}{sh:List (List Sh)}{S2:List D}{v:D}(h:az Y draw r env (⟨f,v⟩::rs) nx m K)(hg:GF rs g f:=by exact de)(hc:f=true->Y.pre n S2/\Y.val n S2=v)(ha:f=true->hN m sh (e8 (cn env rs) args)=S2:=by exact fun _=>rfl)(ho:f=true->pH (cn env rs) args:=by exact qf)(hp:f=true->im m sh (e8 (cn env rs) args):=by exact qf)(hk:f=true->lq (e8 (cn env rs) args) v=true:=by exact fun _=>rfl):az Y draw (⟨.call n args sh,g⟩::r) env rs nx m K:=
 eR rfl hg _ (fun hf=>by simp only[ay.dd,(cx _ _ _).1,ha hf,(hc hf).2];exact⟨ho hf,(cx _ _ _).2.2 (hp hf),(hc hf).1,hk hf⟩) (fun hf=>by simp only[ay.val,(cx _ _ _).1,ha hf,(hc hf).2]) m rfl (fun _=>h)
def qt {n:Nat}{x:Src}{fx:Bool}{caps:List D}{args:List Src}{sh:List (List Sh)}{S2:List D}{v:D}(h:az Y draw r env (⟨f,v⟩::rs) nx m K)(hg:GF rs g f:=by exact de)(hx:cn env rs x=⟨fx,.fn n caps⟩:=by exact rfl)(kx:f=true->fx=true:=by exact b9)(hb:n<1000000:=by decide)(hc:f=true->Y.pre n S2/\Y.val n S2=v)(ha:f=true->hN m sh (e8 (cn env rs) args++caps)=S2:=by exact fun _=>rfl)(ho:f=true->pH (cn env rs) args:=by exact qf)(hp:f=true->im m sh (e8 (cn env rs) args++caps):=by exact qf)(hk:f=true->lq (e8 (cn env rs) args++caps) v=true:=by exact fun _=>rfl):az Y draw (⟨.callv x args sh,g⟩::r) env rs nx m K:=
 eR rfl hg _ (fun hf=>by simp only[ay.dd,hx,(cx _ _ _).1,ha hf,(hc hf).2];exact⟨kx hf,ho hf,hb,(cx _ _ _).2.2 (hp hf),(hc hf).1,hk hf⟩) (fun hf=>by simp only[ay.val,hx,(cx _ _ _).1,ha hf,(hc hf).2]) m rfl (fun _=>h)
def ze {n:Nat}{caps:List Src}(cs:List D)(h:az Y draw r env (⟨f,.fn n cs⟩::rs) nx m K)(hg:GF rs g f:=by exact de)(hc:f=true->e8 (cn env rs) caps=cs:=by exact fun _=>rfl)(ho:f=true->pH (cn env rs) caps:=by exact qf):az Y draw (⟨.mkf n caps,g⟩::r) env rs nx m K:=
 bM rfl hg _ (fun hf=>ho hf) (fun hf=>by simp only[ay.val,hc hf]) (fun _=>h)
def il {n l k:Nat}{x:Src}{args:List Src}{sh:List (List Sh)}{d v e:D}{S2:List D}{m2:List (Nat×bB)}(h:az Y draw r env (⟨true,v⟩::rs) nx m2 K)(hx:cn env rs x=⟨true,.ptr l k 0 0⟩:=by exact rfl)(hl:look m l=some (.buf k [d]):=by exact rfl)(hd:d.aV=true:=by exact rfl)(hc:Y.fp n d S2/\Y.fv n d S2=v/\Y.fs n d S2=e)(ha:hN [] sh (e8 (cn env rs) args)=S2:=by exact rfl)(ho:pH (cn env rs) args:=by repeat' first|exact trivial|exact rfl|refine And.intro ?_ ?_|decide)(hn:aJ (e8 (cn env rs) args)=true:=by exact rfl)(hm:cz m l (.buf k [e])=m2:=by simp only[cz,cO,Nat.reduceEqDiff,aX,aS,Nat.reduceAdd,reduceCtorEq];exact rfl):az Y draw (⟨.callF n x args sh,none⟩::r) env rs nx m K:=
 nu rfl _ (by simp only[ay.dd,hx,ec,aP,hl,fK,(cx _ _ _).1,ha];exact⟨trivial,ho,hn,trivial,trivial,⟨trivial,a8⟩,a8,hd,hc.1⟩) (by simp only[ay.val,hx,aP,hl,fK,(cx _ _ _).1,ha,hc.2.1]) _ (by simp only[ay.bY,hx,aP,hl,fK,(cx _ _ _).1,ha,hc.2.2];exact hm) (fun _=>h)
end
end
end Go.Abs
section
namespace Go.Abs
abbrev cV:=List UInt8
structure aU where
 major:Int
 minor:Int
 patch:Int
 pre:cV
 build:cV
 deriving Inhabited,DecidableEq
def aU.D (v:aU):D:=.agg [.int .i64 v.major,.int .i64 v.minor,.int .i64 v.patch,.str v.pre,.str v.build]
structure qh where
 name:cV
 v:aU
 shelf:cV
 sum:Int
 feats:List cV
 deriving Inhabited,DecidableEq
def qh.D (x:qh):D:=.agg [.str x.name,.int .i64 x.v.major,.int .i64 x.v.minor,.int .i64 x.v.patch,.str x.v.pre,.str x.v.build,.str x.shelf,.int .u64 x.sum,.sl 1 (x.feats.map D.str)]
structure Env where
 e0:cV
 e1:cV
 e2:cV
 deriving Inhabited,DecidableEq
def Env.D (e:Env):D:=.agg [.str e.e0,.str e.e1,.str e.e2]
structure vb where
 env:Env
 lines:List qh
 deriving Inhabited,DecidableEq
def vb.D (l:vb):D:=.agg [.str l.env.e0,.str l.env.e1,.str l.env.e2,.sl 9 (l.lines.map qh.D)]
end Go.Abs
namespace Go.Abs
theorem ue (a b:List UInt8):HI (.str a) (.str b)=decide (a=b):=ki a b
theorem ud (k k2:IntKind)(a b:Int):HI (.int k a) (.int k2 b)=decide (a=b):=rfl
def aU.eq (a b:aU):fT (aU.D a).cells (aU.D b).cells=decide (a=b):=by
 obtain⟨a1,a2,a3,a4,a5⟩:=a;obtain⟨b1,b2,b3,b4,b5⟩:=b
 grind [aU.D,D.cells,fT,ue,ud]
def Env.eq (a b:Env):fT (Env.D a).cells (Env.D b).cells=decide (a=b):=by
 obtain⟨a1,a2,a3⟩:=a;obtain⟨b1,b2,b3⟩:=b
 grind [Env.D,D.cells,fT,ue,ud]
theorem aU.inj {a b:aU}(h:aU.D a=aU.D b):a=b:=by
 obtain⟨a1,a2,a3,a4,a5⟩:=a;obtain⟨b1,b2,b3,b4,b5⟩:=b
 grind [aU.D]
theorem Env.inj {a b:Env}(h:Env.D a=Env.D b):a=b:=by
 obtain⟨a1,a2,a3⟩:=a;obtain⟨b1,b2,b3⟩:=b
 grind [Env.D]
theorem map_inj {α:Type}{q:α->D}(hq:∀a b,q a=q b->a=b):∀{xs ys:List α},xs.map q=ys.map q->xs=ys
 |[],[],_=>rfl
 |[],_::_,h=>by simp at h
 |_::_,[],h=>by simp at h
 |a::r,b::s,h=>by
  simp only[List.map_cons,sj]at h;rw[hq a b h.1,map_inj hq h.2]
theorem str_inj (a b:List UInt8)(h:D.str a=D.str b):a=b:=by simpa using h
theorem qh.inj {a b:qh}(h:qh.D a=qh.D b):a=b:=by
 obtain⟨a1,⟨v1,v2,v3,v4,v5⟩,a2,a3,a4⟩:=a;obtain⟨b1,⟨w1,w2,w3,w4,w5⟩,b2,b3,b4⟩:=b
 grind [qh.D,map_inj,str_inj]
theorem vb.inj {a b:vb}(h:vb.D a=vb.D b):a=b:=by
 obtain⟨⟨a1,a2,a3⟩,a4⟩:=a;obtain⟨⟨b1,b2,b3⟩,b4⟩:=b
 grind [vb.D,map_inj,qh.inj]
end Go.Abs
end
section
namespace Go.Abs
def allI (p:Nat->Bool):Nat->Nat->Bool
 |_,0=>true
 |i,k+1=>p i&&allI p (i+1) k
def cv (p:Nat->Bool)(i n:Nat):Bool:=allI p i (n-i)
def aQ {p:Nat->Bool}{i n:Nat}(h:i<n):cv p i n=(p i&&cv p (i+1) n):=by
 unfold cv;rw[show n-i=(n-(i+1))+1 by omega];rfl
def cw {p:Nat->Bool}{i n:Nat}(h:n<=i):cv p i n=true:=by
 unfold cv;rw[show n-i=0 by omega];rfl
theorem vo {p:Nat->Bool}:∀{k i:Nat},allI p i k=true↔∀j,i<=j->j<i+k->p j=true
 |0,i=>by simp[allI];intro j h1 h2;omega
 |k+1,i=>by
  simp only[allI,cj,vo (k:=k)]
  grind
def ea {p:Nat->Bool}{i n:Nat}:cv p i n=true↔∀j,i<=j->j<n->p j=true:=by
 grind [cv,vo]
end Go.Abs
namespace Go.Abs
def dn {a a' b b':D}(h1:a=a')(h2:b=b'):D.tup [a,b]=D.tup [a',b']:=by rw[h1,h2]
end Go.Abs
namespace Go.Abs
end Go.Abs
namespace Go.Abs
def vB (s:cV)(pos:Nat)(h:pos<s.length):∃c w,oH s pos=(c,w)/\1<=w/\((w=1/\(c:Int)=at8 s pos/\c<128)\/(128<=c/\128<=at8 s pos)):=by
 refine⟨(oH s pos).1,(oH s pos).2,rfl, ?_⟩;have e:oH s pos=Lib.decodeN (s.length-pos) (s.getD pos 0).toNat (s.getD (pos+1) 0).toNat (s.getD (pos+2) 0).toNat (s.getD (pos+3) 0).toNat:=Lib.decode_N ⟨⟨s⟩⟩ pos;rw[e];unfold at8;generalize (s.getD pos 0).toNat=b0;generalize (s.getD (pos+1) 0).toNat=b1;generalize (s.getD (pos+2) 0).toNat=b2;generalize (s.getD (pos+3) 0).toNat=b3;generalize s.length-pos=n;by_cases hb:b0<128
 .unfold Lib.decodeN;rw[aw hb];exact⟨aW _,.inl ⟨rfl,rfl,hb⟩⟩
 .unfold Lib.decodeN
  grind
end Go.Abs
namespace Go.Abs
def zw {α:Type}{q:α->D}{xs:List α}{m:List (Nat×bB)}{l:Nat}(hq:∀x,xV m [.a] (q x)=q x)(hl:look m l=some (.buf 1 (xs.map q))):xV m [.sl 1 [.a]] (.own l 1 0 xs.length)=.sl 1 (xs.map q):=by
 show D.sl 1 _=_;simp only[aP,hl,ch,aO,List.map_map];congr 1;apply List.map_congr_left;intro x _;have:=hq x;simp only[Function.comp];generalize q x=d at this;cases d<;>exact this
def xc {α:Type}{q:α->D}{xs:List α}{m:List (Nat×bB)}{l:Nat}(hq:∀x,F7 m [.a] (q x))(hl:look m l=some (.buf 1 (xs.map q))):F7 m [.sl 1 [.a]] (.own l 1 0 xs.length):=by
 grind [F7,GN,F6,ec,aP,aO]
end Go.Abs
end
namespace Go.Abs
def xX (c:Int):Bool:=decide (97<=c)&&decide (c<=122)
def cH (c:Int):Bool:=decide (48<=c)&&decide (c<=57)
def dC (s:cV):Nat:=s.foldl (fun n b=>n*10+(b.toNat-48)) 0
def iG (s:cV):Bool:=decide (1<=s.length)&&decide (s.length<=9)&& !(decide (1<s.length)&&decide (at8 s 0=48))&&cv (fun i=>cH (at8 s i)) 0 s.length&&decide (dC s<=9999)
def p0 (s:cV):Int:=if iG s=true then(dC s:Int)else 0
def oo (s:cV)(i:Nat)(h:i<s.length):s.take (i+1)=s.take i++[s.getD i 0]:=by
 rw[List.take_succ];simp[h]
def pG (s:cV)(i:Nat)(h:i<s.length):dC (s.take (i+1))=dC (s.take i)*10+((at8 s i).toNat-48):=by
 rw[oo s i h];simp[dC,List.foldl_append,at8]
def Bo (s:cV):dC s+23<=23*10^s.length:=by
 have:∀(s:cV) (n k:Nat),n+23<=23*10^k->s.foldl (fun n b=>n*10+(b.toNat-48)) n+23<=23*10^(k+s.length):=by
  intro s;induction s with
  |nil=>intro n k h;simpa using h
  |cons b r ih=>
   intro n k h;have hb:=b.toNat_lt;have:=ih (n*10+(b.toNat-48)) (k+1) (by rw[Nat.pow_succ];omega);simp only[List.foldl_cons,bX];rw[show k+(r.length+1)=k+1+r.length by omega];exact this
 have:=this s 0 0 a8;simpa[dC]using this
def n7 (s:cV)(i:Nat)(h:i<=9):dC (s.take i)<=23000000000:=by
 have h1:=Bo (s.take i);have h2:(s.take i).length<=9:=dT;have h3:10^(s.take i).length<=10^9:=Nat.pow_le_pow_right ae h2;omega
def v8 (s:cV):∀n:Nat,s.foldl (fun n b=>n*10+(b.toNat-48)) n=n*10^s.length+dC s:=by
 unfold dC;induction s with
 |nil=>intro n;simp
 |cons b r ih=>
  intro n;simp only[List.foldl_cons,bX];rw[ih,ih (0*10+(b.toNat-48)),Nat.pow_succ];simp only[Nat.zero_mul,bE,Nat.add_mul];rw[Nat.mul_assoc n 10,Nat.mul_comm 10];omega
def pF (b:UInt8)(r:cV):dC (b::r)=(b.toNat-48)*10^r.length+dC r:=by
 have:=v8 r (0*10+(b.toNat-48));simp only[dC,List.foldl_cons]at this⊢;rw[this];simp
def pA {b:UInt8}{r:cV}(h:cv (fun i=>cH (at8 (b::r) i)) 0 (b::r).length=true):cH b.toNat=true/\cv (fun i=>cH (at8 r i)) 0 r.length=true:=by
 rw[ea]at h;refine⟨by simpa[at8]using h 0 ae a8, ?_⟩;rw[ea];intro j _ hj;simpa[at8]using h (j+1) ae dT
def tj:∀(s:cV),cv (fun i=>cH (at8 s i)) 0 s.length=true->dC s<10^s.length
 |[],_=>by simp[dC]
 |b::r,h=>by
  obtain⟨h1,h2⟩:=pA h;have:=tj r h2;rw[pF,bX,Nat.pow_succ];simp only[cH,cj,dI]at h1;have h3:b.toNat-48<=9:=ae;have:=gP (10^r.length) h3;omega
def Bn {b:UInt8}{r:cV}(h:49<=b.toNat):10^r.length<=dC (b::r):=by
 rw[pF];have:=gP (10^r.length) (show 1<=b.toNat-48 by omega);omega
def C9 (s:cV):iG s=(decide (1<=s.length)&&decide (s.length<=4)&& !(decide (1<s.length)&&decide (at8 s 0=48))&&cv (fun i=>cH (at8 s i)) 0 s.length):=by
 unfold iG;cases hd:cv (fun i=>cH (at8 s i)) 0 s.length with
 |false=>simp
 |true=>
  have hlt:=tj s hd;by_cases h4:s.length<=4
  .have:10^s.length<=10^4:=Nat.pow_le_pow_right ae h4;rw[cB h4,cB (by omega:s.length<=9),cB (by omega:dC s<=9999)];simp
  .rw[df h4]
   match s,hd,h4 with
   |b::r,hd,h4=>
    by_cases h0:at8 (b::r) 0=48
    .rw[cB h0,cB (by omega:1<(b::r).length)];simp
    .have h1:=(pA hd).1;simp only[cH,cj,dI]at h1;have h2:49<=b.toNat:=by
      simp[at8]at h0;omega
     have h3:=Bn (r:=r) h2;have:10^4<=10^r.length:=Nat.pow_le_pow_right ae (by simp at h4;omega);rw[df (by omega:¬dC (b::r)<=9999)];simp
def fV (b:Int):cV->cV->List cV
 |[],cur=>[cur]
 |c::r,cur=>if(c.toNat:Int)=b then cur::fV b r []else fV b r (cur++[c])
def bg (s:cV)(b:Int):List cV:=fV b s []
def y1 (s:cV)(i:Nat)(h:i<s.length):s.drop i=s.getD i 0::s.drop (i+1):=by
 rw[jt h];simp[h]
def tz {s:cV}{b:Int}{i fr:Nat}(h:i<s.length)(he:at8 s i=b):fV b (s.drop i) ((s.take i).drop fr)=((s.take i).drop fr)::fV b (s.drop (i+1)) ((s.take (i+1)).drop (i+1)):=by
 rw[y1 s i h];have h2:(s.take (i+1)).drop (i+1)=[]:=a8;rw[h2];simp only[fV];rw[aw (by simpa[at8]using he)]
def tA {s:cV}{b:Int}{i fr:Nat}(h:i<s.length)(hf:fr<=i)(he:¬at8 s i=b):fV b (s.drop i) ((s.take i).drop fr)=fV b (s.drop (i+1)) ((s.take (i+1)).drop fr):=by
 rw[y1 s i h,oo s i h,List.drop_append_of_le_length dT];simp only[fV];rw[ai (by simpa[at8]using he)]
def rZ {s:cV}{b:Int}{i fr:Nat}(h:s.length<=i):fV b (s.drop i) ((s.take i).drop fr)=[s.drop fr]:=by
 rw[lW h,ic h];rfl
def ny (b:Int):∀(s cur:cV),(fV b s cur).length<=s.length+1
 |[],cur=>by simp[fV]
 |c::r,cur=>by
  simp only[fV];split
  .have:=ny b r [];simp;omega
  .have:=ny b r (cur++[c]);simp;omega
def nw (s:cV)(b:Int):(bg s b).length<=s.length+1:=ny b s []
def jd (c:Int):Bool:=xX c ||cH c ||decide (c=45)
def mG (t:cV):Bool:=decide (1<=t.length)&&decide (t.length<=8)&&cv (fun i=>jd (at8 t i)) 0 t.length
def b7 (t:cV):Bool:=cv (fun i=>cH (at8 t i)) 0 t.length&&decide (0<t.length)
def eV (p:Bool)(t:cV):Bool:=mG t&& !(p&&b7 t&& !iG t)
def j6 (s:cV)(p:Bool):Bool:=decide ((bg s 46).length<=4)&&cv (fun i=>eV p (bg s 46)[i]!) 0 (bg s 46).length
def pL (s:cV)(p:Bool):Bool:=decide (s=[]) ||j6 s p
def xG (n:Int):Bool:=decide (0<=n)&&decide (n<=9999)
def hY (v:aU):Bool:=xG v.major&&xG v.minor&&xG v.patch&&pL v.pre true&&pL v.build false
def aU.sm (v:aU):Prop:=v.pre.length<=1048576/\v.build.length<=1048576
def Env.at (e:Env):Nat->cV
 |0=>e.e0
 |1=>e.e1
 |_=>e.e2
def Env.ld (e:Env){i:Nat}(h:i<3):mF (Env.D e) 3 1 (0+i*1) false=.str (e.at i):=by
 match i,h with
 |0,_=>rfl
 |1,_=>rfl
 |2,_=>rfl
def vb.ld (l:vb){i:Nat}(h:i<3):mF (vb.D l) 4 1 (0+i*1) false=.str (l.env.at i):=by
 match i,h with
 |0,_=>rfl
 |1,_=>rfl
 |2,_=>rfl
def Env.cut (e:Env){i:Nat}(h:i<3):Abs.cut [.str e.e0,.str e.e1,.str e.e2] (i*1) 1 false=.str (e.at i):=by
 match i,h with
 |0,_=>rfl
 |1,_=>rfl
 |2,_=>rfl
def qh.sm (x:qh):Prop:=x.v.sm/\x.name.length<=1048576/\x.shelf.length<=1048576/\x.feats.length<=1048576/\∀t∈x.feats,t.length<=1048576
def vb.sm (l:vb):Prop:=l.lines.length<=1048576/\(∀x∈l.lines,x.sm)/\∀i,(l.env.at i).length<=1048576
theorem ak {α:Type} [Inhabited α]{l:List α}{i:Nat}(h:i<l.length):l[i]! ∈l:=by
 simp[h]
structure Kp where
 name:cV
 v:aU
 deriving Inhabited,DecidableEq
def Kp.D (x:Kp):D:=.agg [.str x.name,.int .i64 x.v.major,.int .i64 x.v.minor,.int .i64 x.v.patch,.str x.v.pre,.str x.v.build]
def D4 {α:Type} [Inhabited α] [DecidableEq α]{a b:List α}(h:a.length=b.length):decide (a=b)=cv (fun i=>decide (a[i]! =b[i]!)) 0 a.length:=by
 rw[Bool.eq_iff_iff,dI,ea];constructor
 .rintro rfl j _ _;simp
 .intro hj;apply List.ext_getElem h
  grind
def qh.same {a b:qh}(e1:a.name=b.name)(e2:a.v=b.v)(e3:a.shelf=b.shelf)(e4:a.sum=b.sum)(e5:a.feats.length=b.feats.length):decide (a=b)=cv (fun i=>decide (a.feats[i]! =b.feats[i]!)) 0 a.feats.length:=by
 rw[<-D4 e5];obtain⟨a1,a2,a3,a4,a5⟩:=a;obtain⟨b1,b2,b3,b4,b5⟩:=b
 grind
def Env.sm (e:Env):Prop:=∀i,(e.at i).length<=1048576
end Go.Abs
section
namespace Go.Abs
def eQ (v n:Int):Int:=if n<1 then 0 else if v.tmod n<0 then v.tmod n+n else v.tmod n
def r7 (v n:Int)(h:1<=n):-n<v.tmod n/\v.tmod n<n:=⟨Int.lt_tmod_of_pos v ae,Int.tmod_lt_of_pos v ae⟩
def gL (v n:Int)(h:1<=n):0<=eQ v n/\eQ v n<n:=by
 have:=r7 v n h
 grind [eQ]
def vc (l:List Int)(i:Int):Int:=if i<0\/(l.length:Int)<=i then i.tmod 3 else l[i.toNat]!
structure Gs where
 l:List Int
 i:Int
 deriving Inhabited
def Gs.D (g:Gs):D:=.agg [.sl 1 (g.l.map (D.int .i64)),.int .i64 g.i]
def Gs.val (g:Gs)(n:Int):Int:=eQ (vc g.l g.i) n
def Gs.bl (g:Gs):Gs:=⟨g.l,g.i+1⟩
def cutL (s:cV)(b:UInt8):cV×cV×Bool:=match s.findIdx? (fun c=>c==b)with
 |some k=>(s.take k,s.drop (k+1),true)
 |none=>(s,[],false)
structure Gl where
 s:cV
 at':Nat
 n:Nat
def Gl.D (r:Gl):D:=.agg [.str r.s,.int .i64 (r.at':Nat),.int .i64 (r.n:Nat)]
def Gl.ln (r:Gl):cV×cV×Bool:=cutL (r.s.drop r.at') 10
def Gl.bl (r:Gl):Gl:=⟨r.s,if r.ln.2.2=true then r.at'+(r.ln.1.length+1)else r.at',r.n+1⟩
end Go.Abs
namespace Go.Abs
end Go.Abs
namespace Go.Abs
end Go.Abs
namespace Go.Abs
end Go.Abs
namespace Go.Abs
end Go.Abs
namespace Go.Abs
variable {e:Env} {f:Nat} {r:Gl} {ls:List qh}
end Go.Abs
namespace Go.Abs
end Go.Abs
end
namespace Go.Abs
section
section
variable {Y:Ctx} {draw:Bool} {r:List GI} {env rs:List bz} {nx:Nat} {m:List (Nat×bB)} {K:List bz->St->Prop} {g:Option (Nat×Bool)} {f:Bool}
def Dx {n l k j:Nat}{w:Bool}{x:Src}{args:List Src}{sh:List (List Sh)}{d v e:D}{S2:List D}{m2:List (Nat×bB)}(h:az Y false r env (⟨true,v⟩::rs) nx m2 K)(hg:GF rs (some (j,w)) true:=by exact⟨_,_,rfl,rfl⟩)(hx:cn env rs x=⟨true,.ptr l k 0 0⟩:=by exact rfl)(hl:look m l=some (.buf k [d]):=by exact rfl)(hd:d.aV=true:=by exact rfl)(hc:Y.fp n d S2/\Y.fv n d S2=v/\Y.fs n d S2=e)(ha:hN [] sh (e8 (cn env rs) args)=S2:=by exact rfl)(ho:pH (cn env rs) args:=by repeat' first|exact trivial|exact rfl|refine And.intro ?_ ?_|decide)(hn:aJ (e8 (cn env rs) args)=true:=by exact rfl)(hm:cz m l (.buf k [e])=m2:=by simp only[cz,cO,Nat.reduceEqDiff,aX,aS,Nat.reduceAdd,reduceCtorEq];exact rfl):az Y false (⟨.callF n x args sh,some (j,w)⟩::r) env rs nx m K:=
 Dy rfl rfl hg (fun _=>⟨v,by simp only[ay.dd,hx,ec,aP,hl,fK,(cx _ _ _).1,ha];exact⟨trivial,ho,hn,trivial,trivial,⟨trivial,a8⟩,a8,hd,hc.1⟩,by simp only[ay.val,hx,aP,hl,fK,(cx _ _ _).1,ha,hc.2.1],m2,by simp only[ay.bY,hx,aP,hl,fK,(cx _ _ _).1,ha,hc.2.2];exact hm,h⟩) (fun h=>by cases h)
def Ib {i:ay}{j:Nat}{w:Bool}(h:az Y false r env (⟨false,.any⟩::rs) nx m K)(hM:i.bU=false:=by exact rfl)(hC:i.calm=false:=by exact rfl)(hg:GF rs (some (j,w)) false:=by exact⟨_,_,rfl,rfl⟩):az Y false (⟨i,some (j,w)⟩::r) env rs nx m K:=
 Dy hM hC hg (fun h=>by cases h) (fun _=>h)
def Lm {i:ay}{j:Nat}{w:Bool}(d:D)(h:az Y draw r env (⟨false,d⟩::rs) nx m K)(hC:i.pure=true:=by exact rfl)(hg:GF rs (some (j,w)) false:=by exact⟨_,_,rfl,rfl⟩):az Y draw (⟨i,some (j,w)⟩::r) env rs nx m K:=
 bM hC hg d (fun h=>by cases h) (fun h=>by cases h) (fun _=>h)
def iX {n:Nat}{args:List Src}{S2:List D}{v:D}{nx':Nat}{m':List (Nat×bB)}(h:az Y draw r env (⟨true,v⟩::rs) nx' m' K)
  (hc:∀K':D->St->Prop,K' v ⟨nx'+rs.length,m'⟩->Y.tr n S2 ⟨nx+rs.length,m⟩ K') (hn:nx<=nx') (ha:e8 (cn env rs) args=S2:=by exact rfl)
  (ho:pH (cn env rs) args:=by repeat' first|exact trivial|exact rfl|refine And.intro ?_ ?_):az Y draw (⟨.callM n args,none⟩::r) env rs nx m K:=by
 unfold az;show True/\(true=true->pH (Src.ev env rs.reverse) args/\Y.tr n (e8 (Src.ev env rs.reverse) args) {nx:=nx+rs.reverse.length,m:=m} _)/\(true=false->_)
 grind [jC,az]
end
end
end Go.Abs
section
namespace Go.Abs
def iQ:List aU:=[⟨1,0,0,[],[]⟩,⟨1,2,0,[],[]⟩,⟨2,0,0,[97,46,49],[]⟩,⟨2,0,0,[],[]⟩]
def nlS:List cV->D
 |[]=>.aC
 |a::r=>.sl 1 ((a::r).map D.str)
def qh.N (x:qh):Go.Abs.D:=.agg [.str x.name,.int .i64 x.v.major,.int .i64 x.v.minor,.int .i64 x.v.patch,.str x.v.pre,.str x.v.build,.str x.shelf,.int .u64 x.sum,nlS x.feats]
end Go.Abs
namespace Go.Abs
def qh.F (name:cV)(v:aU)(shelf:cV)(sum:Int)(fs:Go.Abs.D):Go.Abs.D:=.agg [.str name,.int .i64 v.major,.int .i64 v.minor,.int .i64 v.patch,.str v.pre,.str v.build,.str shelf,.int .u64 sum,fs]
mutual
theorem oN (l k:Nat)(es:List D):∀d:D,d.aV=true->fG l k es d=d
 | .agg a,h=>by simp only[fG,gJ l k es a (by simpa[D.aV]using h)]
 | .tup a,h=>by simp only[fG,gJ l k es a (by simpa[D.aV]using h)]
 | .fn n a,h=>by simp only[fG,gJ l k es a (by simpa[D.aV]using h)]
 | .own ..,h=>by simp[D.aV]at h
 | .ptr ..,h=>by simp[D.aV]at h
 | .it ..,h=>by simp[D.aV]at h
 | .any,_| .bool _,_| .int ..,_| .str _,_| .aC,_| .sl ..,_| .ref ..,_| .nilp,_| .nilf,_=>rfl
theorem gJ (l k:Nat)(es:List D):∀ds:List D,aJ ds=true->fY l k es ds=ds
 |[],_=>rfl
 |d::r,h=>by
  simp only[aJ,cj]at h;simp only[fY,oN l k es d h.1,gJ l k es r h.2]
end
end Go.Abs
namespace Go.Abs
end Go.Abs
namespace Go.Abs
end Go.Abs
namespace Go.Abs
end Go.Abs
namespace Go.Abs
end Go.Abs
namespace Go.Abs
end Go.Abs
end
section
namespace Go.Abs
end Go.Abs
namespace Go.Abs
def Kp.eq (a b:Kp):fT (Kp.D a).cells (Kp.D b).cells=decide (a=b):=by
 obtain⟨n1,⟨a1,a2,a3,a4,a5⟩⟩:=a;obtain⟨n2,⟨b1,b2,b3,b4,b5⟩⟩:=b
 grind [Kp.D,D.cells,fT,ue,ud]
structure qh.ok (n:Nat)(x:qh):Prop where
 pre:x.v.pre.length<=3
 build:x.v.build.length<=2
 name:x.name.length<=16
 shelf:x.shelf.length<=16
 nf:x.feats.length<=n
 ft:∀t∈x.feats,t.length<=16
 sum:0<=x.sum/\x.sum<18446744073709551616
structure vb.ok (n:Nat)(l:vb):Prop where
 len:l.lines.length<=4
 lines:∀x∈l.lines,x.ok n
 env:∀i,(l.env.at i).length<=16
theorem vb.ok.sm {n:Nat}{l:vb}(h:l.ok n)(hn:n<=1000):l.sm:=by
 refine⟨by have:=h.len;omega,fun x hx=>?_,fun i=>by have:=h.env i;omega⟩;have k:=h.lines x hx;have k1:=k.pre;have k2:=k.build;have k3:=k.name;have k4:=k.shelf;have k5:=k.nf;exact⟨⟨ae,ae⟩,ae,ae,ae,fun t ht=>by have:=k.ft t ht;omega⟩
def qh.ok.mono {n m:Nat}{x:qh}(h:x.ok n)(hm:n<=m):x.ok m:=⟨h.pre,h.build,h.name,h.shelf,eC h.nf hm,h.ft,h.sum⟩
end Go.Abs
end
namespace Go.Abs
section
def lk {α:Type}:List (Nat×α)->Nat->α->α
 |[],_,d=>d
 |(a,b)::r,n,d=>bif Nat.beq a n then b else lk r n d
structure Row where
 key:Nat
 pre:List D->Prop
 val:List D->D
structure KU where
 pre:D->List D->Prop
 val:D->List D->D
 new:D->List D->D
def Row.no:Row:=⟨0,fun _=>False,fun _=>.any⟩
def KU.no:KU:=⟨fun _ _=>False,fun _ _=>.any,fun _ _=>.any⟩
section
variable [cP] {P:Program} {ν:List (Nat×Nat)} {bY:List Nat} {Y:Ctx}
end
end
section
variable [cP]
section
variable {P:Program} {ν:List (Nat×Nat)} {bY:List Nat} {Y:Ctx}
def RD.re {x x':X}{σ:List (Nat×Nat)}(hw:x'.w=x.w)(hI:x'.I=x.I)(hβ:∀l l',fh 0 σ l=some l'->x'.β l'=x.β l){v:Value}{d d':D}(hv:RD ν x v d)(hd:Gm 0 σ d d'):RD ν x' v d':=by
 rcases hd with⟨rfl,hn⟩|hd|hd
 .exact hv.aV hn (fun _ h=>by rw[hI];exact h) (fun _ _=>by rw[hw])
 .grind [RD.rn]
 grind [RD.nl]
def jF.re {x x':X}{σ:List (Nat×Nat)}(hw:x'.w=x.w)(hI:x'.I=x.I)(hβ:∀l l',fh 0 σ l=some l'->x'.β l'=x.β l){b base tot:Nat}{b0 blk:bB}(o2:jF ν x b base tot b0)(q3:k9 0 σ b0 blk):jF ν x' b base tot blk:=by
 cases b0 with
 |iter s p=>
  cases blk with
  |iter s' p'=>simp only[k9]at q3;obtain⟨rfl,rfl⟩:=q3;simp only[jF,hw]at o2⊢;exact o2
  |_=>simp[k9]at q3
 |row s=>
  cases blk with
  |row s'=>simp only[k9]at q3;subst q3;simp only[jF,hw]at o2⊢;exact o2
  |_=>simp[k9]at q3
 |bld o n u=>
  cases blk with
  |bld o' n' u'=>
   simp only[k9]at q3;obtain⟨q3,rfl,rfl⟩:=q3;obtain⟨p1,v,p2,p3⟩:=o2;refine⟨p1,v,by rw[hw];exact p2, ?_⟩;cases o with
   |none=>simp only at q3;subst q3;exact p3
   |some l0=>
    obtain⟨l1,q4,rfl⟩:=q3;obtain⟨g,t,p4,p5,p6⟩:=p3;exact⟨g,t,p4,p5,by rw[hβ l0 l1 q4];exact p6⟩
  |_=>simp[k9]at q3
 |buf k es=>
  cases blk with
  |iter s' p'=>simp[k9]at q3
  |row s'=>simp[k9]at q3
  |bld o' n' u'=>simp[k9]at q3
  |buf k' es'=>
   simp only[k9]at q3;obtain⟨rfl,q3⟩:=q3;obtain⟨p1,p2,cc,T,fr,p3,p4,p5,p6⟩:=o2;rw[<-hw]at p3;rcases q3 with⟨rfl,hn⟩|q3|q3
   .exact⟨p1,p2,cc,T,fr,p3,p4,p5,fun i hi=>⟨(p6 i hi).1,fun j hj=>⟨((p6 i hi).2 j hj).1,RD.re hw hI hβ ((p6 i hi).2 j hj).2 (.inl ⟨rfl,hH (bW hn i) j⟩)⟩⟩⟩
   .obtain⟨r1,r2⟩:=fg q3;refine⟨p1,ae,cc,T,fr,p3,p4,p5,fun i hi=>?_⟩;have hi':i<es.length:=ae;obtain⟨s1,s2⟩:=tv (r2 i hi');exact⟨s1.trans (p6 i hi').1,fun j hj=>⟨((p6 i hi').2 j hj).1,RD.re hw hI hβ ((p6 i hi').2 j hj).2 (.inr (.inl (s2 j (by rw[(p6 i hi').1];exact hj))))⟩⟩
   .obtain⟨r1,r2⟩:=kZ q3;refine⟨p1,ae,cc,T,fr,p3,p4,p5,fun i hi=>?_⟩;have hi':i<es.length:=ae;obtain⟨s1,s2⟩:=sP (r2 i hi');exact⟨s1.trans (p6 i hi').1,fun j hj=>⟨((p6 i hi').2 j hj).1,RD.re hw hI hβ ((p6 i hi').2 j hj).2 (.inr (.inr (s2 j (by rw[(p6 i hi').1];exact hj))))⟩⟩
def zh {lo c:Nat}{σ:List (Nat×Nat)}{l l':Nat}(h0:eW 0 c σ=true)(h:fh 0 σ l=some l'):l'<c/\(l,l')∈σ:=by
 obtain⟨h1,h2⟩:=oa h0 h
 grind
def n6 {c:Nat}:∀{σ:List (Nat×Nat)}{a b:Nat},eW 0 c σ=true->(a,b)∈σ->fh 0 σ a=some b
 |[],a,b,_,h=>by cases h
 |(a0,b0)::r,a,b,h0,h=>by
  unfold fh;simp only[eW,cj,List.all_eq_true,eB]at h0;obtain⟨_,_,p4,p5⟩:=h0;rcases dK.1 h with h|h
  .simp only[dZ]at h;obtain⟨rfl,rfl⟩:=h;simp
  .have:=(p4 _ h).1;simp only at this;have hne:Nat.beq a0 a=false:=by
    cases hb:Nat.beq a0 a with
    |false=>rfl
    |true=>obtain rfl:=Nat.eq_of_beq_eq_true hb;simp at this
   rw[hne];exact n6 p5 h
structure Fr (σi σo:List (Nat×Nat))(q q1:Nat)(m0 m1:List (Nat×bB))(st st':St):Prop where
 oki:eW 0 q σi=true
 oko:eW 0 st'.nx σo=true
 nx:st.nx<=st'.nx
 lt:∀l i,(l,i)∈σi->look st.m l≠none
 io:∀i l,(i,l)∈σo->(l,i)∈σi\/st.nx<=l
 m0:∀i b,look m0 i=some b->∃l b',(l,i)∈σi/\look st.m l=some b'/\k9 0 σi b' b
 m1:∀l b,look st'.m l=some b->(∃i b1,(i,l)∈σo/\look m1 i=some b1/\k9 0 σo b1 b)\/(jh σo l=none/\(∀i,(l,i)∉σi)/\look st.m l=some b)
def Fa {fid:Nat}{fn:Func}{af:aA}{K:D->St->Prop}(hΓ:Ok P ν bY Y)(hmix:P.follows .mixedOrders=true)(hf:P.funcs[fid]? =some fn)(hc:compile P ν bY fn=some af)
  {x:X} {args:Array Value} {ds cs:List D} {st:St} {σi:List (Nat×Nat)} {q:Nat} {m0:List (Nat×bB)} (hl:args.size=ds.length) (hargs:∀i,i<ds.length->RD ν x (args.getD i undef) (ds.getD i .any))
  (hs:dQ ν x (look st.m)) (hfr:dL st x) (hlen:cs.length=ds.length) (hds:∀i,i<ds.length->Gm 0 σi (ds.getD i .any) (cs.getD i .any)) (hnp:cs.length=af.np)
  (oki:eW 0 q σi=true) (hlt:∀l i,(l,i)∈σi->look st.m l≠none) (hm0:∀i b,look m0 i=some b->∃l b',(l,i)∈σi/\look st.m l=some b'/\k9 0 σi b' b)
  (hw:bO (Y.at q) af.body (fun e env st1=>e.home/\lP st1.m env af.res/\∃(σo:List (Nat×Nat)) (q1:Nat) (m1:List (Nat×bB)) (st':St) (vd':D),Fr σi σo q q1 m0 m1 st st'/\Gm 0 σo (hO af env st1) vd'/\K vd' st'/\∀i,look st1.m i=look m1 i) (gv af cs) ⟨q,m0⟩):
  Calls P fid args x.w fun
   | .returned v,w'=>∃x' d st',K d st'/\x'.w=w'/\Step x x'/\RD ν x' v d/\dQ ν x' (look st'.m)/\dL st' x'
   |_,_=>False:=by
 obtain⟨body,c1,c2,c3,c4,c5,c6⟩:=fw hc
 let x0:X:=⟨x.w,x.I,fun i=>(jh σi i).bind x.β⟩
 have hx0:∀l i,(l,i)∈σi->x0.β i=x.β l:=fun l i h=>by simp only[x0,qo oki h,Option.bind_some]
 have hβ0:∀l i,fh 0 σi l=some i->x0.β i=x.β l:=fun l i h=>hx0 l i (zh (lo:=0) oki h).2
 have hx0':∀i p,x0.β i=some p->∃l,(l,i)∈σi/\x.β l=some p/\i<q:=by
  intro i p h;obtain⟨l,h1,h2⟩:=Option.bind_eq_some_iff.1 (show(jh σi i).bind x.β=some p from h);exact⟨l,iy h1,h2,lY oki (iy h1)⟩
 have hs0:dQ ν x0 (look m0):=by
  refine⟨fun i blk b base tot e1 e2=>?_,fun i j b base tot base' tot' e1 e2 e3 e4=>?_,hs.imm,fun i b base tot e=>?_,cP.le x _ (fun _ h=>h) (fun _ _=>rfl) hs.gd⟩
  .obtain⟨l,b',h1,h2,h3⟩:=hm0 i blk e1;rw[hx0 l i h1]at e2;obtain⟨o1,o2⟩:=hs.own l b' b base tot h2 e2;exact⟨o1,jF.re (x:=x) (x':=x0) rfl rfl hβ0 o2 h3⟩
  .obtain⟨l,h1,h2,_⟩:=hx0' i _ e3;obtain⟨l',h1',h2',_⟩:=hx0' j _ e4;have:=hs.inj l l' b base tot base' tot' (hlt _ _ h1) (hlt _ _ h1') h2 h2';subst this;have:=n6 oki h1;rw[n6 oki h1']at this;exact(bj this).symm
  .obtain⟨l,_,h2,_⟩:=hx0' i _ e;exact hs.du l b base tot h2
 have hf0:dL ⟨q,m0⟩ x0:=by
  refine⟨fun i hi=>?_,fun i hi=>?_⟩
  .cases h:x0.β i with
   |none=>rfl
   |some p=>obtain⟨_,_,_,h4⟩:=hx0' i p h;simp only at hi;omega
  .cases h:look m0 i with
   |none=>exact absurd h hi
   |some b=>obtain⟨l,b',h1,_⟩:=hm0 i b h;exact lY oki h1
 have hi:=po (P:=P) (ν:=ν) (bY:=bY) (x:=x0) (ds:=cs) (st:=⟨q,m0⟩) c4 c5 c6 (args:=args) ae hnp (fun i hi=>RD.re (x:=x) (x':=x0) rfl rfl hβ0 (hargs i ae) (hds i ae)) hs0 hf0;have hcs:=mV (C:={P,ν,bY,slots:=slotsOf fn,ntmps:=fn.ntmps,vm:=BP P fn}) (hΓ.at q) (jE fn).1 hmix x0 (fun l h=>hf0.β l h) body af.body c2 _ _ _ _ x0 hw hi (.refl _);refine calls_of_wp hf c1 (wp_mono hcs fun e a w' hp=>?_);obtain⟨e',x',env',st1,he,hxw,hst,hi',hh,hro,σo,q1,m1,st',vd',hfm,hvd,hK,hlk⟩:=hp;subst hxw;obtain⟨v,r1,r2,r3⟩:=lQ hΓ.small hi' c3 hro
 let x2:X:=⟨x'.w,x'.I,fun l=>match jh σo l with|some i=>x'.β i|none=>x.β l⟩
 have hx2:∀i l,(i,l)∈σo->x2.β l=x'.β i:=fun i l h=>by simp only[x2,qo hfm.oko h]
 have hx2n:∀l,jh σo l=none->x2.β l=x.β l:=fun l h=>by simp only[x2,h]
 have hβ2:∀i l,fh 0 σo i=some l->x2.β l=x'.β i:=fun i l h=>hx2 i l (zh (lo:=0) hfm.oko h).2
 have hx0s:∀l i p,(l,i)∈σi->x.β l=some p->x'.β i=some p:=fun l i p h e=>hst.β _ _ (by rw[hx0 l i h];exact e)

 have hnew:∀i p,x'.β i=some p->(∃l,(l,i)∈σi/\x.β l=some p)\/x.w.heap.size<=p.1\/∃l p',(∃j,(l,j)∈σi)/\x.β l=some p'/\p'.1=p.1:=by
  intro i p e;rcases hst.newβ i p e with h|h|⟨j,p',h1,h2⟩
  .obtain⟨l,h3,h4,_⟩:=hx0' i p h;exact .inl ⟨l,h3,h4⟩
  .exact .inr (.inl h)
  .obtain⟨l,h3,h4,_⟩:=hx0' j p' h1;exact .inr (.inr ⟨l,p',⟨j,h3⟩,h4,h2⟩)
 have hstep:Step x x2:=by
  refine⟨hst.os,hst.tape,hst.output,hst.size,hst.I,hst.keep,fun l p hp=>?_,fun b hb hn=>hst.old b hb fun i p h e=>?_,fun b h=>?_,fun l p h=>?_⟩
  .cases h:jh σo l with
   |none=>rw[hx2n l h];exact hp
   |some i=>
    have hm:=iy h;rw[hx2 i l hm];rcases hfm.io i l hm with h2|h2
    .exact hx0s l i p h2 hp
    .rw[hfr.β l h2]at hp;cases hp
  .obtain⟨l,_,h2,_⟩:=hx0' i p h;exact hn l p h2 e
  .rcases hst.newI b h with h|h|⟨i,p,h1,h2⟩
   .exact .inl h
   .exact .inr (.inl h)
   .obtain⟨l,_,h3,_⟩:=hx0' i p h1;exact .inr (.inr ⟨l,p,h3,h2⟩)
  .cases h1:jh σo l with
   |none=>rw[hx2n l h1]at h;exact .inl h
   |some i=>
    have hm:=iy h1;rw[hx2 i l hm]at h;rcases hnew i p h with⟨l',h2,h3⟩|h2|⟨l',p',_,h3,h4⟩
    .exact .inr (.inr ⟨l',p,h3,rfl⟩)
    .exact .inr (.inl h2)
    .exact .inr (.inr ⟨l',p',h3,h4⟩)
 have hsim:dQ ν x2 (look st'.m):=by
  refine⟨fun l blk b base tot e1 e2=>?_,fun l1 l2 b base tot base' tot' e1 e2 e3 e4=>?_,hi'.jq.imm,fun l b base tot e=>?_,cP.le x' _ (fun _ h=>h) (fun _ _=>rfl) hi'.jq.gd⟩
  .rcases hfm.m1 l blk e1 with⟨i,b1,h1,h2,h3⟩|⟨h1,h2,h3⟩
   .rw[hx2 i l h1]at e2;obtain⟨o1,o2⟩:=hi'.jq.own i b1 b base tot (by rw[hlk];exact h2) e2;exact⟨o1,jF.re (x:=x') (x':=x2) rfl rfl hβ2 o2 h3⟩
   .rw[hx2n l h1]at e2;obtain⟨o1,o2⟩:=hs.own l blk b base tot h3 e2;have hlt:=hs.du l b base tot e2;have hno:∀i p,x0.β i=some p->p.1≠b:=by
     rintro i ⟨b',base',tot'⟩ h e;simp only at e;subst e;obtain⟨l',h4,h5,_⟩:=hx0' i _ h;have:=hs.inj l' l b' base' tot' base tot (hfm.lt _ _ h4) (by rw[h3];simp) h5 e2;subst this;exact h2 _ h4
    refine⟨fun h=>?_,o2.mono hstep.le (hst.old b hlt hno)⟩;rcases hst.newI b h with h|h|⟨i,p,h4,h5⟩
    .exact o1 h
    .exact absurd hlt (Nat.not_lt.2 h)
    .exact hno i p h4 h5
  .have mix:∀l1 l2 base tot base' tot',(∃i b1,(i,l1)∈σo/\look m1 i=some b1)->jh σo l2=none->(∀i,(l2,i)∉σi)->look st.m l2≠none->x2.β l1=some (b,base,tot)->x2.β l2=some (b,base',tot')->False:=by
    rintro l1 l2 base tot base' tot' ⟨i,b1,h1,h2⟩ h3 h4 h5 e3 e4;rw[hx2 i l1 h1]at e3;rw[hx2n l2 h3]at e4;rcases hnew i _ e3 with⟨l',h6,h7⟩|h6|⟨l',⟨pb,pt,pq⟩,⟨j,h6⟩,h7,h8⟩
    .have:=hs.inj l' l2 b base tot base' tot' (hfm.lt _ _ h6) h5 h7 e4;subst this;exact h4 _ h6
    .have:=hs.du l2 b base' tot' e4;simp only at h6;omega
    .simp only at h8;subst h8;have:=hs.inj l' l2 pb pt pq base' tot' (hfm.lt _ _ h6) h5 h7 e4;subst this;exact h4 _ h6
   cases f1:look st'.m l1 with
   |none=>exact absurd f1 e1
   |some b1=>
    cases f2:look st'.m l2 with
    |none=>exact absurd f2 e2
    |some b2=>
     rcases hfm.m1 l1 b1 f1 with⟨i,c1,h1,h2,_⟩|⟨h1,h2,h3⟩<;>rcases hfm.m1 l2 b2 f2 with⟨j,c2,k1,k2,_⟩|⟨k1,k2,k3⟩
     .rw[hx2 i l1 h1]at e3;rw[hx2 j l2 k1]at e4;have:=hi'.jq.inj i j b base tot base' tot' (by rw[hlk,h2];simp) (by rw[hlk,k2];simp) e3 e4;subst this;have:=n6 hfm.oko h1;rw[n6 hfm.oko k1]at this;exact(bj this).symm
     .exact(mix l1 l2 base tot base' tot' ⟨i,c1,h1,h2⟩ k1 k2 (by rw[k3];simp) e3 e4).elim
     .exact(mix l2 l1 base' tot' base tot ⟨j,c2,k1,k2⟩ h1 h2 (by rw[h3];simp) e4 e3).elim
     .rw[hx2n l1 h1]at e3;rw[hx2n l2 k1]at e4;exact hs.inj l1 l2 b base tot base' tot' (by rw[h3];simp) (by rw[k3];simp) e3 e4
  .cases h1:jh σo l with
   |none=>rw[hx2n l h1]at e;exact js (hs.du l b base tot e) hst.size
   |some i=>
    rw[hx2 i l (iy h1)]at e;exact hi'.jq.du i b base tot e
 have hfr2:dL st' x2:=by
  refine⟨fun l hl=>?_,fun l hl=>?_⟩
  .cases h1:jh σo l with
   |none=>rw[hx2n l h1];exact hfr.β l (by have:=hfm.nx;omega)
   |some i=>have:=lY hfm.oko (iy h1);omega
  .cases f1:look st'.m l with
   |none=>exact absurd f1 hl
   |some b1=>
    rcases hfm.m1 l b1 f1 with⟨i,c1,h1,_⟩|⟨_,_,h3⟩
    .exact lY hfm.oko h1
    .have:=hfr.m l (by rw[h3];simp);have:=hfm.nx;omega
 have hrd:=RD.re (ν:=ν) (x:=x') (x':=x2) rfl rfl hβ2 r2 hvd;rcases Ex.uF hh with h|h<;>rw[h]at he<;>subst he<;>exact⟨hi'.defers,v,r1,x2,vd',st',hK,rfl,hstep,hrd,hsim,hfr2⟩
end
end
section
structure KV where
 tr:List D->St->(D->St->Prop)->Prop
 mu:List D->St->Nat
 mono:∀(ds:List D) (st:St) (K K':D->St->Prop),(∀d st',K d st'->K' d st')->tr ds st K->tr ds st K'
def KV.no:KV:=⟨fun _ _ _=>False,fun _ _=>0,fun _ _ _ _ _ h=>h⟩
def oA (af:aA)(Q:D->List (Nat×bB)->Prop):Ex->List bz->St->Prop:=fun e env st=>e.home/\lP st.m env af.res/\∃m1,(∀i,look st.m i=look m1 i)/\Q (hO af env st) m1
def iq {af:aA}{Q:D->List (Nat×bB)->Prop}{vd:D}{m1:List (Nat×bB)}{e:Ex}{env:List bz}{st:St}(h1:e.home)(h2:lP st.m env af.res)(h3:hO af env st=vd)(h4:st.m=m1)(h5:Q vd m1):oA af Q e env st:=⟨h1,h2,m1,fun i=>by rw[h4],by rw[h3];exact h5⟩
section
variable [cP] {P:Program} {ν:List (Nat×Nat)} {bY:List Nat} {Y:Ctx}
end
end
section
abbrev RT:=List D->D->Prop
abbrev FT:=D->List D->D->D->Prop
abbrev TT:=List D->St->(D->St->Prop)->Prop
def vj (T:TT):Prop:=∀ds st K K',(∀d st',K d st'->K' d st')->T ds st K->T ds st K'
def ux (A:RT->Prop):RT:=fun ds d=>∀T,A T->T ds d
def rj (A:FT->Prop):FT:=fun d ds v s=>∀T,A T->T d ds v s
def GK (T:TT):Ctx:=⟨fun _ _=>False,fun _ _=>.any,fun _=>T,fun _ _ _=>False,fun _ _ _=>.any,fun _ _ _=>.any,0⟩
def C3 (C:Ctx->Prop):TT:=fun ds st K=>∀T,vj T->C (GK T)->T ds st K
def vT (C:Ctx->Prop):vj (C3 C):=fun _ _ _ _ h h1 T hT hC=>hT _ _ _ _ h (h1 T hT hC)
def noR:RT:=fun _ _=>False
def La:FT:=fun _ _ _ _=>False
def noT:TT:=fun _ _ _=>False
def rD:vj noT:=fun _ _ _ _ _ h=>h.elim
structure kL where
 key:Nat
 rel:RT
 mu:List D->Nat
 relF:FT
 tr:TT
 muE:List D->St->Nat
 mono:vj tr
def mu0:List D->Nat:=fun _=>0
def Fp:List D->St->Nat:=fun _ _=>0
def jK:kL:=⟨0,noR,mu0,La,noT,Fp,rD⟩
def rP (k:Nat)(A:RT->Prop)(mu:List D->Nat:=mu0):kL:=⟨k,ux A,mu,La,noT,Fp,rD⟩
def rF (k:Nat)(A:FT->Prop):kL:=⟨k,noR,mu0,rj A,noT,Fp,rD⟩
def rG (k:Nat)(C:Ctx->Prop)(mu:List D->St->Nat:=Fp):kL:=⟨k,noR,mu0,La,C3 C,mu,vT C⟩
noncomputable def pick (r:D->Prop):D:=Classical.epsilon r
def hJ {r:D->Prop}(h:∃d,r d):r (pick r):=Classical.epsilon_spec h
def J1 (R:RT):Prop:=∀ds d d',R ds d->R ds d'->d=d'
def xu (R:FT):Prop:=∀d ds v s v' s',R d ds v s->R d ds v' s'->v=v'/\s=s'
def HH {A:RT->Prop}(h:A fun ds d=>A fun ds' d'=>ds'=ds->d=d'):J1 (ux A):=fun ds d d' h1 h2=>h2 _ (h1 _ h) rfl
def E6 {A:FT->Prop}(h:A fun d ds v s=>A fun d' ds' v' s'=>d'=d->ds'=ds->v=v'/\s=s'):xu (rj A):=fun d ds v s v' s' h1 h2=>h2 _ (h1 _ h) rfl rfl
noncomputable def sB (t:List (Nat×kL)):Ctx where
 pre n ds:=∃d,(lk t n jK).rel ds d
 val n ds:=pick ((lk t n jK).rel ds)
 tr n:=(lk t n jK).tr
 fp n d ds:=∃v s,(lk t n jK).relF d ds v s
 fv n d ds:=pick fun v=>∃s,(lk t n jK).relF d ds v s
 fs n d ds:=pick fun s=>∃v,(lk t n jK).relF d ds v s
 lo:=0
def DK (t:List (Nat×kL)):Hu:=⟨fun n=>(lk t n jK).key,fun n=>(lk t n jK).mu,fun n=>(lk t n jK).muE⟩
noncomputable abbrev under (t:List (Nat×kL))(k u:Nat):Ctx:=(sB t).under (DK t) k u
def tF (t:List (Nat×kL))(k u n:Nat):(((sB t).under (DK t) k u).at n).cb:=
 fun f ds st K K' h hh=>⟨hh.1,(lk t f jK).mono ds st K K' h hh.2⟩
section
variable {t:List (Nat×kL)} {n k u:Nat} {ds:List D} {d v s:D} {st:St} {K:D->St->Prop}
def okp (hD:J1 (lk t n jK).rel)(hk:(lk t n jK).key<k\/(lk t n jK).key=k/\(lk t n jK).mu ds<u)(h:(lk t n jK).rel ds d):(under t k u).pre n ds/\(under t k u).val n ds=d:=
 ⟨⟨hk,d,h⟩,hD _ _ _ (hJ ⟨d,h⟩) h⟩
def okf (hD:xu (lk t n jK).relF)(hk:(lk t n jK).key<k)(h:(lk t n jK).relF d ds v s):(under t k u).fp n d ds/\(under t k u).fv n d ds=v/\(under t k u).fs n d ds=s:=by
 refine⟨⟨.inl hk,v,s,h⟩, ?_, ?_⟩
 .obtain⟨s',h'⟩:=hJ (r:=fun v=>∃s,(lk t n jK).relF d ds v s) ⟨v,s,h⟩;exact(hD _ _ _ _ _ _ h' h).1
 .obtain⟨v',h'⟩:=hJ (r:=fun s=>∃v,(lk t n jK).relF d ds v s) ⟨s,v,h⟩;exact(hD _ _ _ _ _ _ h' h).2
def IU (hk:(lk t n jK).key<k\/(lk t n jK).key=k/\(lk t n jK).muE ds st<u)(h:(lk t n jK).tr ds st K):(under t k u).tr n ds st K:=⟨hk,h⟩
end
section
variable [cP] {P:Program} {ν:List (Nat×Nat)} {bY:List Nat} {Y:Ctx} {t:List (Nat×kL)} {fid n key:Nat}
def yO (P:Program)(ν:List (Nat×Nat))(bY:List Nat)(Y:Ctx)(fid:Nat)(ds:List D)(d:D):Prop:=Ok P ν bY Y->∀(x:X) (args:Array Value),args.size=ds.length->(∀i,i<ds.length->RD ν x (args.getD i undef) (ds.getD i .any))->aJ ds=true->
  (∀b,x.I b->b<x.w.heap.size)->cP.gd x->gC P x (fun v x'=>k8 x x'/\RD ν x' v d) ((callFunc fid args).run P x.w)
def yP (P:Program)(ν:List (Nat×Nat))(bY:List Nat)(Y:Ctx)(fid:Nat)(d:D)(ds:List D)(vd new:D):Prop:=Ok P ν bY Y->∀(x:X) (f:Nat->Option bB) (args:Array Value) (l k:Nat),args.size=ds.length+1->
   RD ν x (args.getD 0 undef) (.ptr l k 0 0)->(∀i,i<ds.length->RD ν x (args.getD (i+1) undef) (ds.getD i .any))->dQ ν x f->f l=some (.buf k [d])->d.aV=true->aJ ds=true->
   gC P x (fun v x'=>Step x x'/\RD ν x' v vd/\dQ ν x' (fun l'=>if l'=l then some (.buf k [new])else f l')/\x'.β=x.β) ((callFunc fid args).run P x.w)
def mI (P:Program)(ν:List (Nat×Nat))(bY:List Nat)(Y:Ctx)(fid:Nat)(ds:List D)(st:St)(K:D->St->Prop):Prop:=Ok P ν bY Y->∀(x:X) (args:Array Value),args.size=ds.length->(∀i,i<ds.length->RD ν x (args.getD i undef) (ds.getD i .any))->dQ ν x (look st.m)->dL st x->
  gC P x (fun v x'=>∃d st',K d st'/\Step x x'/\RD ν x' v d/\dQ ν x' (look st'.m)/\dL st' x') ((callFunc fid args).run P x.w)
structure IJ (P:Program)(ν:List (Nat×Nat))(bY:List Nat)(t:List (Nat×kL))(fid n:Nat):Prop where
 p:∀ds d,(lk t n jK).rel ds d->yO P ν bY (under t (lk t n jK).key ((lk t n jK).mu ds)) fid ds d
 f:xu (lk t n jK).relF/\∀d ds v s,(lk t n jK).relF d ds v s->yP P ν bY (under t (lk t n jK).key ((lk t n jK).mu (d::ds))) fid d ds v s
 g:∀ds st K,(lk t n jK).tr ds st K->mI P ν bY (under t (lk t n jK).key ((lk t n jK).muE ds st)) fid ds st K
def okA (hsm:∀fid n,cN ν fid=some n->n<1000000)(hB:∀t,bY.contains (1000000000+t)=true->t=cP.tB)(hG:∀g,bY.contains (500000000+g)=true->cP.gz g)(h:∀fid n,cN ν fid=some n->IJ P ν bY t fid n):Ok P ν bY (sB t):=by
 refine Lb (DK t) hsm hB hG (fun fid n hn ds hp hok=>(h fid n hn).p ds _ (hJ hp) hok) (fun fid n hn _ d ds hp hok=>?_) (fun fid n hn ds st K htr hok=>(h fid n hn).g ds st K htr hok);obtain⟨v,s,hr⟩:=hp;obtain⟨hD,hf⟩:=(h fid n hn).f;have h2:(sB t).fv n d ds=v/\(sB t).fs n d ds=s:=by
  constructor
  .obtain⟨s',h'⟩:=hJ (r:=fun v=>∃s,(lk t n jK).relF d ds v s) ⟨v,s,hr⟩;exact(hD _ _ _ _ _ _ h' hr).1
  .obtain⟨v',h'⟩:=hJ (r:=fun s=>∃v,(lk t n jK).relF d ds v s) ⟨s,v,hr⟩;exact(hD _ _ _ _ _ _ h' hr).2
 rw[h2.1,h2.2];exact hf d ds v s hr hok
def uC {Y:D->List D->Ctx}:xu La/\∀d ds v s,La d ds v s->yP P ν bY (Y d ds) fid d ds v s:=⟨fun _ _ _ _ _ _ h=>h.elim,fun _ _ _ _ h=>h.elim⟩
def bC {A:RT->Prop}{mu:List D->Nat}(hr:lk t n jK=rP key A mu)(h:A fun ds d=>yO P ν bY (under t key (mu ds)) fid ds d):IJ P ν bY t fid n:=by
 refine⟨?_, ?_, ?_⟩<;>rw[hr]
 .exact fun ds d hd=>hd (fun ds d=>yO P ν bY (under t key (mu ds)) fid ds d) h
 .exact uC
 .exact fun _ _ _ h=>h.elim
def oweF {A:FT->Prop}(hr:lk t n jK=rF key A)(hD:xu (rj A))(h:A fun d ds v s=>yP P ν bY (under t key 0) fid d ds v s):IJ P ν bY t fid n:=by
 refine⟨?_, ?_, ?_⟩<;>rw[hr]
 .exact fun _ _ h=>h.elim
 .exact⟨hD,fun d ds v s hd=>hd _ h⟩
 .exact fun _ _ _ h=>h.elim
def Bf {Y:List D->St->Ctx}:vj fun ds st K=>mI P ν bY (Y ds st) fid ds st K:=fun ds st K K' h hg hok x args hl ha hs hf=>(hg hok x args hl ha hs hf).mono fun v x' ⟨d,st',h1,h2⟩=>⟨d,st',h _ _ h1,h2⟩
def Bt {C:Ctx->Prop}{mu:List D->St->Nat}(hr:lk t n jK=rG key C mu)(h:C (GK fun ds st K=>mI P ν bY (under t key (mu ds st)) fid ds st K)):IJ P ν bY t fid n:=by
 refine⟨?_, ?_, ?_⟩<;>rw[hr]
 .exact fun _ _ h=>h.elim
 .exact uC
 .exact fun ds st K hd=>hd (fun ds st K=>mI P ν bY (under t key (mu ds st)) fid ds st K) Bf h
def BZ (P:Program)(ν:List (Nat×Nat))(bY:List Nat)(fid:Nat)(af:aA):Prop:=(P.funcs[fid]?).map (fun f=>(compile P ν bY f,f.name== "runtime.NumGoroutine"))=some (some af,false)
def BZ.split {af:aA}(h:BZ P ν bY fid af):∃fn,P.funcs[fid]? =some fn/\compile P ν bY fn=some af/\(fn.name== "runtime.NumGoroutine")=false:=by
 grind [BZ]
def aM {af:aA}{ds:List D}{d:D}(hmix:P.follows .mixedOrders=true)(hC:BZ P ν bY fid af)(h1:ds.length=af.np)(h2:bO (Y.at 0) af.body (IK af d) (gv af ds) ⟨0,[]⟩):yO P ν bY Y fid ds d:=by
 intro hok x args hl hargs hnl himm hgd;obtain⟨fn,hf,hc,hn⟩:=hC.split;obtain⟨body,c1,_⟩:=fw hc;exact .inr ⟨fid,args,gH hf hn (by rw[c1];rfl) args x.w,Fb hok hmix hf hc hl hargs hnl himm hgd h1 h2⟩
def K2 {af:aA}{d:D}{ds:List D}{vd new:D}(k0:Nat)(hmix:P.follows .mixedOrders=true)(hC:BZ P ν bY fid af)(h1:ds.length+1=af.np)(hk:d.cells.length=k0)
  (h2:bO (Y.at 1) af.body (Hv af k0 vd new) (gv af (.ptr 0 k0 0 0::ds)) ⟨1,[(0,.buf k0 [d])]⟩):yP P ν bY Y fid d ds vd new:=by
 intro hok x f args l k hl h0 hargs hs hfl hd hnl;obtain⟨fn,hf,hc,hn⟩:=hC.split;obtain⟨body,c1,_⟩:=fw hc;have hkk:k=k0:=by
  generalize args.getD 0 undef=v0 at h0;cases h0 with
  |ptr _ _ _ _ b base tot at_ hβ hat=>
   obtain⟨p1,p2,c,T,fr,p3,p4,p5,p6⟩:=(hs.own l _ b base tot hfl hβ).2;have:=(p6 0 a8).1
   grind
 subst hkk;exact .inr ⟨fid,args,gH hf hn (by rw[c1];rfl) args x.w,E9 hok hmix hf hc hl h0 hargs hs hfl hd hnl h1 h2⟩
def vJ {af:aA}{ds:List D}{st:St}{K:D->St->Prop}{σi:List (Nat×Nat)}{q:Nat}{m0:List (Nat×bB)}{cs:List D}{Q:D->List (Nat×bB)->Prop}(hmono:∀q,(Y.at q).cb)(hmix:P.follows .mixedOrders=true)(hC:BZ P ν bY fid af)
  (h1:cs.length=ds.length) (h2:∀i,i<ds.length->Gm 0 σi (ds.getD i .any) (cs.getD i .any)) (h3:cs.length=af.np)
  (h4:eW 0 q σi=true) (h5:∀l i,(l,i)∈σi->look st.m l≠none) (h6:∀i b,look m0 i=some b->∃l b',(l,i)∈σi/\look st.m l=some b'/\k9 0 σi b' b)
  (h7:bO (Y.at q) af.body (oA af Q) (gv af cs) ⟨q,m0⟩) (h8:∀d m1,Q d m1->∃(σo:List (Nat×Nat)) (q1:Nat) (st':St) (vd':D),Fr σi σo q q1 m0 m1 st st'/\Gm 0 σo d vd'/\K vd' st'):mI P ν bY Y fid ds st K:=by
 intro hok x args hl hargs hs hfr;obtain⟨fn,hf,hc,hn⟩:=hC.split;obtain⟨body,c1,_⟩:=fw hc;refine .inr ⟨fid,args,gH hf hn (by rw[c1];rfl) args x.w, ?_⟩;refine Calls.mono (Fa (K:=K) hok hmix hf hc hl hargs hs hfr h1 h2 h3 h4 h5 h6 (eN (hmono q) _ _ _ _ _ (fun e env st1 h=>?_) h7)) fun e w' he=>?_
 .obtain⟨g1,g2,m1,g3,g4⟩:=h
  grind
 grind
end
end
theorem pY {α:Type}{f:α->D}(hf:∀x y,f x=f y↔x=y):∀a b:List α,a.map f=b.map f↔a=b
 |[],[]=>a8
 |[],_::_=>a8
 |_::_,[]=>a8
 |x::a,y::b=>by simp only[List.map_cons,sj,hf,pY hf a b]
def HO (a b:Nat):((a:Nat):Int)=(b:Nat)↔a=b:=ae
theorem iU8 (x y:UInt8):((x.toNat:Nat):Int)=(y.toNat:Nat)↔x=y:=(HO _ _).trans yJ
def K6 (a b:List cV):a.map D.str=b.map D.str↔a=b:=pY (fun _ _=>a8) a b
def HN (a b:List Int):a.map (D.int .i64)=b.map (D.int .i64)↔a=b:=pY (fun _ _=>a8) a b
def iByt (a b:cV):(a.map fun c=>D.int .u8 c.toNat)=(b.map fun c=>D.int .u8 c.toNat)↔a=b:=by grind [pY,iU8]
def iVer (a b:aU):aU.D a=aU.D b↔a=b:=by cases a;cases b;simp[aU.D]
def Fz [cP]{P:Program}{ν:List (Nat×Nat)}{bY:List Nat}{t:List (Nat×kL)}{fid n:Nat}(hr:lk t n jK=jK):IJ P ν bY t fid n:=by
 refine⟨?_, ?_, ?_⟩<;>rw[hr]
 .exact fun _ _ h=>h.elim
 .exact uC
 .exact fun _ _ _ h=>h.elim
structure Cut where
 e:Int
 v:aU
 a:Bool
 deriving Inhabited,DecidableEq
def Cut.D (c:Cut):D:=.agg [.int .i64 c.e,.int .i64 c.v.major,.int .i64 c.v.minor,.int .i64 c.v.patch,.str c.v.pre,.str c.v.build,.bool c.a]
structure Span where
 f:Cut
 t:Cut
 deriving Inhabited,DecidableEq
def Span.D (s:Span):D:=.agg [.int .i64 s.f.e,.int .i64 s.f.v.major,.int .i64 s.f.v.minor,.int .i64 s.f.v.patch,.str s.f.v.pre,.str s.f.v.build,.bool s.f.a,
 .int .i64 s.t.e,.int .i64 s.t.v.major,.int .i64 s.t.v.minor,.int .i64 s.t.v.patch,.str s.t.v.pre,.str s.t.v.build,.bool s.t.a]
structure bd where
 rel:List Span
 pr:List Span
 deriving Inhabited,DecidableEq
def bd.D (s:bd):D:=.agg [.sl 14 (s.rel.map Span.D),.sl 14 (s.pr.map Span.D)]
structure Want where
 u:Int
 s:bd
 deriving Inhabited,DecidableEq
def Want.D (w:Want):D:=.agg [.int .i64 w.u,.sl 14 (w.s.rel.map Span.D),.sl 14 (w.s.pr.map Span.D)]
abbrev jS:=List Want
def c9 (r:jS):D:=.sl 3 (r.map Want.D)
structure dk where
 v:aU
 sh:Int
 needs:List jS
 bars:List Want
 deriving Inhabited,DecidableEq
def dk.D (c:dk):D:=.agg [.int .i64 c.v.major,.int .i64 c.v.minor,.int .i64 c.v.patch,.str c.v.pre,.str c.v.build,.int .i64 c.sh,.sl 1 (c.needs.map c9),.sl 3 (c.bars.map Want.D)]
structure cr where
 name:cV
 feat:cV
 cands:List dk
 deriving Inhabited,DecidableEq
def cr.D (u:cr):D:=.agg [.str u.name,.str u.feat,.sl 8 (u.cands.map dk.D)]
structure bT where
 us:List cr
 deriving Inhabited,DecidableEq
def bT.D (w:bT):D:=.agg [.sl 3 (w.us.map cr.D)]
structure dM where
 u:Int
 m:Int
 deriving Inhabited,DecidableEq
def dM.D (t:dM):D:=.agg [.int .i64 t.u,.int .i64 t.m]
structure aK where
 kind:Int
 unit:Int
 a:Int
 b:Int
 terms:List dM
 deriving Inhabited,DecidableEq
def aK.D (r:aK):D:=.agg [.int .i64 r.kind,.int .i64 r.unit,.int .i64 r.a,.int .i64 r.b,.sl 2 (r.terms.map dM.D)]
structure aF where
 w:bT
 allow:List Int
 rows:List aK
 deriving Inhabited,DecidableEq
def aF.D (c:aF):D:=.agg [.sl 3 (c.w.us.map cr.D),.sl 1 (c.allow.map (D.int .i64)),.sl 5 (c.rows.map aK.D)]
def xE (a b:Bool):fT (D.bool a).cells (D.bool b).cells=decide (a=b):=by cases a<;>cases b<;>rfl
def oM (f:Nat->Int):Nat->Nat->Int
 |_,0=>0
 |i,k+1=>if f i=0 then oM f (i+1) k else f i
def e9 (f:Nat->Int)(i n:Nat):Int:=oM f i (n-i)
def Bc {f:Nat->Int}{i n:Nat}(h:i<n)(hf:f i=0):e9 f i n=e9 f (i+1) n:=by
 unfold e9;obtain⟨k,hk⟩:∃k,n-i=k+1:=⟨n-i-1,ae⟩
 grind [oM]
def xF {f:Nat->Int}{i n:Nat}(h:i<n)(hf:f i≠0):e9 f i n=f i:=by
 unfold e9;obtain⟨k,hk⟩:∃k,n-i=k+1:=⟨n-i-1,ae⟩
 rw[hk];simp only[oM,hf,aS]
def Bb {f:Nat->Int}{i n:Nat}(h:n<=i):e9 f i n=0:=by
 unfold e9;rw[show n-i=0 by omega];rfl
def cK (a b:Int):Int:=if a<b then-1 else if b<a then 1 else 0
def jz (a b:cV):Int:=if Op.bytesLess a b=true then-1 else if a=b then 0 else 1
def mH (a b:cV):Int:=if b7 a=true/\b7 b=true then cK (p0 a) (p0 b)else if b7 a=true then-1 else if b7 b=true then 1 else jz a b
def wU (l m:List cV):Nat->Nat->Int
 |_,0=>cK l.length m.length
 |i,k+1=>if mH l[i]! m[i]! ≠0 then mH l[i]! m[i]! else wU l m (i+1) k
def mN (l m:List cV)(i:Nat):Int:=wU l m i (min l.length m.length-i)
def tD {l m:List cV}{i:Nat}(h:i<l.length/\i<m.length)(hn:mH l[i]! m[i]! ≠0):mN l m i=mH l[i]! m[i]! :=by
 unfold mN;rw[show min l.length m.length-i=(min l.length m.length-(i+1))+1 by omega,wU,aw hn]
def wT {l m:List cV}{i:Nat}(h:i<l.length/\i<m.length)(hn:mH l[i]! m[i]! =0):mN l m i=mN l m (i+1):=by
 unfold mN;rw[show min l.length m.length-i=(min l.length m.length-(i+1))+1 by omega,wU,ai (by rw[hn];simp)]
def tC {l m:List cV}{i:Nat}(h:l.length<=i\/m.length<=i):mN l m i=cK l.length m.length:=by
 unfold mN;rw[show min l.length m.length-i=0 by omega,wU]
def pd (a b:cV):Int:=if a=b then 0 else if a=[]then 1 else if b=[]then-1 else mN (bg a 46) (bg b 46) 0
def jG (a b:aU):Int:=if hY a=false\/hY b=false then 0 else
 if cK a.major b.major≠0 then cK a.major b.major else if cK a.minor b.minor≠0 then cK a.minor b.minor else
 if cK a.patch b.patch≠0 then cK a.patch b.patch else pd a.pre b.pre
def ir (v:aU):aU:=⟨v.major,v.minor,v.patch,v.pre,[]⟩
theorem A6 (a:Int):cK a a=0:=by simp[cK]
def oF {a b:Int}:cK a b=0↔a=b:=by
 grind [cK]
def A7 {a b:aU}(h:ir a=ir b):jG a b=0:=by
 grind [ir,jG,pd,A6]
theorem CH (x y z:Int):e9 (fun i=>[x,y,z][i]!) 0 [x,y,z].length=if x≠0 then x else if y≠0 then y else z:=by
 grind [e9,oM]
def CJ {x y z:Int}(h:e9 (fun i=>[x,y,z][i]!) 0 [x,y,z].length=0):x=0/\y=0/\z=0:=by
 grind [CH]
def CI {a b:aU}(hv:¬(hY a=false\/hY b=false))(h:¬e9 (fun i=>[cK a.major b.major,cK a.minor b.minor,cK a.patch b.patch][i]!) 0 [cK a.major b.major,cK a.minor b.minor,cK a.patch b.patch].length=0):
  e9 (fun i=>[cK a.major b.major,cK a.minor b.minor,cK a.patch b.patch][i]!) 0 [cK a.major b.major,cK a.minor b.minor,cK a.patch b.patch].length=jG a b:=by
 grind [CH,jG]
def Cy {a b:aU}(hv:¬(hY a=false\/hY b=false))(h1:cK a.major b.major=0)(h2:cK a.minor b.minor=0)(h3:cK a.patch b.patch=0):jG a b=pd a.pre b.pre:=by
 grind [jG]
def E3 {a b:aU}(h1:cK a.major b.major=0)(h2:cK a.minor b.minor=0)(h3:cK a.patch b.patch=0)(h4:a.pre=b.pre):ir a=ir b:=by
 unfold ir;rw[oF.1 h1,oF.1 h2,oF.1 h3,h4]
def Cut.sm (c:Cut):Prop:=c.v.sm
def Span.sm (s:Span):Prop:=s.f.sm/\s.t.sm
def bh (l:List Span):Prop:=∀s∈l,s.sm
def bd.sm (s:bd):Prop:=bh s.rel/\bh s.pr
def Want.sm (w:Want):Prop:=w.s.sm
def dk.sm (c:dk):Prop:=c.v.sm/\(∀r∈c.needs,∀w∈r,w.sm)/\∀w∈c.bars,w.sm
def cr.sm (u:cr):Prop:=u.cands.length<=16/\∀c∈u.cands,c.sm
def bT.sm (w:bT):Prop:=∀u∈w.us,u.sm
def zV:aU:=⟨0,0,0,[],[]⟩
def jA (c:Cut):Bool:=if c.e=0 then hY c.v&&decide (c.v.build=[])else(decide (c.e=-1) ||decide (c.e=1))&&decide (c.v=zV)&& !c.a
def eL (a b:Cut):Int:=if jA a=false\/jA b=false then 0 else if a.e≠0\/b.e≠0 then cK a.e b.e else
 if jG a.v b.v≠0 then jG a.v b.v else if a.a=b.a then 0 else if b.a=true then-1 else 1
def iD (s:Span):Bool:=jA s.f&&jA s.t&&decide (eL s.f s.t<0)
def eY (c:Cut)(v:aU):Bool:=if jA c=false\/hY v=false then false else if c.e≠0 then decide (c.e<0)else decide (jG c.v v<0) ||(decide (jG c.v v=0)&& !c.a)
def jH (s:Span)(v:aU):Bool:=iD s&&hY v&&eY s.f v&& !eY s.t v
def qa (l:List Span)(i:Nat):Bool:=iD l[i]! && !(decide (0<i)&&decide (0<=eL l[i-1]!.t l[i]!.f))
def jM (l:List Span):Bool:=cv (qa l) 0 l.length
def jT (f:Nat->Bool)(i n:Nat):Bool:=!cv (fun i=>!f i) i n
def ig {f:Nat->Bool}{i n:Nat}(h:i<n):jT f i n=(f i ||jT f (i+1) n):=by
 unfold jT;rw[aQ h];simp
def nG {f:Nat->Bool}{i n:Nat}(h:n<=i):jT f i n=false:=by
 unfold jT;rw[cw h];rfl
def Cl {f:Nat->Bool}{i n:Nat}:jT f i n=true↔∃j,i<=j/\j<n/\f j=true:=by
 unfold jT;rw[eB,<-Bool.not_eq_true,ea];simp
def kD (l:List Span)(v:aU):Bool:=jM l&&jT (fun i=>jH l[i]! v) 0 l.length
def nj (v:aU):Bool:=decide (v.major=0)&&decide (v.minor=0)&&decide (v.patch=0)
def hR (c:Cut):Bool:=decide (c.e≠0) ||(!c.a&&decide (c.v.pre=[])&& !nj c.v)
def j4 (c:Cut):Bool:=decide (c.e≠0) ||(!c.a&&decide (c.v.pre=[])&& !decide (c.v=zV))
def og (s:bd):Bool:=jM s.rel&&jM s.pr&&cv (fun i=>hR s.rel[i]!.f&&hR s.rel[i]!.t) 0 s.rel.length
def GH (s:bd):Bool:=cv (fun i=>j4 s.rel[i]!.f&&j4 s.rel[i]!.t) 0 s.rel.length&&(jM s.rel&&jM s.pr)
def mE (s:bd)(v:aU):Bool:=og s&&hY v&&(if v.pre=[]then kD s.rel v else kD s.pr v)
def rY {c:Cut}(h:jA c=true):j4 c=hR c:=by
 obtain⟨e,⟨a,b,c,p,q⟩,f⟩:=c;by_cases he:e=0
 .simp only[jA,he,aX,cj,dI]at h;obtain⟨_,rfl⟩:=h;simp only[j4,hR,nj,zV,aU.mk.injEq];by_cases h1:p=[]<;>by_cases h2:a=0<;>by_cases h3:b=0<;>by_cases h4:c=0<;>simp[h1,h2,h3,h4]
 .simp[j4,hR,he]
def D1 {l:List Span}(h:jM l=true){i:Nat}(hi:i<l.length):jA l[i]!.f=true/\jA l[i]!.t=true:=by
 unfold jM at h;rw[ea]at h;have:=h i ae hi;simp only[qa,iD,cj]at this;exact⟨this.1.1.1,this.1.1.2⟩
def FQ (s:bd):GH s=og s:=by
 unfold GH og;cases h:jM s.rel with
 |false=>simp
 |true=>
  have:cv (fun i=>j4 s.rel[i]!.f&&j4 s.rel[i]!.t) 0 s.rel.length=cv (fun i=>hR s.rel[i]!.f&&hR s.rel[i]!.t) 0 s.rel.length:=by
   rw[Bool.eq_iff_iff,ea,ea];constructor<;>intro g j h1 h2<;>have q:=D1 h h2<;>have:=g j h1 h2<;>rw[rY q.1,rY q.2]at* <;>exact this
  rw[this];cases jM s.pr<;>simp
def kq:Cut:=⟨-1,zV,false⟩
def nZ:Cut:=⟨1,zV,false⟩
def jB (v:aU):Cut:=⟨0,ir v,false⟩
def ql (v:aU):Cut:=⟨0,ir v,true⟩
def kO (v:aU):aU:=⟨v.major,v.minor,v.patch,[],[]⟩
def dV (v:aU)(p:Int):aU:=if p=0 then⟨v.major+1,0,0,[],[]⟩else if p=1 then⟨v.major,v.minor+1,0,[],[]⟩else⟨v.major,v.minor,v.patch+1,[],[]⟩
def eD (v:aU)(p:Int):aU×Bool:=if hY v=false\/p<0\/2<p then(zV,false)else if hY (dV v p)=false then(zV,false)else(dV v p,true)
def rC (v:aU):Nat->aU×Bool
 |0=>(zV,false)
 |n+1=>if(eD v (n:Int)).2=true then((eD v (n:Int)).1,true)else rC v n
def fZ (v:aU):aU×Bool:=if hY v=false then(zV,false)else if v.pre≠[]then(kO v,true)else rC v 3
def lg (v:aU):Cut:=if nj v=true then kq else jB (kO v)
def vw (v:aU):Cut:=if(fZ (kO v)).2=false then nZ else jB (fZ (kO v)).1
def kP (l:List Cut)(c:Cut)(i:Nat):Nat:=i+((l.drop i).takeWhile fun x=>decide (eL x c<0)).length
def Fi {l:List Cut}{c:Cut}{i:Nat}(h:i<l.length)(hc:eL l[i]! c<0):kP l c i=kP l c (i+1):=by
 unfold kP;rw[jt h,List.takeWhile_cons_of_pos (by simpa[h]using hc)];simp;omega
def Fj {l:List Cut}{c:Cut}{i:Nat}(h:i<l.length->¬eL l[i]! c<0):kP l c i=i:=by
 unfold kP;rcases dh i l.length with hi|hi
 .rw[jt hi,List.takeWhile_cons_of_neg (by simpa[hi]using h hi)];rfl
 .rw[lW hi];rfl
def pP (l:List Cut)(c:Cut):List Cut:=if kP l c 0<l.length/\eL l[kP l c 0]! c=0 then l else(l.take (kP l c 0)++[c])++l.drop (kP l c 0)
def jV (l:List Span):Nat->List Cut
 |0=>[kq,nZ]
 |i+1=>pP (pP (jV l i) l[i]!.f) l[i]!.t
def b6 (l:List Span):List Cut:=jV l l.length
def m7 (l:List Span)(f t:Cut):Bool:=jT (fun i=>decide (eL l[i]!.f f<=0)&&decide (eL t l[i]!.t<=0)) 0 l.length
def jg (l:List Span)(f t:Cut):List Span:=if 0<l.length/\eL l[l.length-1]!.t f=0 then l.set (l.length-1) ⟨l[l.length-1]!.f,t⟩else l++[⟨f,t⟩]
def dD (p:Cut->Cut->Bool)(c:List Cut):Nat->List Span
 |0=>[]
 |i+1=>if p c[i]! c[i+1]! =true then jg (dD p c i) c[i]! c[i+1]! else dD p c i
def wK (p:Cut->Cut->Bool)(c:List Cut):List Span:=dD p c (c.length-1)
def lH (l:List Span):List Span×Bool:=if cv (fun i=>iD l[i]!) 0 l.length=true then(wK (m7 l) (b6 l),true)else([],false)
def B4 (a b:List Span):List Span:=if jM a=false\/jM b=false then []else(lH (a++b)).1
def pZ (a:List Span):List Span:=if jM a=false then []else wK (fun x y=>!m7 a x y) (b6 a)
def rE:bd:=⟨[],[]⟩
def nC:List Span:=[⟨kq,nZ⟩]
def tS:bd:=⟨nC,nC⟩
def bo (v:aU):bd:=if hY v=false then rE else if v.pre≠[]then⟨[],[⟨jB v,ql v⟩]⟩else⟨[⟨lg v,vw v⟩],[]⟩
def Dj (a b:bd):bd:=if og a=false\/og b=false then rE else⟨B4 a.rel b.rel,B4 a.pr b.pr⟩
def uD (a:bd):bd:=if og a=false then rE else⟨pZ a.rel,pZ a.pr⟩
def kX (l:List Cut):Prop:=∀c∈l,c.sm
def AY (l:List Span):Prop:=bh l/\l.length<=1000
def xy (s:bd):Prop:=AY s.rel/\AY s.pr
def pN:zV.sm:=by simp[zV,aU.sm]
def mg:kq.sm:=pN
def n5:nZ.sm:=pN
def qn {v:aU}(h:v.sm):(ir v).sm:=⟨h.1,by simp[ir]⟩
def uT (v:aU):(kO v).sm:=by simp[kO,aU.sm]
def nL (v:aU)(p:Int):(dV v p).sm:=by unfold dV;split<;>(try split)<;>simp[aU.sm]
def Cs (v:aU)(p:Int):(eD v p).1.sm:=by unfold eD;split<;>(try split)<;>first|exact pN|exact nL v p
def vZ (v:aU):∀n,(rC v n).1.sm
 |0=>pN
 |n+1=>by
  rw[rC];split
  .exact Cs v _
  .exact vZ v n
def C8 (v:aU):(fZ v).1.sm:=by
 unfold fZ;repeat' split
 all_goals first|exact pN|exact uT v|exact vZ v _
def Ed {v:aU}(h:hY v=true):(0<=v.major/\v.major<=9999)/\(0<=v.minor/\v.minor<=9999)/\0<=v.patch/\v.patch<=9999:=by
 simp only[hY,xG,cj,dI]at h;omega
def tZ {l:List Cut}{c:Cut}(hl:kX l)(hc:c.sm):kX (pP l c):=by
 unfold pP;split
 .exact hl
 .intro x hx;simp only[List.mem_append,bK]at hx;rcases hx with(hx|rfl)|hx
  .exact hl _ (II hx)
  .exact hc
  .exact hl _ (List.mem_of_mem_drop hx)
def qR (l:List Cut)(c:Cut):(pP l c).length<=l.length+1:=by
 unfold pP;split<;>simp<;>omega
def qU {l:List Span}(hl:bh l):∀{i:Nat},i<=l.length->kX (jV l i)
 |0,_=>by intro x hx;simp[jV]at hx;rcases hx with rfl|rfl;exact mg;exact n5
 |i+1,h=>tZ (tZ (qU hl ae) (hl _ (ak ae)).1) (hl _ (ak ae)).2
def nP {l:List Span}(hl:bh l):kX (b6 l):=qU hl (aW _)
def oG (l:List Span):∀i,(jV l i).length<=2+2*i
 |0=>by simp[jV]
 |i+1=>by
  have h1:=oG l i;have h2:=qR (jV l i) l[i]!.f;have h3:=qR (pP (jV l i) l[i]!.f) l[i]!.t;simp only[jV];omega
def me (l:List Span):(b6 l).length<=2+2*l.length:=oG l _
def CT {l:List Span}{f t:Cut}(hl:bh l)(hf:f.sm)(ht:t.sm):bh (jg l f t):=by
 unfold jg;split
 .rename_i h;intro x hx;rcases List.mem_or_eq_of_mem_set hx with hx|rfl
  .exact hl x hx
  .exact⟨(hl _ (ak ae)).1,ht⟩
 .intro x hx;rcases List.mem_append.1 hx with hx|hx
  .exact hl x hx
  .obtain rfl:=bK.1 hx;exact⟨hf,ht⟩
def oO (l:List Span)(f t:Cut):(jg l f t).length<=l.length+1:=by
 unfold jg;split<;>simp
def lU {p:Cut->Cut->Bool}{c:List Cut}(hc:kX c):∀{i:Nat},i<c.length\/i=0->bh (dD p c i)
 |0,_=>fun _ h=>by cases h
 |i+1,h=>by
  rw[dD];split
  .exact CT (lU hc ae) (hc _ (ak ae)) (hc _ (ak ae))
  .exact lU hc ae
def mz {p:Cut->Cut->Bool}{c:List Cut}:∀i,(dD p c i).length<=i
 |0=>by simp[dD]
 |i+1=>by
  have h1:=mz (p:=p) (c:=c) i;rw[dD];split
  .have:=oO (dD p c i) c[i]! c[i+1]!;omega
  .omega
def wL {p:Cut->Cut->Bool}{c:List Cut}(hc:kX c):bh (wK p c):=lU hc ae
def tx {p:Cut->Cut->Bool}{c:List Cut}:(wK p c).length<=c.length:=by
 have:=mz (p:=p) (c:=c) (c.length-1);unfold wK;omega
def Co {a b:List Span}(ha:bh a)(hb:bh b):bh (a++b):=fun x hx=>(List.mem_append.1 hx).elim (ha x) (hb x)
def gZ:bh []:=fun _ h=>by cases h
def Di {a b:List Span}(ha:bh a)(hb:bh b):bh (B4 a b):=by
 unfold B4 lH;split
 .exact gZ
 .split
  .exact wL (nP (Co ha hb))
  .exact gZ
def za {a:List Span}(ha:bh a):bh (pZ a):=by
 unfold pZ;split
 .exact gZ
 .exact wL (nP ha)
def H9 {a b:bd}(ha:a.sm)(hb:b.sm):(Dj a b).sm:=by
 unfold Dj;split
 .exact⟨gZ,gZ⟩
 .exact⟨Di ha.1 hb.1,Di ha.2 hb.2⟩
def Fs {a:bd}(ha:a.sm):(uD a).sm:=by
 unfold uD;split
 .exact⟨gZ,gZ⟩
 .exact⟨za ha.1,za ha.2⟩
def A0 (v:aU):(lg v).sm:=by
 unfold lg;split
 .exact mg
 .exact qn (uT v)
def EX (v:aU):(vw v).sm:=by
 unfold vw;split
 .exact n5
 .exact qn (C8 _)
def sU {v:aU}(h:v.sm):(bo v).sm:=by
 unfold bo;split
 .exact⟨gZ,gZ⟩
 .split
  .exact⟨gZ,fun x hx=>by obtain rfl:=bK.1 hx;exact⟨qn h,qn h⟩⟩
  .exact⟨fun x hx=>by obtain rfl:=bK.1 hx;exact⟨A0 v,EX v⟩,gZ⟩
def yQ:tS.sm:=⟨fun x hx=>by obtain rfl:=bK.1 hx;exact⟨mg,n5⟩,fun x hx=>by obtain rfl:=bK.1 hx;exact⟨mg,n5⟩⟩
def IE {xs:List Span}{k:Nat}{t:Cut}(h:k<xs.length):(xs.map Span.D).set k (uU ((xs.map Span.D).getD k .any) 14 7 7 (Cut.D t))=(xs.set k ⟨xs[k]!.f,t⟩).map Span.D:=by
 rw[getD_map h,List.map_set];rfl
structure Key where
 n:cV
 f:cV
 deriving Inhabited
def Key.D (k:Key):D:=.agg [.str k.n,.str k.f]
def mP (n:Int)(w:Want):Bool:=decide (0<w.u)&&decide (w.u<n)&&og w.s
def nB (n:Int)(l:List Want):Bool:=cv (fun i=>mP n l[i]!) 0 l.length
def lS (n:Int)(l:List Want):Bool:=nB n l&&(decide (0<l.length)&&decide (l.length<=24))
def kG (n:Int)(c:dk):Bool:=decide (c.needs.length<=24)&&decide (c.bars.length<=24)&&cv (fun i=>lS n c.needs[i]!) 0 c.needs.length&&nB n c.bars
def rL (a b:Key):Int:=if jz a.n b.n≠0 then jz a.n b.n else jz a.f b.f
def mR (a b:cr):Bool:=Op.bytesLess a.name b.name ||(decide (a.name=b.name)&&Op.bytesLess a.feat b.feat)
def nO (n:Int)(cs:List dk)(k:Nat):Bool:=hY cs[k]!.v&&kG n cs[k]! && !(decide (0<k)&&decide (0<=jG cs[k-1]!.v cs[k]!.v))
def kJ (us:List cr)(i:Nat):Bool:=!(decide (0<i)&&decide (us[i]!.name=[]))&& !(decide (1<i)&& !mR us[i-1]! us[i]!)&&decide (us[i]!.cands.length<=16)&&cv (nO us.length us[i]!.cands) 0 us[i]!.cands.length
def q7 (us:List cr):Bool:=decide (us[0]!.name=[])&&decide (us[0]!.feat=[])&&decide (us[0]!.cands.length=1)
def uZ (w:bT):Bool:=decide (1<=w.us.length)&&decide (w.us.length<=48)&&q7 w.us&&cv (kJ w.us) 0 w.us.length
def kI (us:List cr)(i:Nat):Bool:=kJ us i&& !(decide (i=0)&& !q7 us)
def C4 (a:cV):Op.bytesLess a a=false:=by
 induction a with
 |nil=>rfl
 |cons x r ih=>unfold Op.bytesLess;simp[ih]
def Br (a b:cr):decide (0<=rL ⟨a.name,a.feat⟩ ⟨b.name,b.feat⟩)=!mR a b:=by
 unfold rL mR jz;have h:=C4 b.name;by_cases h1:Op.bytesLess a.name b.name=true<;>by_cases h2:a.name=b.name<;>by_cases h3:Op.bytesLess a.feat b.feat=true<;>by_cases h4:a.feat=b.feat<;>simp_all
def se (w:bT):uZ w=(decide (1<=w.us.length)&&decide (w.us.length<=48)&&cv (kI w.us) 0 w.us.length):=by
 unfold uZ;by_cases h:1<=w.us.length
 .have:cv (kI w.us) 0 w.us.length=(q7 w.us&&cv (kJ w.us) 0 w.us.length):=by
   rw[Bool.eq_iff_iff,cj,ea,ea];simp only[kI,cj,eB,hZ,fo];constructor
   .intro g;have h0:=(g 0 ae ae).2;exact⟨by rcases h0 with h0|h0;exact absurd rfl h0;simpa using h0,fun j h1 h2=>(g j h1 h2).1⟩
   .rintro⟨g1,g2⟩ j h1 h2;exact⟨g2 j h1 h2,.inr (by simpa using g1)⟩
  rw[this];simp only[Bool.and_assoc]
 .simp[h]
def K4 (a b:Cut):Cut.D a=Cut.D b↔a=b:=by
 obtain⟨e,⟨v1,v2,v3,v4,v5⟩,x⟩:=a;obtain⟨e',⟨w1,w2,w3,w4,w5⟩,x'⟩:=b;simp[Cut.D,and_assoc]
def K5 (a b:List Cut):a.map Cut.D=b.map Cut.D↔a=b:=pY K4 a b
def Gv (a b:Span):Span.D a=Span.D b↔a=b:=by
 obtain⟨⟨e,⟨v1,v2,v3,v4,v5⟩,x⟩,⟨f,⟨u1,u2,u3,u4,u5⟩,y⟩⟩:=a;obtain⟨⟨e',⟨w1,w2,w3,w4,w5⟩,x'⟩,⟨f',⟨t1,t2,t3,t4,t5⟩,y'⟩⟩:=b;simp[Span.D,and_assoc]
def xI (a b:List Span):a.map Span.D=b.map Span.D↔a=b:=pY Gv a b
def iSet (a b:bd):bd.D a=bd.D b↔a=b:=by cases a;cases b;simp[bd.D,xI]
def Gx (a b:Want):Want.D a=Want.D b↔a=b:=by
 obtain⟨u,⟨x,y⟩⟩:=a;obtain⟨u',⟨x',y'⟩⟩:=b;simp[Want.D,xI]
def xJ (a b:List Want):a.map Want.D=b.map Want.D↔a=b:=pY Gx a b
def Gy (a b:jS):c9 a=c9 b↔a=b:=by simp[c9,xJ]
def CY (a b:List jS):a.map c9=b.map c9↔a=b:=pY Gy a b
def K3 (a b:dk):dk.D a=dk.D b↔a=b:=by
 obtain⟨⟨v1,v2,v3,v4,v5⟩,s,x,y⟩:=a;obtain⟨⟨w1,w2,w3,w4,w5⟩,s',x',y'⟩:=b;simp[dk.D,CY,xJ,and_assoc]
def Gt (a b:List dk):a.map dk.D=b.map dk.D↔a=b:=pY K3 a b
def K8 (a b:cr):cr.D a=cr.D b↔a=b:=by cases a;cases b;simp[cr.D,Gt]
def CX (a b:List cr):a.map cr.D=b.map cr.D↔a=b:=pY K8 a b
def iWld (a b:bT):bT.D a=bT.D b↔a=b:=by cases a;cases b;simp[bT.D,CX]
def K7 (a b:dM):dM.D a=dM.D b↔a=b:=by cases a;cases b;simp[dM.D]
def Gw (a b:List dM):a.map dM.D=b.map dM.D↔a=b:=pY K7 a b
def Gu (a b:aK):aK.D a=aK.D b↔a=b:=by cases a;cases b;simp[aK.D,Gw]
def CV (a b:List aK):a.map aK.D=b.map aK.D↔a=b:=pY Gu a b
def HM (a b:aF):aF.D a=aF.D b↔a=b:=by
 obtain⟨⟨x⟩,y,z⟩:=a;obtain⟨⟨x'⟩,y',z'⟩:=b;simp[aF.D,CX,HN,CV]
def iKey (a b:Key):Key.D a=Key.D b↔a=b:=by cases a;cases b;simp[Key.D]
def iTag (a b:Bool):((bif a then 929 else 933)=(bif b then 929 else 933:Nat))↔a=b:=by cases a<;>cases b<;>simp
def iGs (a b:Gs):Gs.D a=Gs.D b↔a=b:=by cases a;cases b;simp[Gs.D,HN]
def KZ {A:RT->Prop}(h:A (fun ds d=>A fun ds' d'=>ds'=ds->d=d'):=by
 (repeat' first|apply And.intro|intro _)
 all_goals rename_i e
 all_goals (try simp only[sj,D.str.injEq,D.int.injEq,D.bool.injEq,D.sl.injEq,D.ref.injEq,D.agg.injEq,D.fn.injEq,K6,HN,iByt,iVer,K4,K5,Gv,xI,iSet,Gx,xJ,Gy,CY,K3,Gt,K8,CX,iWld,K7,Gw,Gu,CV,HM,iKey,iTag,iGs,iU8,yJ,HO,cy,cL,reduceCtorEq,cY,cX]at e)
 all_goals first|rfl|(simp only[e];done)|simp_all):J1 (ux A):=HH h
def KY {A:FT->Prop}(h:A (fun d ds v s=>A fun d' ds' v' s'=>d'=d->ds'=ds->v=v'/\s=s'):=by
 (repeat' first|apply And.intro|intro _)
 all_goals rename_i e' e
 all_goals (try simp only[sj,D.str.injEq,D.int.injEq,D.bool.injEq,D.sl.injEq,iGs,K6,iU8,yJ,HO,cy,cL]at e e')
 all_goals first|rfl|(simp only[e,e'];done)|simp_all):xu (rj A):=E6 h
def A2 (m:Int)(i:Nat):Bool:=decide (IntKind.i64.wrap ((BitVec.ofInt 64 (m.fdiv (2^(min (i:Int).toNat 64))))&&&(BitVec.ofInt 64 1)).toNat=1)
def sv (m:Int)(vs:List aU):Nat->bd
 |0=>rE
 |i+1=>if A2 m i=true then Dj (sv m vs i) (bo vs[i]!)else sv m vs i
def sL (g:Gs)(vs:List aU):bd:=if g.bl.val 6=0 then tS else if g.bl.val 6=1 then uD (sv (g.val 8) vs vs.length)else sv (g.val 8) vs vs.length
def cd (g:Gs)(n:Nat)(vs:Nat->List aU):Want:=⟨1+g.val ((n:Int) -1),sL g.bl (vs (1+g.val ((n:Int) -1)).toNat)⟩
def Gs.dP (g:Gs):Gs:=g.bl.bl.bl
def iM (n:Nat)(vs:Nat->List aU):Nat->Gs->List jS->List jS×Gs
 |0,g,acc=>(acc,g)
 |k+1,g,acc=>if g.dP.val 3=0 then iM n vs k g.dP.bl.dP (acc++[[cd g n vs,cd g.dP.bl n vs]])else iM n vs k g.dP.bl (acc++[[cd g n vs]])
def ar (g:Gs)(n:Nat)(vs:Nat->List aU)(most:Int):List jS×Gs:=iM n vs (g.val (most+1)).toNat g.bl []
def mB (n:Nat)(s:bd):Prop:=s.sm/\s.rel.length<=n/\s.pr.length<=n
def mB.s {n:Nat}{s:bd}(h:mB n s)(hn:n<=1000):xy s:=⟨⟨h.1.1,eC h.2.1 hn⟩,⟨h.1.2,eC h.2.2 hn⟩⟩
def mB.mono {n k:Nat}{s:bd}(h:mB n s)(hn:n<=k):mB k s:=⟨h.1,eC h.2.1 hn,eC h.2.2 hn⟩
def Fq {n:Nat}:mB n rE:=⟨⟨gZ,gZ⟩,Nat.zero_le _,Nat.zero_le _⟩
def nS {v:aU}(h:v.sm):mB 1 (bo v):=by
 refine⟨sU h, ?_, ?_⟩<;>(unfold bo;split;exact Nat.zero_le _;split<;>simp)
def zb (a b:List Span):(B4 a b).length<=2+2*(a.length+b.length):=by
 unfold B4 lH;split
 .exact Nat.zero_le _
 .split
  .have h1:=tx (p:=m7 (a++b)) (c:=b6 (a++b));have h2:=me (a++b);simp only[dF]at h2;dsimp only;omega
  .exact Nat.zero_le _
def v7 (a:List Span):(pZ a).length<=2+2*a.length:=by
 unfold pZ;split
 .exact Nat.zero_le _
 .have h1:=tx (p:=fun x y=>!m7 a x y) (c:=b6 a);have h2:=me a;omega
def Lc {a b:bd}{n k:Nat}(ha:mB n a)(hb:mB k b):mB (2+2*(n+k)) (Dj a b):=by
 refine⟨H9 ha.1 hb.1, ?_, ?_⟩<;>unfold Dj<;>split
 .exact Nat.zero_le _
 .have:=zb a.rel b.rel;have:=ha.2.1;have:=hb.2.1;dsimp only;omega
 .exact Nat.zero_le _
 .have:=zb a.pr b.pr;have:=ha.2.2;have:=hb.2.2;dsimp only;omega
def HZ {a:bd}{n:Nat}(ha:mB n a):mB (2+2*n) (uD a):=by
 refine⟨Fs ha.1, ?_, ?_⟩<;>unfold uD<;>split
 .exact Nat.zero_le _
 .have:=v7 a.rel;have:=ha.2.1;dsimp only;omega
 .exact Nat.zero_le _
 .have:=v7 a.pr;have:=ha.2.2;dsimp only;omega
def GB {m:Int}{vs:List aU}(hv:∀v∈vs,v.sm):∀{k:Nat},k<=vs.length->mB (4*2^k-4) (sv m vs k)
 |0,_=>Fq
 |k+1,h=>by
  have ih:=GB (m:=m) hv (show k<=vs.length by omega);have h2:4*2^(k+1)=8*2^k:=by rw[Nat.pow_succ];omega
  have h1:1<=2^k:=Nat.one_le_two_pow;rw[sv];split
  .exact(Lc ih (nS (hv _ (ak ae)))).mono ae
  .exact ih.mono ae
def HA:mB 1 tS:=⟨yQ,bV,bV⟩
def Dh {m:Int}{vs:List aU}(hv:∀v∈vs,v.sm)(h4:vs.length<=4){k:Nat}(hk:k<=vs.length):mB 60 (sv m vs k):=(GB hv hk).mono (by
 have:2^k<=2^4:=Nat.pow_le_pow_right bV ae;omega)
def Ix {g:Gs}{vs:List aU}(hv:∀v∈vs,v.sm)(h4:vs.length<=4):mB 122 (sL g vs):=by
 have h:=Dh (m:=g.val 8) hv h4 (aW _);unfold sL;split
 .exact HA.mono bV
 .split
  .exact HZ h
  .exact h.mono bV
inductive NF where
 |nil|sl (l:List jS)|own (k:Nat)
 deriving Inhabited
inductive BF where
 |nil|sl (l:List Want)|own (k:Nat)
 deriving Inhabited
def NF.D (e:Nat):NF->D
 | .nil=>.aC
 | .sl l=>.sl 1 (l.map c9)
 | .own k=>.own e 1 0 k
def BF.D (e:Nat):BF->D
 | .nil=>.aC
 | .sl l=>.sl 3 (l.map Want.D)
 | .own k=>.own e 3 0 k
structure CW where
 v:aU
 sh:Int
 n:NF
 b:BF
 deriving Inhabited
def CW.D (e:Nat)(c:CW):D:=.agg [.int .i64 c.v.major,.int .i64 c.v.minor,.int .i64 c.v.patch,.str c.v.pre,.str c.v.build,.int .i64 c.sh,c.n.D e,c.b.D e]
def NF.pl:NF->Bool
 | .own _=>false
 |_=>true
def BF.pl:BF->Bool
 | .own _=>false
 |_=>true
def CW.pl (c:CW):Bool:=c.n.pl&&c.b.pl
def Bm (l:List Want):aJ (l.map Want.D)=true:=cR (fun _=>by simp only[Want.D,D.aV,aJ,eS]) _
def Bl (r:jS):(c9 r).aV=true:=by simp only[c9,D.aV]
def gh (l:List jS):aJ (l.map c9)=true:=cR Bl _
def CW.aV {e:Nat}{c:CW}(h:c.pl=true):(c.D e).aV=true:=by
 obtain⟨v,sh,n,b⟩:=c;cases n<;>cases b<;>first|(simp[CW.pl,NF.pl,BF.pl]at h;done)|rfl
theorem CW.rn {e e' lo:Nat}{σ:List (Nat×Nat)}(h:fh lo σ e=some e')(c:CW):kd lo σ (c.D e)=some (c.D e'):=by
 obtain⟨v,sh,n,b⟩:=c;cases n<;>cases b<;>simp[CW.D,NF.D,BF.D,kd,gM,ve,h]
def cQ {e e' lo:Nat}{σ:List (Nat×Nat)}(h:fh lo σ e=some e'):∀xs:List CW,gM lo σ (xs.map (CW.D e))=some (xs.map (CW.D e'))
 |[]=>rfl
 |c::r=>by simp only[List.map_cons,gM,CW.rn h c,cQ h r]
def CW.K0 {l e k:Nat}{es:List Abs.D}(h:e≠l)(c:CW):fG l k es (c.D e)=c.D e:=by
 obtain⟨v,sh,n,b⟩:=c;cases n<;>cases b<;>simp[CW.D,NF.D,BF.D,fG,fY,h]
def eK {l e k:Nat}{es:List D}(h:e≠l):∀xs:List CW,fY l k es (xs.map (CW.D e))=xs.map (CW.D e)
 |[]=>rfl
 |c::r=>by simp only[List.map_cons,fY,CW.K0 (es:=es) (k:=k) h c,eK h r]
def CW.pl_e {e e':Nat}{c:CW}(h:c.pl=true):c.D e=c.D e':=by
 obtain⟨v,sh,n,b⟩:=c;cases n<;>cases b<;>first|(simp[CW.pl,NF.pl,BF.pl]at h;done)|rfl
def qm {e e':Nat}{xs:List CW}(h:∀c∈xs,c.pl=true):xs.map (CW.D e)=xs.map (CW.D e'):=List.map_congr_left fun c hc=>CW.pl_e (h c hc)
def bN {e:Nat}:∀{xs:List CW},(∀c∈xs,c.pl=true)->aJ (xs.map (CW.D e))=true
 |[],_=>rfl
 |c::r,h=>by simp only[List.map_cons,aJ,CW.aV (h c (.head _)),bN fun x hx=>h x (.tail _ hx),eS]
def vX {α β:Type} [Inhabited α] [Inhabited β]{f:α->β}{xs:List α}{i:Nat}(h:i<xs.length):(xs.map f)[i]! =f xs[i]! :=by
 simp[List.getElem!_eq_getElem?_getD,h]
def UD (nm ft:Nat->cV)(ln:Nat->Nat)(j:Nat):D:=.agg [.str (nm j),.str (ft j),.own (2+j) 8 0 (ln j)]
def UB (n:Nat)(nm ft:Nat->cV)(ln:Nat->Nat):List D:=(List.range n).map (UD nm ft ln)
def iZ {n i:Nat}(h:i<n):(List.range n)[i]! =i:=by
 simp[List.getElem!_eq_getElem?_getD,h]
def lf {l k n:Nat}{es:List D}{nm ft:Nat->cV}{ln:Nat->Nat}(h:8≠k):fY l k es (UB n nm ft ln)=UB n nm ft ln:=by
 unfold UB;generalize List.range n=r;induction r with
 |nil=>rfl
 |cons a r ih=>simp only[List.map_cons,fY,ih,UD,fG,h,cX,cY,aS]
def gT {lo n:Nat}{nm ft:Nat->cV}{ln:Nat->Nat}(σ:List (Nat×Nat))(h:∀j,j<n->fh lo σ (2+j)=some (2+j)):gM lo σ (UB n nm ft ln)=some (UB n nm ft ln):=by
 unfold UB;have h2:∀j∈List.range n,fh lo σ (2+j)=some (2+j):=fun j hj=>h j (List.mem_range.1 hj)
 revert h2;generalize List.range n=r;intro h2;induction r with
 |nil=>rfl
 |cons a r ih=>
  have:=h2 a (.head _);simp only[List.map_cons,gM,UD,kd,ve,this,ih fun j hj=>h2 j (.tail _ hj)]
def fD {a b:bB}{r:List (Nat×bB)}(cs:Nat->List D){v:Nat}(h:v<8):look ((0,a)::(1,b)::(2,.buf 8 (cs 0))::(3,.buf 8 (cs 1))::(4,.buf 8 (cs 2))::(5,.buf 8 (cs 3))::(6,.buf 8 (cs 4))::(7,.buf 8 (cs 5))::(8,.buf 8 (cs 6))::(9,.buf 8 (cs 7))::r) (2+v)=some (.buf 8 (cs v)):=by
 match v,h with
 |0,_=>rfl
 |1,_=>rfl
 |2,_=>rfl
 |3,_=>rfl
 |4,_=>rfl
 |5,_=>rfl
 |6,_=>rfl
 |7,_=>rfl
def EW (m:List (Nat×bB))(g:Gs)(n:Nat)(nm ft:Nat->cV)(cs:Nat->List CW)(kk:Nat)(E:List D):Prop:=
 look m 0=some (.buf 2 [g.D])/\look m 1=some (.buf 3 (UB n nm ft fun j=>(cs j).length))/\(∀v,v<8->look m (2+v)=some (.buf 8 ((cs v).map (CW.D 10))))/\look m 10=some (.buf kk E)
def eight {P:Nat->Prop}(h0:P 0)(h1:P 1)(h2:P 2)(h3:P 3)(h4:P 4)(h5:P 5)(h6:P 6)(h7:P 7):∀v,v<8->P v
 |0,_=>h0
 |1,_=>h1
 |2,_=>h2
 |3,_=>h3
 |4,_=>h4
 |5,_=>h5
 |6,_=>h6
 |7,_=>h7
def Cd (n:Nat)(cs:Nat->List CW):Prop:=(2<=n/\n<=8)/\∀t,(cs t).length<=4/\∀c∈cs t,c.v.sm
def fk (cs:Nat->List CW)(t:Nat):List aU:=(cs t).map CW.v
def fe (l k:Nat)(es:List D)(rs:List jS):fY l k es (rs.map c9)=rs.map c9:=gJ l k es _ (gh rs)
def eu (l k:Nat)(es:List D)(rs:List Want):fY l k es (rs.map Want.D)=rs.map Want.D:=gJ l k es _ (Bm rs)
def Want.fz (l k:Nat)(es:List Abs.D)(w:Want):fG l k es w.D=w.D:=oN l k es _ (by simp only[Want.D,D.aV,aJ,eS])
def Gs.fz (l k:Nat)(es:List Abs.D)(g:Gs):fG l k es g.D=g.D:=oN l k es _ (by simp only[Gs.D,D.aV,aJ,eS])
def D0 {lo l:Nat}{σ:List (Nat×Nat)}(h:l<lo)(hs:(σ.all fun p=>Nat.ble lo p.1)=true:=by rfl):fh lo σ l=some l:=by
 induction σ with
 |nil=>simp[fh,Nat.blt,show Nat.ble (l+1) lo=true from dT]
 |cons a r ih=>
  simp only[List.all_cons,cj,Nat.ble_eq]at hs;have hb:Nat.beq a.1 l=false:=by
   cases e:Nat.beq a.1 l with
   |false=>rfl
   |true=>have:=Nat.eq_of_beq_eq_true e;omega
  simp only[fh,hb,cond_false];exact ih (by simpa using hs.2)
structure RU where
 name:cV
 feat:cV
 cs:List CW
 deriving Inhabited
def aL (v:aU):CW:=⟨v,0,.nil,.nil⟩
def tN:CW:=⟨zV,-1,.nil,.nil⟩
def bH:List cV:=[[97,110,116],[98,101,101],[99,111,119],[100,111,103],[101,108,107]]
def rz:bH.length=5:=rfl
def bc (m:Int):Nat->List aU
 |0=>[]
 |i+1=>if A2 m i=true then bc m i++[iQ[i]!]else bc m i
def eU (vs:List aU):Nat->Gs->List aU->List aU×Gs
 |0,g,acc=>(acc,g)
 |r+1,g,acc=>eU vs r g.bl (if 0<g.val 3 then acc++[vs[vs.length-(r+1)]!]else acc)
def eJ (few:Int):Nat->Gs->List RU->List RU×Gs
 |0,g,us=>(us,g.bl)
 |r+1,g,us=>
  if((4-r:Nat):Int)<1+g.val few then
   if 4-r<2/\g.bl.bl.val 3=0 then
    eJ few r (eU (bc (g.bl.val 16) 4) (bc (g.bl.val 16) 4).length g.dP []).2
     ((us++[⟨bH[4-r]!,[],(bc (g.bl.val 16) 4).map aL⟩])++[⟨bH[4-r]!,[102],(eU (bc (g.bl.val 16) 4) (bc (g.bl.val 16) 4).length g.dP []).1.map aL⟩])
   else eJ few r (if 4-r<2 then g.dP else g.bl.bl) (us++[⟨bH[4-r]!,[],(bc (g.bl.val 16) 4).map aL⟩])
  else(us,g.bl)
def tI:List RU:=[⟨[],[],[tN]⟩]
def dS (g:Gs)(few:Int):List RU×Gs:=eJ few 5 g tI
def sQ (us:List RU):List D:=UB us.length (fun j=>us[j]!.name) (fun j=>us[j]!.feat) (fun j=>us[j]!.cs.length)
def UM (g:Gs)(us:List RU):List (Nat×bB):=[(0,.buf 2 [g.D]),(1,.buf 3 (sQ us)),(2,.buf 8 (us[0]!.cs.map (CW.D 10))),(3,.buf 8 (us[1]!.cs.map (CW.D 10))),(4,.buf 8 (us[2]!.cs.map (CW.D 10))),
 (5,.buf 8 (us[3]!.cs.map (CW.D 10))),(6,.buf 8 (us[4]!.cs.map (CW.D 10))),(7,.buf 8 (us[5]!.cs.map (CW.D 10))),(8,.buf 8 (us[6]!.cs.map (CW.D 10))),(9,.buf 8 (us[7]!.cs.map (CW.D 10)))]
def vI {us:List RU}{x:RU}{t:Nat}(h:t<us.length):(us++[x])[t]! =us[t]! :=by
 simp[List.getElem!_eq_getElem?_getD,List.getElem?_append_left h]
def q5 {us:List RU}{x:RU}{t:Nat}(h:t=us.length):(us++[x])[t]! =x:=by
 subst h;simp[List.getElem!_eq_getElem?_getD]
def q6 {us:List RU}{t:Nat}(h:us.length<=t):us[t]! =default:=by
 simp[List.getElem!_eq_getElem?_getD,h]
def ET (us:List RU)(x:RU):sQ (us++[x])=sQ us++[.agg [.str x.name,.str x.feat,.own (2+us.length) 8 0 x.cs.length]]:=by
 unfold sQ UB;rw[dF,List.length_singleton,List.range_succ,List.map_append];congr 1
 .apply List.map_congr_left;intro j hj;simp only[UD,vI (List.mem_range.1 hj)]
 .simp only[List.map_cons,List.map_nil,UD,q5 rfl]
def wI {lo:Nat}{σ:List (Nat×Nat)}:∀{a b a' b':List D},gM lo σ a=some a'->gM lo σ b=some b'->gM lo σ (a++b)=some (a'++b')
 |[],b,a',b',h1,h2=>by simp only[gM,aG]at h1;subst h1;exact h2
 |d::r,b,a',b',h1,h2=>by
  simp only[gM]at h1;split at h1
  .rename_i d' r' e1 e2;obtain rfl:=bj h1;simp only[nF,gM,e1,wI e2 h2]
  .cases h1
def yA (LU LC p:Nat):List (Nat×Nat):=(LU,1)::(LC,2+p)::(List.range p).map fun t=>(2+t,2+t)
def eX {a b:Nat}(h:a≠b):Nat.beq a b=false:=by
 cases e:Nat.beq a b with
 |false=>rfl
 |true=>exact absurd (Nat.eq_of_beq_eq_true e) h
def GJ {lo:Nat}:∀{r:List Nat}{t:Nat},t∈r->fh lo (r.map fun t=>(2+t,2+t)) (2+t)=some (2+t)
 |a::r,t,h=>by
  simp only[List.map_cons,fh];cases e:Nat.beq (2+a) (2+t)with
  |true=>rw[cond_true,Nat.eq_of_beq_eq_true e]
  |false=>
   rw[cond_false];rcases dK.1 h with rfl|h
   .simp at e
   .exact GJ h
def D7 {LU LC p t:Nat}(hU:10<=LU)(hC:10<=LC)(hp:p<8)(ht:t<p):fh 1 (yA LU LC p) (2+t)=some (2+t):=by
 simp only[yA,fh,eX (show LU≠2+t by omega),eX (show LC≠2+t by omega),cond_false];exact GJ (List.mem_range.2 ht)
def IA {LU LC p:Nat}(hU:10<=LU)(hC:10<=LC)(hne:LU≠LC)(hp:p<8):eW 1 10 (yA LU LC p)=true:=by
 have b1:=eX hne;have b2:=eX (Ne.symm hne);have u2:=eX (show 2≠LU by omega);have u3:=eX (show 3≠LU by omega);have u4:=eX (show 4≠LU by omega);have u5:=eX (show 5≠LU by omega);have u6:=eX (show 6≠LU by omega);have u7:=eX (show 7≠LU by omega);have u8:=eX (show 8≠LU by omega);have c2:=eX (show 2≠LC by omega);have c3:=eX (show 3≠LC by omega);have c4:=eX (show 4≠LC by omega);have c5:=eX (show 5≠LC by omega);have c6:=eX (show 6≠LC by omega);have c7:=eX (show 7≠LC by omega);have c8:=eX (show 8≠LC by omega)
 match p,hp with
 |0,_|1,_|2,_|3,_|4,_|5,_|6,_|7,_=>
  simp only[yA,List.range,List.range.loop,List.map_cons,List.map_nil,eW,List.all_cons,List.all_nil,b1,b2,u2,u3,u4,u5,u6,u7,u8,c2,c3,c4,c5,c6,c7,c8,Nat.reduceAdd,Bool.not_false,pw,eS];rfl
def Ls {LU LC p t:Nat}(hp:p<t)(h8:t<8):((yA LU LC p).all fun q=>!Nat.beq q.2 (2+t))=true:=by
 simp only[yA,List.all_cons,cj,eB,List.all_eq_true,gQ,List.mem_range];refine⟨eX ae,eX ae, ?_⟩;rintro q ⟨j,hj,rfl⟩;exact eX (by simp only;omega)
def K9 (r:List Nat):fh 1 (r.map fun t=>(2+t,2+t)) 0=some 0:=by
 induction r with
 |nil=>rfl
 |cons a r ih=>simp only[List.map_cons,fh,eX (show 2+a≠0 by omega),cond_false];exact ih
def yy {lo k i n l l':Nat}{σ:List (Nat×Nat)}(h:fh lo σ l=some l'):kd lo σ (.own l k i n)=some (.own l' k i n):=by simp only[kd,ve,h]
def zi {a b k:Nat}{c d:Nat}{r:List (Nat×Nat)}(h:fh 1 r 0=some 0)(ha:a≠0)(hb:c≠0):kd 1 ((a,b)::(c,d)::r) (.ptr 0 k 0 0)=some (.ptr 0 k 0 0):=by simp only[kd,ve,fh,eX ha,eX hb,cond_false,h]
def Lr {LU LC p:Nat}(hU:10<=LU)(hC:10<=LC):fh 1 (yA LU LC p) 0=some 0:=by
 simp only[yA,fh,eX (show LU≠0 by omega),eX (show LC≠0 by omega),cond_false];generalize List.range p=r;induction r with
 |nil=>rfl
 |cons a r ih=>simp only[List.map_cons,fh,eX (show 2+a≠0 by omega),cond_false];exact ih
def RU.pl (u:RU):Prop:=∀c∈u.cs,c.pl=true
def tH {nx LU LC:Nat}{g:Gs}{us:List RU}{x:RU}{m:List (Nat×bB)}{env env':List bz}(hp:us.length<8)(hU:10<=LU)(hC:10<=LC)(hne:LU≠LC)(hpl:∀u∈us,u.pl)(hx:x.pl)(h0:look m 0=some (.buf 2 [g.D]))
  (h1:look m LU=some (.buf 3 (sQ us++[.agg [.str x.name,.str x.feat,.own LC 8 0 x.cs.length]]))) (h2:look m LC=some (.buf 8 (x.cs.map (CW.D 10)))) (hcs:∀t,t<us.length->look m (2+t)=some (.buf 8 (us[t]!.cs.map (CW.D 10))))
  (he:∀r,fh 1 r 0=some 0->bA 1 ((LU,1)::(LC,2+us.length)::r) env env'):aZ 1 env ⟨nx,m⟩ env' ⟨10,UM g (us++[x])⟩:=by
 refine aZ.to (yA LU LC us.length) rfl (IA hU hC hne hp) (he _ (K9 _)) ?_;have hLC:fh 1 (yA LU LC us.length) LC=some (2+us.length):=by simp only[yA,fh,eX hne,cond_false,Nat.beq_refl,cond_true]
 have ent:∀t,t<8->((∃l b,fh 1 (yA LU LC us.length) l=some (2+t)/\look m l=some b/\k9 1 (yA LU LC us.length) b (.buf 8 ((us++[x])[t]!.cs.map (CW.D 10))))\/
   (Nat.ble 1 (2+t)=true/\Nat.blt (2+t) 10=true/\(yA LU LC us.length).all (fun p=>!Nat.beq p.2 (2+t))=true/\∃k,bB.buf 8 ((us++[x])[t]!.cs.map (CW.D 10))=.buf k [])):=by
  intro t ht;rcases Nat.lt_trichotomy t us.length with h|h|h
  .exact .inl ⟨2+t,_,D7 hU hC hp h,hcs t h,rfl,.inl ⟨by rw[vI h],bN (hpl _ (ak h))⟩⟩
  .subst h;exact .inl ⟨LC,_,hLC,h2,rfl,.inl ⟨by rw[q5 rfl],bN hx⟩⟩
  .refine .inr ⟨by rw[Nat.ble_eq];omega,by rw[Nat.blt,Nat.ble_eq];omega,Ls h ht,8, ?_⟩;rw[q6 dT];rfl
 refine⟨.inl ⟨0,_,Lr hU hC,h0,rfl,.inl ⟨rfl,rfl⟩⟩,.inl ⟨LU,_,by simp only[yA,fh,Nat.beq_refl,cond_true],h1,rfl,.inr (.inl ?_)⟩,ent 0 bV,ent 1 bV,ent 2 bV,ent 3 bV,ent 4 bV,ent 5 bV,ent 6 bV,ent 7 bV,trivial⟩;rw[ET];refine wI (gT _ fun j hj=>D7 hU hC hp hj) ?_;simp only[gM,kd,ve,hLC]
def iY (m:Int):∀i,(bc m i).length<=i
 |0=>aW _
 |i+1=>by
  have:=iY m i;rw[bc];split
  .simp only[dF,List.length_singleton];omega
  .omega
def tJ:iQ.length=4:=rfl
def nH (m:Int):∀i,i<=4->∀v∈bc m i,v.sm
 |0,_,v,h=>by cases h
 |i+1,hi,v,h=>by
  rw[bc]at h;have hm:∀v∈iQ,v.sm:=by
   intro v hv;simp only[iQ,dK,en,or_false]at hv;rcases hv with rfl|rfl|rfl|rfl<;>simp[aU.sm]
  split at h
  .rcases List.mem_append.1 h with h|h
   .exact nH m i ae v h
   .obtain rfl:=bK.1 h;exact hm _ (ak (by rw[tJ];omega))
  .exact nH m i ae v h
def ek (vs:List aU):∀c∈vs.map aL,c.pl=true:=by
 intro c hc;obtain⟨v,_,rfl⟩:=gQ.1 hc;rfl
def vU {a:bB}{r:List (Nat×bB)}(cs:Nat->List D){v:Nat}(h:v<8):look ((0,a)::(2,.buf 8 (cs 0))::(3,.buf 8 (cs 1))::(4,.buf 8 (cs 2))::(5,.buf 8 (cs 3))::(6,.buf 8 (cs 4))::(7,.buf 8 (cs 5))::(8,.buf 8 (cs 6))::(9,.buf 8 (cs 7))::r) (2+v)=some (.buf 8 (cs v)):=by
 match v,h with
 |0,_=>rfl
 |1,_=>rfl
 |2,_=>rfl
 |3,_=>rfl
 |4,_=>rfl
 |5,_=>rfl
 |6,_=>rfl
 |7,_=>rfl
def gO {us:List RU}(h:∀u∈us,u.pl)(t:Nat):aJ (us[t]!.cs.map (CW.D 10))=true:=by
 rcases dh t us.length with ht|ht
 .exact bN (h _ (ak ht))
 .rw[q6 ht];rfl
def Dm {us:List RU}{x:RU}(h:∀u∈us,u.pl)(hx:x.pl):∀u∈us++[x],u.pl:=fun u hu=>(List.mem_append.1 hu).elim (h u) fun e=>by obtain rfl:=bK.1 e;exact hx
def ke {lo:Nat}{us:List RU}(σ:List (Nat×Nat))(h:∀j,j<us.length->fh lo σ (2+j)=some (2+j)):gM lo σ (sQ us)=some (sQ us):=gT σ h
def fE {lo v:Nat}{r:List (Nat×Nat)}(h:v<8):fh lo ((1,1)::(2,2)::(3,3)::(4,4)::(5,5)::(6,6)::(7,7)::(8,8)::(9,9)::r) (2+v)=some (2+v):=by
 match v,h with
 |0,_=>rfl
 |1,_=>rfl
 |2,_=>rfl
 |3,_=>rfl
 |4,_=>rfl
 |5,_=>rfl
 |6,_=>rfl
 |7,_=>rfl
def sV (vs:List aU):∀r g acc,(eU vs r g acc).1.length<=acc.length+r
 |0,g,acc=>aW _
 |r+1,g,acc=>by
  have:=sV vs r g.bl (if 0<g.val 3 then acc++[vs[vs.length-(r+1)]!]else acc);rw[eU];split at this<;>rename_i h
  .rw[aw h];simp only[dF,List.length_singleton]at this;omega
  .rw[ai h];omega
def Gs.GL (g:Gs)(n:Int):(1<=n->0<=g.val n/\g.val n<n)/\(n<1->g.val n=0):=⟨fun h=>gL _ _ h,fun h=>by simp only[Gs.val,eQ];rw[aw h]⟩
def BN {few:Int}{i:Nat}{h:Gs}{us:List RU}(h5:i<5)(hl:(i:Int)<1+h.val few):eJ few (5-i) h us=
   if i<2/\h.bl.bl.val 3=0 then
    eJ few (4-i) (eU (bc (h.bl.val 16) 4) (bc (h.bl.val 16) 4).length h.dP []).2
     ((us++[⟨bH[i]!,[],(bc (h.bl.val 16) 4).map aL⟩])++[⟨bH[i]!,[102],(eU (bc (h.bl.val 16) 4) (bc (h.bl.val 16) 4).length h.dP []).1.map aL⟩])
   else eJ few (4-i) (if i<2 then h.dP else h.bl.bl) (us++[⟨bH[i]!,[],(bc (h.bl.val 16) 4).map aL⟩]):=by
 obtain⟨r,hr⟩:∃r,5-i=r+1:=⟨4-i,ae⟩
 rw[hr,eJ];obtain rfl:r=4-i:=ae;rw[show 4-(4-i)=i by omega,aw hl]
def yE {few:Int}{i:Nat}{h:Gs}{us:List RU}(h5:i<=5)(hl:i=5\/¬(i:Int)<1+h.val few):eJ few (5-i) h us=(us,h.bl):=by
 rcases dh i 5 with h6|h6
 .obtain⟨r,hr⟩:∃r,5-i=r+1:=⟨4-i,ae⟩
  rw[hr,eJ];obtain rfl:r=4-i:=ae;rw[show 4-(4-i)=i by omega,ai (by rcases hl with hl|hl;omega;exact hl)]
 .rw[show 5-i=0 by omega,eJ]
def CF {vs:List aU}{j:Nat}{k:Gs}{acc:List aU}(hj:j<vs.length):eU vs (vs.length-j) k acc=eU vs (vs.length-(j+1)) k.bl (if 0<k.val 3 then acc++[vs[j]!]else acc):=by
 obtain⟨r,hr⟩:∃r,vs.length-j=r+1:=⟨vs.length-j-1,ae⟩
 rw[hr,eU,<-hr,show vs.length-(vs.length-j)=j by omega,show r=vs.length-(j+1)by omega]
end Go.Abs
