/- A part of the proofs. -/
import Derived.IntWalk
import Derived.KernelRfl
import Derived.Lib.TrimUEq
import Derived.Test.YtaeimnechonnmaaGreatDoorP04
set_option linter.all false
set_option maxRecDepth 4000
namespace Go.Abs
section
section
variable {Y:Ctx} {draw:Bool} {r:List GI} {env rs:List cb} {nx:Nat} {m:List (Nat×bT)} {K:List cb->St->Prop} {g:Option (Nat×Bool)} {f:Bool}
def at8 (s:List UInt8)(i:Nat):Int:=((s.getD i 0).toNat:Int)
def Hp (s:List UInt8)(i:Nat):0<=at8 s i/\at8 s i<256:=by
 have:=(s.getD i 0).toNat_lt;unfold at8;omega
def wrap_i64 {a:Int}(h1:-9223372036854775808<=a)(h2:a<=9223372036854775807):IntKind.i64.wrap a=a:=IntWalk.i64_in _ ae
def mG (a b:List UInt8):(a==b)=decide (a=b):=by
 grind
def getD_map {α:Type} [Inhabited α]{q:α->D}{xs:List α}{i:Nat}(h:i<xs.length):(xs.map q).getD i .any=q xs[i]! :=by
 simp[List.getD,h]
def GF (rs:List cb):Option (Nat×Bool)->Bool->Prop
 |none,f=>f=true
 |some (j,w),f=>∃ok b,cN [] rs (.l j)=⟨ok,.bool b⟩/\(ok&&(b==w))=f
def GF.flag (h:GF rs g f):flag rs.reverse g=f/\yA rs.reverse g:=by
 cases g with
 |none=>exact⟨h.symm,trivial⟩
 |some jw=>
  obtain⟨j,w⟩:=jw;obtain⟨ok,b,h1,h2⟩:=h;have h3:rs.reverse.getD j .un=⟨ok,.bool b⟩:=by rw[<-h1,<-kv];rfl
  simp only[Abs.flag,yA,h3,h2,D.isBool];exact⟨trivial,fun _=>trivial⟩
def IU {i:aM}(hM:i.cA=false)(hF:i.mc draw g=false)(hC:g.isSome=true->i.calm=true)(hg:GF rs g f)(d:D)(ho:f=true->i.dP Y (cN env rs) m)
  (hv:f=true->i.val Y (cN env rs) m (nx+rs.length)=d) (m':List (Nat×bT)) (hm:i.cz Y (cN env rs) m (nx+rs.length)=m')
  (h:(f=true->i.yo draw (cN env rs))->aN Y draw r env (⟨f,d⟩::rs) nx m' K):aN Y draw (⟨i,g⟩::r) env rs nx m K:=by
 obtain⟨hf,hb⟩:=hg.flag;unfold aN;rw[iN hM hF,kv,hf];refine⟨?_,ho,fun ha=>⟨d,by simpa using hv, ?_⟩⟩
 .cases g with
  |none=>trivial
  |some jw=>exact⟨hC rfl,hb⟩
 grind [aN]
def fZ {i:aM}(hC:i.calm=true)(hg:GF rs g f)(d:D)(ho:f=true->i.dP Y (cN env rs) m)
  (hv:f=true->i.val Y (cN env rs) m (nx+rs.length)=d) (m':List (Nat×bT)) (hm:i.cz Y (cN env rs) m (nx+rs.length)=m')
  (h:(f=true->i.yo draw (cN env rs))->aN Y draw r env (⟨f,d⟩::rs) nx m' K):aN Y draw (⟨i,g⟩::r) env rs nx m K:=
 IU (by cases i<;>first|rfl|cases hC) (by simp[aM.mc,hC]) (fun _=>hC) hg d ho hv m' hm h
def ct {i:aM}(hC:i.pure=true)(hg:GF rs g f)(d:D)(ho:f=true->i.dP Y (cN env rs) m)
  (hv:f=true->i.val Y (cN env rs) m (nx+rs.length)=d) 
  (h:(f=true->i.yo draw (cN env rs))->aN Y draw r env (⟨f,d⟩::rs) nx m K):aN Y draw (⟨i,g⟩::r) env rs nx m K:=
 fZ (Gc hC) hg d ho hv m (Ax hC) h
def qg {i:aM}(hM:i.cA=false)(d:D)(ho:i.dP Y (cN env rs) m)
  (hv:i.val Y (cN env rs) m (nx+rs.length)=d) (m':List (Nat×bT)) (hm:i.cz Y (cN env rs) m (nx+rs.length)=m')
  (h:i.yo draw (cN env rs)->aN Y draw r env (⟨true,d⟩::rs) nx m' K):aN Y draw (⟨i,none⟩::r) env rs nx m K:=
 IU hM (by simp[aM.mc]) (fun h=>by cases h) rfl d (fun _=>ho) (fun _=>hv) m' hm (fun ha=>h (ha rfl))
def IY {i:aM}{j:Nat}{w:Bool}(hM:i.cA=false)(hC:i.calm=false)(hg:GF rs (some (j,w)) f)(h1:f=true->∃d,i.dP Y (cN env rs) m/\i.val Y (cN env rs) m (nx+rs.length)=d/\∃m',i.cz Y (cN env rs) m (nx+rs.length)=m'/\aN Y false r env (⟨true,d⟩::rs) nx m' K)
  (h2:f=false->aN Y false r env (⟨false,.any⟩::rs) nx m K):aN Y false (⟨i,some (j,w)⟩::r) env rs nx m K:=by
 obtain⟨hf,hb⟩:=hg.flag
 grind [aN,sg,aM.mc,kv]
def mZ {x:Src}{fx:Bool}{d:D}(h:aN Y draw r env (⟨f,d⟩::rs) nx m K)(hg:GF rs g f:=by exact dL)(hx:cN env rs x=⟨fx,d⟩:=by exact rfl)(kx:f=true->fx=true:=by exact cF):aN Y draw (⟨.mv x,g⟩::r) env rs nx m K:=
 ct rfl hg _ (fun hf=>by simp[aM.dP,hx,kx hf]) (fun hf=>by simp[aM.val,hx]) (fun ha=>h)
def RN {x:Src}{fx:Bool}{b:Bool}(h:aN Y draw r env (⟨f,.bool (!b)⟩::rs) nx m K)(hg:GF rs g f:=by exact dL)(hx:cN env rs x=⟨fx,.bool b⟩:=by exact rfl)(kx:f=true->fx=true:=by exact cF):aN Y draw (⟨.un .not x,g⟩::r) env rs nx m K:=
 ct rfl hg _ (fun hf=>by simp[aM.dP,hx,kx hf]) (fun hf=>by simp[aM.val,hx]) (fun ha=>h)
def r_or {c b:Src}{fc fb t y:Bool}(h:aN Y draw r env (⟨f,.bool (t ||y)⟩::rs) nx m K)(hg:GF rs g f:=by exact dL)(hc:cN env rs c=⟨fc,.bool t⟩:=by exact rfl)(hb:cN env rs b=⟨fb,.bool y⟩:=by exact rfl)(kc:f=true->fc=true:=by exact cF)(kb:f=true->t=false->fb=true:=by intro h1 h2;first|(rw[h2];exact rfl)|(rw[h2,h1];rfl)|(rw[h1,h2];rfl)|simp_all):aN Y draw (⟨.pick c (.c (.bool true)) b,g⟩::r) env rs nx m K:=
 ct rfl hg _ (fun hf=>by simp only[aM.dP,hc,hb];exact⟨kc hf,fun _=>rfl,fun e=>kb hf e⟩) (fun hf=>by simp only[aM.val,hc,hb];cases t<;>rfl) (fun _=>h)
def RI {c a:Src}{fc fa t y:Bool}(h:aN Y draw r env (⟨f,.bool (t&&y)⟩::rs) nx m K)(hg:GF rs g f:=by exact dL)(hc:cN env rs c=⟨fc,.bool t⟩:=by exact rfl)(ha:cN env rs a=⟨fa,.bool y⟩:=by exact rfl)(kc:f=true->fc=true:=by exact cF)(ka:f=true->t=true->fa=true:=by intro h1 h2;first|(rw[h2];exact rfl)|(rw[h2,h1];rfl)|(rw[h1,h2];rfl)|simp_all):aN Y draw (⟨.pick c a (.c (.bool false)),g⟩::r) env rs nx m K:=
 ct rfl hg _ (fun hf=>by simp only[aM.dP,hc,ha];exact⟨kc hf,fun e=>ka hf e,fun _=>rfl⟩) (fun hf=>by simp only[aM.val,hc,ha];cases t<;>rfl) (fun _=>h)
def aL {x y:Src}{fx fy:Bool}{a b:Int}(h:aN Y draw r env (⟨f,.int .i64 (a+b)⟩::rs) nx m K)(hg:GF rs g f:=by exact dL)(hx:cN env rs x=⟨fx,.int .i64 a⟩:=by exact rfl)(hy:cN env rs y=⟨fy,.int .i64 b⟩:=by exact rfl)(kx:f=true->fx=true:=by exact cF)(ky:f=true->fy=true:=by exact cF)(hb:f=true->-9223372036854775808<=a+b/\a+b<=9223372036854775807:=by exact Bp):aN Y draw (⟨.bin .add x y,g⟩::r) env rs nx m K:=
 ct rfl hg _ (fun hf=>by simp[aM.dP,hx,hy,kx hf,ky hf,iQ]) (fun hf=>by simp only[aM.val,hx,hy,jx];rw[wrap_i64 (hb hf).1 (hb hf).2]) (fun ha=>h)
def eC {x y:Src}{fx fy:Bool}{a b:Int}(h:aN Y draw r env (⟨f,.int .i64 (a-b)⟩::rs) nx m K)(hg:GF rs g f:=by exact dL)(hx:cN env rs x=⟨fx,.int .i64 a⟩:=by exact rfl)(hy:cN env rs y=⟨fy,.int .i64 b⟩:=by exact rfl)(kx:f=true->fx=true:=by exact cF)(ky:f=true->fy=true:=by exact cF)(hb:f=true->-9223372036854775808<=a-b/\a-b<=9223372036854775807:=by exact Bp):aN Y draw (⟨.bin .sub x y,g⟩::r) env rs nx m K:=
 ct rfl hg _ (fun hf=>by simp[aM.dP,hx,hy,kx hf,ky hf,iQ]) (fun hf=>by simp only[aM.val,hx,hy,jx];rw[wrap_i64 (hb hf).1 (hb hf).2]) (fun ha=>h)
def I7 {x y:Src}{fx fy:Bool}{k:IntKind}{a b:Int}(v:Int)(h:aN Y draw r env (⟨f,.int k v⟩::rs) nx m K)(hg:GF rs g f:=by exact dL)(hx:cN env rs x=⟨fx,.int k a⟩:=by exact rfl)(hy:cN env rs y=⟨fy,.int k b⟩:=by exact rfl)(kx:f=true->fx=true:=by exact cF)(ky:f=true->fy=true:=by exact cF)(hb:f=true->k.wrap (a-b)=v):aN Y draw (⟨.bin .sub x y,g⟩::r) env rs nx m K:=
 ct rfl hg _ (fun hf=>by simp[aM.dP,hx,hy,kx hf,ky hf,iQ]) (fun hf=>by simp only[aM.val,hx,hy,jx];rw[hb hf]) (fun ha=>h)
def yZ {x y:Src}{fx fy:Bool}{a b:Int}(h:aN Y draw r env (⟨f,.int .i64 (a*b)⟩::rs) nx m K)(hg:GF rs g f:=by exact dL)(hx:cN env rs x=⟨fx,.int .i64 a⟩:=by exact rfl)(hy:cN env rs y=⟨fy,.int .i64 b⟩:=by exact rfl)(kx:f=true->fx=true:=by exact cF)(ky:f=true->fy=true:=by exact cF)(hb:f=true->-9223372036854775808<=a*b/\a*b<=9223372036854775807:=by exact Bp):aN Y draw (⟨.bin .mul x y,g⟩::r) env rs nx m K:=
 ct rfl hg _ (fun hf=>by simp[aM.dP,hx,hy,kx hf,ky hf,iQ]) (fun hf=>by simp only[aM.val,hx,hy,jx];rw[wrap_i64 (hb hf).1 (hb hf).2]) (fun ha=>h)
def MA {x y:Src}{fx fy:Bool}{k:IntKind}{a b:Int}(v:Int)(h:aN Y draw r env (⟨f,.int k v⟩::rs) nx m K)(hg:GF rs g f:=by exact dL)(hx:cN env rs x=⟨fx,.int k a⟩:=by exact rfl)(hy:cN env rs y=⟨fy,.int k b⟩:=by exact rfl)(kx:f=true->fx=true:=by exact cF)(ky:f=true->fy=true:=by exact cF)(hn:f=true->b≠0)(hb:f=true->a.tmod b=v):aN Y draw (⟨.bin .rem x y,g⟩::r) env rs nx m K:=
 ct rfl hg _ (fun hf=>by simp[aM.dP,hx,hy,kx hf,ky hf,iQ,hn hf]) (fun hf=>by simp only[aM.val,hx,hy,jx];rw[hb hf]) (fun ha=>h)
def vR {x y:Src}{fx fy:Bool}{k k2:IntKind}{a b:Int}(v:Int)(h:aN Y draw r env (⟨f,.int k v⟩::rs) nx m K)(hg:GF rs g f:=by exact dL)(hx:cN env rs x=⟨fx,.int k a⟩:=by exact rfl)(hy:cN env rs y=⟨fy,.int k2 b⟩:=by exact rfl)(kx:f=true->fx=true:=by exact cF)(ky:f=true->fy=true:=by exact cF)(hn:f=true->0<=b:=by exact wD)(hb:f=true->k.wrap (a*2^(min b.toNat k.bits))=v):aN Y draw (⟨.bin .shl x y,g⟩::r) env rs nx m K:=
 ct rfl hg _ (fun hf=>by simp[aM.dP,hx,hy,kx hf,ky hf,iQ,hn hf]) (fun hf=>by simp only[aM.val,hx,hy,jx];rw[hb hf]) (fun ha=>h)
def MB {x y:Src}{fx fy:Bool}{k k2:IntKind}{a b:Int}(v:Int)(h:aN Y draw r env (⟨f,.int k v⟩::rs) nx m K)(hg:GF rs g f:=by exact dL)(hx:cN env rs x=⟨fx,.int k a⟩:=by exact rfl)(hy:cN env rs y=⟨fy,.int k2 b⟩:=by exact rfl)(kx:f=true->fx=true:=by exact cF)(ky:f=true->fy=true:=by exact cF)(hn:f=true->0<=b:=by exact wD)(hb:f=true->a.fdiv (2^(min b.toNat k.bits))=v):aN Y draw (⟨.bin .shr x y,g⟩::r) env rs nx m K:=
 ct rfl hg _ (fun hf=>by simp[aM.dP,hx,hy,kx hf,ky hf,iQ,hn hf]) (fun hf=>by simp only[aM.val,hx,hy,jx];rw[hb hf]) (fun ha=>h)
def eE {x y:Src}{fx fy:Bool}{k:IntKind}{a b:Int}(v:Int)(h:aN Y draw r env (⟨f,.int k v⟩::rs) nx m K)(hg:GF rs g f:=by exact dL)(hx:cN env rs x=⟨fx,.int k a⟩:=by exact rfl)(hy:cN env rs y=⟨fy,.int k b⟩:=by exact rfl)(kx:f=true->fx=true:=by exact cF)(ky:f=true->fy=true:=by exact cF)(hb:f=true->k.wrap (((BitVec.ofInt k.bits a)&&&(BitVec.ofInt k.bits b)).toNat)=v):aN Y draw (⟨.bin .and x y,g⟩::r) env rs nx m K:=
 ct rfl hg _ (fun hf=>by simp[aM.dP,hx,hy,kx hf,ky hf,iQ]) (fun hf=>by simp only[aM.val,hx,hy,jx];rw[hb hf]) (fun ha=>h)
def Az {x y:Src}{fx fy:Bool}{k:IntKind}{a b:Int}(v:Int)(h:aN Y draw r env (⟨f,.int k v⟩::rs) nx m K)(hg:GF rs g f:=by exact dL)(hx:cN env rs x=⟨fx,.int k a⟩:=by exact rfl)(hy:cN env rs y=⟨fy,.int k b⟩:=by exact rfl)(kx:f=true->fx=true:=by exact cF)(ky:f=true->fy=true:=by exact cF)(hb:f=true->k.wrap (((BitVec.ofInt k.bits a) |||(BitVec.ofInt k.bits b)).toNat)=v):aN Y draw (⟨.bin .or x y,g⟩::r) env rs nx m K:=
 ct rfl hg _ (fun hf=>by simp[aM.dP,hx,hy,kx hf,ky hf,iQ]) (fun hf=>by simp only[aM.val,hx,hy,jx];rw[hb hf]) (fun ha=>h)
def o8 {x y:Src}{fx fy:Bool}{k:IntKind}{a b:Int}(v:Int)(h:aN Y draw r env (⟨f,.int k v⟩::rs) nx m K)(hg:GF rs g f:=by exact dL)(hx:cN env rs x=⟨fx,.int k a⟩:=by exact rfl)(hy:cN env rs y=⟨fy,.int k b⟩:=by exact rfl)(kx:f=true->fx=true:=by exact cF)(ky:f=true->fy=true:=by exact cF)(hb:f=true->k.wrap (((BitVec.ofInt k.bits a)&&& ~~~ (BitVec.ofInt k.bits b)).toNat)=v):aN Y draw (⟨.bin .andNot x y,g⟩::r) env rs nx m K:=
 ct rfl hg _ (fun hf=>by simp[aM.dP,hx,hy,kx hf,ky hf,iQ]) (fun hf=>by simp only[aM.val,hx,hy,jx];rw[hb hf]) (fun ha=>h)
def yY {x y:Src}{fx fy:Bool}{k:IntKind}{a b:Int}(h:aN Y draw r env (⟨f,.bool (decide (a<b))⟩::rs) nx m K)(hg:GF rs g f:=by exact dL)(hx:cN env rs x=⟨fx,.int k a⟩:=by exact rfl)(hy:cN env rs y=⟨fy,.int k b⟩:=by exact rfl)(kx:f=true->fx=true:=by exact cF)(ky:f=true->fy=true:=by exact cF):aN Y draw (⟨.bin .lss x y,g⟩::r) env rs nx m K:=
 ct rfl hg _ (fun hf=>by simp[aM.dP,hx,hy,kx hf,ky hf,iQ]) (fun hf=>by simp only[aM.val,hx,hy,jx]<;>rfl) (fun ha=>h)
def Ov {x y:Src}{fx fy:Bool}{k:IntKind}{a b:Int}(h:aN Y draw r env (⟨f,.bool (decide (a<=b))⟩::rs) nx m K)(hg:GF rs g f:=by exact dL)(hx:cN env rs x=⟨fx,.int k a⟩:=by exact rfl)(hy:cN env rs y=⟨fy,.int k b⟩:=by exact rfl)(kx:f=true->fx=true:=by exact cF)(ky:f=true->fy=true:=by exact cF):aN Y draw (⟨.bin .leq x y,g⟩::r) env rs nx m K:=
 ct rfl hg _ (fun hf=>by simp[aM.dP,hx,hy,kx hf,ky hf,iQ]) (fun hf=>by simp only[aM.val,hx,hy,jx]<;>rfl) (fun ha=>h)
def Om {x y:Src}{fx fy:Bool}{k:IntKind}{a b:Int}(h:aN Y draw r env (⟨f,.bool (decide (b<a))⟩::rs) nx m K)(hg:GF rs g f:=by exact dL)(hx:cN env rs x=⟨fx,.int k a⟩:=by exact rfl)(hy:cN env rs y=⟨fy,.int k b⟩:=by exact rfl)(kx:f=true->fx=true:=by exact cF)(ky:f=true->fy=true:=by exact cF):aN Y draw (⟨.bin .gtr x y,g⟩::r) env rs nx m K:=
 ct rfl hg _ (fun hf=>by simp[aM.dP,hx,hy,kx hf,ky hf,iQ]) (fun hf=>by simp only[aM.val,hx,hy,jx]<;>rfl) (fun ha=>h)
def Oj {x y:Src}{fx fy:Bool}{k:IntKind}{a b:Int}(h:aN Y draw r env (⟨f,.bool (decide (b<=a))⟩::rs) nx m K)(hg:GF rs g f:=by exact dL)(hx:cN env rs x=⟨fx,.int k a⟩:=by exact rfl)(hy:cN env rs y=⟨fy,.int k b⟩:=by exact rfl)(kx:f=true->fx=true:=by exact cF)(ky:f=true->fy=true:=by exact cF):aN Y draw (⟨.bin .geq x y,g⟩::r) env rs nx m K:=
 ct rfl hg _ (fun hf=>by simp[aM.dP,hx,hy,kx hf,ky hf,iQ]) (fun hf=>by simp only[aM.val,hx,hy,jx]<;>rfl) (fun ha=>h)
def Oh {x y:Src}{fx fy:Bool}{k:IntKind}{a b:Int}(h:aN Y draw r env (⟨f,.bool (decide (a=b))⟩::rs) nx m K)(hg:GF rs g f:=by exact dL)(hx:cN env rs x=⟨fx,.int k a⟩:=by exact rfl)(hy:cN env rs y=⟨fy,.int k b⟩:=by exact rfl)(kx:f=true->fx=true:=by exact cF)(ky:f=true->fy=true:=by exact cF):aN Y draw (⟨.bin .eql x y,g⟩::r) env rs nx m K:=
 ct rfl hg _ (fun hf=>by simp[aM.dP,hx,hy,kx hf,ky hf,iQ]) (fun hf=>by simp only[aM.val,hx,hy,jx]<;>rfl) (fun ha=>h)
def Oz {x y:Src}{fx fy:Bool}{k:IntKind}{a b:Int}(h:aN Y draw r env (⟨f,.bool (!decide (a=b))⟩::rs) nx m K)(hg:GF rs g f:=by exact dL)(hx:cN env rs x=⟨fx,.int k a⟩:=by exact rfl)(hy:cN env rs y=⟨fy,.int k b⟩:=by exact rfl)(kx:f=true->fx=true:=by exact cF)(ky:f=true->fy=true:=by exact cF):aN Y draw (⟨.bin .neq x y,g⟩::r) env rs nx m K:=
 ct rfl hg _ (fun hf=>by simp[aM.dP,hx,hy,kx hf,ky hf,iQ]) (fun hf=>by simp only[aM.val,hx,hy,jx]<;>rfl) (fun ha=>h)
def Oy {x y:Src}{fx fy:Bool}{a b:List UInt8}(h:aN Y draw r env (⟨f,.bool (Op.bytesLess a b)⟩::rs) nx m K)(hg:GF rs g f:=by exact dL)(hx:cN env rs x=⟨fx,.str a⟩:=by exact rfl)(hy:cN env rs y=⟨fy,.str b⟩:=by exact rfl)(kx:f=true->fx=true:=by exact cF)(ky:f=true->fy=true:=by exact cF):aN Y draw (⟨.bin .lss x y,g⟩::r) env rs nx m K:=
 ct rfl hg _ (fun hf=>by simp[aM.dP,hx,hy,kx hf,ky hf,iQ]) (fun hf=>by simp only[aM.val,hx,hy,jx,mG]) (fun ha=>h)
def Ox {x y:Src}{fx fy:Bool}{a b:List UInt8}(h:aN Y draw r env (⟨f,.bool (Op.bytesLess a b ||decide (a=b))⟩::rs) nx m K)(hg:GF rs g f:=by exact dL)(hx:cN env rs x=⟨fx,.str a⟩:=by exact rfl)(hy:cN env rs y=⟨fy,.str b⟩:=by exact rfl)(kx:f=true->fx=true:=by exact cF)(ky:f=true->fy=true:=by exact cF):aN Y draw (⟨.bin .leq x y,g⟩::r) env rs nx m K:=
 ct rfl hg _ (fun hf=>by simp[aM.dP,hx,hy,kx hf,ky hf,iQ]) (fun hf=>by simp only[aM.val,hx,hy,jx,mG]) (fun ha=>h)
def On {x y:Src}{fx fy:Bool}{a b:List UInt8}(h:aN Y draw r env (⟨f,.bool (!(Op.bytesLess a b ||decide (a=b)))⟩::rs) nx m K)(hg:GF rs g f:=by exact dL)(hx:cN env rs x=⟨fx,.str a⟩:=by exact rfl)(hy:cN env rs y=⟨fy,.str b⟩:=by exact rfl)(kx:f=true->fx=true:=by exact cF)(ky:f=true->fy=true:=by exact cF):aN Y draw (⟨.bin .gtr x y,g⟩::r) env rs nx m K:=
 ct rfl hg _ (fun hf=>by simp[aM.dP,hx,hy,kx hf,ky hf,iQ]) (fun hf=>by simp only[aM.val,hx,hy,jx,mG]) (fun ha=>h)
def Ol {x y:Src}{fx fy:Bool}{a b:List UInt8}(h:aN Y draw r env (⟨f,.bool (!Op.bytesLess a b)⟩::rs) nx m K)(hg:GF rs g f:=by exact dL)(hx:cN env rs x=⟨fx,.str a⟩:=by exact rfl)(hy:cN env rs y=⟨fy,.str b⟩:=by exact rfl)(kx:f=true->fx=true:=by exact cF)(ky:f=true->fy=true:=by exact cF):aN Y draw (⟨.bin .geq x y,g⟩::r) env rs nx m K:=
 ct rfl hg _ (fun hf=>by simp[aM.dP,hx,hy,kx hf,ky hf,iQ]) (fun hf=>by simp only[aM.val,hx,hy,jx,mG]) (fun ha=>h)
def Oi {x y:Src}{fx fy:Bool}{a b:List UInt8}(h:aN Y draw r env (⟨f,.bool (decide (a=b))⟩::rs) nx m K)(hg:GF rs g f:=by exact dL)(hx:cN env rs x=⟨fx,.str a⟩:=by exact rfl)(hy:cN env rs y=⟨fy,.str b⟩:=by exact rfl)(kx:f=true->fx=true:=by exact cF)(ky:f=true->fy=true:=by exact cF):aN Y draw (⟨.bin .eql x y,g⟩::r) env rs nx m K:=
 ct rfl hg _ (fun hf=>by simp[aM.dP,hx,hy,kx hf,ky hf,iQ]) (fun hf=>by simp only[aM.val,hx,hy,jx,mG]) (fun ha=>h)
def OA {x y:Src}{fx fy:Bool}{a b:List UInt8}(h:aN Y draw r env (⟨f,.bool (!decide (a=b))⟩::rs) nx m K)(hg:GF rs g f:=by exact dL)(hx:cN env rs x=⟨fx,.str a⟩:=by exact rfl)(hy:cN env rs y=⟨fy,.str b⟩:=by exact rfl)(kx:f=true->fx=true:=by exact cF)(ky:f=true->fy=true:=by exact cF):aN Y draw (⟨.bin .neq x y,g⟩::r) env rs nx m K:=
 ct rfl hg _ (fun hf=>by simp[aM.dP,hx,hy,kx hf,ky hf,iQ]) (fun hf=>by simp only[aM.val,hx,hy,jx,mG]) (fun ha=>h)
def vO {x y:Src}{fx fy:Bool}{ag:Bool}{ks:List CK}{a b:D}{v:Bool}(h:aN Y draw r env (⟨f,.bool (v)⟩::rs) nx m K)(hb:ic a.cells b.cells=v)(hg:GF rs g f:=by exact dL)(hx:cN env rs x=⟨fx,a⟩:=by exact rfl)(hy:cN env rs y=⟨fy,b⟩:=by exact rfl)(kx:f=true->fx=true:=by exact cF)(ky:f=true->fy=true:=by exact cF)(h1:f=true->a.isAgg=ag/\b.isAgg=ag/\fm ks a.cells/\fm ks b.cells:=by exact sw):aN Y draw (⟨.eqA false ag ks x y,g⟩::r) env rs nx m K:=
 ct rfl hg _ (fun hf=>by simp only[aM.dP,hx,hy];exact⟨kx hf,ky hf,h1 hf⟩) (fun hf=>by simp only[aM.val,hx,hy];rw[hb];rfl) (fun ha=>h)
def IW {x y:Src}{fx fy:Bool}{ag:Bool}{ks:List CK}{a b:D}{v:Bool}(h:aN Y draw r env (⟨f,.bool (!v)⟩::rs) nx m K)(hb:ic a.cells b.cells=v)(hg:GF rs g f:=by exact dL)(hx:cN env rs x=⟨fx,a⟩:=by exact rfl)(hy:cN env rs y=⟨fy,b⟩:=by exact rfl)(kx:f=true->fx=true:=by exact cF)(ky:f=true->fy=true:=by exact cF)(h1:f=true->a.isAgg=ag/\b.isAgg=ag/\fm ks a.cells/\fm ks b.cells:=by exact sw):aN Y draw (⟨.eqA true ag ks x y,g⟩::r) env rs nx m K:=
 ct rfl hg _ (fun hf=>by simp only[aM.dP,hx,hy];exact⟨kx hf,ky hf,h1 hf⟩) (fun hf=>by simp only[aM.val,hx,hy];rw[hb];rfl) (fun ha=>h)
def xI {x:Src}{fx:Bool}{k k2:IntKind}{a:Int}(v:Int)(h:aN Y draw r env (⟨f,.int k v⟩::rs) nx m K)(hg:GF rs g f:=by exact dL)(hx:cN env rs x=⟨fx,.int k2 a⟩:=by exact rfl)(kx:f=true->fx=true:=by exact cF)(hb:f=true->k.wrap a=v):aN Y draw (⟨.cvi k x,g⟩::r) env rs nx m K:=
 ct rfl hg _ (fun hf=>by simp[aM.dP,hx,kx hf]) (fun hf=>by simp only[aM.val,hx];rw[hb hf]) (fun ha=>h)
def I2 {x:Src}{fx:Bool}{s:List UInt8}(h:(f=true->draw=false->s.length<=9223372036854775807)->aN Y draw r env (⟨f,.int .i64 s.length⟩::rs) nx m K)(hg:GF rs g f:=by exact dL)(hx:cN env rs x=⟨fx,.str s⟩:=by exact rfl)(kx:f=true->fx=true:=by exact cF):aN Y draw (⟨.lenS x,g⟩::r) env rs nx m K:=
 ct rfl hg _ (fun hf=>by simp[aM.dP,hx,kx hf]) (fun hf=>by simp[aM.val,hx]) (fun ha=>h (fun hf hd=>by have:=ha hf;subst hd;simpa[aM.yo,hx,kx hf]using this))
def Cl {x:Src}{fx:Bool}{α:Type}{k:Nat}{q:α->D}{xs:List α}(h:(f=true->draw=false->xs.length<=9223372036854775807)->aN Y draw r env (⟨f,.int .i64 xs.length⟩::rs) nx m K)(hg:GF rs g f:=by exact dL)(hx:cN env rs x=⟨fx,.sl k (xs.map q)⟩:=by exact rfl)(kx:f=true->fx=true:=by exact cF):aN Y draw (⟨.len x,g⟩::r) env rs nx m K:=
 ct rfl hg _ (fun hf=>by simp[aM.dP,hx,kx hf]) (fun hf=>by simp[aM.val,hx]) (fun ha=>h (fun hf hd=>by have:=ha hf;subst hd;simpa[aM.yo,hx,kx hf]using this))
def I1 {x:Src}{fx:Bool}{l k i n:Nat}(h:(f=true->draw=false->n<=9223372036854775807)->aN Y draw r env (⟨f,.int .i64 n⟩::rs) nx m K)(hg:GF rs g f:=by exact dL)(hx:cN env rs x=⟨fx,.own l k i n⟩:=by exact rfl)(kx:f=true->fx=true:=by exact cF):aN Y draw (⟨.len x,g⟩::r) env rs nx m K:=
 ct rfl hg _ (fun hf=>by simp[aM.dP,hx,kx hf]) (fun hf=>by simp[aM.val,hx]) (fun ha=>h (fun hf hd=>by have:=ha hf;subst hd;simpa[aM.yo,hx,kx hf]using this))
def Ou {x:Src}{fx:Bool}(h:aN Y draw r env (⟨f,.int .i64 0⟩::rs) nx m K)(hg:GF rs g f:=by exact dL)(hx:cN env rs x=⟨fx,.aG⟩:=by exact rfl)(kx:f=true->fx=true:=by exact cF):aN Y draw (⟨.len x,g⟩::r) env rs nx m K:=
 ct rfl hg _ (fun hf=>by simp[aM.dP,hx,kx hf]) (fun hf=>by simp[aM.val,hx]) (fun ha=>h)
def OB {x:Src}{fx:Bool}{l k i o:Nat}(h:aN Y draw r env (⟨f,.ptr l k i o⟩::rs) nx m K)(hg:GF rs g f:=by exact dL)(hx:cN env rs x=⟨fx,.ptr l k i o⟩:=by exact rfl)(kx:f=true->fx=true:=by exact cF):aN Y draw (⟨.nilck x,g⟩::r) env rs nx m K:=
 ct rfl hg _ (fun hf=>by simp[aM.dP,hx,kx hf]) (fun hf=>by simp[aM.val,hx]) (fun ha=>h)
def OC {x:Src}{fx:Bool}{k i o:Nat}{es:List D}(h:aN Y draw r env (⟨f,.ref k es i o⟩::rs) nx m K)(hg:GF rs g f:=by exact dL)(hx:cN env rs x=⟨fx,.ref k es i o⟩:=by exact rfl)(kx:f=true->fx=true:=by exact cF):aN Y draw (⟨.nilck x,g⟩::r) env rs nx m K:=
 ct rfl hg _ (fun hf=>by simp[aM.dP,hx,kx hf]) (fun hf=>by simp[aM.val,hx]) (fun ha=>h)
def IX {x:Src}{fx:Bool}{off l k i o:Nat}(h:aN Y draw r env (⟨f,.ptr l k i (o+off)⟩::rs) nx m K)(hg:GF rs g f:=by exact dL)(hx:cN env rs x=⟨fx,.ptr l k i o⟩:=by exact rfl)(kx:f=true->fx=true:=by exact cF):aN Y draw (⟨.fa off x,g⟩::r) env rs nx m K:=
 ct rfl hg _ (fun hf=>by simp[aM.dP,hx,kx hf]) (fun hf=>by simp[aM.val,hx]) (fun ha=>h)
def RJ {x:Src}{fx:Bool}{off k i o:Nat}{es:List D}(h:aN Y draw r env (⟨f,.ref k es i (o+off)⟩::rs) nx m K)(hg:GF rs g f:=by exact dL)(hx:cN env rs x=⟨fx,.ref k es i o⟩:=by exact rfl)(kx:f=true->fx=true:=by exact cF):aN Y draw (⟨.fa off x,g⟩::r) env rs nx m K:=
 ct rfl hg _ (fun hf=>by simp[aM.dP,hx,kx hf]) (fun hf=>by simp[aM.val,hx]) (fun ha=>h)
def a8 {x y:Src}{fx fy:Bool}{α:Type}{k:Nat}{q:α->D}{xs:List α}{i:Int}{kk:IntKind}(j:Nat)(h:aN Y draw r env (⟨f,.ref k (xs.map q) j 0⟩::rs) nx m K)(hg:GF rs g f:=by exact dL)(hx:cN env rs x=⟨fx,.sl k (xs.map q)⟩:=by exact rfl)(hy:cN env rs y=⟨fy,.int kk i⟩:=by exact rfl)(kx:f=true->fx=true:=by exact cF)(ky:f=true->fy=true:=by exact cF)(hj:f=true->i=(j:Int):=by exact wC)(hb:f=true->j<xs.length:=by exact wD):aN Y draw (⟨.ia k x y,g⟩::r) env rs nx m K:=
 ct rfl hg _ (fun hf=>by simp only[aM.dP,hx,hy,aE];exact⟨kx hf,ky hf,trivial,by have:=hj hf;omega,by have:=hj hf;have:=hb hf;omega⟩) (fun hf=>by simp only[aM.val,hx,hy];rw[hj hf];rfl) (fun ha=>h)
def gH {x y:Src}{fx fy:Bool}{l k i0 n:Nat}{i:Int}{kk:IntKind}(j:Nat)(h:aN Y draw r env (⟨f,.ptr l k (i0+j) 0⟩::rs) nx m K)(hg:GF rs g f:=by exact dL)(hx:cN env rs x=⟨fx,.own l k i0 n⟩:=by exact rfl)(hy:cN env rs y=⟨fy,.int kk i⟩:=by exact rfl)(kx:f=true->fx=true:=by exact cF)(ky:f=true->fy=true:=by exact cF)(hj:f=true->i=(j:Int):=by exact wC)(hb:f=true->j<n:=by exact wD):aN Y draw (⟨.ia k x y,g⟩::r) env rs nx m K:=
 ct rfl hg _ (fun hf=>by simp only[aM.dP,hx,hy];exact⟨kx hf,ky hf,trivial,by have:=hj hf;omega,by have:=hj hf;have:=hb hf;omega⟩) (fun hf=>by simp only[aM.val,hx,hy];rw[hj hf];rfl) (fun ha=>h)
def I0 {x y:Src}{fx fy:Bool}{s:List UInt8}{i:Int}{kk:IntKind}(j:Nat)(h:aN Y draw r env (⟨f,.int .u8 (at8 s j)⟩::rs) nx m K)(hg:GF rs g f:=by exact dL)(hx:cN env rs x=⟨fx,.str s⟩:=by exact rfl)(hy:cN env rs y=⟨fy,.int kk i⟩:=by exact rfl)(kx:f=true->fx=true:=by exact cF)(ky:f=true->fy=true:=by exact cF)(hj:f=true->i=(j:Int):=by exact wC)(hb:f=true->j<s.length:=by exact wD):aN Y draw (⟨.ixS x y,g⟩::r) env rs nx m K:=
 ct rfl hg _ (fun hf=>by simp only[aM.dP,hx,hy];exact⟨kx hf,ky hf,by have:=hj hf;omega,by have:=hj hf;have:=hb hf;omega⟩) (fun hf=>by simp only[aM.val,hx,hy];rw[hj hf];rfl) (fun ha=>h)
def IZ {x y:Src}{fx fy:Bool}{α:Type}{k:Nat}{q:α->D}{xs:List α}{i:Int}{kk:IntKind}(h:aN Y draw r env (⟨f,.ref k (xs.map q) i.toNat 0⟩::rs) nx m K)(hg:GF rs g f:=by exact dL)(hx:cN env rs x=⟨fx,.sl k (xs.map q)⟩:=by exact rfl)(hy:cN env rs y=⟨fy,.int kk i⟩:=by exact rfl)(kx:f=true->fx=true:=by exact cF)(ky:f=true->fy=true:=by exact cF)(hb:f=true->0<=i/\i<(xs.length:Nat):=by exact Bp):aN Y draw (⟨.ia k x y,g⟩::r) env rs nx m K:=
 ct rfl hg _ (fun hf=>by simp only[aM.dP,hx,hy,aE];exact⟨kx hf,ky hf,trivial,(hb hf).1,(hb hf).2⟩) (fun hf=>by simp only[aM.val,hx,hy]<;>rfl) (fun ha=>h)
def Oo {x y:Src}{fx fy:Bool}{l k i0 n:Nat}{i:Int}{kk:IntKind}(h:aN Y draw r env (⟨f,.ptr l k (i0+i.toNat) 0⟩::rs) nx m K)(hg:GF rs g f:=by exact dL)(hx:cN env rs x=⟨fx,.own l k i0 n⟩:=by exact rfl)(hy:cN env rs y=⟨fy,.int kk i⟩:=by exact rfl)(kx:f=true->fx=true:=by exact cF)(ky:f=true->fy=true:=by exact cF)(hb:f=true->0<=i/\i<(n:Nat):=by exact Bp):aN Y draw (⟨.ia k x y,g⟩::r) env rs nx m K:=
 ct rfl hg _ (fun hf=>by simp only[aM.dP,hx,hy,aE];exact⟨kx hf,ky hf,trivial,(hb hf).1,(hb hf).2⟩) (fun hf=>by simp only[aM.val,hx,hy]<;>rfl) (fun ha=>h)
def Ot {x y:Src}{fx fy:Bool}{s:List UInt8}{i:Int}{kk:IntKind}(h:aN Y draw r env (⟨f,.int .u8 (at8 s i.toNat)⟩::rs) nx m K)(hg:GF rs g f:=by exact dL)(hx:cN env rs x=⟨fx,.str s⟩:=by exact rfl)(hy:cN env rs y=⟨fy,.int kk i⟩:=by exact rfl)(kx:f=true->fx=true:=by exact cF)(ky:f=true->fy=true:=by exact cF)(hb:f=true->0<=i/\i<(s.length:Nat):=by exact Bp):aN Y draw (⟨.ixS x y,g⟩::r) env rs nx m K:=
 ct rfl hg _ (fun hf=>by simp only[aM.dP,hx,hy,aE];exact⟨kx hf,ky hf,(hb hf).1,(hb hf).2⟩) (fun hf=>by simp only[aM.val,hx,hy]<;>rfl) (fun ha=>h)
def AF {x y:Src}{fx fy:Bool}{s:List UInt8}{k2:IntKind}{a:Int}(i:Nat)(h:aN Y draw r env (⟨f,.str (s.drop i)⟩::rs) nx m K)(hg:GF rs g f:=by exact dL)(hx:cN env rs x=⟨fx,.str s⟩:=by exact rfl)(hy:cN env rs y=⟨fy,.int k2 a⟩:=by exact rfl)(kx:f=true->fx=true:=by exact cF)(ky:f=true->fy=true:=by exact cF)(hi:f=true->a=(i:Int):=by exact wC)(hb:f=true->i<=s.length:=by exact wD):aN Y draw (⟨.slS x (some y) none,g⟩::r) env rs nx m K:=
 ct rfl hg _ (fun hf=>by simp only[aM.dP,GV,dO,hx,hy];have:=hb hf;have:=hi hf;refine⟨kx hf,ky hf,trivial, ?_⟩;simp only[mI,dY,ba,bc,Int.ofNat_eq_natCast];omega) (fun hf=>by simp only[aM.val,dO,dY,hx,hy];rw[hi hf];simp) (fun ha=>h)
def AB {x y:Src}{fx fy:Bool}{α:Type}{k:Nat}{q:α->D}{s:List α}{k2:IntKind}{a:Int}(i:Nat)(h:aN Y draw r env (⟨f,.sl k ((s.drop i).map q)⟩::rs) nx m K)(hg:GF rs g f:=by exact dL)(hx:cN env rs x=⟨fx,.sl k (s.map q)⟩:=by exact rfl)(hy:cN env rs y=⟨fy,.int k2 a⟩:=by exact rfl)(kx:f=true->fx=true:=by exact cF)(ky:f=true->fy=true:=by exact cF)(hi:f=true->a=(i:Int):=by exact wC)(hb:f=true->i<=s.length:=by exact wD):aN Y draw (⟨.slA k x (some y) none,g⟩::r) env rs nx m K:=
 ct rfl hg _ (fun hf=>by simp only[aM.dP,GV,dO,hx,hy,aE];have:=hb hf;have:=hi hf;refine⟨kx hf,ky hf,trivial,trivial, ?_⟩;simp only[mI,dY,ba,bc,Int.ofNat_eq_natCast];omega) (fun hf=>by simp only[aM.val,dO,dY,hx,hy];rw[hi hf];first|(simp only[List.take_length,Int.toNat_natCast,List.map_drop];done)|simp[List.map_drop,List.map_take]) (fun ha=>h)
def I5 {x z:Src}{fx fz:Bool}{α:Type}{k:Nat}{q:α->D}{s:List α}{k3:IntKind}{c:Int}(j:Nat)(h:aN Y draw r env (⟨f,.sl k ((s.take j).map q)⟩::rs) nx m K)(hg:GF rs g f:=by exact dL)(hx:cN env rs x=⟨fx,.sl k (s.map q)⟩:=by exact rfl)(hz:cN env rs z=⟨fz,.int k3 c⟩:=by exact rfl)(kx:f=true->fx=true:=by exact cF)(kz:f=true->fz=true:=by exact cF)(hj:f=true->c=(j:Int):=by exact wC)(hb:f=true->j<=s.length:=by exact wD):aN Y draw (⟨.slA k x none (some z),g⟩::r) env rs nx m K:=
 ct rfl hg _ (fun hf=>by simp only[aM.dP,GV,dO,hx,hz,aE];have:=hb hf;have:=hj hf;refine⟨kx hf,trivial,kz hf,trivial, ?_⟩;simp only[mI,dY,ba,bc,Int.ofNat_eq_natCast];omega) (fun hf=>by simp only[aM.val,dO,dY,hx,hz];rw[hj hf];first|(simp only[List.take_length,Int.toNat_natCast,List.map_drop];done)|simp[List.map_drop,List.map_take]) (fun ha=>h)
def AD {x z:Src}{fx fz:Bool}{l k i0 n:Nat}{k3:IntKind}{c:Int}(j:Nat)(h:aN Y draw r env (⟨f,.own l k i0 j⟩::rs) nx m K)(hg:GF rs g f:=by exact dL)(hx:cN env rs x=⟨fx,.own l k i0 n⟩:=by exact rfl)(hz:cN env rs z=⟨fz,.int k3 c⟩:=by exact rfl)(kx:f=true->fx=true:=by exact cF)(kz:f=true->fz=true:=by exact cF)(hj:f=true->c=(j:Int):=by exact wC)(hb:f=true->j<=n:=by exact wD):aN Y draw (⟨.slA k x none (some z),g⟩::r) env rs nx m K:=
 ct rfl hg _ (fun hf=>by simp only[aM.dP,GV,dO,hx,hz];have:=hb hf;have:=hj hf;refine⟨kx hf,trivial,kz hf,trivial, ?_⟩;simp only[mI,dY,ba,bc,Int.ofNat_eq_natCast];omega) (fun hf=>by simp only[aM.val,dO,dY,hx,hz];rw[hj hf];simp) (fun ha=>h)
def AE {x y z:Src}{fx fy fz:Bool}{s:List UInt8}{k2:IntKind}{a:Int}(i:Nat){k3:IntKind}{c:Int}(j:Nat)(h:aN Y draw r env (⟨f,.str ((s.take j).drop i)⟩::rs) nx m K)(hg:GF rs g f:=by exact dL)(hx:cN env rs x=⟨fx,.str s⟩:=by exact rfl)(hy:cN env rs y=⟨fy,.int k2 a⟩:=by exact rfl)(hz:cN env rs z=⟨fz,.int k3 c⟩:=by exact rfl)(kx:f=true->fx=true:=by exact cF)(ky:f=true->fy=true:=by exact cF)(kz:f=true->fz=true:=by exact cF)(hi:f=true->a=(i:Int):=by exact wC)(hj:f=true->c=(j:Int):=by exact wC)(hb:f=true->i<=j/\j<=s.length:=by exact Bp):aN Y draw (⟨.slS x (some y) (some z),g⟩::r) env rs nx m K:=
 ct rfl hg _ (fun hf=>by simp only[aM.dP,GV,dO,hx,hy,hz];have:=hb hf;have:=hi hf;have:=hj hf;refine⟨kx hf,ky hf,kz hf, ?_⟩;simp only[mI,dY,ba,bc,Int.ofNat_eq_natCast];omega) (fun hf=>by simp only[aM.val,dO,dY,hx,hy,hz];rw[hi hf,hj hf];simp) (fun ha=>h)
def I6 {x y z:Src}{fx fy fz:Bool}{α:Type}{k:Nat}{q:α->D}{s:List α}{k2:IntKind}{a:Int}(i:Nat){k3:IntKind}{c:Int}(j:Nat)(h:aN Y draw r env (⟨f,.sl k (((s.take j).drop i).map q)⟩::rs) nx m K)(hg:GF rs g f:=by exact dL)(hx:cN env rs x=⟨fx,.sl k (s.map q)⟩:=by exact rfl)(hy:cN env rs y=⟨fy,.int k2 a⟩:=by exact rfl)(hz:cN env rs z=⟨fz,.int k3 c⟩:=by exact rfl)(kx:f=true->fx=true:=by exact cF)(ky:f=true->fy=true:=by exact cF)(kz:f=true->fz=true:=by exact cF)(hi:f=true->a=(i:Int):=by exact wC)(hj:f=true->c=(j:Int):=by exact wC)(hb:f=true->i<=j/\j<=s.length:=by exact Bp):aN Y draw (⟨.slA k x (some y) (some z),g⟩::r) env rs nx m K:=
 ct rfl hg _ (fun hf=>by simp only[aM.dP,GV,dO,hx,hy,hz,aE];have:=hb hf;have:=hi hf;have:=hj hf;refine⟨kx hf,ky hf,kz hf,trivial, ?_⟩;simp only[mI,dY,ba,bc,Int.ofNat_eq_natCast];omega) (fun hf=>by simp only[aM.val,dO,dY,hx,hy,hz];rw[hi hf,hj hf];first|(simp only[List.take_length,Int.toNat_natCast,List.map_drop];done)|simp[List.map_drop,List.map_take]) (fun ha=>h)
def gR {x:Src}{fx:Bool}{i:Nat}{ds:List D}(v:D)(h:aN Y draw r env (⟨f,v⟩::rs) nx m K)(hg:GF rs g f:=by exact dL)(hx:cN env rs x=⟨fx,.tup ds⟩:=by exact rfl)(kx:f=true->fx=true:=by exact cF)(hv:f=true->ds.getD i .any=v:=by exact fun _=>rfl)(hb:f=true->i<ds.length:=by intro _;simp only[bj,bw];omega):aN Y draw (⟨.ext x i,g⟩::r) env rs nx m K:=
 ct rfl hg _ (fun hf=>by simp only[aM.dP,hx];exact⟨kx hf,hb hf⟩) (fun hf=>by simp only[aM.val,hx];exact hv hf) (fun ha=>h)
def dK {z:List D}{ps:List (Nat×Nat×Src)}(v:List D)(h:aN Y draw r env (⟨f,.agg v⟩::rs) nx m K)(hg:GF rs g f:=by exact dL)(hv:f=true->uH (cN env rs) z ps=v:=by exact fun _=>rfl)(ho:f=true->xk (cN env rs) z.length ps:=by exact sw):aN Y draw (⟨.build z ps,g⟩::r) env rs nx m K:=
 ct rfl hg _ (fun hf=>ho hf) (fun hf=>by simp only[aM.val];rw[hv hf]) (fun _=>h)
def bP {z:List D}{ps:List (Nat×Nat×Src)}(d:D)(h:aN Y draw r env (⟨f,d⟩::rs) nx m K)(hg:GF rs g f:=by exact dL)(hv:f=true->D.agg (uH (cN env rs) z ps)=d:=by exact fun _=>rfl)(ho:f=true->xk (cN env rs) z.length ps:=by exact sw):aN Y draw (⟨.build z ps,g⟩::r) env rs nx m K:=
 ct rfl hg _ (fun hf=>ho hf) (fun hf=>by simp only[aM.val];exact hv hf) (fun _=>h)
def NX {e:D}{n o:Nat}{ag:Bool}(h:e.isAgg=ag):om e n n o ag=e:=by simp[om,h]
def aP {x:Src}{fx:Bool}{n l:Nat}{ag:Bool}{d:D}(h:aN Y draw r env (⟨f,d⟩::rs) nx m K)(hg:GF rs g f:=by exact dL)(hx:cN env rs x=⟨fx,.ptr l n 0 0⟩:=by exact rfl)(kx:f=true->fx=true:=by exact cF)(hl:f=true->look m l=some (.buf n [d]):=by exact fun _=>rfl)(ha:f=true->d.isAgg=ag:=by exact fun _=>rfl):aN Y draw (⟨.ld n ag x,g⟩::r) env rs nx m K:=
 fZ rfl hg _ (fun hf=>by simp only[aM.dP,hx,xu,eB,hl hf];exact⟨kx hf,⟨trivial,bA⟩,ae⟩) (fun hf=>by simp only[aM.val,hx,uX,a7,hl hf,ij];exact NX (ha hf)) m rfl (fun ha=>h)
def ax {x:Src}{fx:Bool}{n l k o:Nat}{ag:Bool}{d:D}(v:D)(h:aN Y draw r env (⟨f,v⟩::rs) nx m K)(hg:GF rs g f:=by exact dL)(hx:cN env rs x=⟨fx,.ptr l k 0 o⟩:=by exact rfl)(kx:f=true->fx=true:=by exact cF)(hl:f=true->look m l=some (.buf k [d]):=by exact fun _=>rfl)(hv:f=true->om d k n o ag=v:=by exact fun _=>rfl)(ho:o+n<=k:=by omega):aN Y draw (⟨.ld n ag x,g⟩::r) env rs nx m K:=
 fZ rfl hg _ (fun hf=>by simp only[aM.dP,hx,xu,eB,hl hf];exact⟨kx hf,⟨trivial,bA⟩,ho⟩) (fun hf=>by simp only[aM.val,hx,uX,a7,hl hf,ij];exact hv hf) m rfl (fun ha=>h)
def vP {x:Src}{fx:Bool}{n l k i o:Nat}{ag:Bool}{es:List D}(v:D)(h:aN Y draw r env (⟨f,v⟩::rs) nx m K)(hg:GF rs g f:=by exact dL)(hx:cN env rs x=⟨fx,.ptr l k i o⟩:=by exact rfl)(kx:f=true->fx=true:=by exact cF)(hl:f=true->look m l=some (.buf k es):=by exact fun _=>rfl)(hi:f=true->i<es.length)(hv:f=true->om (es.getD i .any) k n o ag=v)(ho:o+n<=k:=by omega):aN Y draw (⟨.ld n ag x,g⟩::r) env rs nx m K:=
 fZ rfl hg _ (fun hf=>by simp only[aM.dP,hx,xu,eB,hl hf];exact⟨kx hf,⟨trivial,by have:=hi hf;omega⟩,ho⟩) (fun hf=>by simp only[aM.val,hx,uX,a7,hl hf];exact hv hf) m rfl (fun ha=>h)
def jY {x:Src}{fx:Bool}{α:Type} [Inhabited α]{n l k i o:Nat}{ag:Bool}{q:α->D}{xs:List α}(v:D)(h:aN Y draw r env (⟨f,v⟩::rs) nx m K)(hg:GF rs g f:=by exact dL)(hx:cN env rs x=⟨fx,.ptr l k i o⟩:=by exact rfl)(kx:f=true->fx=true:=by exact cF)(hl:f=true->look m l=some (.buf k (xs.map q)):=by exact fun _=>rfl)(hi:f=true->i<xs.length:=by exact wD)(hv:f=true->om (q xs[i]!) k n o ag=v:=by exact fun _=>rfl)(ho:o+n<=k:=by omega):aN Y draw (⟨.ld n ag x,g⟩::r) env rs nx m K:=
 fZ rfl hg _ (fun hf=>by simp only[aM.dP,hx,xu,eB,hl hf,aE];exact⟨kx hf,⟨trivial,by have:=hi hf;omega⟩,ho⟩) (fun hf=>by simp only[aM.val,hx,uX,a7,hl hf];rw[getD_map (hi hf)];exact hv hf) m rfl (fun ha=>h)
def aZ {x:Src}{fx:Bool}{α:Type} [Inhabited α]{n k i o:Nat}{ag:Bool}{q:α->D}{xs:List α}(v:D)(h:aN Y draw r env (⟨f,v⟩::rs) nx m K)(hg:GF rs g f:=by exact dL)(hx:cN env rs x=⟨fx,.ref k (xs.map q) i o⟩:=by exact rfl)(kx:f=true->fx=true:=by exact cF)(hi:f=true->i<xs.length:=by exact wD)(hv:f=true->om (q xs[i]!) k n o ag=v:=by exact fun _=>rfl)(ho:o+n<=k:=by omega):aN Y draw (⟨.ld n ag x,g⟩::r) env rs nx m K:=
 fZ rfl hg _ (fun hf=>by simp only[aM.dP,hx,xu,aE];exact⟨kx hf,hi hf,ho⟩) (fun hf=>by simp only[aM.val,hx,uX];rw[getD_map (hi hf)];exact hv hf) m rfl (fun ha=>h)
def iM {x:Src}{fx:Bool}{n k i o:Nat}{ag:Bool}{es:List D}(v:D)(h:aN Y draw r env (⟨f,v⟩::rs) nx m K)(hg:GF rs g f:=by exact dL)(hx:cN env rs x=⟨fx,.ref k es i o⟩:=by exact rfl)(kx:f=true->fx=true:=by exact cF)(hi:f=true->i<es.length:=by intro _;simp only[bj,bw];omega)(hv:f=true->om (es.getD i .any) k n o ag=v:=by exact fun _=>rfl)(ho:o+n<=k:=by omega):aN Y draw (⟨.ld n ag x,g⟩::r) env rs nx m K:=
 fZ rfl hg _ (fun hf=>by simp only[aM.dP,hx,xu];exact⟨kx hf,hi hf,ho⟩) (fun hf=>by simp only[aM.val,hx,uX];exact hv hf) m rfl (fun ha=>h)
def Mz {x:Src}{fx:Bool}{k:Nat}{d:D}{L:Nat}{m2:List (Nat×bT)}(h:aN Y draw r env (⟨f,.ptr L k 0 0⟩::rs) nx m2 K)(hg:GF rs g f:=by exact dL)(hx:cN env rs x=⟨fx,d⟩:=by exact rfl)(kx:f=true->fx=true:=by exact cF)(hc:d.cells.length=k:=by exact rfl)(hL:nx+rs.length=L:=by exact tz)(hm:cU m L (.buf k [d])=m2:=by simp only[cU,bY,Nat.reduceEqDiff,aH,aF,Nat.reduceAdd,reduceCtorEq];exact rfl):aN Y draw (⟨.box k x,g⟩::r) env rs nx m K:=
 fZ rfl hg _ (fun hf=>by simp only[aM.dP,hx];exact⟨kx hf,hc⟩) (fun hf=>by simp only[aM.val,hx,hL]) _ (by simp only[aM.cz,hx,hL];exact hm) (fun _=>h)
def RL {L:Nat}{m2:List (Nat×bT)}(h:aN Y draw r env (⟨f,.ptr L 2 0 0⟩::rs) nx m2 K)(hg:GF rs g f:=by exact dL)(hL:nx+rs.length=L:=by exact tz)(hm:cU m L (.bld none 0 false)=m2:=by simp only[cU,bY,Nat.reduceEqDiff,aH,aF,Nat.reduceAdd,reduceCtorEq];exact rfl):aN Y draw (⟨.mkB,g⟩::r) env rs nx m K:=
 fZ rfl hg _ (fun _=>trivial) (fun hf=>by simp only[aM.val,hL]) _ (by simp only[aM.cz,hL];exact hm) (fun _=>h)
def RQ {x:Src}{fx:Bool}{s:List UInt8}{L:Nat}{m2:List (Nat×bT)}(h:aN Y draw r env (⟨f,.own L 1 0 s.length⟩::rs) nx m2 K)(hg:GF rs g f:=by exact dL)(hx:cN env rs x=⟨fx,.str s⟩:=by exact rfl)(kx:f=true->fx=true:=by exact cF)(hL:nx+rs.length=L:=by exact tz)(hm:cU m L (.buf 1 (s.map fun b=>.int .u8 b.toNat))=m2:=by simp only[cU,bY,Nat.reduceEqDiff,aH,aF,Nat.reduceAdd,reduceCtorEq];exact rfl):aN Y draw (⟨.s2b x,g⟩::r) env rs nx m K:=
 fZ rfl hg _ (fun hf=>by simp only[aM.dP,hx];exact⟨kx hf,trivial⟩) (fun hf=>by simp only[aM.val,hx,hL]) _ (by simp only[aM.cz,hx,hL];exact hm) (fun _=>h)
def RP {x:Src}{fx:Bool}{s:List UInt8}{L:Nat}{m2:List (Nat×bT)}(h:aN Y draw r env (⟨f,.it L⟩::rs) nx m2 K)(hg:GF rs g f:=by exact dL)(hx:cN env rs x=⟨fx,.str s⟩:=by exact rfl)(kx:f=true->fx=true:=by exact cF)(hL:nx+rs.length=L:=by exact tz)(hm:cU m L (.iter s 0)=m2:=by simp only[cU,bY,Nat.reduceEqDiff,aH,aF,Nat.reduceAdd,reduceCtorEq];exact rfl):aN Y draw (⟨.rng x,g⟩::r) env rs nx m K:=
 fZ rfl hg _ (fun hf=>by simp only[aM.dP,hx];exact⟨kx hf,trivial⟩) (fun hf=>by simp only[aM.val,hx,hL]) _ (by simp only[aM.cz,hx,hL];exact hm) (fun _=>h)
def cZ {k n:Nat}{z:D}{ps:List (Nat×Src)}{L:Nat}{m2:List (Nat×bT)}(es:List D)(h:aN Y draw r env (⟨f,.own L k 0 n⟩::rs) nx m2 K)(hg:GF rs g f:=by exact dL)(he:jR (cN env rs) (List.replicate n z) ps=es:=by exact rfl)(ho:f=true->n9 (cN env rs) k n ps:=by exact sw)(hz:z.cells.length=k:=by exact rfl)(hL:nx+rs.length=L:=by exact tz)(hm:cU m L (.buf k es)=m2:=by simp only[cU,bY,Nat.reduceEqDiff,aH,aF,Nat.reduceAdd,reduceCtorEq];exact rfl):aN Y draw (⟨.bsl k z n ps,g⟩::r) env rs nx m K:=
 fZ rfl hg _ (fun hf=>⟨hz,ho hf⟩) (fun hf=>by simp only[aM.val,hL]) _ (by simp only[aM.cz,he,hL];exact hm) (fun _=>h)
def dH {n l k o:Nat}{x y:Src}{d v:D}{m2:List (Nat×bT)}(e:D)(h:aN Y draw r env (⟨true,.any⟩::rs) nx m2 K)(hx:cN env rs x=⟨true,.ptr l k 0 o⟩:=by exact rfl)(hy:cN env rs y=⟨true,v⟩:=by exact rfl)(hl:look m l=some (.buf k [d]):=by exact rfl)(hc:v.cells.length=n:=by exact rfl)(he:oI d k n o v=e:=by exact rfl)(ho:o+n<=k:=by omega)(hm:cU m l (.buf k [e])=m2:=by simp only[cU,bY,Nat.reduceEqDiff,aH,aF,Nat.reduceAdd,reduceCtorEq];exact rfl):aN Y draw (⟨.st n x y,none⟩::r) env rs nx m K:=
 qg rfl _ (by simp only[aM.dP,hx,hy,eB,hl];exact⟨trivial,trivial,hc,⟨trivial,bA⟩,ho⟩) rfl _ (by simp only[aM.cz,hx,hy,a7,hl,ij,List.set_cons_zero,he];exact hm) (fun _=>h)
def jt {n l k i o:Nat}{x y:Src}{v:D}{es:List D}{m2:List (Nat×bT)}(es2:List D)(h:aN Y draw r env (⟨true,.any⟩::rs) nx m2 K)(hx:cN env rs x=⟨true,.ptr l k i o⟩:=by exact rfl)(hy:cN env rs y=⟨true,v⟩:=by exact rfl)(hl:look m l=some (.buf k es):=by exact rfl)(hi:i<es.length)(hc:v.cells.length=n:=by exact rfl)(he:es.set i (oI (es.getD i .any) k n o v)=es2)(ho:o+n<=k:=by omega)(hm:cU m l (.buf k es2)=m2:=by simp only[cU,bY,Nat.reduceEqDiff,aH,aF,Nat.reduceAdd,reduceCtorEq];exact rfl):aN Y draw (⟨.st n x y,none⟩::r) env rs nx m K:=
 qg rfl _ (by simp only[aM.dP,hx,hy,eB,hl];exact⟨trivial,trivial,hc,⟨trivial,ae⟩,ho⟩) rfl _ (by simp only[aM.cz,hx,hy,a7,hl,he];exact hm) (fun _=>h)
def ph (m:List (Nat×bT))(k:Nat)(d:D)(ys:List D):Prop:=yy m k d/\nA m d=ys
def ph.sl {k:Nat}{es:List D}:ph m k (.sl k es) es:=⟨rfl,rfl⟩
def ph.aG {k:Nat}:ph m k .aG []:=⟨trivial,rfl⟩
def ph.own {l k i n:Nat}{es:List D}(hl:look m l=some (.buf k es))(hb:i+n<=es.length):ph m k (.own l k i n) ((es.drop i).take n):=⟨⟨rfl,by simp only[eB,hl];exact⟨trivial,hb⟩⟩,by simp only[nA,a7,hl]⟩
def ph.all {l k n:Nat}{es:List D}(hl:look m l=some (.buf k es))(hb:n=es.length):ph m k (.own l k 0 n) es:=by
 have:=ph.own (i:=0) (n:=n) hl ae;simpa[hb]using this
def ph.str {s:List UInt8}:ph m 1 (.str s) (s.map fun b=>.int .u8 b.toNat):=⟨rfl,rfl⟩
def vN {k n:Nat}{x y:Src}{d:D}{ys:List D}{L:Nat}{m2:List (Nat×bT)}(h:aN Y draw r env (⟨true,.own L k 0 n⟩::rs) nx m2 K)(hx:cN env rs x=⟨true,.aG⟩:=by exact rfl)(hy:cN env rs y=⟨true,d⟩:=by exact rfl)(he:ph m k d ys)(hn:ys.length=n)(hb:n<=1073741824:=by omega)(hL:nx+rs.length=L:=by exact tz)(hm:cU m L (.buf k ys)=m2:=by simp only[cU,bY,Nat.reduceEqDiff,aH,aF,Nat.reduceAdd,reduceCtorEq];exact rfl):aN Y draw (⟨.app k x y,none⟩::r) env rs nx m K:=
 qg rfl _ (by simp only[aM.dP,hx,hy,he.2,hn];exact⟨trivial,trivial,he.1,hb⟩) (by simp only[aM.val,hx,hy,he.2,hn,hL]) _ (by simp only[aM.cz,hx,hy,he.2,hL];exact hm) (fun _=>h)
def Lm {k n:Nat}{y:Src}{fy:Bool}{d:D}{ys:List D}{L:Nat}{m2:List (Nat×bT)}(h:aN Y draw r env (⟨f,.own L k 0 n⟩::rs) nx m2 K)(hg:GF rs g f:=by exact dL)(hy:cN env rs y=⟨fy,d⟩:=by exact rfl)(ky:f=true->fy=true:=by exact cF)(he:ph m k d ys)(hn:ys.length=n)(hb:n<=1073741824:=by omega)(hL:nx+rs.length=L:=by exact tz)(hm:cU m L (.buf k ys)=m2:=by simp only[cU,bY,Nat.reduceEqDiff,aH,aF,Nat.reduceAdd,reduceCtorEq];exact rfl):aN Y draw (⟨.appN k y,g⟩::r) env rs nx m K:=
 fZ rfl hg _ (fun hf=>by simp only[aM.dP,hy,he.2,hn];exact⟨ky hf,he.1,hb⟩) (fun hf=>by simp only[aM.val,hy,he.2,hn,hL]) _ (by simp only[aM.cz,hy,he.2,hL];exact hm) (fun _=>h)
def qV {k l i a n:Nat}{x y:Src}{d:D}{xs ys:List D}{L:Nat}{m2:List (Nat×bT)}(zs:List D)(h:aN Y draw r env (⟨true,.own L k 0 n⟩::rs) nx m2 K)(hx:cN env rs x=⟨true,.own l k i a⟩:=by exact rfl)(hy:cN env rs y=⟨true,d⟩:=by exact rfl)(hl:look m l=some (.buf k xs):=by exact rfl)(ha:i+a<=xs.length)(he:ph m k d ys)(hz:(xs.drop i).take a++ys=zs)(hn:a+ys.length=n)(hb:n<=1073741824:=by omega)(hL:nx+rs.length=L:=by exact tz)(hm:cU (bY m l) L (.buf k zs)=m2:=by simp only[cU,bY,Nat.reduceEqDiff,aH,aF,Nat.reduceAdd,reduceCtorEq];exact rfl):aN Y draw (⟨.app k x y,none⟩::r) env rs nx m K:=
 qg rfl _ (by simp only[aM.dP,hx,hy,he.2,eB,hl,hn];exact⟨trivial,trivial,he.1,trivial,⟨trivial,ha⟩,hb⟩) (by simp only[aM.val,hx,hy,he.2,hn,hL]) _ (by simp only[aM.cz,hx,hy,he.2,a7,hl,hz,hL];exact hm) (fun _=>h)
def fD {α:Type}{q:α->D}{xs:List α}{e:α}{k l ly:Nat}{x y:Src}{L:Nat}{m2:List (Nat×bT)}(h:aN Y draw r env (⟨true,.own L k 0 (xs++[e]).length⟩::rs) nx m2 K)(hx:cN env rs x=⟨true,.own l k 0 xs.length⟩:=by exact rfl)(hy:cN env rs y=⟨true,.own ly k 0 1⟩:=by exact rfl)(hl:look m l=some (.buf k (xs.map q)):=by exact rfl)(he:look m ly=some (.buf k [q e]):=by exact rfl)(hb:xs.length+1<=1073741824:=by omega)(hL:nx+rs.length=L:=by exact tz)(hm:cU (bY m l) L (.buf k ((xs++[e]).map q))=m2:=by simp only[cU,bY,Nat.reduceEqDiff,aH,aF,Nat.reduceAdd,reduceCtorEq];exact rfl):aN Y draw (⟨.app k x y,none⟩::r) env rs nx m K:=
 qV (zs:=(xs++[e]).map q) (hx:=hx) (hy:=hy) (hl:=hl) (ha:=bA) (he:=ph.all (es:=[q e]) he rfl) (hz:=by rw[aU,fg bA];simp) (hn:=bA) (hb:=eu) (hL:=hL) (hm:=hm) (h:=h)
def yV {α:Type}{q:α->D}{xs ys:List α}{k l:Nat}{x y:Src}{d:D}{L:Nat}{m2:List (Nat×bT)}(h:aN Y draw r env (⟨true,.own L k 0 (xs++ys).length⟩::rs) nx m2 K)(hx:cN env rs x=⟨true,.own l k 0 xs.length⟩:=by exact rfl)(hy:cN env rs y=⟨true,d⟩:=by exact rfl)(hl:look m l=some (.buf k (xs.map q)):=by exact rfl)(he:ph m k d (ys.map q))(hb:xs.length+ys.length<=1073741824:=by omega)(hL:nx+rs.length=L:=by exact tz)(hm:cU (bY m l) L (.buf k ((xs++ys).map q))=m2:=by simp only[cU,bY,Nat.reduceEqDiff,aH,aF,Nat.reduceAdd,reduceCtorEq];exact rfl):aN Y draw (⟨.app k x y,none⟩::r) env rs nx m K:=
 qV (zs:=(xs++ys).map q) (hx:=hx) (hy:=hy) (hl:=hl) (ha:=bA) (he:=he) (hz:=by rw[aU,fg bA];simp) (hn:=bA) (hb:=eu) (hL:=hL) (hm:=hm) (h:=h)
def I4 {x:Src}{l pos:Nat}{s:List UInt8}{m2:List (Nat×bT)}(c w:Nat)(h:aN Y draw r env (⟨true,.tup [.bool true,.int .i64 pos,.int .i32 c]⟩::rs) nx m2 K)(hx:cN env rs x=⟨true,.it l⟩:=by exact rfl)(hl:look m l=some (.iter s pos):=by exact rfl)(hp:pos<s.length)(hc:rA s pos=(c,w))(hm:cU m l (.iter s (pos+w))=m2:=by simp only[cU,bY,Nat.reduceEqDiff,aH,aF,Nat.reduceAdd,reduceCtorEq];exact rfl):aN Y draw (⟨.bQ x,none⟩::r) env rs nx m K:=
 qg rfl _ (by simp only[aM.dP,hx,hl];exact⟨trivial,trivial⟩) (by simp only[aM.val,hx,hl,hc,hp,decide_true,cond_true]) _ (by simp only[aM.cz,hx,hl,hc,hp,decide_true,cond_true];exact hm) (fun _=>h)
def I3 {x:Src}{l pos:Nat}{s:List UInt8}(h:aN Y draw r env (⟨true,.tup [.bool false]⟩::rs) nx m K)(hx:cN env rs x=⟨true,.it l⟩:=by exact rfl)(hl:look m l=some (.iter s pos):=by exact rfl)(hp:¬pos<s.length):aN Y draw (⟨.bQ x,none⟩::r) env rs nx m K:=
 qg rfl _ (by simp only[aM.dP,hx,hl];exact⟨trivial,trivial⟩) (by simp only[aM.val,hx,hl,hp,decide_false,cond_false]) _ (by simp only[aM.cz,hx,hl,hp,decide_false,cond_false]) (fun _=>h)
def ar {n:Nat}{args:List Src}{sh:List (List Sh)}{Z6:List D}{v:D}(h:aN Y draw r env (⟨f,v⟩::rs) nx m K)(hg:GF rs g f:=by exact dL)(hc:Y.pre n Z6/\Y.val n Z6=v)(ha:f=true->jD m sh (gM (cN env rs) args)=Z6:=by exact fun _=>rfl)(ho:f=true->sM (cN env rs) args:=by exact sw)(hp:f=true->jd m sh (gM (cN env rs) args):=by exact sw)(hk:f=true->nX (gM (cN env rs) args) v=true:=by exact fun _=>rfl):aN Y draw (⟨.call n args sh,g⟩::r) env rs nx m K:=
 fZ rfl hg _ (fun hf=>by simp only[aM.dP,(df _ _ _).1,ha hf,hc.2];exact⟨ho hf,(df _ _ _).2.2 (hp hf),hc.1,hk hf⟩) (fun hf=>by simp only[aM.val,(df _ _ _).1,ha hf,hc.2]) m rfl (fun _=>h)
def bX {n:Nat}{args:List Src}{sh:List (List Sh)}{Z6:List D}{v:D}(h:aN Y draw r env (⟨f,v⟩::rs) nx m K)(hg:GF rs g f:=by exact dL)(hc:f=true->Y.pre n Z6/\Y.val n Z6=v)(ha:f=true->jD m sh (gM (cN env rs) args)=Z6:=by exact fun _=>rfl)(ho:f=true->sM (cN env rs) args:=by exact sw)(hp:f=true->jd m sh (gM (cN env rs) args):=by exact sw)(hk:f=true->nX (gM (cN env rs) args) v=true:=by exact fun _=>rfl):aN Y draw (⟨.call n args sh,g⟩::r) env rs nx m K:=
 fZ rfl hg _ (fun hf=>by simp only[aM.dP,(df _ _ _).1,ha hf,(hc hf).2];exact⟨ho hf,(df _ _ _).2.2 (hp hf),(hc hf).1,hk hf⟩) (fun hf=>by simp only[aM.val,(df _ _ _).1,ha hf,(hc hf).2]) m rfl (fun _=>h)
def tS {n:Nat}{x:Src}{fx:Bool}{caps:List D}{args:List Src}{sh:List (List Sh)}{Z6:List D}{v:D}(h:aN Y draw r env (⟨f,v⟩::rs) nx m K)(hg:GF rs g f:=by exact dL)(hx:cN env rs x=⟨fx,.fn n caps⟩:=by exact rfl)(kx:f=true->fx=true:=by exact cF)(hb:n<1000000:=by decide)(hc:f=true->Y.pre n Z6/\Y.val n Z6=v)(ha:f=true->jD m sh (gM (cN env rs) args++caps)=Z6:=by exact fun _=>rfl)(ho:f=true->sM (cN env rs) args:=by exact sw)(hp:f=true->jd m sh (gM (cN env rs) args++caps):=by exact sw)(hk:f=true->nX (gM (cN env rs) args++caps) v=true:=by exact fun _=>rfl):aN Y draw (⟨.callv x args sh,g⟩::r) env rs nx m K:=
 fZ rfl hg _ (fun hf=>by simp only[aM.dP,hx,(df _ _ _).1,ha hf,(hc hf).2];exact⟨kx hf,ho hf,hb,(df _ _ _).2.2 (hp hf),(hc hf).1,hk hf⟩) (fun hf=>by simp only[aM.val,hx,(df _ _ _).1,ha hf,(hc hf).2]) m rfl (fun _=>h)
def DM {n:Nat}{caps:List Src}(cs:List D)(h:aN Y draw r env (⟨f,.fn n cs⟩::rs) nx m K)(hg:GF rs g f:=by exact dL)(hc:f=true->gM (cN env rs) caps=cs:=by exact fun _=>rfl)(ho:f=true->sM (cN env rs) caps:=by exact sw):aN Y draw (⟨.mkf n caps,g⟩::r) env rs nx m K:=
 ct rfl hg _ (fun hf=>ho hf) (fun hf=>by simp only[aM.val,hc hf]) (fun _=>h)
def jL {n l k:Nat}{x:Src}{args:List Src}{sh:List (List Sh)}{d v e:D}{Z6:List D}{m2:List (Nat×bT)}(h:aN Y draw r env (⟨true,v⟩::rs) nx m2 K)(hx:cN env rs x=⟨true,.ptr l k 0 0⟩:=by exact rfl)(hl:look m l=some (.buf k [d]):=by exact rfl)(hd:d.bm=true:=by exact rfl)(hc:Y.fp n d Z6/\Y.fv n d Z6=v/\Y.fs n d Z6=e)(ha:jD [] sh (gM (cN env rs) args)=Z6:=by exact rfl)(ho:sM (cN env rs) args:=by repeat' first|exact trivial|exact rfl|refine And.intro ?_ ?_|decide)(hn:aV (gM (cN env rs) args)=true:=by exact rfl)(hm:cU m l (.buf k [e])=m2:=by simp only[cU,bY,Nat.reduceEqDiff,aH,aF,Nat.reduceAdd,reduceCtorEq];exact rfl):aN Y draw (⟨.callF n x args sh,none⟩::r) env rs nx m K:=
 qg rfl _ (by simp only[aM.dP,hx,eB,a7,hl,ij,(df _ _ _).1,ha];exact⟨trivial,ho,hn,trivial,trivial,⟨trivial,bA⟩,bA,hd,hc.1⟩) (by simp only[aM.val,hx,a7,hl,ij,(df _ _ _).1,ha,hc.2.1]) _ (by simp only[aM.cz,hx,a7,hl,ij,(df _ _ _).1,ha,hc.2.2];exact hm) (fun _=>h)
end
end
end Go.Abs
section
namespace Go.Abs
abbrev dG:=List UInt8
structure bo where
 major:Int
 minor:Int
 patch:Int
 pre:dG
 build:dG
 deriving Inhabited,DecidableEq
def bo.D (v:bo):D:=.agg [.int .i64 v.major,.int .i64 v.minor,.int .i64 v.patch,.str v.pre,.str v.build]
structure rl where
 name:dG
 v:bo
 shelf:dG
 sum:Int
 feats:List dG
 deriving Inhabited,DecidableEq
def rl.D (x:rl):D:=.agg [.str x.name,.int .i64 x.v.major,.int .i64 x.v.minor,.int .i64 x.v.patch,.str x.v.pre,.str x.v.build,.str x.shelf,.int .u64 x.sum,.sl 1 (x.feats.map D.str)]
structure Env where
 e0:dG
 e1:dG
 e2:dG
 deriving Inhabited,DecidableEq
def Env.D (e:Env):D:=.agg [.str e.e0,.str e.e1,.str e.e2]
structure zl where
 env:Env
 lines:List rl
 deriving Inhabited,DecidableEq
def zl.D (l:zl):D:=.agg [.str l.env.e0,.str l.env.e1,.str l.env.e2,.sl 9 (l.lines.map rl.D)]
end Go.Abs
namespace Go.Abs
theorem yz (a b:List UInt8):NN (.str a) (.str b)=decide (a=b):=mG a b
theorem tL (k k2:IntKind)(a b:Int):NN (.int k a) (.int k2 b)=decide (a=b):=rfl
def bo.eq (a b:bo):ic (bo.D a).cells (bo.D b).cells=decide (a=b):=by
 obtain⟨a1,a2,a3,a4,a5⟩:=a;obtain⟨b1,b2,b3,b4,b5⟩:=b
 grind [bo.D,D.cells,ic,yz,tL]
def Env.eq (a b:Env):ic (Env.D a).cells (Env.D b).cells=decide (a=b):=by
 obtain⟨a1,a2,a3⟩:=a;obtain⟨b1,b2,b3⟩:=b
 grind [Env.D,D.cells,ic,yz,tL]
theorem bo.inj {a b:bo}(h:bo.D a=bo.D b):a=b:=by
 obtain⟨a1,a2,a3,a4,a5⟩:=a;obtain⟨b1,b2,b3,b4,b5⟩:=b
 grind [bo.D]
theorem Env.inj {a b:Env}(h:Env.D a=Env.D b):a=b:=by
 obtain⟨a1,a2,a3⟩:=a;obtain⟨b1,b2,b3⟩:=b
 grind [Env.D]
theorem map_inj {α:Type}{q:α->D}(hq:∀a b,q a=q b->a=b):∀{xs ys:List α},xs.map q=ys.map q->xs=ys
 |[],[],_=>rfl
 |[],_::_,h=>by simp at h
 |_::_,[],h=>by simp at h
 |a::r,b::s,h=>by
  simp only[List.map_cons,sy]at h;rw[hq a b h.1,map_inj hq h.2]
theorem str_inj (a b:List UInt8)(h:D.str a=D.str b):a=b:=by simpa using h
theorem rl.inj {a b:rl}(h:rl.D a=rl.D b):a=b:=by
 obtain⟨a1,⟨v1,v2,v3,v4,v5⟩,a2,a3,a4⟩:=a;obtain⟨b1,⟨w1,w2,w3,w4,w5⟩,b2,b3,b4⟩:=b
 grind [rl.D,map_inj,str_inj]
theorem zl.inj {a b:zl}(h:zl.D a=zl.D b):a=b:=by
 obtain⟨⟨a1,a2,a3⟩,a4⟩:=a;obtain⟨⟨b1,b2,b3⟩,b4⟩:=b
 grind [zl.D,map_inj,rl.inj]
end Go.Abs
end
section
namespace Go.Abs
def allI (p:Nat->Bool):Nat->Nat->Bool
 |_,0=>true
 |i,k+1=>p i&&allI p (i+1) k
def cO (p:Nat->Bool)(i n:Nat):Bool:=allI p i (n-i)
def bh {p:Nat->Bool}{i n:Nat}(h:i<n):cO p i n=(p i&&cO p (i+1) n):=by
 unfold cO;rw[show n-i=(n-(i+1))+1 by omega];rfl
def cR {p:Nat->Bool}{i n:Nat}(h:n<=i):cO p i n=true:=by
 unfold cO;rw[show n-i=0 by omega];rfl
theorem zC {p:Nat->Bool}:∀{k i:Nat},allI p i k=true↔∀j,i<=j->j<i+k->p j=true
 |0,i=>by simp[allI];intro j h1 h2;omega
 |k+1,i=>by
  simp only[allI,bR,zC (k:=k)]
  grind
def de {p:Nat->Bool}{i n:Nat}:cO p i n=true↔∀j,i<=j->j<n->p j=true:=by
 grind [cO,zC]
end Go.Abs
namespace Go.Abs
def dV {a a' b b':D}(h1:a=a')(h2:b=b'):D.tup [a,b]=D.tup [a',b']:=by rw[h1,h2]
end Go.Abs
namespace Go.Abs
end Go.Abs
namespace Go.Abs
def zM (s:dG)(pos:Nat)(h:pos<s.length):∃c w,rA s pos=(c,w)/\1<=w/\((w=1/\(c:Int)=at8 s pos/\c<128)\/(128<=c/\128<=at8 s pos)):=by
 refine⟨(rA s pos).1,(rA s pos).2,rfl, ?_⟩;have e:rA s pos=Lib.decodeN (s.length-pos) (s.getD pos 0).toNat (s.getD (pos+1) 0).toNat (s.getD (pos+2) 0).toNat (s.getD (pos+3) 0).toNat:=Lib.decode_N ⟨⟨s⟩⟩ pos;rw[e];unfold at8;generalize (s.getD pos 0).toNat=b0;generalize (s.getD (pos+1) 0).toNat=b1;generalize (s.getD (pos+2) 0).toNat=b2;generalize (s.getD (pos+3) 0).toNat=b3;generalize s.length-pos=n;by_cases hb:b0<128
 .unfold Lib.decodeN;rw[ay hb];exact⟨aB _,.inl ⟨rfl,rfl,hb⟩⟩
 .unfold Lib.decodeN
  grind
end Go.Abs
namespace Go.Abs
def D0 {α:Type}{q:α->D}{xs:List α}{m:List (Nat×bT)}{l:Nat}(hq:∀x,xV m [.a] (q x)=q x)(hl:look m l=some (.buf 1 (xs.map q))):xV m [.sl 1 [.a]] (.own l 1 0 xs.length)=.sl 1 (xs.map q):=by
 show D.sl 1 _=_;simp only[a7,hl,aU,au,List.map_map];congr 1;apply List.map_congr_left;intro x _;have:=hq x;simp only[Function.comp];generalize q x=d at this;cases d<;>exact this
def Bn {α:Type}{q:α->D}{xs:List α}{m:List (Nat×bT)}{l:Nat}(hq:∀x,J5 m [.a] (q x))(hl:look m l=some (.buf 1 (xs.map q))):J5 m [.sl 1 [.a]] (.own l 1 0 xs.length):=by
 grind [J5,L2,J4,eB,a7,au]
end Go.Abs
end
namespace Go.Abs
def B7 (c:Int):Bool:=decide (97<=c)&&decide (c<=122)
def dn (c:Int):Bool:=decide (48<=c)&&decide (c<=57)
def en (s:dG):Nat:=s.foldl (fun n b=>n*10+(b.toNat-48)) 0
def j9 (s:dG):Bool:=decide (1<=s.length)&&decide (s.length<=9)&& !(decide (1<s.length)&&decide (at8 s 0=48))&&cO (fun i=>dn (at8 s i)) 0 s.length&&decide (en s<=9999)
def tk (s:dG):Int:=if j9 s=true then(en s:Int)else 0
def q9 (s:dG)(i:Nat)(h:i<s.length):s.take (i+1)=s.take i++[s.getD i 0]:=by
 rw[List.take_succ];simp[h]
def sL (s:dG)(i:Nat)(h:i<s.length):en (s.take (i+1))=en (s.take i)*10+((at8 s i).toNat-48):=by
 rw[q9 s i h];simp[en,List.foldl_append,at8]
def F6 (s:dG):en s+23<=23*10^s.length:=by
 have:∀(s:dG) (n k:Nat),n+23<=23*10^k->s.foldl (fun n b=>n*10+(b.toNat-48)) n+23<=23*10^(k+s.length):=by
  intro s;induction s with
  |nil=>intro n k h;simpa using h
  |cons b r ih=>
   intro n k h;have hb:=b.toNat_lt;have:=ih (n*10+(b.toNat-48)) (k+1) (by rw[Nat.pow_succ];omega);simp only[List.foldl_cons,bj];rw[show k+(r.length+1)=k+1+r.length by omega];exact this
 have:=this s 0 0 bA;simpa[en]using this
def qT (s:dG)(i:Nat)(h:i<=9):en (s.take i)<=23000000000:=by
 have h1:=F6 (s.take i);have h2:(s.take i).length<=9:=eu;have h3:10^(s.take i).length<=10^9:=Nat.pow_le_pow_right ae h2;omega
def An (s:dG):∀n:Nat,s.foldl (fun n b=>n*10+(b.toNat-48)) n=n*10^s.length+en s:=by
 unfold en;induction s with
 |nil=>intro n;simp
 |cons b r ih=>
  intro n;simp only[List.foldl_cons,bj];rw[ih,ih (0*10+(b.toNat-48)),Nat.pow_succ];simp only[Nat.zero_mul,aC,Nat.add_mul];rw[Nat.mul_assoc n 10,Nat.mul_comm 10];omega
def sK (b:UInt8)(r:dG):en (b::r)=(b.toNat-48)*10^r.length+en r:=by
 have:=An r (0*10+(b.toNat-48));simp only[en,List.foldl_cons]at this⊢;rw[this];simp
def sD {b:UInt8}{r:dG}(h:cO (fun i=>dn (at8 (b::r) i)) 0 (b::r).length=true):dn b.toNat=true/\cO (fun i=>dn (at8 r i)) 0 r.length=true:=by
 rw[de]at h;refine⟨by simpa[at8]using h 0 ae bA, ?_⟩;rw[de];intro j _ hj;simpa[at8]using h (j+1) ae eu
def xB:∀(s:dG),cO (fun i=>dn (at8 s i)) 0 s.length=true->en s<10^s.length
 |[],_=>by simp[en]
 |b::r,h=>by
  obtain⟨h1,h2⟩:=sD h;have:=xB r h2;rw[sK,bj,Nat.pow_succ];simp only[dn,bR,cj]at h1;have h3:b.toNat-48<=9:=ae;have:=iF (10^r.length) h3;omega
def F5 {b:UInt8}{r:dG}(h:49<=b.toNat):10^r.length<=en (b::r):=by
 rw[sK];have:=iF (10^r.length) (show 1<=b.toNat-48 by omega);omega
def It (s:dG):j9 s=(decide (1<=s.length)&&decide (s.length<=4)&& !(decide (1<s.length)&&decide (at8 s 0=48))&&cO (fun i=>dn (at8 s i)) 0 s.length):=by
 unfold j9;cases hd:cO (fun i=>dn (at8 s i)) 0 s.length with
 |false=>simp
 |true=>
  have hlt:=xB s hd;by_cases h4:s.length<=4
  .have:10^s.length<=10^4:=Nat.pow_le_pow_right ae h4;rw[cr h4,cr (by omega:s.length<=9),cr (by omega:en s<=9999)];simp
  .rw[cG h4]
   match s,hd,h4 with
   |b::r,hd,h4=>
    by_cases h0:at8 (b::r) 0=48
    .rw[cr h0,cr (by omega:1<(b::r).length)];simp
    .have h1:=(sD hd).1;simp only[dn,bR,cj]at h1;have h2:49<=b.toNat:=by
      simp[at8]at h0;omega
     have h3:=F5 (r:=r) h2;have:10^4<=10^r.length:=Nat.pow_le_pow_right ae (by simp at h4;omega);rw[cG (by omega:¬en (b::r)<=9999)];simp
def iE (b:Int):dG->dG->List dG
 |[],cur=>[cur]
 |c::r,cur=>if(c.toNat:Int)=b then cur::iE b r []else iE b r (cur++[c])
def bM (s:dG)(b:Int):List dG:=iE b s []
def Dp (s:dG)(i:Nat)(h:i<s.length):s.drop i=s.getD i 0::s.drop (i+1):=by
 rw[kZ h];simp[h]
def xT {s:dG}{b:Int}{i fr:Nat}(h:i<s.length)(he:at8 s i=b):iE b (s.drop i) ((s.take i).drop fr)=((s.take i).drop fr)::iE b (s.drop (i+1)) ((s.take (i+1)).drop (i+1)):=by
 rw[Dp s i h];have h2:(s.take (i+1)).drop (i+1)=[]:=bA;rw[h2];simp only[iE];rw[ay (by simpa[at8]using he)]
def xU {s:dG}{b:Int}{i fr:Nat}(h:i<s.length)(hf:fr<=i)(he:¬at8 s i=b):iE b (s.drop i) ((s.take i).drop fr)=iE b (s.drop (i+1)) ((s.take (i+1)).drop fr):=by
 rw[Dp s i h,q9 s i h,List.drop_append_of_le_length eu];simp only[iE];rw[ai (by simpa[at8]using he)]
def v7 {s:dG}{b:Int}{i fr:Nat}(h:s.length<=i):iE b (s.drop i) ((s.take i).drop fr)=[s.drop fr]:=by
 rw[nn h,fg h];rfl
def ql (b:Int):∀(s cur:dG),(iE b s cur).length<=s.length+1
 |[],cur=>by simp[iE]
 |c::r,cur=>by
  simp only[iE];split
  .have:=ql b r [];simp;omega
  .have:=ql b r (cur++[c]);simp;omega
def qk (s:dG)(b:Int):(bM s b).length<=s.length+1:=ql b s []
def kI (c:Int):Bool:=B7 c ||dn c ||decide (c=45)
def po (t:dG):Bool:=decide (1<=t.length)&&decide (t.length<=8)&&cO (fun i=>kI (at8 t i)) 0 t.length
def cL (t:dG):Bool:=cO (fun i=>dn (at8 t i)) 0 t.length&&decide (0<t.length)
def gI (p:Bool)(t:dG):Bool:=po t&& !(p&&cL t&& !j9 t)
def mz (s:dG)(p:Bool):Bool:=decide ((bM s 46).length<=4)&&cO (fun i=>gI p (bM s 46)[i]!) 0 (bM s 46).length
def sQ (s:dG)(p:Bool):Bool:=decide (s=[]) ||mz s p
def BR (n:Int):Bool:=decide (0<=n)&&decide (n<=9999)
def jn (v:bo):Bool:=BR v.major&&BR v.minor&&BR v.patch&&sQ v.pre true&&sQ v.build false
def bo.sm (v:bo):Prop:=v.pre.length<=1048576/\v.build.length<=1048576
def Env.at (e:Env):Nat->dG
 |0=>e.e0
 |1=>e.e1
 |_=>e.e2
def Env.ld (e:Env){i:Nat}(h:i<3):om (Env.D e) 3 1 (0+i*1) false=.str (e.at i):=by
 match i,h with
 |0,_=>rfl
 |1,_=>rfl
 |2,_=>rfl
def zl.ld (l:zl){i:Nat}(h:i<3):om (zl.D l) 4 1 (0+i*1) false=.str (l.env.at i):=by
 match i,h with
 |0,_=>rfl
 |1,_=>rfl
 |2,_=>rfl
def Env.cut (e:Env){i:Nat}(h:i<3):Abs.cut [.str e.e0,.str e.e1,.str e.e2] (i*1) 1 false=.str (e.at i):=by
 match i,h with
 |0,_=>rfl
 |1,_=>rfl
 |2,_=>rfl
def rl.sm (x:rl):Prop:=x.v.sm/\x.name.length<=1048576/\x.shelf.length<=1048576/\x.feats.length<=1048576/\∀t∈x.feats,t.length<=1048576
def zl.sm (l:zl):Prop:=l.lines.length<=1048576/\(∀x∈l.lines,x.sm)/\∀i,(l.env.at i).length<=1048576
theorem ak {α:Type} [Inhabited α]{l:List α}{i:Nat}(h:i<l.length):l[i]! ∈l:=by
 simp[h]
structure Kp where
 name:dG
 v:bo
 deriving Inhabited,DecidableEq
def Kp.D (x:Kp):D:=.agg [.str x.name,.int .i64 x.v.major,.int .i64 x.v.minor,.int .i64 x.v.patch,.str x.v.pre,.str x.v.build]
def Ju {α:Type} [Inhabited α] [DecidableEq α]{a b:List α}(h:a.length=b.length):decide (a=b)=cO (fun i=>decide (a[i]! =b[i]!)) 0 a.length:=by
 rw[Bool.eq_iff_iff,cj,de];constructor
 .rintro rfl j _ _;simp
 .intro hj;apply List.ext_getElem h
  grind
def rl.same {a b:rl}(e1:a.name=b.name)(e2:a.v=b.v)(e3:a.shelf=b.shelf)(e4:a.sum=b.sum)(e5:a.feats.length=b.feats.length):decide (a=b)=cO (fun i=>decide (a.feats[i]! =b.feats[i]!)) 0 a.feats.length:=by
 rw[<-Ju e5];obtain⟨a1,a2,a3,a4,a5⟩:=a;obtain⟨b1,b2,b3,b4,b5⟩:=b
 grind
def Env.sm (e:Env):Prop:=∀i,(e.at i).length<=1048576
end Go.Abs
section
namespace Go.Abs
def bH (v n:Int):Int:=if n<1 then 0 else if v.tmod n<0 then v.tmod n+n else v.tmod n
def we (v n:Int)(h:1<=n):-n<v.tmod n/\v.tmod n<n:=⟨Int.lt_tmod_of_pos v ae,Int.tmod_lt_of_pos v ae⟩
def cS (v n:Int)(h:1<=n):0<=bH v n/\bH v n<n:=by
 have:=we v n h
 grind [bH]
def zm (l:List Int)(i:Int):Int:=if i<0\/(l.length:Int)<=i then i.tmod 3 else l[i.toNat]!
structure Gs where
 l:List Int
 i:Int
 deriving Inhabited
def Gs.D (g:Gs):D:=.agg [.sl 1 (g.l.map (D.int .i64)),.int .i64 g.i]
def Gs.val (g:Gs)(n:Int):Int:=bH (zm g.l g.i) n
def Gs.bQ (g:Gs):Gs:=⟨g.l,g.i+1⟩
def cutL (s:dG)(b:UInt8):dG×dG×Bool:=match s.findIdx? (fun c=>c==b)with
 |some k=>(s.take k,s.drop (k+1),true)
 |none=>(s,[],false)
structure Mi where
 s:dG
 at':Nat
 n:Nat
def Mi.D (r:Mi):D:=.agg [.str r.s,.int .i64 (r.at':Nat),.int .i64 (r.n:Nat)]
def Mi.ln (r:Mi):dG×dG×Bool:=cutL (r.s.drop r.at') 10
def Mi.bQ (r:Mi):Mi:=⟨r.s,if r.ln.2.2=true then r.at'+(r.ln.1.length+1)else r.at',r.n+1⟩
end Go.Abs
namespace Go.Abs
end Go.Abs
namespace Go.Abs
end Go.Abs
namespace Go.Abs
end Go.Abs
namespace Go.Abs
end Go.Abs
namespace Go.Abs
variable {e:Env} {f:Nat} {r:Mi} {ls:List rl}
end Go.Abs
namespace Go.Abs
end Go.Abs
end
namespace Go.Abs
section
section
variable {Y:Ctx} {draw:Bool} {r:List GI} {env rs:List cb} {nx:Nat} {m:List (Nat×bT)} {K:List cb->St->Prop} {g:Option (Nat×Bool)} {f:Bool}
def IV {n l k j:Nat}{w:Bool}{x:Src}{args:List Src}{sh:List (List Sh)}{d v e:D}{Z6:List D}{m2:List (Nat×bT)}(h:aN Y false r env (⟨true,v⟩::rs) nx m2 K)(hg:GF rs (some (j,w)) true:=by exact⟨_,_,rfl,rfl⟩)(hx:cN env rs x=⟨true,.ptr l k 0 0⟩:=by exact rfl)(hl:look m l=some (.buf k [d]):=by exact rfl)(hd:d.bm=true:=by exact rfl)(hc:Y.fp n d Z6/\Y.fv n d Z6=v/\Y.fs n d Z6=e)(ha:jD [] sh (gM (cN env rs) args)=Z6:=by exact rfl)(ho:sM (cN env rs) args:=by repeat' first|exact trivial|exact rfl|refine And.intro ?_ ?_|decide)(hn:aV (gM (cN env rs) args)=true:=by exact rfl)(hm:cU m l (.buf k [e])=m2:=by simp only[cU,bY,Nat.reduceEqDiff,aH,aF,Nat.reduceAdd,reduceCtorEq];exact rfl):aN Y false (⟨.callF n x args sh,some (j,w)⟩::r) env rs nx m K:=
 IY rfl rfl hg (fun _=>⟨v,by simp only[aM.dP,hx,eB,a7,hl,ij,(df _ _ _).1,ha];exact⟨trivial,ho,hn,trivial,trivial,⟨trivial,bA⟩,bA,hd,hc.1⟩,by simp only[aM.val,hx,a7,hl,ij,(df _ _ _).1,ha,hc.2.1],m2,by simp only[aM.cz,hx,a7,hl,ij,(df _ _ _).1,ha,hc.2.2];exact hm,h⟩) (fun h=>by cases h)
def Og {i:aM}{j:Nat}{w:Bool}(h:aN Y false r env (⟨false,.any⟩::rs) nx m K)(hM:i.cA=false:=by exact rfl)(hC:i.calm=false:=by exact rfl)(hg:GF rs (some (j,w)) false:=by exact⟨_,_,rfl,rfl⟩):aN Y false (⟨i,some (j,w)⟩::r) env rs nx m K:=
 IY hM hC hg (fun h=>by cases h) (fun _=>h)
def RO {i:aM}{j:Nat}{w:Bool}(d:D)(h:aN Y draw r env (⟨false,d⟩::rs) nx m K)(hC:i.pure=true:=by exact rfl)(hg:GF rs (some (j,w)) false:=by exact⟨_,_,rfl,rfl⟩):aN Y draw (⟨i,some (j,w)⟩::r) env rs nx m K:=
 ct hC hg d (fun h=>by cases h) (fun h=>by cases h) (fun _=>h)
def Of {k n:Nat}{z:D}{ps:List (Nat×Src)}(es:List D)(h:aN Y draw r env (⟨f,.sl k es⟩::rs) nx m K)(hg:GF rs g f:=by exact dL)(he:jR (cN env rs) (List.replicate n z) ps=es:=by exact rfl)(ho:f=true->n9 (cN env rs) k n ps:=by exact sw)(hz:z.cells.length=k:=by exact rfl)(hn:f=true->aV es=true:=by exact fun _=>rfl):aN Y draw (⟨.bslI k z n ps,g⟩::r) env rs nx m K:=
 ct rfl hg _ (fun hf=>by simp only[aM.dP,he];exact⟨hz,ho hf,hn hf⟩) (fun hf=>by simp only[aM.val,he]) (fun _=>h)
def fq {n:Nat}{args:List Src}{Z6:List D}{v:D}{nx':Nat}{m':List (Nat×bT)}(h:aN Y draw r env (⟨true,v⟩::rs) nx' m' K)
  (hc:∀K':D->St->Prop,K' v ⟨nx'+rs.length,m'⟩->Y.tr n Z6 ⟨nx+rs.length,m⟩ K') (hn:nx<=nx') (ha:gM (cN env rs) args=Z6:=by exact rfl)
  (ho:sM (cN env rs) args:=by repeat' first|exact trivial|exact rfl|refine And.intro ?_ ?_):aN Y draw (⟨.callM n args,none⟩::r) env rs nx m K:=by
 unfold aN;show True/\(true=true->sM (Src.ev env rs.reverse) args/\Y.tr n (gM (Src.ev env rs.reverse) args) {nx:=nx+rs.reverse.length,m:=m} _)/\(true=false->_)
 grind [kv,aN]
end
end
end Go.Abs
section
namespace Go.Abs
def cM:List bo:=[⟨1,0,0,[],[]⟩,⟨1,2,0,[],[]⟩,⟨2,0,0,[97,46,49],[]⟩,⟨2,0,0,[],[]⟩]
def nlS:List dG->D
 |[]=>.aG
 |a::r=>.sl 1 ((a::r).map D.str)
def rl.N (x:rl):Go.Abs.D:=.agg [.str x.name,.int .i64 x.v.major,.int .i64 x.v.minor,.int .i64 x.v.patch,.str x.v.pre,.str x.v.build,.str x.shelf,.int .u64 x.sum,nlS x.feats]
end Go.Abs
namespace Go.Abs
def rl.F (name:dG)(v:bo)(shelf:dG)(sum:Int)(fs:Go.Abs.D):Go.Abs.D:=.agg [.str name,.int .i64 v.major,.int .i64 v.minor,.int .i64 v.patch,.str v.pre,.str v.build,.str shelf,.int .u64 sum,fs]
mutual
theorem pS (l k:Nat)(es:List D):∀d:D,d.bm=true->dQ l k es d=d
 | .agg a,h=>by simp only[dQ,iB l k es a (by simpa[D.bm]using h)]
 | .tup a,h=>by simp only[dQ,iB l k es a (by simpa[D.bm]using h)]
 | .fn n a,h=>by simp only[dQ,iB l k es a (by simpa[D.bm]using h)]
 | .own ..,h=>by simp[D.bm]at h
 | .ptr ..,h=>by simp[D.bm]at h
 | .it ..,h=>by simp[D.bm]at h
 | .any,_| .bool _,_| .int ..,_| .str _,_| .aG,_| .sl ..,_| .ref ..,_| .nilp,_| .nilf,_=>rfl
theorem iB (l k:Nat)(es:List D):∀ds:List D,aV ds=true->dS l k es ds=ds
 |[],_=>rfl
 |d::r,h=>by
  simp only[aV,bR]at h;simp only[dS,pS l k es d h.1,iB l k es r h.2]
end
end Go.Abs
namespace Go.Abs
end Go.Abs
namespace Go.Abs
def bq (L c:Nat)(ls:List rl)(k j:Nat):D:=if j=k then rl.F ls[j]!.name ls[j]!.v ls[j]!.shelf ls[j]!.sum (.own L 1 0 c)else rl.D ls[j]!
end Go.Abs
namespace Go.Abs
end Go.Abs
namespace Go.Abs
end Go.Abs
namespace Go.Abs
end Go.Abs
end
section
namespace Go.Abs
end Go.Abs
namespace Go.Abs
def Kp.eq (a b:Kp):ic (Kp.D a).cells (Kp.D b).cells=decide (a=b):=by
 obtain⟨n1,⟨a1,a2,a3,a4,a5⟩⟩:=a;obtain⟨n2,⟨b1,b2,b3,b4,b5⟩⟩:=b
 grind [Kp.D,D.cells,ic,yz,tL]
structure rl.ok (n:Nat)(x:rl):Prop where
 pre:x.v.pre.length<=3
 build:x.v.build.length<=2
 name:x.name.length<=16
 shelf:x.shelf.length<=16
 nf:x.feats.length<=n
 ft:∀t∈x.feats,t.length<=16
 sum:0<=x.sum/\x.sum<18446744073709551616
structure zl.ok (n:Nat)(l:zl):Prop where
 len:l.lines.length<=4
 lines:∀x∈l.lines,x.ok n
 env:∀i,(l.env.at i).length<=16
theorem zl.ok.sm {n:Nat}{l:zl}(h:l.ok n)(hn:n<=1000):l.sm:=by
 refine⟨by have:=h.len;omega,fun x hx=>?_,fun i=>by have:=h.env i;omega⟩;have k:=h.lines x hx;have k1:=k.pre;have k2:=k.build;have k3:=k.name;have k4:=k.shelf;have k5:=k.nf;exact⟨⟨ae,ae⟩,ae,ae,ae,fun t ht=>by have:=k.ft t ht;omega⟩
def rl.ok.mono {n m:Nat}{x:rl}(h:x.ok n)(hm:n<=m):x.ok m:=⟨h.pre,h.build,h.name,h.shelf,ea h.nf hm,h.ft,h.sum⟩
end Go.Abs
end
namespace Go.Abs
section
def lk {α:Type}:List (Nat×α)->Nat->α->α
 |[],_,d=>d
 |(a,b)::r,n,d=>bif Nat.beq a n then b else lk r n d
structure Row where
 key:Nat
 pre:List D->Prop
 val:List D->D
structure Ri where
 pre:D->List D->Prop
 val:D->List D->D
 new:D->List D->D
def Row.no:Row:=⟨0,fun _=>False,fun _=>.any⟩
def Ri.no:Ri:=⟨fun _ _=>False,fun _ _=>.any,fun _ _=>.any⟩
section
variable [du] {P:Program} {ν:List (Nat×Nat)} {cz:List Nat} {Y:Ctx}
end
end
section
variable [du]
section
variable {P:Program} {ν:List (Nat×Nat)} {cz:List Nat} {Y:Ctx}
def RD.re {x x':X}{σ:List (Nat×Nat)}(hw:x'.w=x.w)(hI:x'.I=x.I)(hβ:∀l l',fh 0 σ l=some l'->x'.β l'=x.β l){v:Value}{d d':D}(hv:RD ν x v d)(hd:Kw 0 σ d d'):RD ν x' v d':=by
 rcases hd with⟨rfl,hn⟩|hd|hd
 .exact hv.bm hn (fun _ h=>by rw[hI];exact h) (fun _ _=>by rw[hw])
 .grind [RD.rn]
 grind [RD.nl]
def lD.re {x x':X}{σ:List (Nat×Nat)}(hw:x'.w=x.w)(hI:x'.I=x.I)(hβ:∀l l',fh 0 σ l=some l'->x'.β l'=x.β l){b base tot:Nat}{b0 blk:bT}(o2:lD ν x b base tot b0)(q3:mC 0 σ b0 blk):lD ν x' b base tot blk:=by
 cases b0 with
 |iter s p=>
  cases blk with
  |iter s' p'=>simp only[mC]at q3;obtain⟨rfl,rfl⟩:=q3;simp only[lD,hw]at o2⊢;exact o2
  |_=>simp[mC]at q3
 |row s=>
  cases blk with
  |row s'=>simp only[mC]at q3;subst q3;simp only[lD,hw]at o2⊢;exact o2
  |_=>simp[mC]at q3
 |bld o n u=>
  cases blk with
  |bld o' n' u'=>
   simp only[mC]at q3;obtain⟨q3,rfl,rfl⟩:=q3;obtain⟨p1,v,p2,p3⟩:=o2;refine⟨p1,v,by rw[hw];exact p2, ?_⟩;cases o with
   |none=>simp only at q3;subst q3;exact p3
   |some l0=>
    obtain⟨l1,q4,rfl⟩:=q3;obtain⟨g,t,p4,p5,p6⟩:=p3;exact⟨g,t,p4,p5,by rw[hβ l0 l1 q4];exact p6⟩
  |_=>simp[mC]at q3
 |buf k es=>
  cases blk with
  |iter s' p'=>simp[mC]at q3
  |row s'=>simp[mC]at q3
  |bld o' n' u'=>simp[mC]at q3
  |buf k' es'=>
   simp only[mC]at q3;obtain⟨rfl,q3⟩:=q3;obtain⟨p1,p2,cc,T,fr,p3,p4,p5,p6⟩:=o2;rw[<-hw]at p3;rcases q3 with⟨rfl,hn⟩|q3|q3
   .exact⟨p1,p2,cc,T,fr,p3,p4,p5,fun i hi=>⟨(p6 i hi).1,fun j hj=>⟨((p6 i hi).2 j hj).1,RD.re hw hI hβ ((p6 i hi).2 j hj).2 (.inl ⟨rfl,jB (cB hn i) j⟩)⟩⟩⟩
   .obtain⟨r1,r2⟩:=gS q3;refine⟨p1,ae,cc,T,fr,p3,p4,p5,fun i hi=>?_⟩;have hi':i<es.length:=ae;obtain⟨s1,s2⟩:=xO (r2 i hi');exact⟨s1.trans (p6 i hi').1,fun j hj=>⟨((p6 i hi').2 j hj).1,RD.re hw hI hβ ((p6 i hi').2 j hj).2 (.inr (.inl (s2 j (by rw[(p6 i hi').1];exact hj))))⟩⟩
   .obtain⟨r1,r2⟩:=nN q3;refine⟨p1,ae,cc,T,fr,p3,p4,p5,fun i hi=>?_⟩;have hi':i<es.length:=ae;obtain⟨s1,s2⟩:=w9 (r2 i hi');exact⟨s1.trans (p6 i hi').1,fun j hj=>⟨((p6 i hi').2 j hj).1,RD.re hw hI hβ ((p6 i hi').2 j hj).2 (.inr (.inr (s2 j (by rw[(p6 i hi').1];exact hj))))⟩⟩
def DP {lo c:Nat}{σ:List (Nat×Nat)}{l l':Nat}(h0:eP 0 c σ=true)(h:fh 0 σ l=some l'):l'<c/\(l,l')∈σ:=by
 obtain⟨h1,h2⟩:=qZ h0 h
 grind
def qS {c:Nat}:∀{σ:List (Nat×Nat)}{a b:Nat},eP 0 c σ=true->(a,b)∈σ->fh 0 σ a=some b
 |[],a,b,_,h=>by cases h
 |(a0,b0)::r,a,b,h0,h=>by
  unfold fh;simp only[eP,bR,List.all_eq_true,ef]at h0;obtain⟨_,_,p4,p5⟩:=h0;rcases dF.1 h with h|h
  .simp only[dZ]at h;obtain⟨rfl,rfl⟩:=h;simp
  .have:=(p4 _ h).1;simp only at this;have hne:Nat.beq a0 a=false:=by
    cases hb:Nat.beq a0 a with
    |false=>rfl
    |true=>obtain rfl:=Nat.eq_of_beq_eq_true hb;simp at this
   rw[hne];exact qS p5 h
structure Fr (σi σo:List (Nat×Nat))(q q1:Nat)(m0 m1:List (Nat×bT))(st st':St):Prop where
 oki:eP 0 q σi=true
 oko:eP 0 st'.nx σo=true
 nx:st.nx<=st'.nx
 lt:∀l i,(l,i)∈σi->look st.m l≠none
 io:∀i l,(i,l)∈σo->(l,i)∈σi\/st.nx<=l
 m0:∀i b,look m0 i=some b->∃l b',(l,i)∈σi/\look st.m l=some b'/\mC 0 σi b' b
 m1:∀l b,look st'.m l=some b->(∃i b1,(i,l)∈σo/\look m1 i=some b1/\mC 0 σo b1 b)\/(jy σo l=none/\(∀i,(l,i)∉σi)/\look st.m l=some b)
def KP {fid:Nat}{fn:Func}{af:aJ}{K:D->St->Prop}(hΓ:Ok P ν cz Y)(hmix:P.follows .mixedOrders=true)(hf:P.funcs[fid]? =some fn)(hc:compile P ν cz fn=some af)
  {x:X} {args:Array Value} {ds cs:List D} {st:St} {σi:List (Nat×Nat)} {q:Nat} {m0:List (Nat×bT)} (hl:args.size=ds.length) (hargs:∀i,i<ds.length->RD ν x (args.getD i undef) (ds.getD i .any))
  (hs:eH ν x (look st.m)) (hfr:eF st x) (hlen:cs.length=ds.length) (hds:∀i,i<ds.length->Kw 0 σi (ds.getD i .any) (cs.getD i .any)) (hnp:cs.length=af.np)
  (oki:eP 0 q σi=true) (hlt:∀l i,(l,i)∈σi->look st.m l≠none) (hm0:∀i b,look m0 i=some b->∃l b',(l,i)∈σi/\look st.m l=some b'/\mC 0 σi b' b)
  (hw:cq (Y.at q) af.body (fun e env st1=>e.home/\oC st1.m env af.res/\∃(σo:List (Nat×Nat)) (q1:Nat) (m1:List (Nat×bT)) (st':St) (vd':D),Fr σi σo q q1 m0 m1 st st'/\Kw 0 σo (jE af env st1) vd'/\K vd' st'/\∀i,look st1.m i=look m1 i) (fJ af cs) ⟨q,m0⟩):
  Calls P fid args x.w fun
   | .returned v,w'=>∃x' d st',K d st'/\x'.w=w'/\Step x x'/\RD ν x' v d/\eH ν x' (look st'.m)/\eF st' x'
   |_,_=>False:=by
 obtain⟨body,c1,c2,c3,c4,c5,c6⟩:=gY hc
 let x0:X:=⟨x.w,x.I,fun i=>(jy σi i).bind x.β⟩
 have hx0:∀l i,(l,i)∈σi->x0.β i=x.β l:=fun l i h=>by simp only[x0,tP oki h,Option.bind_some]
 have hβ0:∀l i,fh 0 σi l=some i->x0.β i=x.β l:=fun l i h=>hx0 l i (DP (lo:=0) oki h).2
 have hx0':∀i p,x0.β i=some p->∃l,(l,i)∈σi/\x.β l=some p/\i<q:=by
  intro i p h;obtain⟨l,h1,h2⟩:=Option.bind_eq_some_iff.1 (show(jy σi i).bind x.β=some p from h);exact⟨l,jV h1,h2,oM oki (jV h1)⟩
 have hs0:eH ν x0 (look m0):=by
  refine⟨fun i blk b base tot e1 e2=>?_,fun i j b base tot base' tot' e1 e2 e3 e4=>?_,hs.imm,fun i b base tot e=>?_,du.le x _ (fun _ h=>h) (fun _ _=>rfl) hs.gd⟩
  .obtain⟨l,b',h1,h2,h3⟩:=hm0 i blk e1;rw[hx0 l i h1]at e2;obtain⟨o1,o2⟩:=hs.own l b' b base tot h2 e2;exact⟨o1,lD.re (x:=x) (x':=x0) rfl rfl hβ0 o2 h3⟩
  .obtain⟨l,h1,h2,_⟩:=hx0' i _ e3;obtain⟨l',h1',h2',_⟩:=hx0' j _ e4;have:=hs.inj l l' b base tot base' tot' (hlt _ _ h1) (hlt _ _ h1') h2 h2';subst this;have:=qS oki h1;rw[qS oki h1']at this;exact(bl this).symm
  .obtain⟨l,_,h2,_⟩:=hx0' i _ e;exact hs.dY l b base tot h2
 have hf0:eF ⟨q,m0⟩ x0:=by
  refine⟨fun i hi=>?_,fun i hi=>?_⟩
  .cases h:x0.β i with
   |none=>rfl
   |some p=>obtain⟨_,_,_,h4⟩:=hx0' i p h;simp only at hi;omega
  .cases h:look m0 i with
   |none=>exact absurd h hi
   |some b=>obtain⟨l,b',h1,_⟩:=hm0 i b h;exact oM oki h1
 have hi:=sk (P:=P) (ν:=ν) (cz:=cz) (x:=x0) (ds:=cs) (st:=⟨q,m0⟩) c4 c5 c6 (args:=args) ae hnp (fun i hi=>RD.re (x:=x) (x':=x0) rfl rfl hβ0 (hargs i ae) (hds i ae)) hs0 hf0;have hcs:=pN (C:={P,ν,cz,slots:=slotsOf fn,ntmps:=fn.ntmps,vm:=GH P fn}) (hΓ.at q) (lB fn).1 hmix x0 (fun l h=>hf0.β l h) body af.body c2 _ _ _ _ x0 hw hi (.refl _);refine calls_of_wp hf c1 (wp_mono hcs fun e a w' hp=>?_);obtain⟨e',x',env',st1,he,hxw,hst,hi',hh,hro,σo,q1,m1,st',vd',hfm,hvd,hK,hlk⟩:=hp;subst hxw;obtain⟨v,r1,r2,r3⟩:=oD hΓ.small hi' c3 hro
 let x2:X:=⟨x'.w,x'.I,fun l=>match jy σo l with|some i=>x'.β i|none=>x.β l⟩
 have hx2:∀i l,(i,l)∈σo->x2.β l=x'.β i:=fun i l h=>by simp only[x2,tP hfm.oko h]
 have hx2n:∀l,jy σo l=none->x2.β l=x.β l:=fun l h=>by simp only[x2,h]
 have hβ2:∀i l,fh 0 σo i=some l->x2.β l=x'.β i:=fun i l h=>hx2 i l (DP (lo:=0) hfm.oko h).2
 have hx0s:∀l i p,(l,i)∈σi->x.β l=some p->x'.β i=some p:=fun l i p h e=>hst.β _ _ (by rw[hx0 l i h];exact e)

 have hnew:∀i p,x'.β i=some p->(∃l,(l,i)∈σi/\x.β l=some p)\/x.w.heap.size<=p.1\/∃l p',(∃j,(l,j)∈σi)/\x.β l=some p'/\p'.1=p.1:=by
  intro i p e;rcases hst.newβ i p e with h|h|⟨j,p',h1,h2⟩
  .obtain⟨l,h3,h4,_⟩:=hx0' i p h;exact .inl ⟨l,h3,h4⟩
  .exact .inr (.inl h)
  .obtain⟨l,h3,h4,_⟩:=hx0' j p' h1;exact .inr (.inr ⟨l,p',⟨j,h3⟩,h4,h2⟩)
 have hstep:Step x x2:=by
  refine⟨hst.os,hst.tape,hst.output,hst.size,hst.I,hst.keep,fun l p hp=>?_,fun b hb hn=>hst.old b hb fun i p h e=>?_,fun b h=>?_,fun l p h=>?_⟩
  .cases h:jy σo l with
   |none=>rw[hx2n l h];exact hp
   |some i=>
    have hm:=jV h;rw[hx2 i l hm];rcases hfm.io i l hm with h2|h2
    .exact hx0s l i p h2 hp
    .rw[hfr.β l h2]at hp;cases hp
  .obtain⟨l,_,h2,_⟩:=hx0' i p h;exact hn l p h2 e
  .rcases hst.newI b h with h|h|⟨i,p,h1,h2⟩
   .exact .inl h
   .exact .inr (.inl h)
   .obtain⟨l,_,h3,_⟩:=hx0' i p h1;exact .inr (.inr ⟨l,p,h3,h2⟩)
  .cases h1:jy σo l with
   |none=>rw[hx2n l h1]at h;exact .inl h
   |some i=>
    have hm:=jV h1;rw[hx2 i l hm]at h;rcases hnew i p h with⟨l',h2,h3⟩|h2|⟨l',p',_,h3,h4⟩
    .exact .inr (.inr ⟨l',p,h3,rfl⟩)
    .exact .inr (.inl h2)
    .exact .inr (.inr ⟨l',p',h3,h4⟩)
 have hsim:eH ν x2 (look st'.m):=by
  refine⟨fun l blk b base tot e1 e2=>?_,fun l1 l2 b base tot base' tot' e1 e2 e3 e4=>?_,hi'.kW.imm,fun l b base tot e=>?_,du.le x' _ (fun _ h=>h) (fun _ _=>rfl) hi'.kW.gd⟩
  .rcases hfm.m1 l blk e1 with⟨i,b1,h1,h2,h3⟩|⟨h1,h2,h3⟩
   .rw[hx2 i l h1]at e2;obtain⟨o1,o2⟩:=hi'.kW.own i b1 b base tot (by rw[hlk];exact h2) e2;exact⟨o1,lD.re (x:=x') (x':=x2) rfl rfl hβ2 o2 h3⟩
   .rw[hx2n l h1]at e2;obtain⟨o1,o2⟩:=hs.own l blk b base tot h3 e2;have hlt:=hs.dY l b base tot e2;have hno:∀i p,x0.β i=some p->p.1≠b:=by
     rintro i ⟨b',base',tot'⟩ h e;simp only at e;subst e;obtain⟨l',h4,h5,_⟩:=hx0' i _ h;have:=hs.inj l' l b' base' tot' base tot (hfm.lt _ _ h4) (by rw[h3];simp) h5 e2;subst this;exact h2 _ h4
    refine⟨fun h=>?_,o2.mono hstep.le (hst.old b hlt hno)⟩;rcases hst.newI b h with h|h|⟨i,p,h4,h5⟩
    .exact o1 h
    .exact absurd hlt (Nat.not_lt.2 h)
    .exact hno i p h4 h5
  .have mix:∀l1 l2 base tot base' tot',(∃i b1,(i,l1)∈σo/\look m1 i=some b1)->jy σo l2=none->(∀i,(l2,i)∉σi)->look st.m l2≠none->x2.β l1=some (b,base,tot)->x2.β l2=some (b,base',tot')->False:=by
    rintro l1 l2 base tot base' tot' ⟨i,b1,h1,h2⟩ h3 h4 h5 e3 e4;rw[hx2 i l1 h1]at e3;rw[hx2n l2 h3]at e4;rcases hnew i _ e3 with⟨l',h6,h7⟩|h6|⟨l',⟨pb,pt,pq⟩,⟨j,h6⟩,h7,h8⟩
    .have:=hs.inj l' l2 b base tot base' tot' (hfm.lt _ _ h6) h5 h7 e4;subst this;exact h4 _ h6
    .have:=hs.dY l2 b base' tot' e4;simp only at h6;omega
    .simp only at h8;subst h8;have:=hs.inj l' l2 pb pt pq base' tot' (hfm.lt _ _ h6) h5 h7 e4;subst this;exact h4 _ h6
   cases f1:look st'.m l1 with
   |none=>exact absurd f1 e1
   |some b1=>
    cases f2:look st'.m l2 with
    |none=>exact absurd f2 e2
    |some b2=>
     rcases hfm.m1 l1 b1 f1 with⟨i,c1,h1,h2,_⟩|⟨h1,h2,h3⟩<;>rcases hfm.m1 l2 b2 f2 with⟨j,c2,k1,k2,_⟩|⟨k1,k2,k3⟩
     .rw[hx2 i l1 h1]at e3;rw[hx2 j l2 k1]at e4;have:=hi'.kW.inj i j b base tot base' tot' (by rw[hlk,h2];simp) (by rw[hlk,k2];simp) e3 e4;subst this;have:=qS hfm.oko h1;rw[qS hfm.oko k1]at this;exact(bl this).symm
     .exact(mix l1 l2 base tot base' tot' ⟨i,c1,h1,h2⟩ k1 k2 (by rw[k3];simp) e3 e4).elim
     .exact(mix l2 l1 base' tot' base tot ⟨j,c2,k1,k2⟩ h1 h2 (by rw[h3];simp) e4 e3).elim
     .rw[hx2n l1 h1]at e3;rw[hx2n l2 k1]at e4;exact hs.inj l1 l2 b base tot base' tot' (by rw[h3];simp) (by rw[k3];simp) e3 e4
  .cases h1:jy σo l with
   |none=>rw[hx2n l h1]at e;exact jH (hs.dY l b base tot e) hst.size
   |some i=>
    rw[hx2 i l (jV h1)]at e;exact hi'.kW.dY i b base tot e
 have hfr2:eF st' x2:=by
  refine⟨fun l hl=>?_,fun l hl=>?_⟩
  .cases h1:jy σo l with
   |none=>rw[hx2n l h1];exact hfr.β l (by have:=hfm.nx;omega)
   |some i=>have:=oM hfm.oko (jV h1);omega
  .cases f1:look st'.m l with
   |none=>exact absurd f1 hl
   |some b1=>
    rcases hfm.m1 l b1 f1 with⟨i,c1,h1,_⟩|⟨_,_,h3⟩
    .exact oM hfm.oko h1
    .have:=hfr.m l (by rw[h3];simp);have:=hfm.nx;omega
 have hrd:=RD.re (ν:=ν) (x:=x') (x':=x2) rfl rfl hβ2 r2 hvd;rcases Ex.yQ hh with h|h<;>rw[h]at he<;>subst he<;>exact⟨hi'.defers,v,r1,x2,vd',st',hK,rfl,hstep,hrd,hsim,hfr2⟩
end
end
section
structure Rj where
 tr:List D->St->(D->St->Prop)->Prop
 mu:List D->St->Nat
 mono:∀(ds:List D) (st:St) (K K':D->St->Prop),(∀d st',K d st'->K' d st')->tr ds st K->tr ds st K'
def Rj.no:Rj:=⟨fun _ _ _=>False,fun _ _=>0,fun _ _ _ _ _ h=>h⟩
def kn (af:aJ)(Q:D->List (Nat×bT)->Prop):Ex->List cb->St->Prop:=fun e env st=>e.home/\oC st.m env af.res/\∃m1,(∀i,look st.m i=look m1 i)/\Q (jE af env st) m1
def ee {af:aJ}{Q:D->List (Nat×bT)->Prop}{vd:D}{m1:List (Nat×bT)}{e:Ex}{env:List cb}{st:St}(h1:e.home)(h2:oC st.m env af.res)(h3:jE af env st=vd)(h4:st.m=m1)(h5:Q vd m1):kn af Q e env st:=⟨h1,h2,m1,fun i=>by rw[h4],by rw[h3];exact h5⟩
section
variable [du] {P:Program} {ν:List (Nat×Nat)} {cz:List Nat} {Y:Ctx}
end
end
section
abbrev RT:=List D->D->Prop
abbrev FT:=D->List D->D->D->Prop
abbrev TT:=List D->St->(D->St->Prop)->Prop
def zu (T:TT):Prop:=∀ds st K K',(∀d st',K d st'->K' d st')->T ds st K->T ds st K'
def uZ (A:RT->Prop):RT:=fun ds d=>∀T,A T->T ds d
def uY (A:FT->Prop):FT:=fun d ds v s=>∀T,A T->T d ds v s
def MF (T:TT):Ctx:=⟨fun _ _=>False,fun _ _=>.any,fun _=>T,fun _ _ _=>False,fun _ _ _=>.any,fun _ _ _=>.any,0⟩
def Ie (C:Ctx->Prop):TT:=fun ds st K=>∀T,zu T->C (MF T)->T ds st K
def Ac (C:Ctx->Prop):zu (Ie C):=fun _ _ _ _ h h1 T hT hC=>hT _ _ _ _ h (h1 T hT hC)
def noR:RT:=fun _ _=>False
def RF:FT:=fun _ _ _ _=>False
def noT:TT:=fun _ _ _=>False
def vC:zu noT:=fun _ _ _ _ _ h=>h.elim
structure lE where
 key:Nat
 rel:RT
 mu:List D->Nat
 relF:FT
 tr:TT
 muE:List D->St->Nat
 mono:zu tr
def mu0:List D->Nat:=fun _=>0
def K4:List D->St->Nat:=fun _ _=>0
def lj:lE:=⟨0,noR,mu0,RF,noT,K4,vC⟩
def rP (k:Nat)(A:RT->Prop)(mu:List D->Nat:=mu0):lE:=⟨k,uZ A,mu,RF,noT,K4,vC⟩
def rF (k:Nat)(A:FT->Prop):lE:=⟨k,noR,mu0,uY A,noT,K4,vC⟩
def rG (k:Nat)(C:Ctx->Prop)(mu:List D->St->Nat:=K4):lE:=⟨k,noR,mu0,RF,Ie C,mu,Ac C⟩
noncomputable def pick (r:D->Prop):D:=Classical.epsilon r
def jC {r:D->Prop}(h:∃d,r d):r (pick r):=Classical.epsilon_spec h
def OQ (R:RT):Prop:=∀ds d d',R ds d->R ds d'->d=d'
def BB (R:FT):Prop:=∀d ds v s v' s',R d ds v s->R d ds v' s'->v=v'/\s=s'
def HI {A:RT->Prop}(h:A fun ds d=>A fun ds' d'=>ds'=ds->d=d'):OQ (uZ A):=fun ds d d' h1 h2=>h2 _ (h1 _ h) rfl
def KK {A:FT->Prop}(h:A fun d ds v s=>A fun d' ds' v' s'=>d'=d->ds'=ds->v=v'/\s=s'):BB (uY A):=fun d ds v s v' s' h1 h2=>h2 _ (h1 _ h) rfl rfl
noncomputable def wR (t:List (Nat×lE)):Ctx where
 pre n ds:=∃d,(lk t n lj).rel ds d
 val n ds:=pick ((lk t n lj).rel ds)
 tr n:=(lk t n lj).tr
 fp n d ds:=∃v s,(lk t n lj).relF d ds v s
 fv n d ds:=pick fun v=>∃s,(lk t n lj).relF d ds v s
 fs n d ds:=pick fun s=>∃v,(lk t n lj).relF d ds v s
 lo:=0
def I9 (t:List (Nat×lE)):Ns:=⟨fun n=>(lk t n lj).key,fun n=>(lk t n lj).mu,fun n=>(lk t n lj).muE⟩
noncomputable abbrev under (t:List (Nat×lE))(k u:Nat):Ctx:=(wR t).under (I9 t) k u
def oJ (t:List (Nat×lE))(k u n:Nat):(((wR t).under (I9 t) k u).at n).cE:=
 fun f ds st K K' h hh=>⟨hh.1,(lk t f lj).mono ds st K K' h hh.2⟩
section
variable {t:List (Nat×lE)} {n k u:Nat} {ds:List D} {d v s:D} {st:St} {K:D->St->Prop}
def okp (hD:OQ (lk t n lj).rel)(hk:(lk t n lj).key<k\/(lk t n lj).key=k/\(lk t n lj).mu ds<u)(h:(lk t n lj).rel ds d):(under t k u).pre n ds/\(under t k u).val n ds=d:=
 ⟨⟨hk,d,h⟩,hD _ _ _ (jC ⟨d,h⟩) h⟩
def okf (hD:BB (lk t n lj).relF)(hk:(lk t n lj).key<k)(h:(lk t n lj).relF d ds v s):(under t k u).fp n d ds/\(under t k u).fv n d ds=v/\(under t k u).fs n d ds=s:=by
 refine⟨⟨.inl hk,v,s,h⟩, ?_, ?_⟩
 .obtain⟨s',h'⟩:=jC (r:=fun v=>∃s,(lk t n lj).relF d ds v s) ⟨v,s,h⟩;exact(hD _ _ _ _ _ _ h' h).1
 .obtain⟨v',h'⟩:=jC (r:=fun s=>∃v,(lk t n lj).relF d ds v s) ⟨s,v,h⟩;exact(hD _ _ _ _ _ _ h' h).2
def DK (hk:(lk t n lj).key<k\/(lk t n lj).key=k/\(lk t n lj).muE ds st<u)(h:(lk t n lj).tr ds st K):(under t k u).tr n ds st K:=⟨hk,h⟩
end
section
variable [du] {P:Program} {ν:List (Nat×Nat)} {cz:List Nat} {Y:Ctx} {t:List (Nat×lE)} {fid n key:Nat}
def C5 (P:Program)(ν:List (Nat×Nat))(cz:List Nat)(Y:Ctx)(fid:Nat)(ds:List D)(d:D):Prop:=Ok P ν cz Y->∀(x:X) (args:Array Value),args.size=ds.length->(∀i,i<ds.length->RD ν x (args.getD i undef) (ds.getD i .any))->aV ds=true->
  (∀b,x.I b->b<x.w.heap.size)->du.gd x->iO P x (fun v x'=>nO x x'/\RD ν x' v d) ((callFunc fid args).run P x.w)
def C6 (P:Program)(ν:List (Nat×Nat))(cz:List Nat)(Y:Ctx)(fid:Nat)(d:D)(ds:List D)(vd new:D):Prop:=Ok P ν cz Y->∀(x:X) (f:Nat->Option bT) (args:Array Value) (l k:Nat),args.size=ds.length+1->
   RD ν x (args.getD 0 undef) (.ptr l k 0 0)->(∀i,i<ds.length->RD ν x (args.getD (i+1) undef) (ds.getD i .any))->eH ν x f->f l=some (.buf k [d])->d.bm=true->aV ds=true->
   iO P x (fun v x'=>Step x x'/\RD ν x' v vd/\eH ν x' (fun l'=>if l'=l then some (.buf k [new])else f l')/\x'.β=x.β) ((callFunc fid args).run P x.w)
def kK (P:Program)(ν:List (Nat×Nat))(cz:List Nat)(Y:Ctx)(fid:Nat)(ds:List D)(st:St)(K:D->St->Prop):Prop:=Ok P ν cz Y->∀(x:X) (args:Array Value),args.size=ds.length->(∀i,i<ds.length->RD ν x (args.getD i undef) (ds.getD i .any))->eH ν x (look st.m)->eF st x->
  iO P x (fun v x'=>∃d st',K d st'/\Step x x'/\RD ν x' v d/\eH ν x' (look st'.m)/\eF st' x') ((callFunc fid args).run P x.w)
structure OR (P:Program)(ν:List (Nat×Nat))(cz:List Nat)(t:List (Nat×lE))(fid n:Nat):Prop where
 p:∀ds d,(lk t n lj).rel ds d->C5 P ν cz (under t (lk t n lj).key ((lk t n lj).mu ds)) fid ds d
 f:BB (lk t n lj).relF/\∀d ds v s,(lk t n lj).relF d ds v s->C6 P ν cz (under t (lk t n lj).key ((lk t n lj).mu (d::ds))) fid d ds v s
 g:∀ds st K,(lk t n lj).tr ds st K->kK P ν cz (under t (lk t n lj).key ((lk t n lj).muE ds st)) fid ds st K
def okA (hsm:∀fid n,dw ν fid=some n->n<1000000)(hB:∀t,cz.contains (1000000000+t)=true->t=du.tB)(hG:∀g,cz.contains (500000000+g)=true->du.gz g)(h:∀fid n,dw ν fid=some n->OR P ν cz t fid n):Ok P ν cz (wR t):=by
 refine RG (I9 t) hsm hB hG (fun fid n hn ds hp hok=>(h fid n hn).p ds _ (jC hp) hok) (fun fid n hn _ d ds hp hok=>?_) (fun fid n hn ds st K htr hok=>(h fid n hn).g ds st K htr hok);obtain⟨v,s,hr⟩:=hp;obtain⟨hD,hf⟩:=(h fid n hn).f;have h2:(wR t).fv n d ds=v/\(wR t).fs n d ds=s:=by
  constructor
  .obtain⟨s',h'⟩:=jC (r:=fun v=>∃s,(lk t n lj).relF d ds v s) ⟨v,s,hr⟩;exact(hD _ _ _ _ _ _ h' hr).1
  .obtain⟨v',h'⟩:=jC (r:=fun s=>∃v,(lk t n lj).relF d ds v s) ⟨s,v,hr⟩;exact(hD _ _ _ _ _ _ h' hr).2
 rw[h2.1,h2.2];exact hf d ds v s hr hok
def yN {Y:D->List D->Ctx}:BB RF/\∀d ds v s,RF d ds v s->C6 P ν cz (Y d ds) fid d ds v s:=⟨fun _ _ _ _ _ _ h=>h.elim,fun _ _ _ _ h=>h.elim⟩
def bZ {A:RT->Prop}{mu:List D->Nat}(hr:lk t n lj=rP key A mu)(h:A fun ds d=>C5 P ν cz (under t key (mu ds)) fid ds d):OR P ν cz t fid n:=by
 refine⟨?_, ?_, ?_⟩<;>rw[hr]
 .exact fun ds d hd=>hd (fun ds d=>C5 P ν cz (under t key (mu ds)) fid ds d) h
 .exact yN
 .exact fun _ _ _ h=>h.elim
def oweF {A:FT->Prop}(hr:lk t n lj=rF key A)(hD:BB (uY A))(h:A fun d ds v s=>C6 P ν cz (under t key 0) fid d ds v s):OR P ν cz t fid n:=by
 refine⟨?_, ?_, ?_⟩<;>rw[hr]
 .exact fun _ _ h=>h.elim
 .exact⟨hD,fun d ds v s hd=>hd _ h⟩
 .exact fun _ _ _ h=>h.elim
def FU {Y:List D->St->Ctx}:zu fun ds st K=>kK P ν cz (Y ds st) fid ds st K:=fun ds st K K' h hg hok x args hl ha hs hf=>(hg hok x args hl ha hs hf).mono fun v x' ⟨d,st',h1,h2⟩=>⟨d,st',h _ _ h1,h2⟩
def vK {C:Ctx->Prop}{mu:List D->St->Nat}(hr:lk t n lj=rG key C mu)(h:C (MF fun ds st K=>kK P ν cz (under t key (mu ds st)) fid ds st K)):OR P ν cz t fid n:=by
 refine⟨?_, ?_, ?_⟩<;>rw[hr]
 .exact fun _ _ h=>h.elim
 .exact yN
 .exact fun ds st K hd=>hd (fun ds st K=>kK P ν cz (under t key (mu ds st)) fid ds st K) FU h
def zo (P:Program)(ν:List (Nat×Nat))(cz:List Nat)(fid:Nat)(af:aJ):Prop:=(P.funcs[fid]?).map (fun f=>(compile P ν cz f,f.name== "runtime.NumGoroutine"))=some (some af,false)
def zo.split {af:aJ}(h:zo P ν cz fid af):∃fn,P.funcs[fid]? =some fn/\compile P ν cz fn=some af/\(fn.name== "runtime.NumGoroutine")=false:=by
 grind [zo]
def aW {af:aJ}{ds:List D}{d:D}(hmix:P.follows .mixedOrders=true)(hC:zo P ν cz fid af)(h1:ds.length=af.np)(h2:cq (Y.at 0) af.body (OS af d) (fJ af ds) ⟨0,[]⟩):C5 P ν cz Y fid ds d:=by
 intro hok x args hl hargs hnl himm hgd;obtain⟨fn,hf,hc,hn⟩:=hC.split;obtain⟨body,c1,_⟩:=gY hc;exact .inr ⟨fid,args,iS hf hn (by rw[c1];rfl) args x.w,KQ hok hmix hf hc hl hargs hnl himm hgd h1 h2⟩
def Ru {af:aJ}{d:D}{ds:List D}{vd new:D}(k0:Nat)(hmix:P.follows .mixedOrders=true)(hC:zo P ν cz fid af)(h1:ds.length+1=af.np)(hk:d.cells.length=k0)
  (h2:cq (Y.at 1) af.body (Nt af k0 vd new) (fJ af (.ptr 0 k0 0 0::ds)) ⟨1,[(0,.buf k0 [d])]⟩):C6 P ν cz Y fid d ds vd new:=by
 intro hok x f args l k hl h0 hargs hs hfl hd hnl;obtain⟨fn,hf,hc,hn⟩:=hC.split;obtain⟨body,c1,_⟩:=gY hc;have hkk:k=k0:=by
  generalize args.getD 0 undef=v0 at h0;cases h0 with
  |ptr _ _ _ _ b base tot at_ hβ hat=>
   obtain⟨p1,p2,c,T,fr,p3,p4,p5,p6⟩:=(hs.own l _ b base tot hfl hβ).2;have:=(p6 0 bA).1
   grind
 subst hkk;exact .inr ⟨fid,args,iS hf hn (by rw[c1];rfl) args x.w,KO hok hmix hf hc hl h0 hargs hs hfl hd hnl h1 h2⟩
def pB {af:aJ}{ds:List D}{st:St}{K:D->St->Prop}{σi:List (Nat×Nat)}{q:Nat}{m0:List (Nat×bT)}{cs:List D}{Q:D->List (Nat×bT)->Prop}(hmono:∀q,(Y.at q).cE)(hmix:P.follows .mixedOrders=true)(hC:zo P ν cz fid af)
  (h1:cs.length=ds.length) (h2:∀i,i<ds.length->Kw 0 σi (ds.getD i .any) (cs.getD i .any)) (h3:cs.length=af.np)
  (h4:eP 0 q σi=true) (h5:∀l i,(l,i)∈σi->look st.m l≠none) (h6:∀i b,look m0 i=some b->∃l b',(l,i)∈σi/\look st.m l=some b'/\mC 0 σi b' b)
  (h7:cq (Y.at q) af.body (kn af Q) (fJ af cs) ⟨q,m0⟩) (h8:∀d m1,Q d m1->∃(σo:List (Nat×Nat)) (q1:Nat) (st':St) (vd':D),Fr σi σo q q1 m0 m1 st st'/\Kw 0 σo d vd'/\K vd' st'):kK P ν cz Y fid ds st K:=by
 intro hok x args hl hargs hs hfr;obtain⟨fn,hf,hc,hn⟩:=hC.split;obtain⟨body,c1,_⟩:=gY hc;refine .inr ⟨fid,args,iS hf hn (by rw[c1];rfl) args x.w, ?_⟩;refine Calls.mono (KP (K:=K) hok hmix hf hc hl hargs hs hfr h1 h2 h3 h4 h5 h6 (gy (hmono q) _ _ _ _ _ (fun e env st1 h=>?_) h7)) fun e w' he=>?_
 .obtain⟨g1,g2,m1,g3,g4⟩:=h
  grind
 grind
end
end
theorem th {α:Type}{f:α->D}(hf:∀x y,f x=f y↔x=y):∀a b:List α,a.map f=b.map f↔a=b
 |[],[]=>bA
 |[],_::_=>bA
 |_::_,[]=>bA
 |x::a,y::b=>by simp only[List.map_cons,sy,hf,th hf a b]
def NS (a b:Nat):((a:Nat):Int)=(b:Nat)↔a=b:=ae
theorem iU8 (x y:UInt8):((x.toNat:Nat):Int)=(y.toNat:Nat)↔x=y:=(NS _ _).trans C0
def Ry (a b:List dG):a.map D.str=b.map D.str↔a=b:=th (fun _ _=>bA) a b
def NR (a b:List Int):a.map (D.int .i64)=b.map (D.int .i64)↔a=b:=th (fun _ _=>bA) a b
def iByt (a b:dG):(a.map fun c=>D.int .u8 c.toNat)=(b.map fun c=>D.int .u8 c.toNat)↔a=b:=by grind [th,iU8]
def iVer (a b:bo):bo.D a=bo.D b↔a=b:=by cases a;cases b;simp[bo.D]
def Lh [du]{P:Program}{ν:List (Nat×Nat)}{cz:List Nat}{t:List (Nat×lE)}{fid n:Nat}(hr:lk t n lj=lj):OR P ν cz t fid n:=by
 refine⟨?_, ?_, ?_⟩<;>rw[hr]
 .exact fun _ _ h=>h.elim
 .exact yN
 .exact fun _ _ _ h=>h.elim
structure Cut where
 e:Int
 v:bo
 a:Bool
 deriving Inhabited,DecidableEq
def Cut.D (c:Cut):D:=.agg [.int .i64 c.e,.int .i64 c.v.major,.int .i64 c.v.minor,.int .i64 c.v.patch,.str c.v.pre,.str c.v.build,.bool c.a]
structure Span where
 f:Cut
 t:Cut
 deriving Inhabited,DecidableEq
def Span.D (s:Span):D:=.agg [.int .i64 s.f.e,.int .i64 s.f.v.major,.int .i64 s.f.v.minor,.int .i64 s.f.v.patch,.str s.f.v.pre,.str s.f.v.build,.bool s.f.a,
 .int .i64 s.t.e,.int .i64 s.t.v.major,.int .i64 s.t.v.minor,.int .i64 s.t.v.patch,.str s.t.v.pre,.str s.t.v.build,.bool s.t.a]
structure bL where
 rel:List Span
 pr:List Span
 deriving Inhabited,DecidableEq
def bL.D (s:bL):D:=.agg [.sl 14 (s.rel.map Span.D),.sl 14 (s.pr.map Span.D)]
structure Want where
 u:Int
 s:bL
 deriving Inhabited,DecidableEq
def Want.D (w:Want):D:=.agg [.int .i64 w.u,.sl 14 (w.s.rel.map Span.D),.sl 14 (w.s.pr.map Span.D)]
abbrev kL:=List Want
def dE (r:kL):D:=.sl 3 (r.map Want.D)
structure dy where
 v:bo
 sh:Int
 needs:List kL
 bars:List Want
 deriving Inhabited,DecidableEq
def dy.D (c:dy):D:=.agg [.int .i64 c.v.major,.int .i64 c.v.minor,.int .i64 c.v.patch,.str c.v.pre,.str c.v.build,.int .i64 c.sh,.sl 1 (c.needs.map dE),.sl 3 (c.bars.map Want.D)]
structure bN where
 name:dG
 feat:dG
 cands:List dy
 deriving Inhabited,DecidableEq
def bN.D (u:bN):D:=.agg [.str u.name,.str u.feat,.sl 8 (u.cands.map dy.D)]
structure bz where
 us:List bN
 deriving Inhabited,DecidableEq
def bz.D (w:bz):D:=.agg [.sl 3 (w.us.map bN.D)]
structure bK where
 u:Int
 m:Int
 deriving Inhabited,DecidableEq
def bK.D (t:bK):D:=.agg [.int .i64 t.u,.int .i64 t.m]
structure aj where
 kind:Int
 unit:Int
 a:Int
 b:Int
 terms:List bK
 deriving Inhabited,DecidableEq
def aj.D (r:aj):D:=.agg [.int .i64 r.kind,.int .i64 r.unit,.int .i64 r.a,.int .i64 r.b,.sl 2 (r.terms.map bK.D)]
structure bg where
 w:bz
 allow:List Int
 rows:List aj
 deriving Inhabited,DecidableEq
def bg.D (c:bg):D:=.agg [.sl 3 (c.w.us.map bN.D),.sl 1 (c.allow.map (D.int .i64)),.sl 5 (c.rows.map aj.D)]
def HJ (a b:Bool):ic (D.bool a).cells (D.bool b).cells=decide (a=b):=by cases a<;>cases b<;>rfl
def rH (f:Nat->Int):Nat->Nat->Int
 |_,0=>0
 |i,k+1=>if f i=0 then rH f (i+1) k else f i
def gN (f:Nat->Int)(i n:Nat):Int:=rH f i (n-i)
def FO {f:Nat->Int}{i n:Nat}(h:i<n)(hf:f i=0):gN f i n=gN f (i+1) n:=by
 unfold gN;obtain⟨k,hk⟩:∃k,n-i=k+1:=⟨n-i-1,ae⟩
 grind [rH]
def BP {f:Nat->Int}{i n:Nat}(h:i<n)(hf:f i≠0):gN f i n=f i:=by
 unfold gN;obtain⟨k,hk⟩:∃k,n-i=k+1:=⟨n-i-1,ae⟩
 rw[hk];simp only[rH,hf,aF]
def FN {f:Nat->Int}{i n:Nat}(h:n<=i):gN f i n=0:=by
 unfold gN;rw[show n-i=0 by omega];rfl
def dq (a b:Int):Int:=if a<b then-1 else if b<a then 1 else 0
def lf (a b:dG):Int:=if Op.bytesLess a b=true then-1 else if a=b then 0 else 1
def pw (a b:dG):Int:=if cL a=true/\cL b=true then dq (tk a) (tk b)else if cL a=true then-1 else if cL b=true then 1 else lf a b
def A9 (l m:List dG):Nat->Nat->Int
 |_,0=>dq l.length m.length
 |i,k+1=>if pw l[i]! m[i]! ≠0 then pw l[i]! m[i]! else A9 l m (i+1) k
def pE (l m:List dG)(i:Nat):Int:=A9 l m i (min l.length m.length-i)
def xX {l m:List dG}{i:Nat}(h:i<l.length/\i<m.length)(hn:pw l[i]! m[i]! ≠0):pE l m i=pw l[i]! m[i]! :=by
 unfold pE;rw[show min l.length m.length-i=(min l.length m.length-(i+1))+1 by omega,A9,ay hn]
def A8 {l m:List dG}{i:Nat}(h:i<l.length/\i<m.length)(hn:pw l[i]! m[i]! =0):pE l m i=pE l m (i+1):=by
 unfold pE;rw[show min l.length m.length-i=(min l.length m.length-(i+1))+1 by omega,A9,ai (by rw[hn];simp)]
def xW {l m:List dG}{i:Nat}(h:l.length<=i\/m.length<=i):pE l m i=dq l.length m.length:=by
 unfold pE;rw[show min l.length m.length-i=0 by omega,A9]
def r5 (a b:dG):Int:=if a=b then 0 else if a=[]then 1 else if b=[]then-1 else pE (bM a 46) (bM b 46) 0
def kM (a b:bo):Int:=if jn a=false\/jn b=false then 0 else
 if dq a.major b.major≠0 then dq a.major b.major else if dq a.minor b.minor≠0 then dq a.minor b.minor else
 if dq a.patch b.patch≠0 then dq a.patch b.patch else r5 a.pre b.pre
def jN (v:bo):bo:=⟨v.major,v.minor,v.patch,v.pre,[]⟩
theorem FI (a:Int):dq a a=0:=by simp[dq]
def ry {a b:Int}:dq a b=0↔a=b:=by
 grind [dq]
def FJ {a b:bo}(h:jN a=jN b):kM a b=0:=by
 grind [jN,kM,r5,FI]
theorem HQ (x y z:Int):gN (fun i=>[x,y,z][i]!) 0 [x,y,z].length=if x≠0 then x else if y≠0 then y else z:=by
 grind [gN,rH]
def HS {x y z:Int}(h:gN (fun i=>[x,y,z][i]!) 0 [x,y,z].length=0):x=0/\y=0/\z=0:=by
 grind [HQ]
def HR {a b:bo}(hv:¬(jn a=false\/jn b=false))(h:¬gN (fun i=>[dq a.major b.major,dq a.minor b.minor,dq a.patch b.patch][i]!) 0 [dq a.major b.major,dq a.minor b.minor,dq a.patch b.patch].length=0):
  gN (fun i=>[dq a.major b.major,dq a.minor b.minor,dq a.patch b.patch][i]!) 0 [dq a.major b.major,dq a.minor b.minor,dq a.patch b.patch].length=kM a b:=by
 grind [HQ,kM]
def HG {a b:bo}(hv:¬(jn a=false\/jn b=false))(h1:dq a.major b.major=0)(h2:dq a.minor b.minor=0)(h3:dq a.patch b.patch=0):kM a b=r5 a.pre b.pre:=by
 grind [kM]
def KH {a b:bo}(h1:dq a.major b.major=0)(h2:dq a.minor b.minor=0)(h3:dq a.patch b.patch=0)(h4:a.pre=b.pre):jN a=jN b:=by
 unfold jN;rw[ry.1 h1,ry.1 h2,ry.1 h3,h4]
def Cut.sm (c:Cut):Prop:=c.v.sm
def Span.sm (s:Span):Prop:=s.f.sm/\s.t.sm
def bO (l:List Span):Prop:=∀s∈l,s.sm
def bL.sm (s:bL):Prop:=bO s.rel/\bO s.pr
def Want.sm (w:Want):Prop:=w.s.sm
def dy.sm (c:dy):Prop:=c.v.sm/\(∀r∈c.needs,∀w∈r,w.sm)/\∀w∈c.bars,w.sm
def bN.sm (u:bN):Prop:=u.cands.length<=16/\∀c∈u.cands,c.sm
def bz.sm (w:bz):Prop:=∀u∈w.us,u.sm
def zV:bo:=⟨0,0,0,[],[]⟩
def lg (c:Cut):Bool:=if c.e=0 then jn c.v&&decide (c.v.build=[])else(decide (c.e=-1) ||decide (c.e=1))&&decide (c.v=zV)&& !c.a
def gw (a b:Cut):Int:=if lg a=false\/lg b=false then 0 else if a.e≠0\/b.e≠0 then dq a.e b.e else
 if kM a.v b.v≠0 then kM a.v b.v else if a.a=b.a then 0 else if b.a=true then-1 else 1
def jZ (s:Span):Bool:=lg s.f&&lg s.t&&decide (gw s.f s.t<0)
def gK (c:Cut)(v:bo):Bool:=if lg c=false\/jn v=false then false else if c.e≠0 then decide (c.e<0)else decide (kM c.v v<0) ||(decide (kM c.v v=0)&& !c.a)
def lK (s:Span)(v:bo):Bool:=jZ s&&jn v&&gK s.f v&& !gK s.t v
def tn (l:List Span)(i:Nat):Bool:=jZ l[i]! && !(decide (0<i)&&decide (0<=gw l[i-1]!.t l[i]!.f))
def lP (l:List Span):Bool:=cO (tn l) 0 l.length
def lX (f:Nat->Bool)(i n:Nat):Bool:=!cO (fun i=>!f i) i n
def jJ {f:Nat->Bool}{i n:Nat}(h:i<n):lX f i n=(f i ||lX f (i+1) n):=by
 unfold lX;rw[bh h];simp
def qu {f:Nat->Bool}{i n:Nat}(h:n<=i):lX f i n=false:=by
 unfold lX;rw[cR h];rfl
def Hl {f:Nat->Bool}{i n:Nat}:lX f i n=true↔∃j,i<=j/\j<n/\f j=true:=by
 unfold lX;rw[ef,<-Bool.not_eq_true,de];simp
def m8 (l:List Span)(v:bo):Bool:=lP l&&lX (fun i=>lK l[i]! v) 0 l.length
def p0 (v:bo):Bool:=decide (v.major=0)&&decide (v.minor=0)&&decide (v.patch=0)
def jF (c:Cut):Bool:=decide (c.e≠0) ||(!c.a&&decide (c.v.pre=[])&& !p0 c.v)
def mw (c:Cut):Bool:=decide (c.e≠0) ||(!c.a&&decide (c.v.pre=[])&& !decide (c.v=zV))
def nb (s:bL):Bool:=lP s.rel&&lP s.pr&&cO (fun i=>jF s.rel[i]!.f&&jF s.rel[i]!.t) 0 s.rel.length
def MC (s:bL):Bool:=cO (fun i=>mw s.rel[i]!.f&&mw s.rel[i]!.t) 0 s.rel.length&&(lP s.rel&&lP s.pr)
def nB (s:bL)(v:bo):Bool:=nb s&&jn v&&(if v.pre=[]then m8 s.rel v else m8 s.pr v)
def vZ {c:Cut}(h:lg c=true):mw c=jF c:=by
 obtain⟨e,⟨a,b,c,p,q⟩,f⟩:=c;by_cases he:e=0
 .simp only[lg,he,aH,bR,cj]at h;obtain⟨_,rfl⟩:=h;simp only[mw,jF,p0,zV,bo.mk.injEq];by_cases h1:p=[]<;>by_cases h2:a=0<;>by_cases h3:b=0<;>by_cases h4:c=0<;>simp[h1,h2,h3,h4]
 .simp[mw,jF,he]
def Jr {l:List Span}(h:lP l=true){i:Nat}(hi:i<l.length):lg l[i]!.f=true/\lg l[i]!.t=true:=by
 unfold lP at h;rw[de]at h;have:=h i ae hi;simp only[tn,jZ,bR]at this;exact⟨this.1.1.1,this.1.1.2⟩
def LF (s:bL):MC s=nb s:=by
 unfold MC nb;cases h:lP s.rel with
 |false=>simp
 |true=>
  have:cO (fun i=>mw s.rel[i]!.f&&mw s.rel[i]!.t) 0 s.rel.length=cO (fun i=>jF s.rel[i]!.f&&jF s.rel[i]!.t) 0 s.rel.length:=by
   rw[Bool.eq_iff_iff,de,de];constructor<;>intro g j h1 h2<;>have q:=Jr h h2<;>have:=g j h1 h2<;>rw[vZ q.1,vZ q.2]at* <;>exact this
  rw[this];cases lP s.pr<;>simp
def mS:Cut:=⟨-1,zV,false⟩
def qN:Cut:=⟨1,zV,false⟩
def ll (v:bo):Cut:=⟨0,jN v,false⟩
def tH (v:bo):Cut:=⟨0,jN v,true⟩
def nE (v:bo):bo:=⟨v.major,v.minor,v.patch,[],[]⟩
def eQ (v:bo)(p:Int):bo:=if p=0 then⟨v.major+1,0,0,[],[]⟩else if p=1 then⟨v.major,v.minor+1,0,[],[]⟩else⟨v.major,v.minor,v.patch+1,[],[]⟩
def fS (v:bo)(p:Int):bo×Bool:=if jn v=false\/p<0\/2<p then(zV,false)else if jn (eQ v p)=false then(zV,false)else(eQ v p,true)
def vB (v:bo):Nat->bo×Bool
 |0=>(zV,false)
 |n+1=>if(fS v (n:Int)).2=true then((fS v (n:Int)).1,true)else vB v n
def iI (v:bo):bo×Bool:=if jn v=false then(zV,false)else if v.pre≠[]then(nE v,true)else vB v 3
def nQ (v:bo):Cut:=if p0 v=true then mS else ll (nE v)
def zG (v:bo):Cut:=if(iI (nE v)).2=false then qN else ll (iI (nE v)).1
def kP (l:List Cut)(c:Cut)(i:Nat):Nat:=i+((l.drop i).takeWhile fun x=>decide (gw x c<0)).length
def KW {l:List Cut}{c:Cut}{i:Nat}(h:i<l.length)(hc:gw l[i]! c<0):kP l c i=kP l c (i+1):=by
 unfold kP;rw[kZ h,List.takeWhile_cons_of_pos (by simpa[h]using hc)];simp;omega
def KX {l:List Cut}{c:Cut}{i:Nat}(h:i<l.length->¬gw l[i]! c<0):kP l c i=i:=by
 unfold kP;rcases cV i l.length with hi|hi
 .rw[kZ hi,List.takeWhile_cons_of_neg (by simpa[hi]using h hi)];rfl
 .rw[nn hi];rfl
def sW (l:List Cut)(c:Cut):List Cut:=if kP l c 0<l.length/\gw l[kP l c 0]! c=0 then l else(l.take (kP l c 0)++[c])++l.drop (kP l c 0)
def mb (l:List Span):Nat->List Cut
 |0=>[mS,qN]
 |i+1=>sW (sW (mb l i) l[i]!.f) l[i]!.t
def cH (l:List Span):List Cut:=mb l l.length
def pT (l:List Span)(f t:Cut):Bool:=lX (fun i=>decide (gw l[i]!.f f<=0)&&decide (gw t l[i]!.t<=0)) 0 l.length
def kN (l:List Span)(f t:Cut):List Span:=if 0<l.length/\gw l[l.length-1]!.t f=0 then l.set (l.length-1) ⟨l[l.length-1]!.f,t⟩else l++[⟨f,t⟩]
def eo (p:Cut->Cut->Bool)(c:List Cut):Nat->List Span
 |0=>[]
 |i+1=>if p c[i]! c[i+1]! =true then kN (eo p c i) c[i]! c[i+1]! else eo p c i
def AW (p:Cut->Cut->Bool)(c:List Cut):List Span:=eo p c (c.length-1)
def ot (l:List Span):List Span×Bool:=if cO (fun i=>jZ l[i]!) 0 l.length=true then(AW (pT l) (cH l),true)else([],false)
def GW (a b:List Span):List Span:=if lP a=false\/lP b=false then []else(ot (a++b)).1
def tj (a:List Span):List Span:=if lP a=false then []else AW (fun x y=>!pT a x y) (cH a)
def vD:bL:=⟨[],[]⟩
def qp:List Span:=[⟨mS,qN⟩]
def wO:bL:=⟨qp,qp⟩
def b7 (v:bo):bL:=if jn v=false then vD else if v.pre≠[]then⟨[],[⟨ll v,tH v⟩]⟩else⟨[⟨nQ v,zG v⟩],[]⟩
def IG (a b:bL):bL:=if nb a=false\/nb b=false then vD else⟨GW a.rel b.rel,GW a.pr b.pr⟩
def wX (a:bL):bL:=if nb a=false then vD else⟨tj a.rel,tj a.pr⟩
def nL (l:List Cut):Prop:=∀c∈l,c.sm
def Fx (l:List Span):Prop:=bO l/\l.length<=1000
def BG (s:bL):Prop:=Fx s.rel/\Fx s.pr
def sS:zV.sm:=by simp[zV,bo.sm]
def oT:mS.sm:=sS
def qO:qN.sm:=sS
def tK {v:bo}(h:v.sm):(jN v).sm:=⟨h.1,by simp[jN]⟩
def y9 (v:bo):(nE v).sm:=by simp[nE,bo.sm]
def qA (v:bo)(p:Int):(eQ v p).sm:=by unfold eQ;split<;>(try split)<;>simp[bo.sm]
def Hv (v:bo)(p:Int):(fS v p).1.sm:=by unfold fS;split<;>(try split)<;>first|exact sS|exact qA v p
def Ai (v:bo):∀n,(vB v n).1.sm
 |0=>sS
 |n+1=>by
  rw[vB];split
  .exact Hv v _
  .exact Ai v n
def Iq (v:bo):(iI v).1.sm:=by
 unfold iI;repeat' split
 all_goals first|exact sS|exact y9 v|exact Ai v _
def JN {v:bo}(h:jn v=true):(0<=v.major/\v.major<=9999)/\(0<=v.minor/\v.minor<=9999)/\0<=v.patch/\v.patch<=9999:=by
 simp only[jn,BR,bR,cj]at h;omega
def yv {l:List Cut}{c:Cut}(hl:nL l)(hc:c.sm):nL (sW l c):=by
 unfold sW;split
 .exact hl
 .intro x hx;simp only[List.mem_append,bG]at hx;rcases hx with(hx|rfl)|hx
  .exact hl _ (C1 hx)
  .exact hc
  .exact hl _ (List.mem_of_mem_drop hx)
def uA (l:List Cut)(c:Cut):(sW l c).length<=l.length+1:=by
 unfold sW;split<;>simp<;>omega
def uE {l:List Span}(hl:bO l):∀{i:Nat},i<=l.length->nL (mb l i)
 |0,_=>by intro x hx;simp[mb]at hx;rcases hx with rfl|rfl;exact oT;exact qO
 |i+1,h=>yv (yv (uE hl ae) (hl _ (ak ae)).1) (hl _ (ak ae)).2
def qC {l:List Span}(hl:bO l):nL (cH l):=uE hl (aB _)
def rz (l:List Span):∀i,(mb l i).length<=2+2*i
 |0=>by simp[mb]
 |i+1=>by
  have h1:=rz l i;have h2:=uA (mb l i) l[i]!.f;have h3:=uA (sW (mb l i) l[i]!.f) l[i]!.t;simp only[mb];omega
def oR (l:List Span):(cH l).length<=2+2*l.length:=rz l _
def H3 {l:List Span}{f t:Cut}(hl:bO l)(hf:f.sm)(ht:t.sm):bO (kN l f t):=by
 unfold kN;split
 .rename_i h;intro x hx;rcases List.mem_or_eq_of_mem_set hx with hx|rfl
  .exact hl x hx
  .exact⟨(hl _ (ak ae)).1,ht⟩
 .intro x hx;rcases List.mem_append.1 hx with hx|hx
  .exact hl x hx
  .obtain rfl:=bG.1 hx;exact⟨hf,ht⟩
def rI (l:List Span)(f t:Cut):(kN l f t).length<=l.length+1:=by
 unfold kN;split<;>simp
def oG {p:Cut->Cut->Bool}{c:List Cut}(hc:nL c):∀{i:Nat},i<c.length\/i=0->bO (eo p c i)
 |0,_=>fun _ h=>by cases h
 |i+1,h=>by
  rw[eo];split
  .exact H3 (oG hc ae) (hc _ (ak ae)) (hc _ (ak ae))
  .exact oG hc ae
def pe {p:Cut->Cut->Bool}{c:List Cut}:∀i,(eo p c i).length<=i
 |0=>by simp[eo]
 |i+1=>by
  have h1:=pe (p:=p) (c:=c) i;rw[eo];split
  .have:=rI (eo p c i) c[i]! c[i+1]!;omega
  .omega
def AX {p:Cut->Cut->Bool}{c:List Cut}(hc:nL c):bO (AW p c):=oG hc ae
def xQ {p:Cut->Cut->Bool}{c:List Cut}:(AW p c).length<=c.length:=by
 have:=pe (p:=p) (c:=c) (c.length-1);unfold AW;omega
def Ho {a b:List Span}(ha:bO a)(hb:bO b):bO (a++b):=fun x hx=>(List.mem_append.1 hx).elim (ha x) (hb x)
def jA:bO []:=fun _ h=>by cases h
def IF {a b:List Span}(ha:bO a)(hb:bO b):bO (GW a b):=by
 unfold GW ot;split
 .exact jA
 .split
  .exact AX (qC (Ho ha hb))
  .exact jA
def DG {a:List Span}(ha:bO a):bO (tj a):=by
 unfold tj;split
 .exact jA
 .exact AX (qC ha)
def Oc {a b:bL}(ha:a.sm)(hb:b.sm):(IG a b).sm:=by
 unfold IG;split
 .exact⟨jA,jA⟩
 .exact⟨IF ha.1 hb.1,IF ha.2 hb.2⟩
def K7 {a:bL}(ha:a.sm):(wX a).sm:=by
 unfold wX;split
 .exact⟨jA,jA⟩
 .exact⟨DG ha.1,DG ha.2⟩
def Fz (v:bo):(nQ v).sm:=by
 unfold nQ;split
 .exact oT
 .exact tK (y9 v)
def KD (v:bo):(zG v).sm:=by
 unfold zG;split
 .exact qO
 .exact tK (Iq _)
def xg {v:bo}(h:v.sm):(b7 v).sm:=by
 unfold b7;split
 .exact⟨jA,jA⟩
 .split
  .exact⟨jA,fun x hx=>by obtain rfl:=bG.1 hx;exact⟨tK h,tK h⟩⟩
  .exact⟨fun x hx=>by obtain rfl:=bG.1 hx;exact⟨Fz v,KD v⟩,jA⟩
def C7:wO.sm:=⟨fun x hx=>by obtain rfl:=bG.1 hx;exact⟨oT,qO⟩,fun x hx=>by obtain rfl:=bG.1 hx;exact⟨oT,qO⟩⟩
def OL {xs:List Span}{k:Nat}{t:Cut}(h:k<xs.length):(xs.map Span.D).set k (oI ((xs.map Span.D).getD k .any) 14 7 7 (Cut.D t))=(xs.set k ⟨xs[k]!.f,t⟩).map Span.D:=by
 rw[getD_map h,List.map_set];rfl
structure Key where
 n:dG
 f:dG
 deriving Inhabited
def Key.D (k:Key):D:=.agg [.str k.n,.str k.f]
def kl (n:Int)(w:Want):Bool:=decide (0<w.u)&&decide (w.u<n)&&nb w.s
def nk (n:Int)(l:List Want):Bool:=cO (fun i=>kl n l[i]!) 0 l.length
def kj (n:Int)(l:List Want):Bool:=nk n l&&(decide (0<l.length)&&decide (l.length<=24))
def jM (n:Int)(c:dy):Bool:=decide (c.needs.length<=24)&&decide (c.bars.length<=24)&&cO (fun i=>kj n c.needs[i]!) 0 c.needs.length&&nk n c.bars
def vJ (a b:Key):Int:=if lf a.n b.n≠0 then lf a.n b.n else lf a.f b.f
def nR (a b:bN):Bool:=Op.bytesLess a.name b.name ||(decide (a.name=b.name)&&Op.bytesLess a.feat b.feat)
def nt (n:Int)(cs:List dy)(k:Nat):Bool:=jn cs[k]!.v&&jM n cs[k]! && !(decide (0<k)&&decide (0<=kM cs[k-1]!.v cs[k]!.v))
def lC (us:List bN)(i:Nat):Bool:=!(decide (0<i)&&decide (us[i]!.name=[]))&& !(decide (1<i)&& !nR us[i-1]! us[i]!)&&decide (us[i]!.cands.length<=16)&&cO (nt us.length us[i]!.cands) 0 us[i]!.cands.length
def sJ (us:List bN):Bool:=decide (us[0]!.name=[])&&decide (us[0]!.feat=[])&&decide (us[0]!.cands.length=1)
def tv (w:bz):Bool:=decide (1<=w.us.length)&&decide (w.us.length<=48)&&sJ w.us&&cO (lC w.us) 0 w.us.length
def nw (us:List bN)(i:Nat):Bool:=lC us i&& !(decide (i=0)&& !sJ us)
def Ig (a:dG):Op.bytesLess a a=false:=by
 induction a with
 |nil=>rfl
 |cons x r ih=>unfold Op.bytesLess;simp[ih]
def F9 (a b:bN):decide (0<=vJ ⟨a.name,a.feat⟩ ⟨b.name,b.feat⟩)=!nR a b:=by
 unfold vJ nR lf;have h:=Ig b.name;by_cases h1:Op.bytesLess a.name b.name=true<;>by_cases h2:a.name=b.name<;>by_cases h3:Op.bytesLess a.feat b.feat=true<;>by_cases h4:a.feat=b.feat<;>simp_all
def wu (w:bz):tv w=(decide (1<=w.us.length)&&decide (w.us.length<=48)&&cO (nw w.us) 0 w.us.length):=by
 unfold tv;by_cases h:1<=w.us.length
 .have:cO (nw w.us) 0 w.us.length=(sJ w.us&&cO (lC w.us) 0 w.us.length):=by
   rw[Bool.eq_iff_iff,bR,de,de];simp only[nw,bR,ef,fF,di];constructor
   .intro g;have h0:=(g 0 ae ae).2;exact⟨by rcases h0 with h0|h0;exact absurd rfl h0;simpa using h0,fun j h1 h2=>(g j h1 h2).1⟩
   .rintro⟨g1,g2⟩ j h1 h2;exact⟨g2 j h1 h2,.inr (by simpa using g1)⟩
  rw[this];simp only[Bool.and_assoc]
 .simp[h]
def Rw (a b:Cut):Cut.D a=Cut.D b↔a=b:=by
 obtain⟨e,⟨v1,v2,v3,v4,v5⟩,x⟩:=a;obtain⟨e',⟨w1,w2,w3,w4,w5⟩,x'⟩:=b;simp[Cut.D,and_assoc]
def Rx (a b:List Cut):a.map Cut.D=b.map Cut.D↔a=b:=th Rw a b
def Mo (a b:Span):Span.D a=Span.D b↔a=b:=by
 obtain⟨⟨e,⟨v1,v2,v3,v4,v5⟩,x⟩,⟨f,⟨u1,u2,u3,u4,u5⟩,y⟩⟩:=a;obtain⟨⟨e',⟨w1,w2,w3,w4,w5⟩,x'⟩,⟨f',⟨t1,t2,t3,t4,t5⟩,y'⟩⟩:=b;simp[Span.D,and_assoc]
def BV (a b:List Span):a.map Span.D=b.map Span.D↔a=b:=th Mo a b
def iSet (a b:bL):bL.D a=bL.D b↔a=b:=by cases a;cases b;simp[bL.D,BV]
def Mp (a b:Want):Want.D a=Want.D b↔a=b:=by
 obtain⟨u,⟨x,y⟩⟩:=a;obtain⟨u',⟨x',y'⟩⟩:=b;simp[Want.D,BV]
def BW (a b:List Want):a.map Want.D=b.map Want.D↔a=b:=th Mp a b
def Mq (a b:kL):dE a=dE b↔a=b:=by simp[dE,BW]
def H7 (a b:List kL):a.map dE=b.map dE↔a=b:=th Mq a b
def Rv (a b:dy):dy.D a=dy.D b↔a=b:=by
 obtain⟨⟨v1,v2,v3,v4,v5⟩,s,x,y⟩:=a;obtain⟨⟨w1,w2,w3,w4,w5⟩,s',x',y'⟩:=b;simp[dy.D,H7,BW,and_assoc]
def Mm (a b:List dy):a.map dy.D=b.map dy.D↔a=b:=th Rv a b
def RA (a b:bN):bN.D a=bN.D b↔a=b:=by cases a;cases b;simp[bN.D,Mm]
def Dx (a b:List bN):a.map bN.D=b.map bN.D↔a=b:=th RA a b
def iWld (a b:bz):bz.D a=bz.D b↔a=b:=by cases a;cases b;simp[bz.D,Dx]
def Rz (a b:bK):bK.D a=bK.D b↔a=b:=by cases a;cases b;simp[bK.D]
def H6 (a b:List bK):a.map bK.D=b.map bK.D↔a=b:=th Rz a b
def Mn (a b:aj):aj.D a=aj.D b↔a=b:=by cases a;cases b;simp[aj.D,H6]
def BU (a b:List aj):a.map aj.D=b.map aj.D↔a=b:=th Mn a b
def NQ (a b:bg):bg.D a=bg.D b↔a=b:=by
 obtain⟨⟨x⟩,y,z⟩:=a;obtain⟨⟨x'⟩,y',z'⟩:=b;simp[bg.D,Dx,NR,BU]
def iKey (a b:Key):Key.D a=Key.D b↔a=b:=by cases a;cases b;simp[Key.D]
def iTag (a b:Bool):((bif a then 929 else 933)=(bif b then 929 else 933:Nat))↔a=b:=by cases a<;>cases b<;>simp
def iGs (a b:Gs):Gs.D a=Gs.D b↔a=b:=by cases a;cases b;simp[Gs.D,NR]
def Rq {A:FT->Prop}(h:A (fun d ds v s=>A fun d' ds' v' s'=>d'=d->ds'=ds->v=v'/\s=s'):=by
 (repeat' first|apply And.intro|intro _)
 all_goals rename_i e' e
 all_goals (try simp only[sy,D.str.injEq,D.int.injEq,D.bool.injEq,D.sl.injEq,iGs,Ry,iU8,C0,NS,bc,ba]at e e')
 all_goals first|rfl|(simp only[e,e'];done)|simp_all):BB (uY A):=KK h
def FC (m:Int)(i:Nat):Bool:=decide (IntKind.i64.wrap ((BitVec.ofInt 64 (m.fdiv (2^(min (i:Int).toNat 64))))&&&(BitVec.ofInt 64 1)).toNat=1)
def tR (m:Int)(vs:List bo):Nat->bL
 |0=>vD
 |i+1=>if FC m i=true then IG (tR m vs i) (b7 vs[i]!)else tR m vs i
def tp (g:Gs)(vs:List bo):bL:=if g.bQ.val 6=0 then wO else if g.bQ.val 6=1 then wX (tR (g.val 8) vs vs.length)else tR (g.val 8) vs vs.length
def cD (g:Gs)(n:Nat)(vs:Nat->List bo):Want:=⟨1+g.val ((n:Int) -1),tp g.bQ (vs (1+g.val ((n:Int) -1)).toNat)⟩
def Gs.ez (g:Gs):Gs:=g.bQ.bQ.bQ
def iY (n:Nat)(vs:Nat->List bo):Nat->Gs->List kL->List kL×Gs
 |0,g,acc=>(acc,g)
 |k+1,g,acc=>if g.ez.val 3=0 then iY n vs k g.ez.bQ.ez (acc++[[cD g n vs,cD g.ez.bQ n vs]])else iY n vs k g.ez.bQ (acc++[[cD g n vs]])
def az (g:Gs)(n:Nat)(vs:Nat->List bo)(most:Int):List kL×Gs:=iY n vs (g.val (most+1)).toNat g.bQ []
def pj (n:Nat)(s:bL):Prop:=s.sm/\s.rel.length<=n/\s.pr.length<=n
def pj.s {n:Nat}{s:bL}(h:pj n s)(hn:n<=1000):BG s:=⟨⟨h.1.1,ea h.2.1 hn⟩,⟨h.1.2,ea h.2.2 hn⟩⟩
def pj.mono {n k:Nat}{s:bL}(h:pj n s)(hn:n<=k):pj k s:=⟨h.1,ea h.2.1 hn,ea h.2.2 hn⟩
def K5 {n:Nat}:pj n vD:=⟨⟨jA,jA⟩,Nat.zero_le _,Nat.zero_le _⟩
def qF {v:bo}(h:v.sm):pj 1 (b7 v):=by
 refine⟨xg h, ?_, ?_⟩<;>(unfold b7;split;exact Nat.zero_le _;split<;>simp)
def DL (a b:List Span):(GW a b).length<=2+2*(a.length+b.length):=by
 unfold GW ot;split
 .exact Nat.zero_le _
 .split
  .have h1:=xQ (p:=pT (a++b)) (c:=cH (a++b));have h2:=oR (a++b);simp only[cI]at h2;dsimp only;omega
  .exact Nat.zero_le _
def Am (a:List Span):(tj a).length<=2+2*a.length:=by
 unfold tj;split
 .exact Nat.zero_le _
 .have h1:=xQ (p:=fun x y=>!pT a x y) (c:=cH a);have h2:=oR a;omega
def RH {a b:bL}{n k:Nat}(ha:pj n a)(hb:pj k b):pj (2+2*(n+k)) (IG a b):=by
 refine⟨Oc ha.1 hb.1, ?_, ?_⟩<;>unfold IG<;>split
 .exact Nat.zero_le _
 .have:=DL a.rel b.rel;have:=ha.2.1;have:=hb.2.1;dsimp only;omega
 .exact Nat.zero_le _
 .have:=DL a.pr b.pr;have:=ha.2.2;have:=hb.2.2;dsimp only;omega
def N3 {a:bL}{n:Nat}(ha:pj n a):pj (2+2*n) (wX a):=by
 refine⟨K7 ha.1, ?_, ?_⟩<;>unfold wX<;>split
 .exact Nat.zero_le _
 .have:=Am a.rel;have:=ha.2.1;dsimp only;omega
 .exact Nat.zero_le _
 .have:=Am a.pr;have:=ha.2.2;dsimp only;omega
def My {m:Int}{vs:List bo}(hv:∀v∈vs,v.sm):∀{k:Nat},k<=vs.length->pj (4*2^k-4) (tR m vs k)
 |0,_=>K5
 |k+1,h=>by
  have ih:=My (m:=m) hv (show k<=vs.length by omega);have h2:4*2^(k+1)=8*2^k:=by rw[Nat.pow_succ];omega
  have h1:1<=2^k:=Nat.one_le_two_pow;rw[tR];split
  .exact(RH ih (qF (hv _ (ak ae)))).mono ae
  .exact ih.mono ae
def Nz:pj 1 wO:=⟨C7,cg,cg⟩
def IE {m:Int}{vs:List bo}(hv:∀v∈vs,v.sm)(h4:vs.length<=4){k:Nat}(hk:k<=vs.length):pj 60 (tR m vs k):=(My hv hk).mono (by
 have:2^k<=2^4:=Nat.pow_le_pow_right cg ae;omega)
def OD {g:Gs}{vs:List bo}(hv:∀v∈vs,v.sm)(h4:vs.length<=4):pj 122 (tp g vs):=by
 have h:=IE (m:=g.val 8) hv h4 (aB _);unfold tp;split
 .exact Nz.mono cg
 .split
  .exact N3 h
  .exact h.mono cg
inductive NF where
 |nil|sl (l:List kL)|own (k:Nat)
 deriving Inhabited
inductive BF where
 |nil|sl (l:List Want)|own (k:Nat)
 deriving Inhabited
def NF.D (e:Nat):NF->D
 | .nil=>.aG
 | .sl l=>.sl 1 (l.map dE)
 | .own k=>.own e 1 0 k
def BF.D (e:Nat):BF->D
 | .nil=>.aG
 | .sl l=>.sl 3 (l.map Want.D)
 | .own k=>.own e 3 0 k
structure CW where
 v:bo
 sh:Int
 n:NF
 b:BF
 deriving Inhabited
def CW.D (e:Nat)(c:CW):D:=.agg [.int .i64 c.v.major,.int .i64 c.v.minor,.int .i64 c.v.patch,.str c.v.pre,.str c.v.build,.int .i64 c.sh,c.n.D e,c.b.D e]
def NF.pl:NF->Bool
 | .own _=>false
 |_=>true
def BF.pl:BF->Bool
 | .own _=>false
 |_=>true
def CW.pl (c:CW):Bool:=c.n.pl&&c.b.pl
def F4 (l:List Want):aV (l.map Want.D)=true:=cd (fun _=>by simp only[Want.D,D.bm,aV,eL]) _
def F3 (r:kL):(dE r).bm=true:=by simp only[dE,D.bm]
def iJ (l:List kL):aV (l.map dE)=true:=cd F3 _
def CW.bm {e:Nat}{c:CW}(h:c.pl=true):(c.D e).bm=true:=by
 obtain⟨v,sh,n,b⟩:=c;cases n<;>cases b<;>first|(simp[CW.pl,NF.pl,BF.pl]at h;done)|rfl
theorem CW.rn {e e' lo:Nat}{σ:List (Nat×Nat)}(h:fh lo σ e=some e')(c:CW):jm lo σ (c.D e)=some (c.D e'):=by
 obtain⟨v,sh,n,b⟩:=c;cases n<;>cases b<;>simp[CW.D,NF.D,BF.D,jm,fu,qh,h]
def dz {e e' lo:Nat}{σ:List (Nat×Nat)}(h:fh lo σ e=some e'):∀xs:List CW,fu lo σ (xs.map (CW.D e))=some (xs.map (CW.D e'))
 |[]=>rfl
 |c::r=>by simp only[List.map_cons,fu,CW.rn h c,dz h r]
def CW.Rs {l e k:Nat}{es:List Abs.D}(h:e≠l)(c:CW):dQ l k es (c.D e)=c.D e:=by
 obtain⟨v,sh,n,b⟩:=c;cases n<;>cases b<;>simp[CW.D,NF.D,BF.D,dQ,dS,h]
def gv {l e k:Nat}{es:List D}(h:e≠l):∀xs:List CW,dS l k es (xs.map (CW.D e))=xs.map (CW.D e)
 |[]=>rfl
 |c::r=>by simp only[List.map_cons,dS,CW.Rs (es:=es) (k:=k) h c,gv h r]
def CW.pl_e {e e':Nat}{c:CW}(h:c.pl=true):c.D e=c.D e':=by
 obtain⟨v,sh,n,b⟩:=c;cases n<;>cases b<;>first|(simp[CW.pl,NF.pl,BF.pl]at h;done)|rfl
def tJ {e e':Nat}{xs:List CW}(h:∀c∈xs,c.pl=true):xs.map (CW.D e)=xs.map (CW.D e'):=List.map_congr_left fun c hc=>CW.pl_e (h c hc)
def cu {e:Nat}:∀{xs:List CW},(∀c∈xs,c.pl=true)->aV (xs.map (CW.D e))=true
 |[],_=>rfl
 |c::r,h=>by simp only[List.map_cons,aV,CW.bm (h c (.head _)),cu fun x hx=>h x (.tail _ hx),eL]
def vi {α β:Type} [Inhabited α] [Inhabited β]{f:α->β}{xs:List α}{i:Nat}(h:i<xs.length):(xs.map f)[i]! =f xs[i]! :=by
 simp[List.getElem!_eq_getElem?_getD,h]
def UD (nm ft:Nat->dG)(ln:Nat->Nat)(j:Nat):D:=.agg [.str (nm j),.str (ft j),.own (2+j) 8 0 (ln j)]
def UB (n:Nat)(nm ft:Nat->dG)(ln:Nat->Nat):List D:=(List.range n).map (UD nm ft ln)
def kG {n i:Nat}(h:i<n):(List.range n)[i]! =i:=by
 simp[List.getElem!_eq_getElem?_getD,h]
def nP {l k n:Nat}{es:List D}{nm ft:Nat->dG}{ln:Nat->Nat}(h:8≠k):dS l k es (UB n nm ft ln)=UB n nm ft ln:=by
 unfold UB;generalize List.range n=r;induction r with
 |nil=>rfl
 |cons a r ih=>simp only[List.map_cons,dS,ih,UD,dQ,h,bp,br,aF]
def jq {lo n:Nat}{nm ft:Nat->dG}{ln:Nat->Nat}(σ:List (Nat×Nat))(h:∀j,j<n->fh lo σ (2+j)=some (2+j)):fu lo σ (UB n nm ft ln)=some (UB n nm ft ln):=by
 unfold UB;have h2:∀j∈List.range n,fh lo σ (2+j)=some (2+j):=fun j hj=>h j (List.mem_range.1 hj)
 revert h2;generalize List.range n=r;intro h2;induction r with
 |nil=>rfl
 |cons a r ih=>
  have:=h2 a (.head _);simp only[List.map_cons,fu,UD,jm,qh,this,ih fun j hj=>h2 j (.tail _ hj)]
def hH {a b:bT}{r:List (Nat×bT)}(cs:Nat->List D){v:Nat}(h:v<8):look ((0,a)::(1,b)::(2,.buf 8 (cs 0))::(3,.buf 8 (cs 1))::(4,.buf 8 (cs 2))::(5,.buf 8 (cs 3))::(6,.buf 8 (cs 4))::(7,.buf 8 (cs 5))::(8,.buf 8 (cs 6))::(9,.buf 8 (cs 7))::r) (2+v)=some (.buf 8 (cs v)):=by
 match v,h with
 |0,_=>rfl
 |1,_=>rfl
 |2,_=>rfl
 |3,_=>rfl
 |4,_=>rfl
 |5,_=>rfl
 |6,_=>rfl
 |7,_=>rfl
def KA (m:List (Nat×bT))(g:Gs)(n:Nat)(nm ft:Nat->dG)(cs:Nat->List CW)(kk:Nat)(E:List D):Prop:=
 look m 0=some (.buf 2 [g.D])/\look m 1=some (.buf 3 (UB n nm ft fun j=>(cs j).length))/\(∀v,v<8->look m (2+v)=some (.buf 8 ((cs v).map (CW.D 10))))/\look m 10=some (.buf kk E)
def eight {P:Nat->Prop}(h0:P 0)(h1:P 1)(h2:P 2)(h3:P 3)(h4:P 4)(h5:P 5)(h6:P 6)(h7:P 7):∀v,v<8->P v
 |0,_=>h0
 |1,_=>h1
 |2,_=>h2
 |3,_=>h3
 |4,_=>h4
 |5,_=>h5
 |6,_=>h6
 |7,_=>h7
def G9 (n:Nat)(cs:Nat->List CW):Prop:=(2<=n/\n<=8)/\∀t,(cs t).length<=4/\∀c∈cs t,c.v.sm
def gT (cs:Nat->List CW)(t:Nat):List bo:=(cs t).map CW.v
def gO (l k:Nat)(es:List D)(rs:List kL):dS l k es (rs.map dE)=rs.map dE:=iB l k es _ (iJ rs)
def fK (l k:Nat)(es:List D)(rs:List Want):dS l k es (rs.map Want.D)=rs.map Want.D:=iB l k es _ (F4 rs)
def Want.fz (l k:Nat)(es:List Abs.D)(w:Want):dQ l k es w.D=w.D:=pS l k es _ (by simp only[Want.D,D.bm,aV,eL])
def Gs.fz (l k:Nat)(es:List Abs.D)(g:Gs):dQ l k es g.D=g.D:=pS l k es _ (by simp only[Gs.D,D.bm,aV,eL])
def Jq {lo l:Nat}{σ:List (Nat×Nat)}(h:l<lo)(hs:(σ.all fun p=>Nat.ble lo p.1)=true:=by rfl):fh lo σ l=some l:=by
 induction σ with
 |nil=>simp[fh,Nat.blt,show Nat.ble (l+1) lo=true from eu]
 |cons a r ih=>
  simp only[List.all_cons,bR,Nat.ble_eq]at hs;have hb:Nat.beq a.1 l=false:=by
   cases e:Nat.beq a.1 l with
   |false=>rfl
   |true=>have:=Nat.eq_of_beq_eq_true e;omega
  simp only[fh,hb,cond_false];exact ih (by simpa using hs.2)
structure RU where
 name:dG
 feat:dG
 cs:List CW
 deriving Inhabited
def aX (v:bo):CW:=⟨v,0,.nil,.nil⟩
def wE:CW:=⟨zV,-1,.nil,.nil⟩
def bS:List dG:=[[97,110,116],[98,101,101],[99,111,119],[100,111,103],[101,108,107]]
def vu:bS.length=5:=rfl
def bD (m:Int):Nat->List bo
 |0=>[]
 |i+1=>if FC m i=true then bD m i++[cM[i]!]else bD m i
def fG (vs:List bo):Nat->Gs->List bo->List bo×Gs
 |0,g,acc=>(acc,g)
 |r+1,g,acc=>fG vs r g.bQ (if 0<g.val 3 then acc++[vs[vs.length-(r+1)]!]else acc)
def ff (few:Int):Nat->Gs->List RU->List RU×Gs
 |0,g,us=>(us,g.bQ)
 |r+1,g,us=>
  if((4-r:Nat):Int)<1+g.val few then
   if 4-r<2/\g.bQ.bQ.val 3=0 then
    ff few r (fG (bD (g.bQ.val 16) 4) (bD (g.bQ.val 16) 4).length g.ez []).2
     ((us++[⟨bS[4-r]!,[],(bD (g.bQ.val 16) 4).map aX⟩])++[⟨bS[4-r]!,[102],(fG (bD (g.bQ.val 16) 4) (bD (g.bQ.val 16) 4).length g.ez []).1.map aX⟩])
   else ff few r (if 4-r<2 then g.ez else g.bQ.bQ) (us++[⟨bS[4-r]!,[],(bD (g.bQ.val 16) 4).map aX⟩])
  else(us,g.bQ)
def tq:List RU:=[⟨[],[],[wE]⟩]
def ep (g:Gs)(few:Int):List RU×Gs:=ff few 5 g tq
def xa (us:List RU):List D:=UB us.length (fun j=>us[j]!.name) (fun j=>us[j]!.feat) (fun j=>us[j]!.cs.length)
def UM (g:Gs)(us:List RU):List (Nat×bT):=[(0,.buf 2 [g.D]),(1,.buf 3 (xa us)),(2,.buf 8 (us[0]!.cs.map (CW.D 10))),(3,.buf 8 (us[1]!.cs.map (CW.D 10))),(4,.buf 8 (us[2]!.cs.map (CW.D 10))),
 (5,.buf 8 (us[3]!.cs.map (CW.D 10))),(6,.buf 8 (us[4]!.cs.map (CW.D 10))),(7,.buf 8 (us[5]!.cs.map (CW.D 10))),(8,.buf 8 (us[6]!.cs.map (CW.D 10))),(9,.buf 8 (us[7]!.cs.map (CW.D 10)))]
def jT {us:List RU}{x:RU}{t:Nat}(h:t<us.length):(us++[x])[t]! =us[t]! :=by
 simp[List.getElem!_eq_getElem?_getD,List.getElem?_append_left h]
def jU {us:List RU}{x:RU}{t:Nat}(h:t=us.length):(us++[x])[t]! =x:=by
 subst h;simp[List.getElem!_eq_getElem?_getD]
def qI {us:List RU}{t:Nat}(h:us.length<=t):us[t]! =default:=by
 simp[List.getElem!_eq_getElem?_getD,h]
def Kx (us:List RU)(x:RU):xa (us++[x])=xa us++[.agg [.str x.name,.str x.feat,.own (2+us.length) 8 0 x.cs.length]]:=by
 unfold xa UB;rw[cI,List.length_singleton,List.range_succ,List.map_append];congr 1
 .apply List.map_congr_left;intro j hj;simp only[UD,jT (List.mem_range.1 hj)]
 .simp only[List.map_cons,List.map_nil,UD,jU rfl]
def AS {lo:Nat}{σ:List (Nat×Nat)}:∀{a b a' b':List D},fu lo σ a=some a'->fu lo σ b=some b'->fu lo σ (a++b)=some (a'++b')
 |[],b,a',b',h1,h2=>by simp only[fu,aY]at h1;subst h1;exact h2
 |d::r,b,a',b',h1,h2=>by
  simp only[fu]at h1;split at h1
  .rename_i d' r' e1 e2;obtain rfl:=bl h1;simp only[qq,fu,e1,AS e2 h2]
  .cases h1
def CT (LU LC p:Nat):List (Nat×Nat):=(LU,1)::(LC,2+p)::(List.range p).map fun t=>(2+t,2+t)
def ey {a b:Nat}(h:a≠b):Nat.beq a b=false:=by
 cases e:Nat.beq a b with
 |false=>rfl
 |true=>exact absurd (Nat.eq_of_beq_eq_true e) h
def MD {lo:Nat}:∀{r:List Nat}{t:Nat},t∈r->fh lo (r.map fun t=>(2+t,2+t)) (2+t)=some (2+t)
 |a::r,t,h=>by
  simp only[List.map_cons,fh];cases e:Nat.beq (2+a) (2+t)with
  |true=>rw[cond_true,Nat.eq_of_beq_eq_true e]
  |false=>
   rw[cond_false];rcases dF.1 h with rfl|h
   .simp at e
   .exact MD h
def Jy {LU LC p t:Nat}(hU:10<=LU)(hC:10<=LC)(hp:p<8)(ht:t<p):fh 1 (CT LU LC p) (2+t)=some (2+t):=by
 simp only[CT,fh,ey (show LU≠2+t by omega),ey (show LC≠2+t by omega),cond_false];exact MD (List.mem_range.2 ht)
def OG {LU LC p:Nat}(hU:10<=LU)(hC:10<=LC)(hne:LU≠LC)(hp:p<8):eP 1 10 (CT LU LC p)=true:=by
 have b1:=ey hne;have b2:=ey (Ne.symm hne);have u2:=ey (show 2≠LU by omega);have u3:=ey (show 3≠LU by omega);have u4:=ey (show 4≠LU by omega);have u5:=ey (show 5≠LU by omega);have u6:=ey (show 6≠LU by omega);have u7:=ey (show 7≠LU by omega);have u8:=ey (show 8≠LU by omega);have c2:=ey (show 2≠LC by omega);have c3:=ey (show 3≠LC by omega);have c4:=ey (show 4≠LC by omega);have c5:=ey (show 5≠LC by omega);have c6:=ey (show 6≠LC by omega);have c7:=ey (show 7≠LC by omega);have c8:=ey (show 8≠LC by omega)
 match p,hp with
 |0,_|1,_|2,_|3,_|4,_|5,_|6,_|7,_=>
  simp only[CT,List.range,List.range.loop,List.map_cons,List.map_nil,eP,List.all_cons,List.all_nil,b1,b2,u2,u3,u4,u5,u6,u7,u8,c2,c3,c4,c5,c6,c7,c8,Nat.reduceAdd,Bool.not_false,jh,eL];rfl
def RX {LU LC p t:Nat}(hp:p<t)(h8:t<8):((CT LU LC p).all fun q=>!Nat.beq q.2 (2+t))=true:=by
 simp only[CT,List.all_cons,bR,ef,List.all_eq_true,gr,List.mem_range];refine⟨ey ae,ey ae, ?_⟩;rintro q ⟨j,hj,rfl⟩;exact ey (by simp only;omega)
def RC (r:List Nat):fh 1 (r.map fun t=>(2+t,2+t)) 0=some 0:=by
 induction r with
 |nil=>rfl
 |cons a r ih=>simp only[List.map_cons,fh,ey (show 2+a≠0 by omega),cond_false];exact ih
def CN {lo k i n l l':Nat}{σ:List (Nat×Nat)}(h:fh lo σ l=some l'):jm lo σ (.own l k i n)=some (.own l' k i n):=by simp only[jm,qh,h]
def DQ {a b k:Nat}{c d:Nat}{r:List (Nat×Nat)}(h:fh 1 r 0=some 0)(ha:a≠0)(hb:c≠0):jm 1 ((a,b)::(c,d)::r) (.ptr 0 k 0 0)=some (.ptr 0 k 0 0):=by simp only[jm,qh,fh,ey ha,ey hb,cond_false,h]
def RW {LU LC p:Nat}(hU:10<=LU)(hC:10<=LC):fh 1 (CT LU LC p) 0=some 0:=by
 simp only[CT,fh,ey (show LU≠0 by omega),ey (show LC≠0 by omega),cond_false];generalize List.range p=r;induction r with
 |nil=>rfl
 |cons a r ih=>simp only[List.map_cons,fh,ey (show 2+a≠0 by omega),cond_false];exact ih
def RU.pl (u:RU):Prop:=∀c∈u.cs,c.pl=true
def x7 {nx LU LC:Nat}{g:Gs}{us:List RU}{x:RU}{m:List (Nat×bT)}{env env':List cb}(hp:us.length<8)(hU:10<=LU)(hC:10<=LC)(hne:LU≠LC)(hpl:∀u∈us,u.pl)(hx:x.pl)(h0:look m 0=some (.buf 2 [g.D]))
  (h1:look m LU=some (.buf 3 (xa us++[.agg [.str x.name,.str x.feat,.own LC 8 0 x.cs.length]]))) (h2:look m LC=some (.buf 8 (x.cs.map (CW.D 10)))) (hcs:∀t,t<us.length->look m (2+t)=some (.buf 8 (us[t]!.cs.map (CW.D 10))))
  (he:∀r,fh 1 r 0=some 0->aQ 1 ((LU,1)::(LC,2+us.length)::r) env env'):aS 1 env ⟨nx,m⟩ env' ⟨10,UM g (us++[x])⟩:=by
 refine aS.to (CT LU LC us.length) rfl (OG hU hC hne hp) (he _ (RC _)) ?_;have hLC:fh 1 (CT LU LC us.length) LC=some (2+us.length):=by simp only[CT,fh,ey hne,cond_false,Nat.beq_refl,cond_true]
 have ent:∀t,t<8->((∃l b,fh 1 (CT LU LC us.length) l=some (2+t)/\look m l=some b/\mC 1 (CT LU LC us.length) b (.buf 8 ((us++[x])[t]!.cs.map (CW.D 10))))\/
   (Nat.ble 1 (2+t)=true/\Nat.blt (2+t) 10=true/\(CT LU LC us.length).all (fun p=>!Nat.beq p.2 (2+t))=true/\∃k,bT.buf 8 ((us++[x])[t]!.cs.map (CW.D 10))=.buf k [])):=by
  intro t ht;rcases Nat.lt_trichotomy t us.length with h|h|h
  .exact .inl ⟨2+t,_,Jy hU hC hp h,hcs t h,rfl,.inl ⟨by rw[jT h],cu (hpl _ (ak h))⟩⟩
  .subst h;exact .inl ⟨LC,_,hLC,h2,rfl,.inl ⟨by rw[jU rfl],cu hx⟩⟩
  .refine .inr ⟨by rw[Nat.ble_eq];omega,by rw[Nat.blt,Nat.ble_eq];omega,RX h ht,8, ?_⟩;rw[qI eu];rfl
 refine⟨.inl ⟨0,_,RW hU hC,h0,rfl,.inl ⟨rfl,rfl⟩⟩,.inl ⟨LU,_,by simp only[CT,fh,Nat.beq_refl,cond_true],h1,rfl,.inr (.inl ?_)⟩,ent 0 cg,ent 1 cg,ent 2 cg,ent 3 cg,ent 4 cg,ent 5 cg,ent 6 cg,ent 7 cg,trivial⟩;rw[Kx];refine AS (jq _ fun j hj=>Jy hU hC hp hj) ?_;simp only[fu,jm,qh,hLC]
def kE (m:Int):∀i,(bD m i).length<=i
 |0=>aB _
 |i+1=>by
  have:=kE m i;rw[bD];split
  .simp only[cI,List.length_singleton];omega
  .omega
def x9:cM.length=4:=rfl
def qx (m:Int):∀i,i<=4->∀v∈bD m i,v.sm
 |0,_,v,h=>by cases h
 |i+1,hi,v,h=>by
  rw[bD]at h;have hm:∀v∈cM,v.sm:=by
   intro v hv;simp only[cM,dF,ec,or_false]at hv;rcases hv with rfl|rfl|rfl|rfl<;>simp[bo.sm]
  split at h
  .rcases List.mem_append.1 h with h|h
   .exact qx m i ae v h
   .obtain rfl:=bG.1 h;exact hm _ (ak (by rw[x9];omega))
  .exact qx m i ae v h
def fE (vs:List bo):∀c∈vs.map aX,c.pl=true:=by
 intro c hc;obtain⟨v,_,rfl⟩:=gr.1 hc;rfl
def Ad {a:bT}{r:List (Nat×bT)}(cs:Nat->List D){v:Nat}(h:v<8):look ((0,a)::(2,.buf 8 (cs 0))::(3,.buf 8 (cs 1))::(4,.buf 8 (cs 2))::(5,.buf 8 (cs 3))::(6,.buf 8 (cs 4))::(7,.buf 8 (cs 5))::(8,.buf 8 (cs 6))::(9,.buf 8 (cs 7))::r) (2+v)=some (.buf 8 (cs v)):=by
 match v,h with
 |0,_=>rfl
 |1,_=>rfl
 |2,_=>rfl
 |3,_=>rfl
 |4,_=>rfl
 |5,_=>rfl
 |6,_=>rfl
 |7,_=>rfl
def jg {us:List RU}(h:∀u∈us,u.pl)(t:Nat):aV (us[t]!.cs.map (CW.D 10))=true:=by
 rcases cV t us.length with ht|ht
 .exact cu (h _ (ak ht))
 .rw[qI ht];rfl
def IJ {us:List RU}{x:RU}(h:∀u∈us,u.pl)(hx:x.pl):∀u∈us++[x],u.pl:=fun u hu=>(List.mem_append.1 hu).elim (h u) fun e=>by obtain rfl:=bG.1 e;exact hx
def mD {lo:Nat}{us:List RU}(σ:List (Nat×Nat))(h:∀j,j<us.length->fh lo σ (2+j)=some (2+j)):fu lo σ (xa us)=some (xa us):=jq σ h
def hO {lo v:Nat}{r:List (Nat×Nat)}(h:v<8):fh lo ((1,1)::(2,2)::(3,3)::(4,4)::(5,5)::(6,6)::(7,7)::(8,8)::(9,9)::r) (2+v)=some (2+v):=by
 match v,h with
 |0,_=>rfl
 |1,_=>rfl
 |2,_=>rfl
 |3,_=>rfl
 |4,_=>rfl
 |5,_=>rfl
 |6,_=>rfl
 |7,_=>rfl
def xh (vs:List bo):∀r g acc,(fG vs r g acc).1.length<=acc.length+r
 |0,g,acc=>aB _
 |r+1,g,acc=>by
  have:=xh vs r g.bQ (if 0<g.val 3 then acc++[vs[vs.length-(r+1)]!]else acc);rw[fG];split at this<;>rename_i h
  .rw[ay h];simp only[cI,List.length_singleton]at this;omega
  .rw[ai h];omega
def Gs.x8 (g:Gs)(n:Int):(1<=n->0<=g.val n/\g.val n<n)/\(n<1->g.val n=0):=⟨fun h=>cS _ _ h,fun h=>by simp only[Gs.val,bH];rw[ay h]⟩
def GD {few:Int}{i:Nat}{h:Gs}{us:List RU}(h5:i<5)(hl:(i:Int)<1+h.val few):ff few (5-i) h us=
   if i<2/\h.bQ.bQ.val 3=0 then
    ff few (4-i) (fG (bD (h.bQ.val 16) 4) (bD (h.bQ.val 16) 4).length h.ez []).2
     ((us++[⟨bS[i]!,[],(bD (h.bQ.val 16) 4).map aX⟩])++[⟨bS[i]!,[102],(fG (bD (h.bQ.val 16) 4) (bD (h.bQ.val 16) 4).length h.ez []).1.map aX⟩])
   else ff few (4-i) (if i<2 then h.ez else h.bQ.bQ) (us++[⟨bS[i]!,[],(bD (h.bQ.val 16) 4).map aX⟩]):=by
 obtain⟨r,hr⟩:∃r,5-i=r+1:=⟨4-i,ae⟩
 rw[hr,ff];obtain rfl:r=4-i:=ae;rw[show 4-(4-i)=i by omega,ay hl]
def CX {few:Int}{i:Nat}{h:Gs}{us:List RU}(h5:i<=5)(hl:i=5\/¬(i:Int)<1+h.val few):ff few (5-i) h us=(us,h.bQ):=by
 rcases cV i 5 with h6|h6
 .obtain⟨r,hr⟩:∃r,5-i=r+1:=⟨4-i,ae⟩
  rw[hr,ff];obtain rfl:r=4-i:=ae;rw[show 4-(4-i)=i by omega,ai (by rcases hl with hl|hl;omega;exact hl)]
 .rw[show 5-i=0 by omega,ff]
def HO {vs:List bo}{j:Nat}{k:Gs}{acc:List bo}(hj:j<vs.length):fG vs (vs.length-j) k acc=fG vs (vs.length-(j+1)) k.bQ (if 0<k.val 3 then acc++[vs[j]!]else acc):=by
 obtain⟨r,hr⟩:∃r,vs.length-j=r+1:=⟨vs.length-j-1,ae⟩
 rw[hr,fG,<-hr,show vs.length-(vs.length-j)=j by omega,show r=vs.length-(j+1)by omega]
end Go.Abs
