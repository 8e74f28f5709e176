/- A part of the proofs. -/
import Derived.IntWalk
import Derived.KernelRfl
import Derived.Lib.TrimUEq
import Derived.Test.YtaeimnechonnmaaGreatDoorP04
set_option linter.all false
set_option maxRecDepth 4000
namespace Go.Abs
section
section
variable {Y:Ctx} {draw:Bool} {r:List GI} {env rs:List b7} {nx:Nat} {m:List (Nat×bT)} {K:List b7->St->Prop} {g:Option (Nat×Bool)} {f:Bool}
def at8 (s:List UInt8)(i:Nat):Int:=((s.getD i 0).toNat:Int)
def Hr (s:List UInt8)(i:Nat):0<=at8 s i/\at8 s i<256:=by
 have:=(s.getD i 0).toNat_lt;unfold at8;omega
def wrap_i64 {a:Int}(h1:-9223372036854775808<=a)(h2:a<=9223372036854775807):IntKind.i64.wrap a=a:=IntWalk.i64_in _ ae
def mL (a b:List UInt8):(a==b)=decide (a=b):=by
 grind
def getD_map {α:Type} [Inhabited α]{q:α->D}{xs:List α}{i:Nat}(h:i<xs.length):(xs.map q).getD i .any=q xs[i]! :=by
 simp[List.getD,h]
def GF (rs:List b7):Option (Nat×Bool)->Bool->Prop
 |none,f=>f=true
 |some (j,w),f=>∃ok b,cL [] rs (.l j)=⟨ok,.bool b⟩/\(ok&&(b==w))=f
def GF.flag (h:GF rs g f):flag rs.reverse g=f/\yB rs.reverse g:=by
 cases g with
 |none=>exact⟨h.symm,trivial⟩
 |some jw=>
  obtain⟨j,w⟩:=jw;obtain⟨ok,b,h1,h2⟩:=h;have h3:rs.reverse.getD j .un=⟨ok,.bool b⟩:=by rw[<-h1,<-kv];rfl
  simp only[Abs.flag,yB,h3,h2,D.isBool];exact⟨trivial,fun _=>trivial⟩
def IU {i:aI}(hM:i.cz=false)(hF:i.mg draw g=false)(hC:g.isSome=true->i.calm=true)(hg:GF rs g f)(d:D)(ho:f=true->i.dG Y (cL env rs) m)
  (hv:f=true->i.val Y (cL env rs) m (nx+rs.length)=d) (m':List (Nat×bT)) (hm:i.cy Y (cL env rs) m (nx+rs.length)=m')
  (h:(f=true->i.yo draw (cL env rs))->aJ Y draw r env (⟨f,d⟩::rs) nx m' K):aJ Y draw (⟨i,g⟩::r) env rs nx m K:=by
 obtain⟨hf,hb⟩:=hg.flag;unfold aJ;rw[iM hM hF,kv,hf];refine⟨?_,ho,fun ha=>⟨d,by simpa using hv, ?_⟩⟩
 .cases g with
  |none=>trivial
  |some jw=>exact⟨hC rfl,hb⟩
 grind [aJ]
def fA {i:aI}(hC:i.calm=true)(hg:GF rs g f)(d:D)(ho:f=true->i.dG Y (cL env rs) m)
  (hv:f=true->i.val Y (cL env rs) m (nx+rs.length)=d) (m':List (Nat×bT)) (hm:i.cy Y (cL env rs) m (nx+rs.length)=m')
  (h:(f=true->i.yo draw (cL env rs))->aJ Y draw r env (⟨f,d⟩::rs) nx m' K):aJ Y draw (⟨i,g⟩::r) env rs nx m K:=
 IU (by cases i<;>first|rfl|cases hC) (by simp[aI.mg,hC]) (fun _=>hC) hg d ho hv m' hm h
def cn {i:aI}(hC:i.pure=true)(hg:GF rs g f)(d:D)(ho:f=true->i.dG Y (cL env rs) m)
  (hv:f=true->i.val Y (cL env rs) m (nx+rs.length)=d) 
  (h:(f=true->i.yo draw (cL env rs))->aJ Y draw r env (⟨f,d⟩::rs) nx m K):aJ Y draw (⟨i,g⟩::r) env rs nx m K:=
 fA (Gd hC) hg d ho hv m (Az hC) h
def qf {i:aI}(hM:i.cz=false)(d:D)(ho:i.dG Y (cL env rs) m)
  (hv:i.val Y (cL env rs) m (nx+rs.length)=d) (m':List (Nat×bT)) (hm:i.cy Y (cL env rs) m (nx+rs.length)=m')
  (h:i.yo draw (cL env rs)->aJ Y draw r env (⟨true,d⟩::rs) nx m' K):aJ Y draw (⟨i,none⟩::r) env rs nx m K:=
 IU hM (by simp[aI.mg]) (fun h=>by cases h) rfl d (fun _=>ho) (fun _=>hv) m' hm (fun ha=>h (ha rfl))
def IY {i:aI}{j:Nat}{w:Bool}(hM:i.cz=false)(hC:i.calm=false)(hg:GF rs (some (j,w)) f)(h1:f=true->∃d,i.dG Y (cL env rs) m/\i.val Y (cL env rs) m (nx+rs.length)=d/\∃m',i.cy Y (cL env rs) m (nx+rs.length)=m'/\aJ Y false r env (⟨true,d⟩::rs) nx m' K)
  (h2:f=false->aJ Y false r env (⟨false,.any⟩::rs) nx m K):aJ Y false (⟨i,some (j,w)⟩::r) env rs nx m K:=by
 obtain⟨hf,hb⟩:=hg.flag
 grind [aJ,sg,aI.mg,kv]
def m9 {x:Src}{fx:Bool}{d:D}(h:aJ Y draw r env (⟨f,d⟩::rs) nx m K)(hg:GF rs g f:=by exact dA)(hx:cL env rs x=⟨fx,d⟩:=by exact rfl)(kx:f=true->fx=true:=by exact cA):aJ Y draw (⟨.mv x,g⟩::r) env rs nx m K:=
 cn rfl hg _ (fun hf=>by simp[aI.dG,hx,kx hf]) (fun hf=>by simp[aI.val,hx]) (fun ha=>h)
def RR {x:Src}{fx:Bool}{b:Bool}(h:aJ Y draw r env (⟨f,.bool (!b)⟩::rs) nx m K)(hg:GF rs g f:=by exact dA)(hx:cL env rs x=⟨fx,.bool b⟩:=by exact rfl)(kx:f=true->fx=true:=by exact cA):aJ Y draw (⟨.un .not x,g⟩::r) env rs nx m K:=
 cn rfl hg _ (fun hf=>by simp[aI.dG,hx,kx hf]) (fun hf=>by simp[aI.val,hx]) (fun ha=>h)
def r_or {c b:Src}{fc fb t y:Bool}(h:aJ Y draw r env (⟨f,.bool (t ||y)⟩::rs) nx m K)(hg:GF rs g f:=by exact dA)(hc:cL env rs c=⟨fc,.bool t⟩:=by exact rfl)(hb:cL env rs b=⟨fb,.bool y⟩:=by exact rfl)(kc:f=true->fc=true:=by exact cA)(kb:f=true->t=false->fb=true:=by intro h1 h2;first|(rw[h2];exact rfl)|(rw[h2,h1];rfl)|(rw[h1,h2];rfl)|simp_all):aJ Y draw (⟨.pick c (.c (.bool true)) b,g⟩::r) env rs nx m K:=
 cn rfl hg _ (fun hf=>by simp only[aI.dG,hc,hb];exact⟨kc hf,fun _=>rfl,fun e=>kb hf e⟩) (fun hf=>by simp only[aI.val,hc,hb];cases t<;>rfl) (fun _=>h)
def RN {c a:Src}{fc fa t y:Bool}(h:aJ Y draw r env (⟨f,.bool (t&&y)⟩::rs) nx m K)(hg:GF rs g f:=by exact dA)(hc:cL env rs c=⟨fc,.bool t⟩:=by exact rfl)(ha:cL env rs a=⟨fa,.bool y⟩:=by exact rfl)(kc:f=true->fc=true:=by exact cA)(ka:f=true->t=true->fa=true:=by intro h1 h2;first|(rw[h2];exact rfl)|(rw[h2,h1];rfl)|(rw[h1,h2];rfl)|simp_all):aJ Y draw (⟨.pick c a (.c (.bool false)),g⟩::r) env rs nx m K:=
 cn rfl hg _ (fun hf=>by simp only[aI.dG,hc,ha];exact⟨kc hf,fun e=>ka hf e,fun _=>rfl⟩) (fun hf=>by simp only[aI.val,hc,ha];cases t<;>rfl) (fun _=>h)
def aL {x y:Src}{fx fy:Bool}{a b:Int}(h:aJ Y draw r env (⟨f,.int .i64 (a+b)⟩::rs) nx m K)(hg:GF rs g f:=by exact dA)(hx:cL env rs x=⟨fx,.int .i64 a⟩:=by exact rfl)(hy:cL env rs y=⟨fy,.int .i64 b⟩:=by exact rfl)(kx:f=true->fx=true:=by exact cA)(ky:f=true->fy=true:=by exact cA)(hb:f=true->-9223372036854775808<=a+b/\a+b<=9223372036854775807:=by exact Bo):aJ Y draw (⟨.bin .add x y,g⟩::r) env rs nx m K:=
 cn rfl hg _ (fun hf=>by simp[aI.dG,hx,hy,kx hf,ky hf,iN]) (fun hf=>by simp only[aI.val,hx,hy,ji];rw[wrap_i64 (hb hf).1 (hb hf).2]) (fun ha=>h)
def fj {x y:Src}{fx fy:Bool}{a b:Int}(h:aJ Y draw r env (⟨f,.int .i64 (a-b)⟩::rs) nx m K)(hg:GF rs g f:=by exact dA)(hx:cL env rs x=⟨fx,.int .i64 a⟩:=by exact rfl)(hy:cL env rs y=⟨fy,.int .i64 b⟩:=by exact rfl)(kx:f=true->fx=true:=by exact cA)(ky:f=true->fy=true:=by exact cA)(hb:f=true->-9223372036854775808<=a-b/\a-b<=9223372036854775807:=by exact Bo):aJ Y draw (⟨.bin .sub x y,g⟩::r) env rs nx m K:=
 cn rfl hg _ (fun hf=>by simp[aI.dG,hx,hy,kx hf,ky hf,iN]) (fun hf=>by simp only[aI.val,hx,hy,ji];rw[wrap_i64 (hb hf).1 (hb hf).2]) (fun ha=>h)
def Ja {x y:Src}{fx fy:Bool}{k:IntKind}{a b:Int}(v:Int)(h:aJ Y draw r env (⟨f,.int k v⟩::rs) nx m K)(hg:GF rs g f:=by exact dA)(hx:cL env rs x=⟨fx,.int k a⟩:=by exact rfl)(hy:cL env rs y=⟨fy,.int k b⟩:=by exact rfl)(kx:f=true->fx=true:=by exact cA)(ky:f=true->fy=true:=by exact cA)(hb:f=true->k.wrap (a-b)=v):aJ Y draw (⟨.bin .sub x y,g⟩::r) env rs nx m K:=
 cn rfl hg _ (fun hf=>by simp[aI.dG,hx,hy,kx hf,ky hf,iN]) (fun hf=>by simp only[aI.val,hx,hy,ji];rw[hb hf]) (fun ha=>h)
def tV {x y:Src}{fx fy:Bool}{a b:Int}(h:aJ Y draw r env (⟨f,.int .i64 (a*b)⟩::rs) nx m K)(hg:GF rs g f:=by exact dA)(hx:cL env rs x=⟨fx,.int .i64 a⟩:=by exact rfl)(hy:cL env rs y=⟨fy,.int .i64 b⟩:=by exact rfl)(kx:f=true->fx=true:=by exact cA)(ky:f=true->fy=true:=by exact cA)(hb:f=true->-9223372036854775808<=a*b/\a*b<=9223372036854775807:=by exact Bo):aJ Y draw (⟨.bin .mul x y,g⟩::r) env rs nx m K:=
 cn rfl hg _ (fun hf=>by simp[aI.dG,hx,hy,kx hf,ky hf,iN]) (fun hf=>by simp only[aI.val,hx,hy,ji];rw[wrap_i64 (hb hf).1 (hb hf).2]) (fun ha=>h)
def RV {x y:Src}{fx fy:Bool}{k:IntKind}{a b:Int}(v:Int)(h:aJ Y draw r env (⟨f,.int k v⟩::rs) nx m K)(hg:GF rs g f:=by exact dA)(hx:cL env rs x=⟨fx,.int k a⟩:=by exact rfl)(hy:cL env rs y=⟨fy,.int k b⟩:=by exact rfl)(kx:f=true->fx=true:=by exact cA)(ky:f=true->fy=true:=by exact cA)(hn:f=true->b≠0)(hb:f=true->k.wrap (a.tdiv b)=v):aJ Y draw (⟨.bin .quo x y,g⟩::r) env rs nx m K:=
 cn rfl hg _ (fun hf=>by simp[aI.dG,hx,hy,kx hf,ky hf,iN,hn hf]) (fun hf=>by simp only[aI.val,hx,hy,ji];rw[hb hf]) (fun ha=>h)
def I7 {x y:Src}{fx fy:Bool}{k:IntKind}{a b:Int}(v:Int)(h:aJ Y draw r env (⟨f,.int k v⟩::rs) nx m K)(hg:GF rs g f:=by exact dA)(hx:cL env rs x=⟨fx,.int k a⟩:=by exact rfl)(hy:cL env rs y=⟨fy,.int k b⟩:=by exact rfl)(kx:f=true->fx=true:=by exact cA)(ky:f=true->fy=true:=by exact cA)(hn:f=true->b≠0)(hb:f=true->a.tmod b=v):aJ Y draw (⟨.bin .rem x y,g⟩::r) env rs nx m K:=
 cn rfl hg _ (fun hf=>by simp[aI.dG,hx,hy,kx hf,ky hf,iN,hn hf]) (fun hf=>by simp only[aI.val,hx,hy,ji];rw[hb hf]) (fun ha=>h)
def vS {x y:Src}{fx fy:Bool}{k k2:IntKind}{a b:Int}(v:Int)(h:aJ Y draw r env (⟨f,.int k v⟩::rs) nx m K)(hg:GF rs g f:=by exact dA)(hx:cL env rs x=⟨fx,.int k a⟩:=by exact rfl)(hy:cL env rs y=⟨fy,.int k2 b⟩:=by exact rfl)(kx:f=true->fx=true:=by exact cA)(ky:f=true->fy=true:=by exact cA)(hn:f=true->0<=b:=by exact wD)(hb:f=true->k.wrap (a*2^(min b.toNat k.bits))=v):aJ Y draw (⟨.bin .shl x y,g⟩::r) env rs nx m K:=
 cn rfl hg _ (fun hf=>by simp[aI.dG,hx,hy,kx hf,ky hf,iN,hn hf]) (fun hf=>by simp only[aI.val,hx,hy,ji];rw[hb hf]) (fun ha=>h)
def MN {x y:Src}{fx fy:Bool}{k k2:IntKind}{a b:Int}(v:Int)(h:aJ Y draw r env (⟨f,.int k v⟩::rs) nx m K)(hg:GF rs g f:=by exact dA)(hx:cL env rs x=⟨fx,.int k a⟩:=by exact rfl)(hy:cL env rs y=⟨fy,.int k2 b⟩:=by exact rfl)(kx:f=true->fx=true:=by exact cA)(ky:f=true->fy=true:=by exact cA)(hn:f=true->0<=b:=by exact wD)(hb:f=true->a.fdiv (2^(min b.toNat k.bits))=v):aJ Y draw (⟨.bin .shr x y,g⟩::r) env rs nx m K:=
 cn rfl hg _ (fun hf=>by simp[aI.dG,hx,hy,kx hf,ky hf,iN,hn hf]) (fun hf=>by simp only[aI.val,hx,hy,ji];rw[hb hf]) (fun ha=>h)
def gQ {x y:Src}{fx fy:Bool}{k:IntKind}{a b:Int}(v:Int)(h:aJ Y draw r env (⟨f,.int k v⟩::rs) nx m K)(hg:GF rs g f:=by exact dA)(hx:cL env rs x=⟨fx,.int k a⟩:=by exact rfl)(hy:cL env rs y=⟨fy,.int k b⟩:=by exact rfl)(kx:f=true->fx=true:=by exact cA)(ky:f=true->fy=true:=by exact cA)(hb:f=true->k.wrap (((BitVec.ofInt k.bits a)&&&(BitVec.ofInt k.bits b)).toNat)=v):aJ Y draw (⟨.bin .and x y,g⟩::r) env rs nx m K:=
 cn rfl hg _ (fun hf=>by simp[aI.dG,hx,hy,kx hf,ky hf,iN]) (fun hf=>by simp only[aI.val,hx,hy,ji];rw[hb hf]) (fun ha=>h)
def DR {x y:Src}{fx fy:Bool}{k:IntKind}{a b:Int}(v:Int)(h:aJ Y draw r env (⟨f,.int k v⟩::rs) nx m K)(hg:GF rs g f:=by exact dA)(hx:cL env rs x=⟨fx,.int k a⟩:=by exact rfl)(hy:cL env rs y=⟨fy,.int k b⟩:=by exact rfl)(kx:f=true->fx=true:=by exact cA)(ky:f=true->fy=true:=by exact cA)(hb:f=true->k.wrap (((BitVec.ofInt k.bits a) |||(BitVec.ofInt k.bits b)).toNat)=v):aJ Y draw (⟨.bin .or x y,g⟩::r) env rs nx m K:=
 cn rfl hg _ (fun hf=>by simp[aI.dG,hx,hy,kx hf,ky hf,iN]) (fun hf=>by simp only[aI.val,hx,hy,ji];rw[hb hf]) (fun ha=>h)
def oX {x y:Src}{fx fy:Bool}{k:IntKind}{a b:Int}(v:Int)(h:aJ Y draw r env (⟨f,.int k v⟩::rs) nx m K)(hg:GF rs g f:=by exact dA)(hx:cL env rs x=⟨fx,.int k a⟩:=by exact rfl)(hy:cL env rs y=⟨fy,.int k b⟩:=by exact rfl)(kx:f=true->fx=true:=by exact cA)(ky:f=true->fy=true:=by exact cA)(hb:f=true->k.wrap (((BitVec.ofInt k.bits a)&&& ~~~ (BitVec.ofInt k.bits b)).toNat)=v):aJ Y draw (⟨.bin .andNot x y,g⟩::r) env rs nx m K:=
 cn rfl hg _ (fun hf=>by simp[aI.dG,hx,hy,kx hf,ky hf,iN]) (fun hf=>by simp only[aI.val,hx,hy,ji];rw[hb hf]) (fun ha=>h)
def yZ {x y:Src}{fx fy:Bool}{k:IntKind}{a b:Int}(h:aJ Y draw r env (⟨f,.bool (decide (a<b))⟩::rs) nx m K)(hg:GF rs g f:=by exact dA)(hx:cL env rs x=⟨fx,.int k a⟩:=by exact rfl)(hy:cL env rs y=⟨fy,.int k b⟩:=by exact rfl)(kx:f=true->fx=true:=by exact cA)(ky:f=true->fy=true:=by exact cA):aJ Y draw (⟨.bin .lss x y,g⟩::r) env rs nx m K:=
 cn rfl hg _ (fun hf=>by simp[aI.dG,hx,hy,kx hf,ky hf,iN]) (fun hf=>by simp only[aI.val,hx,hy,ji]<;>rfl) (fun ha=>h)
def OJ {x y:Src}{fx fy:Bool}{k:IntKind}{a b:Int}(h:aJ Y draw r env (⟨f,.bool (decide (a<=b))⟩::rs) nx m K)(hg:GF rs g f:=by exact dA)(hx:cL env rs x=⟨fx,.int k a⟩:=by exact rfl)(hy:cL env rs y=⟨fy,.int k b⟩:=by exact rfl)(kx:f=true->fx=true:=by exact cA)(ky:f=true->fy=true:=by exact cA):aJ Y draw (⟨.bin .leq x y,g⟩::r) env rs nx m K:=
 cn rfl hg _ (fun hf=>by simp[aI.dG,hx,hy,kx hf,ky hf,iN]) (fun hf=>by simp only[aI.val,hx,hy,ji]<;>rfl) (fun ha=>h)
def OD {x y:Src}{fx fy:Bool}{k:IntKind}{a b:Int}(h:aJ Y draw r env (⟨f,.bool (decide (b<a))⟩::rs) nx m K)(hg:GF rs g f:=by exact dA)(hx:cL env rs x=⟨fx,.int k a⟩:=by exact rfl)(hy:cL env rs y=⟨fy,.int k b⟩:=by exact rfl)(kx:f=true->fx=true:=by exact cA)(ky:f=true->fy=true:=by exact cA):aJ Y draw (⟨.bin .gtr x y,g⟩::r) env rs nx m K:=
 cn rfl hg _ (fun hf=>by simp[aI.dG,hx,hy,kx hf,ky hf,iN]) (fun hf=>by simp only[aI.val,hx,hy,ji]<;>rfl) (fun ha=>h)
def OB {x y:Src}{fx fy:Bool}{k:IntKind}{a b:Int}(h:aJ Y draw r env (⟨f,.bool (decide (b<=a))⟩::rs) nx m K)(hg:GF rs g f:=by exact dA)(hx:cL env rs x=⟨fx,.int k a⟩:=by exact rfl)(hy:cL env rs y=⟨fy,.int k b⟩:=by exact rfl)(kx:f=true->fx=true:=by exact cA)(ky:f=true->fy=true:=by exact cA):aJ Y draw (⟨.bin .geq x y,g⟩::r) env rs nx m K:=
 cn rfl hg _ (fun hf=>by simp[aI.dG,hx,hy,kx hf,ky hf,iN]) (fun hf=>by simp only[aI.val,hx,hy,ji]<;>rfl) (fun ha=>h)
def Oz {x y:Src}{fx fy:Bool}{k:IntKind}{a b:Int}(h:aJ Y draw r env (⟨f,.bool (decide (a=b))⟩::rs) nx m K)(hg:GF rs g f:=by exact dA)(hx:cL env rs x=⟨fx,.int k a⟩:=by exact rfl)(hy:cL env rs y=⟨fy,.int k b⟩:=by exact rfl)(kx:f=true->fx=true:=by exact cA)(ky:f=true->fy=true:=by exact cA):aJ Y draw (⟨.bin .eql x y,g⟩::r) env rs nx m K:=
 cn rfl hg _ (fun hf=>by simp[aI.dG,hx,hy,kx hf,ky hf,iN]) (fun hf=>by simp only[aI.val,hx,hy,ji]<;>rfl) (fun ha=>h)
def OM {x y:Src}{fx fy:Bool}{k:IntKind}{a b:Int}(h:aJ Y draw r env (⟨f,.bool (!decide (a=b))⟩::rs) nx m K)(hg:GF rs g f:=by exact dA)(hx:cL env rs x=⟨fx,.int k a⟩:=by exact rfl)(hy:cL env rs y=⟨fy,.int k b⟩:=by exact rfl)(kx:f=true->fx=true:=by exact cA)(ky:f=true->fy=true:=by exact cA):aJ Y draw (⟨.bin .neq x y,g⟩::r) env rs nx m K:=
 cn rfl hg _ (fun hf=>by simp[aI.dG,hx,hy,kx hf,ky hf,iN]) (fun hf=>by simp only[aI.val,hx,hy,ji]<;>rfl) (fun ha=>h)
def OL {x y:Src}{fx fy:Bool}{a b:List UInt8}(h:aJ Y draw r env (⟨f,.bool (Op.bytesLess a b)⟩::rs) nx m K)(hg:GF rs g f:=by exact dA)(hx:cL env rs x=⟨fx,.str a⟩:=by exact rfl)(hy:cL env rs y=⟨fy,.str b⟩:=by exact rfl)(kx:f=true->fx=true:=by exact cA)(ky:f=true->fy=true:=by exact cA):aJ Y draw (⟨.bin .lss x y,g⟩::r) env rs nx m K:=
 cn rfl hg _ (fun hf=>by simp[aI.dG,hx,hy,kx hf,ky hf,iN]) (fun hf=>by simp only[aI.val,hx,hy,ji,mL]) (fun ha=>h)
def OK {x y:Src}{fx fy:Bool}{a b:List UInt8}(h:aJ Y draw r env (⟨f,.bool (Op.bytesLess a b ||decide (a=b))⟩::rs) nx m K)(hg:GF rs g f:=by exact dA)(hx:cL env rs x=⟨fx,.str a⟩:=by exact rfl)(hy:cL env rs y=⟨fy,.str b⟩:=by exact rfl)(kx:f=true->fx=true:=by exact cA)(ky:f=true->fy=true:=by exact cA):aJ Y draw (⟨.bin .leq x y,g⟩::r) env rs nx m K:=
 cn rfl hg _ (fun hf=>by simp[aI.dG,hx,hy,kx hf,ky hf,iN]) (fun hf=>by simp only[aI.val,hx,hy,ji,mL]) (fun ha=>h)
def OE {x y:Src}{fx fy:Bool}{a b:List UInt8}(h:aJ Y draw r env (⟨f,.bool (!(Op.bytesLess a b ||decide (a=b)))⟩::rs) nx m K)(hg:GF rs g f:=by exact dA)(hx:cL env rs x=⟨fx,.str a⟩:=by exact rfl)(hy:cL env rs y=⟨fy,.str b⟩:=by exact rfl)(kx:f=true->fx=true:=by exact cA)(ky:f=true->fy=true:=by exact cA):aJ Y draw (⟨.bin .gtr x y,g⟩::r) env rs nx m K:=
 cn rfl hg _ (fun hf=>by simp[aI.dG,hx,hy,kx hf,ky hf,iN]) (fun hf=>by simp only[aI.val,hx,hy,ji,mL]) (fun ha=>h)
def OC {x y:Src}{fx fy:Bool}{a b:List UInt8}(h:aJ Y draw r env (⟨f,.bool (!Op.bytesLess a b)⟩::rs) nx m K)(hg:GF rs g f:=by exact dA)(hx:cL env rs x=⟨fx,.str a⟩:=by exact rfl)(hy:cL env rs y=⟨fy,.str b⟩:=by exact rfl)(kx:f=true->fx=true:=by exact cA)(ky:f=true->fy=true:=by exact cA):aJ Y draw (⟨.bin .geq x y,g⟩::r) env rs nx m K:=
 cn rfl hg _ (fun hf=>by simp[aI.dG,hx,hy,kx hf,ky hf,iN]) (fun hf=>by simp only[aI.val,hx,hy,ji,mL]) (fun ha=>h)
def OA {x y:Src}{fx fy:Bool}{a b:List UInt8}(h:aJ Y draw r env (⟨f,.bool (decide (a=b))⟩::rs) nx m K)(hg:GF rs g f:=by exact dA)(hx:cL env rs x=⟨fx,.str a⟩:=by exact rfl)(hy:cL env rs y=⟨fy,.str b⟩:=by exact rfl)(kx:f=true->fx=true:=by exact cA)(ky:f=true->fy=true:=by exact cA):aJ Y draw (⟨.bin .eql x y,g⟩::r) env rs nx m K:=
 cn rfl hg _ (fun hf=>by simp[aI.dG,hx,hy,kx hf,ky hf,iN]) (fun hf=>by simp only[aI.val,hx,hy,ji,mL]) (fun ha=>h)
def ON {x y:Src}{fx fy:Bool}{a b:List UInt8}(h:aJ Y draw r env (⟨f,.bool (!decide (a=b))⟩::rs) nx m K)(hg:GF rs g f:=by exact dA)(hx:cL env rs x=⟨fx,.str a⟩:=by exact rfl)(hy:cL env rs y=⟨fy,.str b⟩:=by exact rfl)(kx:f=true->fx=true:=by exact cA)(ky:f=true->fy=true:=by exact cA):aJ Y draw (⟨.bin .neq x y,g⟩::r) env rs nx m K:=
 cn rfl hg _ (fun hf=>by simp[aI.dG,hx,hy,kx hf,ky hf,iN]) (fun hf=>by simp only[aI.val,hx,hy,ji,mL]) (fun ha=>h)
def AB {x y:Src}{fx fy:Bool}{ag:Bool}{ks:List CK}{a b:D}{v:Bool}(h:aJ Y draw r env (⟨f,.bool (v)⟩::rs) nx m K)(hb:ic a.cells b.cells=v)(hg:GF rs g f:=by exact dA)(hx:cL env rs x=⟨fx,a⟩:=by exact rfl)(hy:cL env rs y=⟨fy,b⟩:=by exact rfl)(kx:f=true->fx=true:=by exact cA)(ky:f=true->fy=true:=by exact cA)(h1:f=true->a.isAgg=ag/\b.isAgg=ag/\fg ks a.cells/\fg ks b.cells:=by exact sw):aJ Y draw (⟨.eqA false ag ks x y,g⟩::r) env rs nx m K:=
 cn rfl hg _ (fun hf=>by simp only[aI.dG,hx,hy];exact⟨kx hf,ky hf,h1 hf⟩) (fun hf=>by simp only[aI.val,hx,hy];rw[hb];rfl) (fun ha=>h)
def IW {x y:Src}{fx fy:Bool}{ag:Bool}{ks:List CK}{a b:D}{v:Bool}(h:aJ Y draw r env (⟨f,.bool (!v)⟩::rs) nx m K)(hb:ic a.cells b.cells=v)(hg:GF rs g f:=by exact dA)(hx:cL env rs x=⟨fx,a⟩:=by exact rfl)(hy:cL env rs y=⟨fy,b⟩:=by exact rfl)(kx:f=true->fx=true:=by exact cA)(ky:f=true->fy=true:=by exact cA)(h1:f=true->a.isAgg=ag/\b.isAgg=ag/\fg ks a.cells/\fg ks b.cells:=by exact sw):aJ Y draw (⟨.eqA true ag ks x y,g⟩::r) env rs nx m K:=
 cn rfl hg _ (fun hf=>by simp only[aI.dG,hx,hy];exact⟨kx hf,ky hf,h1 hf⟩) (fun hf=>by simp only[aI.val,hx,hy];rw[hb];rfl) (fun ha=>h)
def xI {x:Src}{fx:Bool}{k k2:IntKind}{a:Int}(v:Int)(h:aJ Y draw r env (⟨f,.int k v⟩::rs) nx m K)(hg:GF rs g f:=by exact dA)(hx:cL env rs x=⟨fx,.int k2 a⟩:=by exact rfl)(kx:f=true->fx=true:=by exact cA)(hb:f=true->k.wrap a=v):aJ Y draw (⟨.cvi k x,g⟩::r) env rs nx m K:=
 cn rfl hg _ (fun hf=>by simp[aI.dG,hx,kx hf]) (fun hf=>by simp only[aI.val,hx];rw[hb hf]) (fun ha=>h)
def I4 {x:Src}{fx:Bool}{s:List UInt8}(h:(f=true->draw=false->s.length<=9223372036854775807)->aJ Y draw r env (⟨f,.int .i64 s.length⟩::rs) nx m K)(hg:GF rs g f:=by exact dA)(hx:cL env rs x=⟨fx,.str s⟩:=by exact rfl)(kx:f=true->fx=true:=by exact cA):aJ Y draw (⟨.lenS x,g⟩::r) env rs nx m K:=
 cn rfl hg _ (fun hf=>by simp[aI.dG,hx,kx hf]) (fun hf=>by simp[aI.val,hx]) (fun ha=>h (fun hf hd=>by have:=ha hf;subst hd;simpa[aI.yo,hx,kx hf]using this))
def Cq {x:Src}{fx:Bool}{α:Type}{k:Nat}{q:α->D}{xs:List α}(h:(f=true->draw=false->xs.length<=9223372036854775807)->aJ Y draw r env (⟨f,.int .i64 xs.length⟩::rs) nx m K)(hg:GF rs g f:=by exact dA)(hx:cL env rs x=⟨fx,.sl k (xs.map q)⟩:=by exact rfl)(kx:f=true->fx=true:=by exact cA):aJ Y draw (⟨.len x,g⟩::r) env rs nx m K:=
 cn rfl hg _ (fun hf=>by simp[aI.dG,hx,kx hf]) (fun hf=>by simp[aI.val,hx]) (fun ha=>h (fun hf hd=>by have:=ha hf;subst hd;simpa[aI.yo,hx,kx hf]using this))
def I3 {x:Src}{fx:Bool}{l k i n:Nat}(h:(f=true->draw=false->n<=9223372036854775807)->aJ Y draw r env (⟨f,.int .i64 n⟩::rs) nx m K)(hg:GF rs g f:=by exact dA)(hx:cL env rs x=⟨fx,.own l k i n⟩:=by exact rfl)(kx:f=true->fx=true:=by exact cA):aJ Y draw (⟨.len x,g⟩::r) env rs nx m K:=
 cn rfl hg _ (fun hf=>by simp[aI.dG,hx,kx hf]) (fun hf=>by simp[aI.val,hx]) (fun ha=>h (fun hf hd=>by have:=ha hf;subst hd;simpa[aI.yo,hx,kx hf]using this))
def OI {x:Src}{fx:Bool}(h:aJ Y draw r env (⟨f,.int .i64 0⟩::rs) nx m K)(hg:GF rs g f:=by exact dA)(hx:cL env rs x=⟨fx,.aG⟩:=by exact rfl)(kx:f=true->fx=true:=by exact cA):aJ Y draw (⟨.len x,g⟩::r) env rs nx m K:=
 cn rfl hg _ (fun hf=>by simp[aI.dG,hx,kx hf]) (fun hf=>by simp[aI.val,hx]) (fun ha=>h)
def OO {x:Src}{fx:Bool}{l k i o:Nat}(h:aJ Y draw r env (⟨f,.ptr l k i o⟩::rs) nx m K)(hg:GF rs g f:=by exact dA)(hx:cL env rs x=⟨fx,.ptr l k i o⟩:=by exact rfl)(kx:f=true->fx=true:=by exact cA):aJ Y draw (⟨.nilck x,g⟩::r) env rs nx m K:=
 cn rfl hg _ (fun hf=>by simp[aI.dG,hx,kx hf]) (fun hf=>by simp[aI.val,hx]) (fun ha=>h)
def OP {x:Src}{fx:Bool}{k i o:Nat}{es:List D}(h:aJ Y draw r env (⟨f,.ref k es i o⟩::rs) nx m K)(hg:GF rs g f:=by exact dA)(hx:cL env rs x=⟨fx,.ref k es i o⟩:=by exact rfl)(kx:f=true->fx=true:=by exact cA):aJ Y draw (⟨.nilck x,g⟩::r) env rs nx m K:=
 cn rfl hg _ (fun hf=>by simp[aI.dG,hx,kx hf]) (fun hf=>by simp[aI.val,hx]) (fun ha=>h)
def IX {x:Src}{fx:Bool}{off l k i o:Nat}(h:aJ Y draw r env (⟨f,.ptr l k i (o+off)⟩::rs) nx m K)(hg:GF rs g f:=by exact dA)(hx:cL env rs x=⟨fx,.ptr l k i o⟩:=by exact rfl)(kx:f=true->fx=true:=by exact cA):aJ Y draw (⟨.fa off x,g⟩::r) env rs nx m K:=
 cn rfl hg _ (fun hf=>by simp[aI.dG,hx,kx hf]) (fun hf=>by simp[aI.val,hx]) (fun ha=>h)
def RO {x:Src}{fx:Bool}{off k i o:Nat}{es:List D}(h:aJ Y draw r env (⟨f,.ref k es i (o+off)⟩::rs) nx m K)(hg:GF rs g f:=by exact dA)(hx:cL env rs x=⟨fx,.ref k es i o⟩:=by exact rfl)(kx:f=true->fx=true:=by exact cA):aJ Y draw (⟨.fa off x,g⟩::r) env rs nx m K:=
 cn rfl hg _ (fun hf=>by simp[aI.dG,hx,kx hf]) (fun hf=>by simp[aI.val,hx]) (fun ha=>h)
def bn {x y:Src}{fx fy:Bool}{α:Type}{k:Nat}{q:α->D}{xs:List α}{i:Int}{kk:IntKind}(j:Nat)(h:aJ Y draw r env (⟨f,.ref k (xs.map q) j 0⟩::rs) nx m K)(hg:GF rs g f:=by exact dA)(hx:cL env rs x=⟨fx,.sl k (xs.map q)⟩:=by exact rfl)(hy:cL env rs y=⟨fy,.int kk i⟩:=by exact rfl)(kx:f=true->fx=true:=by exact cA)(ky:f=true->fy=true:=by exact cA)(hj:f=true->i=(j:Int):=by exact wC)(hb:f=true->j<xs.length:=by exact wD):aJ Y draw (⟨.ia k x y,g⟩::r) env rs nx m K:=
 cn rfl hg _ (fun hf=>by simp only[aI.dG,hx,hy,aD];exact⟨kx hf,ky hf,trivial,by have:=hj hf;omega,by have:=hj hf;have:=hb hf;omega⟩) (fun hf=>by simp only[aI.val,hx,hy];rw[hj hf];rfl) (fun ha=>h)
def gE {x y:Src}{fx fy:Bool}{l k i0 n:Nat}{i:Int}{kk:IntKind}(j:Nat)(h:aJ Y draw r env (⟨f,.ptr l k (i0+j) 0⟩::rs) nx m K)(hg:GF rs g f:=by exact dA)(hx:cL env rs x=⟨fx,.own l k i0 n⟩:=by exact rfl)(hy:cL env rs y=⟨fy,.int kk i⟩:=by exact rfl)(kx:f=true->fx=true:=by exact cA)(ky:f=true->fy=true:=by exact cA)(hj:f=true->i=(j:Int):=by exact wC)(hb:f=true->j<n:=by exact wD):aJ Y draw (⟨.ia k x y,g⟩::r) env rs nx m K:=
 cn rfl hg _ (fun hf=>by simp only[aI.dG,hx,hy];exact⟨kx hf,ky hf,trivial,by have:=hj hf;omega,by have:=hj hf;have:=hb hf;omega⟩) (fun hf=>by simp only[aI.val,hx,hy];rw[hj hf];rfl) (fun ha=>h)
def I0 {x y:Src}{fx fy:Bool}{s:List UInt8}{i:Int}{kk:IntKind}(j:Nat)(h:aJ Y draw r env (⟨f,.int .u8 (at8 s j)⟩::rs) nx m K)(hg:GF rs g f:=by exact dA)(hx:cL env rs x=⟨fx,.str s⟩:=by exact rfl)(hy:cL env rs y=⟨fy,.int kk i⟩:=by exact rfl)(kx:f=true->fx=true:=by exact cA)(ky:f=true->fy=true:=by exact cA)(hj:f=true->i=(j:Int):=by exact wC)(hb:f=true->j<s.length:=by exact wD):aJ Y draw (⟨.ixS x y,g⟩::r) env rs nx m K:=
 cn rfl hg _ (fun hf=>by simp only[aI.dG,hx,hy];exact⟨kx hf,ky hf,by have:=hj hf;omega,by have:=hj hf;have:=hb hf;omega⟩) (fun hf=>by simp only[aI.val,hx,hy];rw[hj hf];rfl) (fun ha=>h)
def IZ {x y:Src}{fx fy:Bool}{α:Type}{k:Nat}{q:α->D}{xs:List α}{i:Int}{kk:IntKind}(h:aJ Y draw r env (⟨f,.ref k (xs.map q) i.toNat 0⟩::rs) nx m K)(hg:GF rs g f:=by exact dA)(hx:cL env rs x=⟨fx,.sl k (xs.map q)⟩:=by exact rfl)(hy:cL env rs y=⟨fy,.int kk i⟩:=by exact rfl)(kx:f=true->fx=true:=by exact cA)(ky:f=true->fy=true:=by exact cA)(hb:f=true->0<=i/\i<(xs.length:Nat):=by exact Bo):aJ Y draw (⟨.ia k x y,g⟩::r) env rs nx m K:=
 cn rfl hg _ (fun hf=>by simp only[aI.dG,hx,hy,aD];exact⟨kx hf,ky hf,trivial,(hb hf).1,(hb hf).2⟩) (fun hf=>by simp only[aI.val,hx,hy]<;>rfl) (fun ha=>h)
def OF {x y:Src}{fx fy:Bool}{l k i0 n:Nat}{i:Int}{kk:IntKind}(h:aJ Y draw r env (⟨f,.ptr l k (i0+i.toNat) 0⟩::rs) nx m K)(hg:GF rs g f:=by exact dA)(hx:cL env rs x=⟨fx,.own l k i0 n⟩:=by exact rfl)(hy:cL env rs y=⟨fy,.int kk i⟩:=by exact rfl)(kx:f=true->fx=true:=by exact cA)(ky:f=true->fy=true:=by exact cA)(hb:f=true->0<=i/\i<(n:Nat):=by exact Bo):aJ Y draw (⟨.ia k x y,g⟩::r) env rs nx m K:=
 cn rfl hg _ (fun hf=>by simp only[aI.dG,hx,hy,aD];exact⟨kx hf,ky hf,trivial,(hb hf).1,(hb hf).2⟩) (fun hf=>by simp only[aI.val,hx,hy]<;>rfl) (fun ha=>h)
def OH {x y:Src}{fx fy:Bool}{s:List UInt8}{i:Int}{kk:IntKind}(h:aJ Y draw r env (⟨f,.int .u8 (at8 s i.toNat)⟩::rs) nx m K)(hg:GF rs g f:=by exact dA)(hx:cL env rs x=⟨fx,.str s⟩:=by exact rfl)(hy:cL env rs y=⟨fy,.int kk i⟩:=by exact rfl)(kx:f=true->fx=true:=by exact cA)(ky:f=true->fy=true:=by exact cA)(hb:f=true->0<=i/\i<(s.length:Nat):=by exact Bo):aJ Y draw (⟨.ixS x y,g⟩::r) env rs nx m K:=
 cn rfl hg _ (fun hf=>by simp only[aI.dG,hx,hy,aD];exact⟨kx hf,ky hf,(hb hf).1,(hb hf).2⟩) (fun hf=>by simp only[aI.val,hx,hy]<;>rfl) (fun ha=>h)
def AH {x y:Src}{fx fy:Bool}{s:List UInt8}{k2:IntKind}{a:Int}(i:Nat)(h:aJ Y draw r env (⟨f,.str (s.drop i)⟩::rs) nx m K)(hg:GF rs g f:=by exact dA)(hx:cL env rs x=⟨fx,.str s⟩:=by exact rfl)(hy:cL env rs y=⟨fy,.int k2 a⟩:=by exact rfl)(kx:f=true->fx=true:=by exact cA)(ky:f=true->fy=true:=by exact cA)(hi:f=true->a=(i:Int):=by exact wC)(hb:f=true->i<=s.length:=by exact wD):aJ Y draw (⟨.slS x (some y) none,g⟩::r) env rs nx m K:=
 cn rfl hg _ (fun hf=>by simp only[aI.dG,GW,dO,hx,hy];have:=hb hf;have:=hi hf;refine⟨kx hf,ky hf,trivial, ?_⟩;simp only[mN,ed,aP,aQ,Int.ofNat_eq_natCast];omega) (fun hf=>by simp only[aI.val,dO,ed,hx,hy];rw[hi hf];simp) (fun ha=>h)
def AE {x y:Src}{fx fy:Bool}{α:Type}{k:Nat}{q:α->D}{s:List α}{k2:IntKind}{a:Int}(i:Nat)(h:aJ Y draw r env (⟨f,.sl k ((s.drop i).map q)⟩::rs) nx m K)(hg:GF rs g f:=by exact dA)(hx:cL env rs x=⟨fx,.sl k (s.map q)⟩:=by exact rfl)(hy:cL env rs y=⟨fy,.int k2 a⟩:=by exact rfl)(kx:f=true->fx=true:=by exact cA)(ky:f=true->fy=true:=by exact cA)(hi:f=true->a=(i:Int):=by exact wC)(hb:f=true->i<=s.length:=by exact wD):aJ Y draw (⟨.slA k x (some y) none,g⟩::r) env rs nx m K:=
 cn rfl hg _ (fun hf=>by simp only[aI.dG,GW,dO,hx,hy,aD];have:=hb hf;have:=hi hf;refine⟨kx hf,ky hf,trivial,trivial, ?_⟩;simp only[mN,ed,aP,aQ,Int.ofNat_eq_natCast];omega) (fun hf=>by simp only[aI.val,dO,ed,hx,hy];rw[hi hf];first|(simp only[List.take_length,Int.toNat_natCast,List.map_drop];done)|simp[List.map_drop,List.map_take]) (fun ha=>h)
def I8 {x z:Src}{fx fz:Bool}{α:Type}{k:Nat}{q:α->D}{s:List α}{k3:IntKind}{c:Int}(j:Nat)(h:aJ Y draw r env (⟨f,.sl k ((s.take j).map q)⟩::rs) nx m K)(hg:GF rs g f:=by exact dA)(hx:cL env rs x=⟨fx,.sl k (s.map q)⟩:=by exact rfl)(hz:cL env rs z=⟨fz,.int k3 c⟩:=by exact rfl)(kx:f=true->fx=true:=by exact cA)(kz:f=true->fz=true:=by exact cA)(hj:f=true->c=(j:Int):=by exact wC)(hb:f=true->j<=s.length:=by exact wD):aJ Y draw (⟨.slA k x none (some z),g⟩::r) env rs nx m K:=
 cn rfl hg _ (fun hf=>by simp only[aI.dG,GW,dO,hx,hz,aD];have:=hb hf;have:=hj hf;refine⟨kx hf,trivial,kz hf,trivial, ?_⟩;simp only[mN,ed,aP,aQ,Int.ofNat_eq_natCast];omega) (fun hf=>by simp only[aI.val,dO,ed,hx,hz];rw[hj hf];first|(simp only[List.take_length,Int.toNat_natCast,List.map_drop];done)|simp[List.map_drop,List.map_take]) (fun ha=>h)
def AF {x z:Src}{fx fz:Bool}{l k i0 n:Nat}{k3:IntKind}{c:Int}(j:Nat)(h:aJ Y draw r env (⟨f,.own l k i0 j⟩::rs) nx m K)(hg:GF rs g f:=by exact dA)(hx:cL env rs x=⟨fx,.own l k i0 n⟩:=by exact rfl)(hz:cL env rs z=⟨fz,.int k3 c⟩:=by exact rfl)(kx:f=true->fx=true:=by exact cA)(kz:f=true->fz=true:=by exact cA)(hj:f=true->c=(j:Int):=by exact wC)(hb:f=true->j<=n:=by exact wD):aJ Y draw (⟨.slA k x none (some z),g⟩::r) env rs nx m K:=
 cn rfl hg _ (fun hf=>by simp only[aI.dG,GW,dO,hx,hz];have:=hb hf;have:=hj hf;refine⟨kx hf,trivial,kz hf,trivial, ?_⟩;simp only[mN,ed,aP,aQ,Int.ofNat_eq_natCast];omega) (fun hf=>by simp only[aI.val,dO,ed,hx,hz];rw[hj hf];simp) (fun ha=>h)
def AG {x y z:Src}{fx fy fz:Bool}{s:List UInt8}{k2:IntKind}{a:Int}(i:Nat){k3:IntKind}{c:Int}(j:Nat)(h:aJ Y draw r env (⟨f,.str ((s.take j).drop i)⟩::rs) nx m K)(hg:GF rs g f:=by exact dA)(hx:cL env rs x=⟨fx,.str s⟩:=by exact rfl)(hy:cL env rs y=⟨fy,.int k2 a⟩:=by exact rfl)(hz:cL env rs z=⟨fz,.int k3 c⟩:=by exact rfl)(kx:f=true->fx=true:=by exact cA)(ky:f=true->fy=true:=by exact cA)(kz:f=true->fz=true:=by exact cA)(hi:f=true->a=(i:Int):=by exact wC)(hj:f=true->c=(j:Int):=by exact wC)(hb:f=true->i<=j/\j<=s.length:=by exact Bo):aJ Y draw (⟨.slS x (some y) (some z),g⟩::r) env rs nx m K:=
 cn rfl hg _ (fun hf=>by simp only[aI.dG,GW,dO,hx,hy,hz];have:=hb hf;have:=hi hf;have:=hj hf;refine⟨kx hf,ky hf,kz hf, ?_⟩;simp only[mN,ed,aP,aQ,Int.ofNat_eq_natCast];omega) (fun hf=>by simp only[aI.val,dO,ed,hx,hy,hz];rw[hi hf,hj hf];simp) (fun ha=>h)
def I9 {x y z:Src}{fx fy fz:Bool}{α:Type}{k:Nat}{q:α->D}{s:List α}{k2:IntKind}{a:Int}(i:Nat){k3:IntKind}{c:Int}(j:Nat)(h:aJ Y draw r env (⟨f,.sl k (((s.take j).drop i).map q)⟩::rs) nx m K)(hg:GF rs g f:=by exact dA)(hx:cL env rs x=⟨fx,.sl k (s.map q)⟩:=by exact rfl)(hy:cL env rs y=⟨fy,.int k2 a⟩:=by exact rfl)(hz:cL env rs z=⟨fz,.int k3 c⟩:=by exact rfl)(kx:f=true->fx=true:=by exact cA)(ky:f=true->fy=true:=by exact cA)(kz:f=true->fz=true:=by exact cA)(hi:f=true->a=(i:Int):=by exact wC)(hj:f=true->c=(j:Int):=by exact wC)(hb:f=true->i<=j/\j<=s.length:=by exact Bo):aJ Y draw (⟨.slA k x (some y) (some z),g⟩::r) env rs nx m K:=
 cn rfl hg _ (fun hf=>by simp only[aI.dG,GW,dO,hx,hy,hz,aD];have:=hb hf;have:=hi hf;have:=hj hf;refine⟨kx hf,ky hf,kz hf,trivial, ?_⟩;simp only[mN,ed,aP,aQ,Int.ofNat_eq_natCast];omega) (fun hf=>by simp only[aI.val,dO,ed,hx,hy,hz];rw[hi hf,hj hf];first|(simp only[List.take_length,Int.toNat_natCast,List.map_drop];done)|simp[List.map_drop,List.map_take]) (fun ha=>h)
def gR {x:Src}{fx:Bool}{i:Nat}{ds:List D}(v:D)(h:aJ Y draw r env (⟨f,v⟩::rs) nx m K)(hg:GF rs g f:=by exact dA)(hx:cL env rs x=⟨fx,.tup ds⟩:=by exact rfl)(kx:f=true->fx=true:=by exact cA)(hv:f=true->ds.getD i .any=v:=by exact fun _=>rfl)(hb:f=true->i<ds.length:=by intro _;simp only[aY,bg];omega):aJ Y draw (⟨.ext x i,g⟩::r) env rs nx m K:=
 cn rfl hg _ (fun hf=>by simp only[aI.dG,hx];exact⟨kx hf,hb hf⟩) (fun hf=>by simp only[aI.val,hx];exact hv hf) (fun ha=>h)
def dI {z:List D}{ps:List (Nat×Nat×Src)}(v:List D)(h:aJ Y draw r env (⟨f,.agg v⟩::rs) nx m K)(hg:GF rs g f:=by exact dA)(hv:f=true->uJ (cL env rs) z ps=v:=by exact fun _=>rfl)(ho:f=true->xm (cL env rs) z.length ps:=by exact sw):aJ Y draw (⟨.build z ps,g⟩::r) env rs nx m K:=
 cn rfl hg _ (fun hf=>ho hf) (fun hf=>by simp only[aI.val];rw[hv hf]) (fun _=>h)
def bK {z:List D}{ps:List (Nat×Nat×Src)}(d:D)(h:aJ Y draw r env (⟨f,d⟩::rs) nx m K)(hg:GF rs g f:=by exact dA)(hv:f=true->D.agg (uJ (cL env rs) z ps)=d:=by exact fun _=>rfl)(ho:f=true->xm (cL env rs) z.length ps:=by exact sw):aJ Y draw (⟨.build z ps,g⟩::r) env rs nx m K:=
 cn rfl hg _ (fun hf=>ho hf) (fun hf=>by simp only[aI.val];exact hv hf) (fun _=>h)
def Oa {e:D}{n o:Nat}{ag:Bool}(h:e.isAgg=ag):mZ e n n o ag=e:=by simp[mZ,h]
def bd {x:Src}{fx:Bool}{n l:Nat}{ag:Bool}{d:D}(h:aJ Y draw r env (⟨f,d⟩::rs) nx m K)(hg:GF rs g f:=by exact dA)(hx:cL env rs x=⟨fx,.ptr l n 0 0⟩:=by exact rfl)(kx:f=true->fx=true:=by exact cA)(hl:f=true->look m l=some (.buf n [d]):=by exact fun _=>rfl)(ha:f=true->d.isAgg=ag:=by exact fun _=>rfl):aJ Y draw (⟨.ld n ag x,g⟩::r) env rs nx m K:=
 fA rfl hg _ (fun hf=>by simp only[aI.dG,hx,wK,ew,hl hf];exact⟨kx hf,⟨trivial,bz⟩,ae⟩) (fun hf=>by simp only[aI.val,hx,tn,ba,hl hf,gW];exact Oa (ha hf)) m rfl (fun ha=>h)
def az {x:Src}{fx:Bool}{n l k o:Nat}{ag:Bool}{d:D}(v:D)(h:aJ Y draw r env (⟨f,v⟩::rs) nx m K)(hg:GF rs g f:=by exact dA)(hx:cL env rs x=⟨fx,.ptr l k 0 o⟩:=by exact rfl)(kx:f=true->fx=true:=by exact cA)(hl:f=true->look m l=some (.buf k [d]):=by exact fun _=>rfl)(hv:f=true->mZ d k n o ag=v:=by exact fun _=>rfl)(ho:o+n<=k:=by omega):aJ Y draw (⟨.ld n ag x,g⟩::r) env rs nx m K:=
 fA rfl hg _ (fun hf=>by simp only[aI.dG,hx,wK,ew,hl hf];exact⟨kx hf,⟨trivial,bz⟩,ho⟩) (fun hf=>by simp only[aI.val,hx,tn,ba,hl hf,gW];exact hv hf) m rfl (fun ha=>h)
def vQ {x:Src}{fx:Bool}{n l k i o:Nat}{ag:Bool}{es:List D}(v:D)(h:aJ Y draw r env (⟨f,v⟩::rs) nx m K)(hg:GF rs g f:=by exact dA)(hx:cL env rs x=⟨fx,.ptr l k i o⟩:=by exact rfl)(kx:f=true->fx=true:=by exact cA)(hl:f=true->look m l=some (.buf k es):=by exact fun _=>rfl)(hi:f=true->i<es.length)(hv:f=true->mZ (es.getD i .any) k n o ag=v)(ho:o+n<=k:=by omega):aJ Y draw (⟨.ld n ag x,g⟩::r) env rs nx m K:=
 fA rfl hg _ (fun hf=>by simp only[aI.dG,hx,wK,ew,hl hf];exact⟨kx hf,⟨trivial,by have:=hi hf;omega⟩,ho⟩) (fun hf=>by simp only[aI.val,hx,tn,ba,hl hf];exact hv hf) m rfl (fun ha=>h)
def jY {x:Src}{fx:Bool}{α:Type} [Inhabited α]{n l k i o:Nat}{ag:Bool}{q:α->D}{xs:List α}(v:D)(h:aJ Y draw r env (⟨f,v⟩::rs) nx m K)(hg:GF rs g f:=by exact dA)(hx:cL env rs x=⟨fx,.ptr l k i o⟩:=by exact rfl)(kx:f=true->fx=true:=by exact cA)(hl:f=true->look m l=some (.buf k (xs.map q)):=by exact fun _=>rfl)(hi:f=true->i<xs.length:=by exact wD)(hv:f=true->mZ (q xs[i]!) k n o ag=v:=by exact fun _=>rfl)(ho:o+n<=k:=by omega):aJ Y draw (⟨.ld n ag x,g⟩::r) env rs nx m K:=
 fA rfl hg _ (fun hf=>by simp only[aI.dG,hx,wK,ew,hl hf,aD];exact⟨kx hf,⟨trivial,by have:=hi hf;omega⟩,ho⟩) (fun hf=>by simp only[aI.val,hx,tn,ba,hl hf];rw[getD_map (hi hf)];exact hv hf) m rfl (fun ha=>h)
def bj {x:Src}{fx:Bool}{α:Type} [Inhabited α]{n k i o:Nat}{ag:Bool}{q:α->D}{xs:List α}(v:D)(h:aJ Y draw r env (⟨f,v⟩::rs) nx m K)(hg:GF rs g f:=by exact dA)(hx:cL env rs x=⟨fx,.ref k (xs.map q) i o⟩:=by exact rfl)(kx:f=true->fx=true:=by exact cA)(hi:f=true->i<xs.length:=by exact wD)(hv:f=true->mZ (q xs[i]!) k n o ag=v:=by exact fun _=>rfl)(ho:o+n<=k:=by omega):aJ Y draw (⟨.ld n ag x,g⟩::r) env rs nx m K:=
 fA rfl hg _ (fun hf=>by simp only[aI.dG,hx,wK,aD];exact⟨kx hf,hi hf,ho⟩) (fun hf=>by simp only[aI.val,hx,tn];rw[getD_map (hi hf)];exact hv hf) m rfl (fun ha=>h)
def fQ {x:Src}{fx:Bool}{n k i o:Nat}{ag:Bool}{es:List D}(v:D)(h:aJ Y draw r env (⟨f,v⟩::rs) nx m K)(hg:GF rs g f:=by exact dA)(hx:cL env rs x=⟨fx,.ref k es i o⟩:=by exact rfl)(kx:f=true->fx=true:=by exact cA)(hi:f=true->i<es.length:=by intro _;simp only[aY,bg];omega)(hv:f=true->mZ (es.getD i .any) k n o ag=v:=by exact fun _=>rfl)(ho:o+n<=k:=by omega):aJ Y draw (⟨.ld n ag x,g⟩::r) env rs nx m K:=
 fA rfl hg _ (fun hf=>by simp only[aI.dG,hx,wK];exact⟨kx hf,hi hf,ho⟩) (fun hf=>by simp only[aI.val,hx,tn];exact hv hf) m rfl (fun ha=>h)
def MM {x:Src}{fx:Bool}{k:Nat}{d:D}{L:Nat}{m2:List (Nat×bT)}(h:aJ Y draw r env (⟨f,.ptr L k 0 0⟩::rs) nx m2 K)(hg:GF rs g f:=by exact dA)(hx:cL env rs x=⟨fx,d⟩:=by exact rfl)(kx:f=true->fx=true:=by exact cA)(hc:d.cells.length=k:=by exact rfl)(hL:nx+rs.length=L:=by exact tD)(hm:cR m L (.buf k [d])=m2:=by simp only[cR,bF,Nat.reduceEqDiff,aF,aE,Nat.reduceAdd,reduceCtorEq];exact rfl):aJ Y draw (⟨.box k x,g⟩::r) env rs nx m K:=
 fA rfl hg _ (fun hf=>by simp only[aI.dG,hx];exact⟨kx hf,hc⟩) (fun hf=>by simp only[aI.val,hx,hL]) _ (by simp only[aI.cy,hx,hL];exact hm) (fun _=>h)
def RP {L:Nat}{m2:List (Nat×bT)}(h:aJ Y draw r env (⟨f,.ptr L 2 0 0⟩::rs) nx m2 K)(hg:GF rs g f:=by exact dA)(hL:nx+rs.length=L:=by exact tD)(hm:cR m L (.bld none 0 false)=m2:=by simp only[cR,bF,Nat.reduceEqDiff,aF,aE,Nat.reduceAdd,reduceCtorEq];exact rfl):aJ Y draw (⟨.mkB,g⟩::r) env rs nx m K:=
 fA rfl hg _ (fun _=>trivial) (fun hf=>by simp only[aI.val,hL]) _ (by simp only[aI.cy,hL];exact hm) (fun _=>h)
def RX {x:Src}{fx:Bool}{s:List UInt8}{L:Nat}{m2:List (Nat×bT)}(h:aJ Y draw r env (⟨f,.own L 1 0 s.length⟩::rs) nx m2 K)(hg:GF rs g f:=by exact dA)(hx:cL env rs x=⟨fx,.str s⟩:=by exact rfl)(kx:f=true->fx=true:=by exact cA)(hL:nx+rs.length=L:=by exact tD)(hm:cR m L (.buf 1 (s.map fun b=>.int .u8 b.toNat))=m2:=by simp only[cR,bF,Nat.reduceEqDiff,aF,aE,Nat.reduceAdd,reduceCtorEq];exact rfl):aJ Y draw (⟨.s2b x,g⟩::r) env rs nx m K:=
 fA rfl hg _ (fun hf=>by simp only[aI.dG,hx];exact⟨kx hf,trivial⟩) (fun hf=>by simp only[aI.val,hx,hL]) _ (by simp only[aI.cy,hx,hL];exact hm) (fun _=>h)
def RW {x:Src}{fx:Bool}{s:List UInt8}{L:Nat}{m2:List (Nat×bT)}(h:aJ Y draw r env (⟨f,.it L⟩::rs) nx m2 K)(hg:GF rs g f:=by exact dA)(hx:cL env rs x=⟨fx,.str s⟩:=by exact rfl)(kx:f=true->fx=true:=by exact cA)(hL:nx+rs.length=L:=by exact tD)(hm:cR m L (.iter s 0)=m2:=by simp only[cR,bF,Nat.reduceEqDiff,aF,aE,Nat.reduceAdd,reduceCtorEq];exact rfl):aJ Y draw (⟨.rng x,g⟩::r) env rs nx m K:=
 fA rfl hg _ (fun hf=>by simp only[aI.dG,hx];exact⟨kx hf,trivial⟩) (fun hf=>by simp only[aI.val,hx,hL]) _ (by simp only[aI.cy,hx,hL];exact hm) (fun _=>h)
def cH {k n:Nat}{z:D}{ps:List (Nat×Src)}{L:Nat}{m2:List (Nat×bT)}(es:List D)(h:aJ Y draw r env (⟨f,.own L k 0 n⟩::rs) nx m2 K)(hg:GF rs g f:=by exact dA)(he:jR (cL env rs) (List.replicate n z) ps=es:=by exact rfl)(ho:f=true->n7 (cL env rs) k n ps:=by exact sw)(hz:z.cells.length=k:=by exact rfl)(hL:nx+rs.length=L:=by exact tD)(hm:cR m L (.buf k es)=m2:=by simp only[cR,bF,Nat.reduceEqDiff,aF,aE,Nat.reduceAdd,reduceCtorEq];exact rfl):aJ Y draw (⟨.bsl k z n ps,g⟩::r) env rs nx m K:=
 fA rfl hg _ (fun hf=>⟨hz,ho hf⟩) (fun hf=>by simp only[aI.val,hL]) _ (by simp only[aI.cy,he,hL];exact hm) (fun _=>h)
def dm {n l k o:Nat}{x y:Src}{d v:D}{m2:List (Nat×bT)}(e:D)(h:aJ Y draw r env (⟨true,.any⟩::rs) nx m2 K)(hx:cL env rs x=⟨true,.ptr l k 0 o⟩:=by exact rfl)(hy:cL env rs y=⟨true,v⟩:=by exact rfl)(hl:look m l=some (.buf k [d]):=by exact rfl)(hc:v.cells.length=n:=by exact rfl)(he:oC d k n o v=e:=by exact rfl)(ho:o+n<=k:=by omega)(hm:cR m l (.buf k [e])=m2:=by simp only[cR,bF,Nat.reduceEqDiff,aF,aE,Nat.reduceAdd,reduceCtorEq];exact rfl):aJ Y draw (⟨.st n x y,none⟩::r) env rs nx m K:=
 qf rfl _ (by simp only[aI.dG,hx,hy,ew,hl];exact⟨trivial,trivial,hc,⟨trivial,bz⟩,ho⟩) rfl _ (by simp only[aI.cy,hx,hy,ba,hl,gW,List.set_cons_zero,he];exact hm) (fun _=>h)
def jr {n l k i o:Nat}{x y:Src}{v:D}{es:List D}{m2:List (Nat×bT)}(es2:List D)(h:aJ Y draw r env (⟨true,.any⟩::rs) nx m2 K)(hx:cL env rs x=⟨true,.ptr l k i o⟩:=by exact rfl)(hy:cL env rs y=⟨true,v⟩:=by exact rfl)(hl:look m l=some (.buf k es):=by exact rfl)(hi:i<es.length)(hc:v.cells.length=n:=by exact rfl)(he:es.set i (oC (es.getD i .any) k n o v)=es2)(ho:o+n<=k:=by omega)(hm:cR m l (.buf k es2)=m2:=by simp only[cR,bF,Nat.reduceEqDiff,aF,aE,Nat.reduceAdd,reduceCtorEq];exact rfl):aJ Y draw (⟨.st n x y,none⟩::r) env rs nx m K:=
 qf rfl _ (by simp only[aI.dG,hx,hy,ew,hl];exact⟨trivial,trivial,hc,⟨trivial,ae⟩,ho⟩) rfl _ (by simp only[aI.cy,hx,hy,ba,hl,he];exact hm) (fun _=>h)
def pe (m:List (Nat×bT))(k:Nat)(d:D)(ys:List D):Prop:=yz m k d/\ny m d=ys
def pe.sl {k:Nat}{es:List D}:pe m k (.sl k es) es:=⟨rfl,rfl⟩
def pe.aG {k:Nat}:pe m k .aG []:=⟨trivial,rfl⟩
def pe.own {l k i n:Nat}{es:List D}(hl:look m l=some (.buf k es))(hb:i+n<=es.length):pe m k (.own l k i n) ((es.drop i).take n):=⟨⟨rfl,by simp only[ew,hl];exact⟨trivial,hb⟩⟩,by simp only[ny,ba,hl]⟩
def pe.all {l k n:Nat}{es:List D}(hl:look m l=some (.buf k es))(hb:n=es.length):pe m k (.own l k 0 n) es:=by
 have:=pe.own (i:=0) (n:=n) hl ae;simpa[hb]using this
def pe.str {s:List UInt8}:pe m 1 (.str s) (s.map fun b=>.int .u8 b.toNat):=⟨rfl,rfl⟩
def vP {k n:Nat}{x y:Src}{d:D}{ys:List D}{L:Nat}{m2:List (Nat×bT)}(h:aJ Y draw r env (⟨true,.own L k 0 n⟩::rs) nx m2 K)(hx:cL env rs x=⟨true,.aG⟩:=by exact rfl)(hy:cL env rs y=⟨true,d⟩:=by exact rfl)(he:pe m k d ys)(hn:ys.length=n)(hb:n<=1073741824:=by omega)(hL:nx+rs.length=L:=by exact tD)(hm:cR m L (.buf k ys)=m2:=by simp only[cR,bF,Nat.reduceEqDiff,aF,aE,Nat.reduceAdd,reduceCtorEq];exact rfl):aJ Y draw (⟨.app k x y,none⟩::r) env rs nx m K:=
 qf rfl _ (by simp only[aI.dG,hx,hy,he.2,hn];exact⟨trivial,trivial,he.1,hb⟩) (by simp only[aI.val,hx,hy,he.2,hn,hL]) _ (by simp only[aI.cy,hx,hy,he.2,hL];exact hm) (fun _=>h)
def LA {k n:Nat}{y:Src}{fy:Bool}{d:D}{ys:List D}{L:Nat}{m2:List (Nat×bT)}(h:aJ Y draw r env (⟨f,.own L k 0 n⟩::rs) nx m2 K)(hg:GF rs g f:=by exact dA)(hy:cL env rs y=⟨fy,d⟩:=by exact rfl)(ky:f=true->fy=true:=by exact cA)(he:pe m k d ys)(hn:ys.length=n)(hb:n<=1073741824:=by omega)(hL:nx+rs.length=L:=by exact tD)(hm:cR m L (.buf k ys)=m2:=by simp only[cR,bF,Nat.reduceEqDiff,aF,aE,Nat.reduceAdd,reduceCtorEq];exact rfl):aJ Y draw (⟨.appN k y,g⟩::r) env rs nx m K:=
 fA rfl hg _ (fun hf=>by simp only[aI.dG,hy,he.2,hn];exact⟨ky hf,he.1,hb⟩) (fun hf=>by simp only[aI.val,hy,he.2,hn,hL]) _ (by simp only[aI.cy,hy,he.2,hL];exact hm) (fun _=>h)
def qT {k l i a n:Nat}{x y:Src}{d:D}{xs ys:List D}{L:Nat}{m2:List (Nat×bT)}(zs:List D)(h:aJ Y draw r env (⟨true,.own L k 0 n⟩::rs) nx m2 K)(hx:cL env rs x=⟨true,.own l k i a⟩:=by exact rfl)(hy:cL env rs y=⟨true,d⟩:=by exact rfl)(hl:look m l=some (.buf k xs):=by exact rfl)(ha:i+a<=xs.length)(he:pe m k d ys)(hz:(xs.drop i).take a++ys=zs)(hn:a+ys.length=n)(hb:n<=1073741824:=by omega)(hL:nx+rs.length=L:=by exact tD)(hm:cR (bF m l) L (.buf k zs)=m2:=by simp only[cR,bF,Nat.reduceEqDiff,aF,aE,Nat.reduceAdd,reduceCtorEq];exact rfl):aJ Y draw (⟨.app k x y,none⟩::r) env rs nx m K:=
 qf rfl _ (by simp only[aI.dG,hx,hy,he.2,ew,hl,hn];exact⟨trivial,trivial,he.1,trivial,⟨trivial,ha⟩,hb⟩) (by simp only[aI.val,hx,hy,he.2,hn,hL]) _ (by simp only[aI.cy,hx,hy,he.2,ba,hl,hz,hL];exact hm) (fun _=>h)
def ee {α:Type}{q:α->D}{xs:List α}{e:α}{k l ly:Nat}{x y:Src}{L:Nat}{m2:List (Nat×bT)}(h:aJ Y draw r env (⟨true,.own L k 0 (xs++[e]).length⟩::rs) nx m2 K)(hx:cL env rs x=⟨true,.own l k 0 xs.length⟩:=by exact rfl)(hy:cL env rs y=⟨true,.own ly k 0 1⟩:=by exact rfl)(hl:look m l=some (.buf k (xs.map q)):=by exact rfl)(he:look m ly=some (.buf k [q e]):=by exact rfl)(hb:xs.length+1<=1073741824:=by omega)(hL:nx+rs.length=L:=by exact tD)(hm:cR (bF m l) L (.buf k ((xs++[e]).map q))=m2:=by simp only[cR,bF,Nat.reduceEqDiff,aF,aE,Nat.reduceAdd,reduceCtorEq];exact rfl):aJ Y draw (⟨.app k x y,none⟩::r) env rs nx m K:=
 qT (zs:=(xs++[e]).map q) (hx:=hx) (hy:=hy) (hl:=hl) (ha:=bz) (he:=pe.all (es:=[q e]) he rfl) (hz:=by rw[aO,eZ bz];simp) (hn:=bz) (hb:=eB) (hL:=hL) (hm:=hm) (h:=h)
def yW {α:Type}{q:α->D}{xs ys:List α}{k l:Nat}{x y:Src}{d:D}{L:Nat}{m2:List (Nat×bT)}(h:aJ Y draw r env (⟨true,.own L k 0 (xs++ys).length⟩::rs) nx m2 K)(hx:cL env rs x=⟨true,.own l k 0 xs.length⟩:=by exact rfl)(hy:cL env rs y=⟨true,d⟩:=by exact rfl)(hl:look m l=some (.buf k (xs.map q)):=by exact rfl)(he:pe m k d (ys.map q))(hb:xs.length+ys.length<=1073741824:=by omega)(hL:nx+rs.length=L:=by exact tD)(hm:cR (bF m l) L (.buf k ((xs++ys).map q))=m2:=by simp only[cR,bF,Nat.reduceEqDiff,aF,aE,Nat.reduceAdd,reduceCtorEq];exact rfl):aJ Y draw (⟨.app k x y,none⟩::r) env rs nx m K:=
 qT (zs:=(xs++ys).map q) (hx:=hx) (hy:=hy) (hl:=hl) (ha:=bz) (he:=he) (hz:=by rw[aO,eZ bz];simp) (hn:=bz) (hb:=eB) (hL:=hL) (hm:=hm) (h:=h)
def I6 {x:Src}{l pos:Nat}{s:List UInt8}{m2:List (Nat×bT)}(c w:Nat)(h:aJ Y draw r env (⟨true,.tup [.bool true,.int .i64 pos,.int .i32 c]⟩::rs) nx m2 K)(hx:cL env rs x=⟨true,.it l⟩:=by exact rfl)(hl:look m l=some (.iter s pos):=by exact rfl)(hp:pos<s.length)(hc:rv s pos=(c,w))(hm:cR m l (.iter s (pos+w))=m2:=by simp only[cR,bF,Nat.reduceEqDiff,aF,aE,Nat.reduceAdd,reduceCtorEq];exact rfl):aJ Y draw (⟨.bR x,none⟩::r) env rs nx m K:=
 qf rfl _ (by simp only[aI.dG,hx,hl];exact⟨trivial,trivial⟩) (by simp only[aI.val,hx,hl,hc,hp,decide_true,cond_true]) _ (by simp only[aI.cy,hx,hl,hc,hp,decide_true,cond_true];exact hm) (fun _=>h)
def I5 {x:Src}{l pos:Nat}{s:List UInt8}(h:aJ Y draw r env (⟨true,.tup [.bool false]⟩::rs) nx m K)(hx:cL env rs x=⟨true,.it l⟩:=by exact rfl)(hl:look m l=some (.iter s pos):=by exact rfl)(hp:¬pos<s.length):aJ Y draw (⟨.bR x,none⟩::r) env rs nx m K:=
 qf rfl _ (by simp only[aI.dG,hx,hl];exact⟨trivial,trivial⟩) (by simp only[aI.val,hx,hl,hp,decide_false,cond_false]) _ (by simp only[aI.cy,hx,hl,hp,decide_false,cond_false]) (fun _=>h)
def au {n:Nat}{args:List Src}{sh:List (List Sh)}{Z1:List D}{v:D}(h:aJ Y draw r env (⟨f,v⟩::rs) nx m K)(hg:GF rs g f:=by exact dA)(hc:Y.pre n Z1/\Y.val n Z1=v)(ha:f=true->jC m sh (gL (cL env rs) args)=Z1:=by exact fun _=>rfl)(ho:f=true->sO (cL env rs) args:=by exact sw)(hp:f=true->je m sh (gL (cL env rs) args):=by exact sw)(hk:f=true->nV (gL (cL env rs) args) v=true:=by exact fun _=>rfl):aJ Y draw (⟨.call n args sh,g⟩::r) env rs nx m K:=
 fA rfl hg _ (fun hf=>by simp only[aI.dG,(c9 _ _ _).1,ha hf,hc.2];exact⟨ho hf,(c9 _ _ _).2.2 (hp hf),hc.1,hk hf⟩) (fun hf=>by simp only[aI.val,(c9 _ _ _).1,ha hf,hc.2]) m rfl (fun _=>h)
def cj {n:Nat}{args:List Src}{sh:List (List Sh)}{Z1:List D}{v:D}(h:aJ Y draw r env (⟨f,v⟩::rs) nx m K)(hg:GF rs g f:=by exact dA)(hc:f=true->Y.pre n Z1/\Y.val n Z1=v)(ha:f=true->jC m sh (gL (cL env rs) args)=Z1:=by exact fun _=>rfl)(ho:f=true->sO (cL env rs) args:=by exact sw)(hp:f=true->je m sh (gL (cL env rs) args):=by exact sw)(hk:f=true->nV (gL (cL env rs) args) v=true:=by exact fun _=>rfl):aJ Y draw (⟨.call n args sh,g⟩::r) env rs nx m K:=
 fA rfl hg _ (fun hf=>by simp only[aI.dG,(c9 _ _ _).1,ha hf,(hc hf).2];exact⟨ho hf,(c9 _ _ _).2.2 (hp hf),(hc hf).1,hk hf⟩) (fun hf=>by simp only[aI.val,(c9 _ _ _).1,ha hf,(hc hf).2]) m rfl (fun _=>h)
def tT {n:Nat}{x:Src}{fx:Bool}{caps:List D}{args:List Src}{sh:List (List Sh)}{Z1:List D}{v:D}(h:aJ Y draw r env (⟨f,v⟩::rs) nx m K)(hg:GF rs g f:=by exact dA)(hx:cL env rs x=⟨fx,.fn n caps⟩:=by exact rfl)(kx:f=true->fx=true:=by exact cA)(hb:n<1000000:=by decide)(hc:f=true->Y.pre n Z1/\Y.val n Z1=v)(ha:f=true->jC m sh (gL (cL env rs) args++caps)=Z1:=by exact fun _=>rfl)(ho:f=true->sO (cL env rs) args:=by exact sw)(hp:f=true->je m sh (gL (cL env rs) args++caps):=by exact sw)(hk:f=true->nV (gL (cL env rs) args++caps) v=true:=by exact fun _=>rfl):aJ Y draw (⟨.callv x args sh,g⟩::r) env rs nx m K:=
 fA rfl hg _ (fun hf=>by simp only[aI.dG,hx,(c9 _ _ _).1,ha hf,(hc hf).2];exact⟨kx hf,ho hf,hb,(c9 _ _ _).2.2 (hp hf),(hc hf).1,hk hf⟩) (fun hf=>by simp only[aI.val,hx,(c9 _ _ _).1,ha hf,(hc hf).2]) m rfl (fun _=>h)
def DS {n:Nat}{caps:List Src}(cs:List D)(h:aJ Y draw r env (⟨f,.fn n cs⟩::rs) nx m K)(hg:GF rs g f:=by exact dA)(hc:f=true->gL (cL env rs) caps=cs:=by exact fun _=>rfl)(ho:f=true->sO (cL env rs) caps:=by exact sw):aJ Y draw (⟨.mkf n caps,g⟩::r) env rs nx m K:=
 cn rfl hg _ (fun hf=>ho hf) (fun hf=>by simp only[aI.val,hc hf]) (fun _=>h)
def jM {n l k:Nat}{x:Src}{args:List Src}{sh:List (List Sh)}{d v e:D}{Z1:List D}{m2:List (Nat×bT)}(h:aJ Y draw r env (⟨true,v⟩::rs) nx m2 K)(hx:cL env rs x=⟨true,.ptr l k 0 0⟩:=by exact rfl)(hl:look m l=some (.buf k [d]):=by exact rfl)(hd:d.bm=true:=by exact rfl)(hc:Y.fp n d Z1/\Y.fv n d Z1=v/\Y.fs n d Z1=e)(ha:jC [] sh (gL (cL env rs) args)=Z1:=by exact rfl)(ho:sO (cL env rs) args:=by repeat' first|exact trivial|exact rfl|refine And.intro ?_ ?_|decide)(hn:aW (gL (cL env rs) args)=true:=by exact rfl)(hm:cR m l (.buf k [e])=m2:=by simp only[cR,bF,Nat.reduceEqDiff,aF,aE,Nat.reduceAdd,reduceCtorEq];exact rfl):aJ Y draw (⟨.callF n x args sh,none⟩::r) env rs nx m K:=
 qf rfl _ (by simp only[aI.dG,hx,ew,ba,hl,gW,(c9 _ _ _).1,ha];exact⟨trivial,ho,hn,trivial,trivial,⟨trivial,bz⟩,bz,hd,hc.1⟩) (by simp only[aI.val,hx,ba,hl,gW,(c9 _ _ _).1,ha,hc.2.1]) _ (by simp only[aI.cy,hx,ba,hl,gW,(c9 _ _ _).1,ha,hc.2.2];exact hm) (fun _=>h)
end
end
end Go.Abs
section
namespace Go.Abs
abbrev dF:=List UInt8
structure bp where
 major:Int
 minor:Int
 patch:Int
 pre:dF
 build:dF
 deriving Inhabited,DecidableEq
def bp.D (v:bp):D:=.agg [.int .i64 v.major,.int .i64 v.minor,.int .i64 v.patch,.str v.pre,.str v.build]
structure rj where
 name:dF
 v:bp
 shelf:dF
 sum:Int
 feats:List dF
 deriving Inhabited,DecidableEq
def rj.D (x:rj):D:=.agg [.str x.name,.int .i64 x.v.major,.int .i64 x.v.minor,.int .i64 x.v.patch,.str x.v.pre,.str x.v.build,.str x.shelf,.int .u64 x.sum,.sl 1 (x.feats.map D.str)]
structure Env where
 e0:dF
 e1:dF
 e2:dF
 deriving Inhabited,DecidableEq
def Env.D (e:Env):D:=.agg [.str e.e0,.str e.e1,.str e.e2]
structure zi where
 env:Env
 lines:List rj
 deriving Inhabited,DecidableEq
def zi.D (l:zi):D:=.agg [.str l.env.e0,.str l.env.e1,.str l.env.e2,.sl 9 (l.lines.map rj.D)]
end Go.Abs
namespace Go.Abs
theorem yA (a b:List UInt8):N0 (.str a) (.str b)=decide (a=b):=mL a b
theorem tN (k k2:IntKind)(a b:Int):N0 (.int k a) (.int k2 b)=decide (a=b):=rfl
def bp.eq (a b:bp):ic (bp.D a).cells (bp.D b).cells=decide (a=b):=by
 obtain⟨a1,a2,a3,a4,a5⟩:=a;obtain⟨b1,b2,b3,b4,b5⟩:=b
 grind [bp.D,D.cells,ic,yA,tN]
def Env.eq (a b:Env):ic (Env.D a).cells (Env.D b).cells=decide (a=b):=by
 obtain⟨a1,a2,a3⟩:=a;obtain⟨b1,b2,b3⟩:=b
 grind [Env.D,D.cells,ic,yA,tN]
theorem bp.inj {a b:bp}(h:bp.D a=bp.D b):a=b:=by
 obtain⟨a1,a2,a3,a4,a5⟩:=a;obtain⟨b1,b2,b3,b4,b5⟩:=b
 grind [bp.D]
theorem Env.inj {a b:Env}(h:Env.D a=Env.D b):a=b:=by
 obtain⟨a1,a2,a3⟩:=a;obtain⟨b1,b2,b3⟩:=b
 grind [Env.D]
theorem map_inj {α:Type}{q:α->D}(hq:∀a b,q a=q b->a=b):∀{xs ys:List α},xs.map q=ys.map q->xs=ys
 |[],[],_=>rfl
 |[],_::_,h=>by simp at h
 |_::_,[],h=>by simp at h
 |a::r,b::s,h=>by
  simp only[List.map_cons,sy]at h;rw[hq a b h.1,map_inj hq h.2]
theorem str_inj (a b:List UInt8)(h:D.str a=D.str b):a=b:=by simpa using h
theorem rj.inj {a b:rj}(h:rj.D a=rj.D b):a=b:=by
 obtain⟨a1,⟨v1,v2,v3,v4,v5⟩,a2,a3,a4⟩:=a;obtain⟨b1,⟨w1,w2,w3,w4,w5⟩,b2,b3,b4⟩:=b
 grind [rj.D,map_inj,str_inj]
theorem zi.inj {a b:zi}(h:zi.D a=zi.D b):a=b:=by
 obtain⟨⟨a1,a2,a3⟩,a4⟩:=a;obtain⟨⟨b1,b2,b3⟩,b4⟩:=b
 grind [zi.D,map_inj,rj.inj]
end Go.Abs
end
section
namespace Go.Abs
def allI (p:Nat->Bool):Nat->Nat->Bool
 |_,0=>true
 |i,k+1=>p i&&allI p (i+1) k
def dd (p:Nat->Bool)(i n:Nat):Bool:=allI p i (n-i)
def bD {p:Nat->Bool}{i n:Nat}(h:i<n):dd p i n=(p i&&dd p (i+1) n):=by
 unfold dd;rw[show n-i=(n-(i+1))+1 by omega];rfl
theorem dr {p:Nat->Bool}{i n:Nat}(h:n<=i):dd p i n=true:=by
 unfold dd;rw[show n-i=0 by omega];rfl
theorem zC {p:Nat->Bool}:∀{k i:Nat},allI p i k=true↔∀j,i<=j->j<i+k->p j=true
 |0,i=>by simp[allI];intro j h1 h2;omega
 |k+1,i=>by
  simp only[allI,br,zC (k:=k)]
  grind
def cE {p:Nat->Bool}{i n:Nat}:dd p i n=true↔∀j,i<=j->j<n->p j=true:=by
 grind [dd,zC]
end Go.Abs
namespace Go.Abs
def er {a a' b b':D}(h1:a=a')(h2:b=b'):D.tup [a,b]=D.tup [a',b']:=by rw[h1,h2]
end Go.Abs
namespace Go.Abs
end Go.Abs
namespace Go.Abs
def zO (s:dF)(pos:Nat)(h:pos<s.length):∃c w,rv s pos=(c,w)/\1<=w/\((w=1/\(c:Int)=at8 s pos/\c<128)\/(128<=c/\128<=at8 s pos)):=by
 refine⟨(rv s pos).1,(rv s pos).2,rfl, ?_⟩;have e:rv s pos=Lib.decodeN (s.length-pos) (s.getD pos 0).toNat (s.getD (pos+1) 0).toNat (s.getD (pos+2) 0).toNat (s.getD (pos+3) 0).toNat:=Lib.decode_N ⟨⟨s⟩⟩ pos;rw[e];unfold at8;generalize (s.getD pos 0).toNat=b0;generalize (s.getD (pos+1) 0).toNat=b1;generalize (s.getD (pos+2) 0).toNat=b2;generalize (s.getD (pos+3) 0).toNat=b3;generalize s.length-pos=n;by_cases hb:b0<128
 .unfold Lib.decodeN;rw[ax hb];exact⟨aA _,.inl ⟨rfl,rfl,hb⟩⟩
 .unfold Lib.decodeN
  grind
end Go.Abs
namespace Go.Abs
def D7 {α:Type}{q:α->D}{xs:List α}{m:List (Nat×bT)}{l:Nat}(hq:∀x,xV m [.a] (q x)=q x)(hl:look m l=some (.buf 1 (xs.map q))):xV m [.sl 1 [.a]] (.own l 1 0 xs.length)=.sl 1 (xs.map q):=by
 show D.sl 1 _=_;simp only[ba,hl,aO,ak,List.map_map];congr 1;apply List.map_congr_left;intro x _;have:=hq x;simp only[Function.comp];generalize q x=d at this;cases d<;>exact this
def Bm {α:Type}{q:α->D}{xs:List α}{m:List (Nat×bT)}{l:Nat}(hq:∀x,Kj m [.a] (q x))(hl:look m l=some (.buf 1 (xs.map q))):Kj m [.sl 1 [.a]] (.own l 1 0 xs.length):=by
 grind [Kj,Me,Ki,ew,ba,ak]
end Go.Abs
end
namespace Go.Abs
def B6 (c:Int):Bool:=decide (97<=c)&&decide (c<=122)
def dj (c:Int):Bool:=decide (48<=c)&&decide (c<=57)
def ey (s:dF):Nat:=s.foldl (fun n b=>n*10+(b.toNat-48)) 0
def kf (s:dF):Bool:=decide (1<=s.length)&&decide (s.length<=9)&& !(decide (1<s.length)&&decide (at8 s 0=48))&&dd (fun i=>dj (at8 s i)) 0 s.length&&decide (ey s<=9999)
def tq (s:dF):Int:=if kf s=true then(ey s:Int)else 0
def q6 (s:dF)(i:Nat)(h:i<s.length):s.take (i+1)=s.take i++[s.getD i 0]:=by
 rw[List.take_succ];simp[h]
def sN (s:dF)(i:Nat)(h:i<s.length):ey (s.take (i+1))=ey (s.take i)*10+((at8 s i).toNat-48):=by
 rw[q6 s i h];simp[ey,List.foldl_append,at8]
def F6 (s:dF):ey s+23<=23*10^s.length:=by
 have:∀(s:dF) (n k:Nat),n+23<=23*10^k->s.foldl (fun n b=>n*10+(b.toNat-48)) n+23<=23*10^(k+s.length):=by
  intro s;induction s with
  |nil=>intro n k h;simpa using h
  |cons b r ih=>
   intro n k h;have hb:=b.toNat_lt;have:=ih (n*10+(b.toNat-48)) (k+1) (by rw[Nat.pow_succ];omega);simp only[List.foldl_cons,aY];rw[show k+(r.length+1)=k+1+r.length by omega];exact this
 have:=this s 0 0 bz;simpa[ey]using this
def qS (s:dF)(i:Nat)(h:i<=9):ey (s.take i)<=23000000000:=by
 have h1:=F6 (s.take i);have h2:(s.take i).length<=9:=eB;have h3:10^(s.take i).length<=10^9:=Nat.pow_le_pow_right ae h2;omega
def Ap (s:dF):∀n:Nat,s.foldl (fun n b=>n*10+(b.toNat-48)) n=n*10^s.length+ey s:=by
 unfold ey;induction s with
 |nil=>intro n;simp
 |cons b r ih=>
  intro n;simp only[List.foldl_cons,aY];rw[ih,ih (0*10+(b.toNat-48)),Nat.pow_succ];simp only[Nat.zero_mul,aB,Nat.add_mul];rw[Nat.mul_assoc n 10,Nat.mul_comm 10];omega
def sM (b:UInt8)(r:dF):ey (b::r)=(b.toNat-48)*10^r.length+ey r:=by
 have:=Ap r (0*10+(b.toNat-48));simp only[ey,List.foldl_cons]at this⊢;rw[this];simp
def sE {b:UInt8}{r:dF}(h:dd (fun i=>dj (at8 (b::r) i)) 0 (b::r).length=true):dj b.toNat=true/\dd (fun i=>dj (at8 r i)) 0 r.length=true:=by
 rw[cE]at h;refine⟨by simpa[at8]using h 0 ae bz, ?_⟩;rw[cE];intro j _ hj;simpa[at8]using h (j+1) ae eB
def xB:∀(s:dF),dd (fun i=>dj (at8 s i)) 0 s.length=true->ey s<10^s.length
 |[],_=>by simp[ey]
 |b::r,h=>by
  obtain⟨h1,h2⟩:=sE h;have:=xB r h2;rw[sM,aY,Nat.pow_succ];simp only[dj,br,bC]at h1;have h3:b.toNat-48<=9:=ae;have:=iF (10^r.length) h3;omega
def F5 {b:UInt8}{r:dF}(h:49<=b.toNat):10^r.length<=ey (b::r):=by
 rw[sM];have:=iF (10^r.length) (show 1<=b.toNat-48 by omega);omega
def Iv (s:dF):kf s=(decide (1<=s.length)&&decide (s.length<=4)&& !(decide (1<s.length)&&decide (at8 s 0=48))&&dd (fun i=>dj (at8 s i)) 0 s.length):=by
 unfold kf;cases hd:dd (fun i=>dj (at8 s i)) 0 s.length with
 |false=>simp
 |true=>
  have hlt:=xB s hd;by_cases h4:s.length<=4
  .have:10^s.length<=10^4:=Nat.pow_le_pow_right ae h4;rw[cB h4,cB (by omega:s.length<=9),cB (by omega:ey s<=9999)];simp
  .rw[df h4]
   match s,hd,h4 with
   |b::r,hd,h4=>
    by_cases h0:at8 (b::r) 0=48
    .rw[cB h0,cB (by omega:1<(b::r).length)];simp
    .have h1:=(sE hd).1;simp only[dj,br,bC]at h1;have h2:49<=b.toNat:=by
      simp[at8]at h0;omega
     have h3:=F5 (r:=r) h2;have:10^4<=10^r.length:=Nat.pow_le_pow_right ae (by simp at h4;omega);rw[df (by omega:¬ey (b::r)<=9999)];simp
def iE (b:Int):dF->dF->List dF
 |[],cur=>[cur]
 |c::r,cur=>if(c.toNat:Int)=b then cur::iE b r []else iE b r (cur++[c])
def bM (s:dF)(b:Int):List dF:=iE b s []
def Dq (s:dF)(i:Nat)(h:i<s.length):s.drop i=s.getD i 0::s.drop (i+1):=by
 rw[lf h];simp[h]
def xT {s:dF}{b:Int}{i fr:Nat}(h:i<s.length)(he:at8 s i=b):iE b (s.drop i) ((s.take i).drop fr)=((s.take i).drop fr)::iE b (s.drop (i+1)) ((s.take (i+1)).drop (i+1)):=by
 rw[Dq s i h];have h2:(s.take (i+1)).drop (i+1)=[]:=bz;rw[h2];simp only[iE];rw[ax (by simpa[at8]using he)]
def xU {s:dF}{b:Int}{i fr:Nat}(h:i<s.length)(hf:fr<=i)(he:¬at8 s i=b):iE b (s.drop i) ((s.take i).drop fr)=iE b (s.drop (i+1)) ((s.take (i+1)).drop fr):=by
 rw[Dq s i h,q6 s i h,List.drop_append_of_le_length eB];simp only[iE];rw[ai (by simpa[at8]using he)]
def v8 {s:dF}{b:Int}{i fr:Nat}(h:s.length<=i):iE b (s.drop i) ((s.take i).drop fr)=[s.drop fr]:=by
 rw[nk h,eZ h];rfl
def qj (b:Int):∀(s cur:dF),(iE b s cur).length<=s.length+1
 |[],cur=>by simp[iE]
 |c::r,cur=>by
  simp only[iE];split
  .have:=qj b r [];simp;omega
  .have:=qj b r (cur++[c]);simp;omega
def qi (s:dF)(b:Int):(bM s b).length<=s.length+1:=qj b s []
def kH (c:Int):Bool:=B6 c ||dj c ||decide (c=45)
def pk (t:dF):Bool:=decide (1<=t.length)&&decide (t.length<=8)&&dd (fun i=>kH (at8 t i)) 0 t.length
def cI (t:dF):Bool:=dd (fun i=>dj (at8 t i)) 0 t.length&&decide (0<t.length)
def gG (p:Bool)(t:dF):Bool:=pk t&& !(p&&cI t&& !kf t)
def mC (s:dF)(p:Bool):Bool:=decide ((bM s 46).length<=4)&&dd (fun i=>gG p (bM s 46)[i]!) 0 (bM s 46).length
def sT (s:dF)(p:Bool):Bool:=decide (s=[]) ||mC s p
def BP (n:Int):Bool:=decide (0<=n)&&decide (n<=9999)
def j3 (v:bp):Bool:=BP v.major&&BP v.minor&&BP v.patch&&sT v.pre true&&sT v.build false
def bp.sm (v:bp):Prop:=v.pre.length<=1048576/\v.build.length<=1048576
def Env.at (e:Env):Nat->dF
 |0=>e.e0
 |1=>e.e1
 |_=>e.e2
def Env.ld (e:Env){i:Nat}(h:i<3):mZ (Env.D e) 3 1 (0+i*1) false=.str (e.at i):=by
 match i,h with
 |0,_=>rfl
 |1,_=>rfl
 |2,_=>rfl
def zi.ld (l:zi){i:Nat}(h:i<3):mZ (zi.D l) 4 1 (0+i*1) false=.str (l.env.at i):=by
 match i,h with
 |0,_=>rfl
 |1,_=>rfl
 |2,_=>rfl
def Env.cut (e:Env){i:Nat}(h:i<3):Abs.cut [.str e.e0,.str e.e1,.str e.e2] (i*1) 1 false=.str (e.at i):=by
 match i,h with
 |0,_=>rfl
 |1,_=>rfl
 |2,_=>rfl
def rj.sm (x:rj):Prop:=x.v.sm/\x.name.length<=1048576/\x.shelf.length<=1048576/\x.feats.length<=1048576/\∀t∈x.feats,t.length<=1048576
def zi.sm (l:zi):Prop:=l.lines.length<=1048576/\(∀x∈l.lines,x.sm)/\∀i,(l.env.at i).length<=1048576
theorem aj {α:Type} [Inhabited α]{l:List α}{i:Nat}(h:i<l.length):l[i]! ∈l:=by
 simp[h]
structure Kp where
 name:dF
 v:bp
 deriving Inhabited,DecidableEq
def Kp.D (x:Kp):D:=.agg [.str x.name,.int .i64 x.v.major,.int .i64 x.v.minor,.int .i64 x.v.patch,.str x.v.pre,.str x.v.build]
def Jw {α:Type} [Inhabited α] [DecidableEq α]{a b:List α}(h:a.length=b.length):decide (a=b)=dd (fun i=>decide (a[i]! =b[i]!)) 0 a.length:=by
 rw[Bool.eq_iff_iff,bC,cE];constructor
 .rintro rfl j _ _;simp
 .intro hj;apply List.ext_getElem h
  grind
def rj.same {a b:rj}(e1:a.name=b.name)(e2:a.v=b.v)(e3:a.shelf=b.shelf)(e4:a.sum=b.sum)(e5:a.feats.length=b.feats.length):decide (a=b)=dd (fun i=>decide (a.feats[i]! =b.feats[i]!)) 0 a.feats.length:=by
 rw[<-Jw e5];obtain⟨a1,a2,a3,a4,a5⟩:=a;obtain⟨b1,b2,b3,b4,b5⟩:=b
 grind
def Env.sm (e:Env):Prop:=∀i,(e.at i).length<=1048576
end Go.Abs
section
namespace Go.Abs
def bO (v n:Int):Int:=if n<1 then 0 else if v.tmod n<0 then v.tmod n+n else v.tmod n
def wg (v n:Int)(h:1<=n):-n<v.tmod n/\v.tmod n<n:=⟨Int.lt_tmod_of_pos v ae,Int.tmod_lt_of_pos v ae⟩
def cX (v n:Int)(h:1<=n):0<=bO v n/\bO v n<n:=by
 have:=wg v n h
 grind [bO]
def wJ (l:List Int)(i:Int):Int:=if i<0\/(l.length:Int)<=i then i.tmod 3 else l[i.toNat]!
structure Gs where
 l:List Int
 i:Int
 deriving Inhabited
def Gs.D (g:Gs):D:=.agg [.sl 1 (g.l.map (D.int .i64)),.int .i64 g.i]
def Gs.val (g:Gs)(n:Int):Int:=bO (wJ g.l g.i) n
def Gs.bR (g:Gs):Gs:=⟨g.l,g.i+1⟩
def cutL (s:dF)(b:UInt8):dF×dF×Bool:=match s.findIdx? (fun c=>c==b)with
 |some k=>(s.take k,s.drop (k+1),true)
 |none=>(s,[],false)
structure Mu where
 s:dF
 at':Nat
 n:Nat
def Mu.D (r:Mu):D:=.agg [.str r.s,.int .i64 (r.at':Nat),.int .i64 (r.n:Nat)]
def Mu.ln (r:Mu):dF×dF×Bool:=cutL (r.s.drop r.at') 10
def Mu.bR (r:Mu):Mu:=⟨r.s,if r.ln.2.2=true then r.at'+(r.ln.1.length+1)else r.at',r.n+1⟩
end Go.Abs
namespace Go.Abs
end Go.Abs
namespace Go.Abs
end Go.Abs
namespace Go.Abs
end Go.Abs
namespace Go.Abs
end Go.Abs
namespace Go.Abs
variable {e:Env} {f:Nat} {r:Mu} {ls:List rj}
end Go.Abs
namespace Go.Abs
end Go.Abs
end
namespace Go.Abs
section
section
variable {Y:Ctx} {draw:Bool} {r:List GI} {env rs:List b7} {nx:Nat} {m:List (Nat×bT)} {K:List b7->St->Prop} {g:Option (Nat×Bool)} {f:Bool}
def IV {n l k j:Nat}{w:Bool}{x:Src}{args:List Src}{sh:List (List Sh)}{d v e:D}{Z1:List D}{m2:List (Nat×bT)}(h:aJ Y false r env (⟨true,v⟩::rs) nx m2 K)(hg:GF rs (some (j,w)) true:=by exact⟨_,_,rfl,rfl⟩)(hx:cL env rs x=⟨true,.ptr l k 0 0⟩:=by exact rfl)(hl:look m l=some (.buf k [d]):=by exact rfl)(hd:d.bm=true:=by exact rfl)(hc:Y.fp n d Z1/\Y.fv n d Z1=v/\Y.fs n d Z1=e)(ha:jC [] sh (gL (cL env rs) args)=Z1:=by exact rfl)(ho:sO (cL env rs) args:=by repeat' first|exact trivial|exact rfl|refine And.intro ?_ ?_|decide)(hn:aW (gL (cL env rs) args)=true:=by exact rfl)(hm:cR m l (.buf k [e])=m2:=by simp only[cR,bF,Nat.reduceEqDiff,aF,aE,Nat.reduceAdd,reduceCtorEq];exact rfl):aJ Y false (⟨.callF n x args sh,some (j,w)⟩::r) env rs nx m K:=
 IY rfl rfl hg (fun _=>⟨v,by simp only[aI.dG,hx,ew,ba,hl,gW,(c9 _ _ _).1,ha];exact⟨trivial,ho,hn,trivial,trivial,⟨trivial,bz⟩,bz,hd,hc.1⟩,by simp only[aI.val,hx,ba,hl,gW,(c9 _ _ _).1,ha,hc.2.1],m2,by simp only[aI.cy,hx,ba,hl,gW,(c9 _ _ _).1,ha,hc.2.2];exact hm,h⟩) (fun h=>by cases h)
def Oy {i:aI}{j:Nat}{w:Bool}(h:aJ Y false r env (⟨false,.any⟩::rs) nx m K)(hM:i.cz=false:=by exact rfl)(hC:i.calm=false:=by exact rfl)(hg:GF rs (some (j,w)) false:=by exact⟨_,_,rfl,rfl⟩):aJ Y false (⟨i,some (j,w)⟩::r) env rs nx m K:=
 IY hM hC hg (fun h=>by cases h) (fun _=>h)
def RS {i:aI}{j:Nat}{w:Bool}(d:D)(h:aJ Y draw r env (⟨false,d⟩::rs) nx m K)(hC:i.pure=true:=by exact rfl)(hg:GF rs (some (j,w)) false:=by exact⟨_,_,rfl,rfl⟩):aJ Y draw (⟨i,some (j,w)⟩::r) env rs nx m K:=
 cn hC hg d (fun h=>by cases h) (fun h=>by cases h) (fun _=>h)
def Ox {k n:Nat}{z:D}{ps:List (Nat×Src)}(es:List D)(h:aJ Y draw r env (⟨f,.sl k es⟩::rs) nx m K)(hg:GF rs g f:=by exact dA)(he:jR (cL env rs) (List.replicate n z) ps=es:=by exact rfl)(ho:f=true->n7 (cL env rs) k n ps:=by exact sw)(hz:z.cells.length=k:=by exact rfl)(hn:f=true->aW es=true:=by exact fun _=>rfl):aJ Y draw (⟨.bslI k z n ps,g⟩::r) env rs nx m K:=
 cn rfl hg _ (fun hf=>by simp only[aI.dG,he];exact⟨hz,ho hf,hn hf⟩) (fun hf=>by simp only[aI.val,he]) (fun _=>h)
def fh {n:Nat}{args:List Src}{Z1:List D}{v:D}{nx':Nat}{m':List (Nat×bT)}(h:aJ Y draw r env (⟨true,v⟩::rs) nx' m' K)
  (hc:∀K':D->St->Prop,K' v ⟨nx'+rs.length,m'⟩->Y.tr n Z1 ⟨nx+rs.length,m⟩ K') (hn:nx<=nx') (ha:gL (cL env rs) args=Z1:=by exact rfl)
  (ho:sO (cL env rs) args:=by repeat' first|exact trivial|exact rfl|refine And.intro ?_ ?_):aJ Y draw (⟨.callM n args,none⟩::r) env rs nx m K:=by
 unfold aJ;show True/\(true=true->sO (Src.ev env rs.reverse) args/\Y.tr n (gL (Src.ev env rs.reverse) args) {nx:=nx+rs.reverse.length,m:=m} _)/\(true=false->_)
 grind [kv,aJ]
def I2 {x:Src}{fx:Bool}{n k i o:Nat}{ag:Bool}{es:List D}(v:D)(h:aJ Y draw r env (⟨f,v⟩::rs) nx m K)(hg:GF rs g f:=by exact dA)(hx:cL env rs x=⟨fx,.ref k es i o⟩:=by exact rfl)(kx:f=true->fx=true:=by exact cA)(hi:f=true->i<es.length:=by intro _;simp only[aY,bg];omega)(hv:f=true->mZ (es.getD i .any) k n o ag=v:=by exact fun _=>rfl)(ho:o+n<=k:=by omega):aJ Y draw (⟨.ldU n ag x,g⟩::r) env rs nx m K:=
 fA rfl hg _ (fun hf=>by simp only[aI.dG,hx,wK];exact⟨kx hf,hi hf,ho⟩) (fun hf=>by simp only[aI.val,hx,tn];exact hv hf) m rfl (fun ha=>h)
def I1 {x:Src}{fx:Bool}{n l k o:Nat}{ag:Bool}{d:D}(v:D)(h:aJ Y draw r env (⟨f,v⟩::rs) nx m K)(hg:GF rs g f:=by exact dA)(hx:cL env rs x=⟨fx,.ptr l k 0 o⟩:=by exact rfl)(kx:f=true->fx=true:=by exact cA)(hl:f=true->look m l=some (.buf k [d]):=by exact fun _=>rfl)(hv:f=true->mZ d k n o ag=v:=by exact fun _=>rfl)(ho:o+n<=k:=by omega)(hd:f=true->d.bm=false:=by exact fun _=>rfl):aJ Y draw (⟨.ldU n ag x,g⟩::r) env rs nx m K:=
 fA rfl hg _ (fun hf=>by simp only[aI.dG,hx,wK,ew,hl hf];exact⟨kx hf,⟨⟨trivial,bz⟩,ho⟩,by simp only[ba,hl hf,aW,hd hf];rfl⟩) (fun hf=>by simp only[aI.val,hx,tn,ba,hl hf,gW];exact hv hf) m rfl (fun ha=>h)
end
end
end Go.Abs
section
namespace Go.Abs
def cJ:List bp:=[⟨1,0,0,[],[]⟩,⟨1,2,0,[],[]⟩,⟨2,0,0,[97,46,49],[]⟩,⟨2,0,0,[],[]⟩]
def nlS:List dF->D
 |[]=>.aG
 |a::r=>.sl 1 ((a::r).map D.str)
def rj.N (x:rj):Go.Abs.D:=.agg [.str x.name,.int .i64 x.v.major,.int .i64 x.v.minor,.int .i64 x.v.patch,.str x.v.pre,.str x.v.build,.str x.shelf,.int .u64 x.sum,nlS x.feats]
end Go.Abs
namespace Go.Abs
def rj.F (name:dF)(v:bp)(shelf:dF)(sum:Int)(fs:Go.Abs.D):Go.Abs.D:=.agg [.str name,.int .i64 v.major,.int .i64 v.minor,.int .i64 v.patch,.str v.pre,.str v.build,.str shelf,.int .u64 sum,fs]
mutual
theorem pQ (l k:Nat)(es:List D):∀d:D,d.bm=true->dy l k es d=d
 | .agg a,h=>by simp only[dy,fW l k es a (by simpa[D.bm]using h)]
 | .tup a,h=>by simp only[dy,fW l k es a (by simpa[D.bm]using h)]
 | .fn n a,h=>by simp only[dy,fW l k es a (by simpa[D.bm]using h)]
 | .own ..,h=>by simp[D.bm]at h
 | .ptr ..,h=>by simp[D.bm]at h
 | .it ..,h=>by simp[D.bm]at h
 | .any,_| .bool _,_| .int ..,_| .str _,_| .aG,_| .sl ..,_| .ref ..,_| .nilp,_| .nilf,_=>rfl
theorem fW (l k:Nat)(es:List D):∀ds:List D,aW ds=true->du l k es ds=ds
 |[],_=>rfl
 |d::r,h=>by
  simp only[aW,br]at h;simp only[du,pQ l k es d h.1,fW l k es r h.2]
end
end Go.Abs
namespace Go.Abs
end Go.Abs
namespace Go.Abs
def bq (L c:Nat)(ls:List rj)(k j:Nat):D:=if j=k then rj.F ls[j]!.name ls[j]!.v ls[j]!.shelf ls[j]!.sum (.own L 1 0 c)else rj.D ls[j]!
end Go.Abs
namespace Go.Abs
end Go.Abs
namespace Go.Abs
end Go.Abs
namespace Go.Abs
end Go.Abs
end
section
namespace Go.Abs
end Go.Abs
namespace Go.Abs
def Kp.eq (a b:Kp):ic (Kp.D a).cells (Kp.D b).cells=decide (a=b):=by
 obtain⟨n1,⟨a1,a2,a3,a4,a5⟩⟩:=a;obtain⟨n2,⟨b1,b2,b3,b4,b5⟩⟩:=b
 grind [Kp.D,D.cells,ic,yA,tN]
structure rj.ok (n:Nat)(x:rj):Prop where
 pre:x.v.pre.length<=3
 build:x.v.build.length<=2
 name:x.name.length<=16
 shelf:x.shelf.length<=16
 nf:x.feats.length<=n
 ft:∀t∈x.feats,t.length<=16
 sum:0<=x.sum/\x.sum<18446744073709551616
structure zi.ok (n:Nat)(l:zi):Prop where
 len:l.lines.length<=4
 lines:∀x∈l.lines,x.ok n
 env:∀i,(l.env.at i).length<=16
theorem zi.ok.sm {n:Nat}{l:zi}(h:l.ok n)(hn:n<=1000):l.sm:=by
 refine⟨by have:=h.len;omega,fun x hx=>?_,fun i=>by have:=h.env i;omega⟩;have k:=h.lines x hx;have k1:=k.pre;have k2:=k.build;have k3:=k.name;have k4:=k.shelf;have k5:=k.nf;exact⟨⟨ae,ae⟩,ae,ae,ae,fun t ht=>by have:=k.ft t ht;omega⟩
def rj.ok.mono {n m:Nat}{x:rj}(h:x.ok n)(hm:n<=m):x.ok m:=⟨h.pre,h.build,h.name,h.shelf,ea h.nf hm,h.ft,h.sum⟩
end Go.Abs
end
namespace Go.Abs
section
def lk {α:Type}:List (Nat×α)->Nat->α->α
 |[],_,d=>d
 |(a,b)::r,n,d=>bif Nat.beq a n then b else lk r n d
structure Row where
 key:Nat
 pre:List D->Prop
 val:List D->D
structure Rj where
 pre:D->List D->Prop
 val:D->List D->D
 new:D->List D->D
def Row.no:Row:=⟨0,fun _=>False,fun _=>.any⟩
def Rj.no:Rj:=⟨fun _ _=>False,fun _ _=>.any,fun _ _=>.any⟩
section
variable [dw] {P:Program} {ν:List (Nat×Nat)} {cy:List Nat} {Y:Ctx}
end
end
section
variable [dw]
section
variable {P:Program} {ν:List (Nat×Nat)} {cy:List Nat} {Y:Ctx}
def RD.re {x x':X}{σ:List (Nat×Nat)}(hw:x'.w=x.w)(hI:x'.I=x.I)(hβ:∀l l',e9 0 σ l=some l'->x'.β l'=x.β l){v:Value}{d d':D}(hv:RD ν x v d)(hd:KJ 0 σ d d'):RD ν x' v d':=by
 rcases hd with⟨rfl,hn⟩|hd|hd
 .exact hv.bm hn (fun _ h=>by rw[hI];exact h) (fun _ _=>by rw[hw])
 .grind [RD.rn]
 grind [RD.nl]
def lG.re {x x':X}{σ:List (Nat×Nat)}(hw:x'.w=x.w)(hI:x'.I=x.I)(hβ:∀l l',e9 0 σ l=some l'->x'.β l'=x.β l){b base tot:Nat}{b0 blk:bT}(o2:lG ν x b base tot b0)(q3:mH 0 σ b0 blk):lG ν x' b base tot blk:=by
 cases b0 with
 |iter s p=>
  cases blk with
  |iter s' p'=>simp only[mH]at q3;obtain⟨rfl,rfl⟩:=q3;simp only[lG,hw]at o2⊢;exact o2
  |_=>simp[mH]at q3
 |row s=>
  cases blk with
  |row s'=>simp only[mH]at q3;subst q3;simp only[lG,hw]at o2⊢;exact o2
  |_=>simp[mH]at q3
 |bld o n u=>
  cases blk with
  |bld o' n' u'=>
   simp only[mH]at q3;obtain⟨q3,rfl,rfl⟩:=q3;obtain⟨p1,v,p2,p3⟩:=o2;refine⟨p1,v,by rw[hw];exact p2, ?_⟩;cases o with
   |none=>simp only at q3;subst q3;exact p3
   |some l0=>
    obtain⟨l1,q4,rfl⟩:=q3;obtain⟨g,t,p4,p5,p6⟩:=p3;exact⟨g,t,p4,p5,by rw[hβ l0 l1 q4];exact p6⟩
  |_=>simp[mH]at q3
 |buf k es=>
  cases blk with
  |iter s' p'=>simp[mH]at q3
  |row s'=>simp[mH]at q3
  |bld o' n' u'=>simp[mH]at q3
  |buf k' es'=>
   simp only[mH]at q3;obtain⟨rfl,q3⟩:=q3;obtain⟨p1,p2,cc,T,fr,p3,p4,p5,p6⟩:=o2;rw[<-hw]at p3;rcases q3 with⟨rfl,hn⟩|q3|q3
   .exact⟨p1,p2,cc,T,fr,p3,p4,p5,fun i hi=>⟨(p6 i hi).1,fun j hj=>⟨((p6 i hi).2 j hj).1,RD.re hw hI hβ ((p6 i hi).2 j hj).2 (.inl ⟨rfl,jA (cC hn i) j⟩)⟩⟩⟩
   .obtain⟨r1,r2⟩:=gS q3;refine⟨p1,ae,cc,T,fr,p3,p4,p5,fun i hi=>?_⟩;have hi':i<es.length:=ae;obtain⟨s1,s2⟩:=xO (r2 i hi');exact⟨s1.trans (p6 i hi').1,fun j hj=>⟨((p6 i hi').2 j hj).1,RD.re hw hI hβ ((p6 i hi').2 j hj).2 (.inr (.inl (s2 j (by rw[(p6 i hi').1];exact hj))))⟩⟩
   .obtain⟨r1,r2⟩:=nM q3;refine⟨p1,ae,cc,T,fr,p3,p4,p5,fun i hi=>?_⟩;have hi':i<es.length:=ae;obtain⟨s1,s2⟩:=xb (r2 i hi');exact⟨s1.trans (p6 i hi').1,fun j hj=>⟨((p6 i hi').2 j hj).1,RD.re hw hI hβ ((p6 i hi').2 j hj).2 (.inr (.inr (s2 j (by rw[(p6 i hi').1];exact hj))))⟩⟩
def DV {lo c:Nat}{σ:List (Nat×Nat)}{l l':Nat}(h0:eQ 0 c σ=true)(h:e9 0 σ l=some l'):l'<c/\(l,l')∈σ:=by
 obtain⟨h1,h2⟩:=qW h0 h
 grind
def qR {c:Nat}:∀{σ:List (Nat×Nat)}{a b:Nat},eQ 0 c σ=true->(a,b)∈σ->e9 0 σ a=some b
 |[],a,b,_,h=>by cases h
 |(a0,b0)::r,a,b,h0,h=>by
  unfold e9;simp only[eQ,br,List.all_eq_true,ef]at h0;obtain⟨_,_,p4,p5⟩:=h0;rcases dz.1 h with h|h
  .simp only[eg]at h;obtain⟨rfl,rfl⟩:=h;simp
  .have:=(p4 _ h).1;simp only at this;have hne:Nat.beq a0 a=false:=by
    cases hb:Nat.beq a0 a with
    |false=>rfl
    |true=>obtain rfl:=Nat.eq_of_beq_eq_true hb;simp at this
   rw[hne];exact qR p5 h
structure Fr (σi σo:List (Nat×Nat))(q q1:Nat)(m0 m1:List (Nat×bT))(st st':St):Prop where
 oki:eQ 0 q σi=true
 oko:eQ 0 st'.nx σo=true
 nx:st.nx<=st'.nx
 lt:∀l i,(l,i)∈σi->look st.m l≠none
 io:∀i l,(i,l)∈σo->(l,i)∈σi\/st.nx<=l
 m0:∀i b,look m0 i=some b->∃l b',(l,i)∈σi/\look st.m l=some b'/\mH 0 σi b' b
 m1:∀l b,look st'.m l=some b->(∃i b1,(i,l)∈σo/\look m1 i=some b1/\mH 0 σo b1 b)\/(jx σo l=none/\(∀i,(l,i)∉σi)/\look st.m l=some b)
def K2 {fid:Nat}{fn:Func}{af:aM}{K:D->St->Prop}(hΓ:Ok P ν cy Y)(hmix:P.follows .mixedOrders=true)(hf:P.funcs[fid]? =some fn)(hc:compile P ν cy fn=some af)
  {x:X} {args:Array Value} {ds cs:List D} {st:St} {σi:List (Nat×Nat)} {q:Nat} {m0:List (Nat×bT)} (hl:args.size=ds.length) (hargs:∀i,i<ds.length->RD ν x (args.getD i undef) (ds.getD i .any))
  (hs:eI ν x (look st.m)) (hfr:eG st x) (hlen:cs.length=ds.length) (hds:∀i,i<ds.length->KJ 0 σi (ds.getD i .any) (cs.getD i .any)) (hnp:cs.length=af.np)
  (oki:eQ 0 q σi=true) (hlt:∀l i,(l,i)∈σi->look st.m l≠none) (hm0:∀i b,look m0 i=some b->∃l b',(l,i)∈σi/\look st.m l=some b'/\mH 0 σi b' b)
  (hw:cq (Y.at q) af.body (fun e env st1=>e.home/\ow st1.m env af.res/\∃(σo:List (Nat×Nat)) (q1:Nat) (m1:List (Nat×bT)) (st':St) (vd':D),Fr σi σo q q1 m0 m1 st st'/\KJ 0 σo (jD af env st1) vd'/\K vd' st'/\∀i,look st1.m i=look m1 i) (fK af cs) ⟨q,m0⟩):
  Calls P fid args x.w fun
   | .returned v,w'=>∃x' d st',K d st'/\x'.w=w'/\Step x x'/\RD ν x' v d/\eI ν x' (look st'.m)/\eG st' x'
   |_,_=>False:=by
 obtain⟨body,c1,c2,c3,c4,c5,c6⟩:=hH hc
 let x0:X:=⟨x.w,x.I,fun i=>(jx σi i).bind x.β⟩
 have hx0:∀l i,(l,i)∈σi->x0.β i=x.β l:=fun l i h=>by simp only[x0,tQ oki h,Option.bind_some]
 have hβ0:∀l i,e9 0 σi l=some i->x0.β i=x.β l:=fun l i h=>hx0 l i (DV (lo:=0) oki h).2
 have hx0':∀i p,x0.β i=some p->∃l,(l,i)∈σi/\x.β l=some p/\i<q:=by
  intro i p h;obtain⟨l,h1,h2⟩:=Option.bind_eq_some_iff.1 (show(jx σi i).bind x.β=some p from h);exact⟨l,jV h1,h2,oH oki (jV h1)⟩
 have hs0:eI ν x0 (look m0):=by
  refine⟨fun i blk b base tot e1 e2=>?_,fun i j b base tot base' tot' e1 e2 e3 e4=>?_,hs.imm,fun i b base tot e=>?_,dw.le x _ (fun _ h=>h) (fun _ _=>rfl) hs.gd⟩
  .obtain⟨l,b',h1,h2,h3⟩:=hm0 i blk e1;rw[hx0 l i h1]at e2;obtain⟨o1,o2⟩:=hs.own l b' b base tot h2 e2;exact⟨o1,lG.re (x:=x) (x':=x0) rfl rfl hβ0 o2 h3⟩
  .obtain⟨l,h1,h2,_⟩:=hx0' i _ e3;obtain⟨l',h1',h2',_⟩:=hx0' j _ e4;have:=hs.inj l l' b base tot base' tot' (hlt _ _ h1) (hlt _ _ h1') h2 h2';subst this;have:=qR oki h1;rw[qR oki h1']at this;exact(bl this).symm
  .obtain⟨l,_,h2,_⟩:=hx0' i _ e;exact hs.ed l b base tot h2
 have hf0:eG ⟨q,m0⟩ x0:=by
  refine⟨fun i hi=>?_,fun i hi=>?_⟩
  .cases h:x0.β i with
   |none=>rfl
   |some p=>obtain⟨_,_,_,h4⟩:=hx0' i p h;simp only at hi;omega
  .cases h:look m0 i with
   |none=>exact absurd h hi
   |some b=>obtain⟨l,b',h1,_⟩:=hm0 i b h;exact oH oki h1
 have hi:=sj (P:=P) (ν:=ν) (cy:=cy) (x:=x0) (ds:=cs) (st:=⟨q,m0⟩) c4 c5 c6 (args:=args) ae hnp (fun i hi=>RD.re (x:=x) (x':=x0) rfl rfl hβ0 (hargs i ae) (hds i ae)) hs0 hf0;have hcs:=pL (C:={P,ν,cy,slots:=slotsOf fn,ntmps:=fn.ntmps,vm:=GH P fn}) (hΓ.at q) (lD fn).1 hmix x0 (fun l h=>hf0.β l h) body af.body c2 _ _ _ _ x0 hw hi (.refl _);refine calls_of_wp hf c1 (wp_mono hcs fun e a w' hp=>?_);obtain⟨e',x',env',st1,he,hxw,hst,hi',hh,hro,σo,q1,m1,st',vd',hfm,hvd,hK,hlk⟩:=hp;subst hxw;obtain⟨v,r1,r2,r3⟩:=ox hΓ.small hi' c3 hro
 let x2:X:=⟨x'.w,x'.I,fun l=>match jx σo l with|some i=>x'.β i|none=>x.β l⟩
 have hx2:∀i l,(i,l)∈σo->x2.β l=x'.β i:=fun i l h=>by simp only[x2,tQ hfm.oko h]
 have hx2n:∀l,jx σo l=none->x2.β l=x.β l:=fun l h=>by simp only[x2,h]
 have hβ2:∀i l,e9 0 σo i=some l->x2.β l=x'.β i:=fun i l h=>hx2 i l (DV (lo:=0) hfm.oko h).2
 have hx0s:∀l i p,(l,i)∈σi->x.β l=some p->x'.β i=some p:=fun l i p h e=>hst.β _ _ (by rw[hx0 l i h];exact e)

 have hnew:∀i p,x'.β i=some p->(∃l,(l,i)∈σi/\x.β l=some p)\/x.w.heap.size<=p.1\/∃l p',(∃j,(l,j)∈σi)/\x.β l=some p'/\p'.1=p.1:=by
  intro i p e;rcases hst.newβ i p e with h|h|⟨j,p',h1,h2⟩
  .obtain⟨l,h3,h4,_⟩:=hx0' i p h;exact .inl ⟨l,h3,h4⟩
  .exact .inr (.inl h)
  .obtain⟨l,h3,h4,_⟩:=hx0' j p' h1;exact .inr (.inr ⟨l,p',⟨j,h3⟩,h4,h2⟩)
 have hstep:Step x x2:=by
  refine⟨hst.os,hst.tape,hst.output,hst.size,hst.I,hst.keep,fun l p hp=>?_,fun b hb hn=>hst.old b hb fun i p h e=>?_,fun b h=>?_,fun l p h=>?_⟩
  .cases h:jx σo l with
   |none=>rw[hx2n l h];exact hp
   |some i=>
    have hm:=jV h;rw[hx2 i l hm];rcases hfm.io i l hm with h2|h2
    .exact hx0s l i p h2 hp
    .rw[hfr.β l h2]at hp;cases hp
  .obtain⟨l,_,h2,_⟩:=hx0' i p h;exact hn l p h2 e
  .rcases hst.newI b h with h|h|⟨i,p,h1,h2⟩
   .exact .inl h
   .exact .inr (.inl h)
   .obtain⟨l,_,h3,_⟩:=hx0' i p h1;exact .inr (.inr ⟨l,p,h3,h2⟩)
  .cases h1:jx σo l with
   |none=>rw[hx2n l h1]at h;exact .inl h
   |some i=>
    have hm:=jV h1;rw[hx2 i l hm]at h;rcases hnew i p h with⟨l',h2,h3⟩|h2|⟨l',p',_,h3,h4⟩
    .exact .inr (.inr ⟨l',p,h3,rfl⟩)
    .exact .inr (.inl h2)
    .exact .inr (.inr ⟨l',p',h3,h4⟩)
 have hsim:eI ν x2 (look st'.m):=by
  refine⟨fun l blk b base tot e1 e2=>?_,fun l1 l2 b base tot base' tot' e1 e2 e3 e4=>?_,hi'.kZ.imm,fun l b base tot e=>?_,dw.le x' _ (fun _ h=>h) (fun _ _=>rfl) hi'.kZ.gd⟩
  .rcases hfm.m1 l blk e1 with⟨i,b1,h1,h2,h3⟩|⟨h1,h2,h3⟩
   .rw[hx2 i l h1]at e2;obtain⟨o1,o2⟩:=hi'.kZ.own i b1 b base tot (by rw[hlk];exact h2) e2;exact⟨o1,lG.re (x:=x') (x':=x2) rfl rfl hβ2 o2 h3⟩
   .rw[hx2n l h1]at e2;obtain⟨o1,o2⟩:=hs.own l blk b base tot h3 e2;have hlt:=hs.ed l b base tot e2;have hno:∀i p,x0.β i=some p->p.1≠b:=by
     rintro i ⟨b',base',tot'⟩ h e;simp only at e;subst e;obtain⟨l',h4,h5,_⟩:=hx0' i _ h;have:=hs.inj l' l b' base' tot' base tot (hfm.lt _ _ h4) (by rw[h3];simp) h5 e2;subst this;exact h2 _ h4
    refine⟨fun h=>?_,o2.mono hstep.le (hst.old b hlt hno)⟩;rcases hst.newI b h with h|h|⟨i,p,h4,h5⟩
    .exact o1 h
    .exact absurd hlt (Nat.not_lt.2 h)
    .exact hno i p h4 h5
  .have mix:∀l1 l2 base tot base' tot',(∃i b1,(i,l1)∈σo/\look m1 i=some b1)->jx σo l2=none->(∀i,(l2,i)∉σi)->look st.m l2≠none->x2.β l1=some (b,base,tot)->x2.β l2=some (b,base',tot')->False:=by
    rintro l1 l2 base tot base' tot' ⟨i,b1,h1,h2⟩ h3 h4 h5 e3 e4;rw[hx2 i l1 h1]at e3;rw[hx2n l2 h3]at e4;rcases hnew i _ e3 with⟨l',h6,h7⟩|h6|⟨l',⟨pb,pt,pq⟩,⟨j,h6⟩,h7,h8⟩
    .have:=hs.inj l' l2 b base tot base' tot' (hfm.lt _ _ h6) h5 h7 e4;subst this;exact h4 _ h6
    .have:=hs.ed l2 b base' tot' e4;simp only at h6;omega
    .simp only at h8;subst h8;have:=hs.inj l' l2 pb pt pq base' tot' (hfm.lt _ _ h6) h5 h7 e4;subst this;exact h4 _ h6
   cases f1:look st'.m l1 with
   |none=>exact absurd f1 e1
   |some b1=>
    cases f2:look st'.m l2 with
    |none=>exact absurd f2 e2
    |some b2=>
     rcases hfm.m1 l1 b1 f1 with⟨i,c1,h1,h2,_⟩|⟨h1,h2,h3⟩<;>rcases hfm.m1 l2 b2 f2 with⟨j,c2,k1,k2,_⟩|⟨k1,k2,k3⟩
     .rw[hx2 i l1 h1]at e3;rw[hx2 j l2 k1]at e4;have:=hi'.kZ.inj i j b base tot base' tot' (by rw[hlk,h2];simp) (by rw[hlk,k2];simp) e3 e4;subst this;have:=qR hfm.oko h1;rw[qR hfm.oko k1]at this;exact(bl this).symm
     .exact(mix l1 l2 base tot base' tot' ⟨i,c1,h1,h2⟩ k1 k2 (by rw[k3];simp) e3 e4).elim
     .exact(mix l2 l1 base' tot' base tot ⟨j,c2,k1,k2⟩ h1 h2 (by rw[h3];simp) e4 e3).elim
     .rw[hx2n l1 h1]at e3;rw[hx2n l2 k1]at e4;exact hs.inj l1 l2 b base tot base' tot' (by rw[h3];simp) (by rw[k3];simp) e3 e4
  .cases h1:jx σo l with
   |none=>rw[hx2n l h1]at e;exact jH (hs.ed l b base tot e) hst.size
   |some i=>
    rw[hx2 i l (jV h1)]at e;exact hi'.kZ.ed i b base tot e
 have hfr2:eG st' x2:=by
  refine⟨fun l hl=>?_,fun l hl=>?_⟩
  .cases h1:jx σo l with
   |none=>rw[hx2n l h1];exact hfr.β l (by have:=hfm.nx;omega)
   |some i=>have:=oH hfm.oko (jV h1);omega
  .cases f1:look st'.m l with
   |none=>exact absurd f1 hl
   |some b1=>
    rcases hfm.m1 l b1 f1 with⟨i,c1,h1,_⟩|⟨_,_,h3⟩
    .exact oH hfm.oko h1
    .have:=hfr.m l (by rw[h3];simp);have:=hfm.nx;omega
 have hrd:=RD.re (ν:=ν) (x:=x') (x':=x2) rfl rfl hβ2 r2 hvd;rcases Ex.yR hh with h|h<;>rw[h]at he<;>subst he<;>exact⟨hi'.defers,v,r1,x2,vd',st',hK,rfl,hstep,hrd,hsim,hfr2⟩
end
end
section
structure Rk where
 tr:List D->St->(D->St->Prop)->Prop
 mu:List D->St->Nat
 mono:∀(ds:List D) (st:St) (K K':D->St->Prop),(∀d st',K d st'->K' d st')->tr ds st K->tr ds st K'
def Rk.no:Rk:=⟨fun _ _ _=>False,fun _ _=>0,fun _ _ _ _ _ h=>h⟩
def kn (af:aM)(Q:D->List (Nat×bT)->Prop):Ex->List b7->St->Prop:=fun e env st=>e.home/\ow st.m env af.res/\∃m1,(∀i,look st.m i=look m1 i)/\Q (jD af env st) m1
def ei {af:aM}{Q:D->List (Nat×bT)->Prop}{vd:D}{m1:List (Nat×bT)}{e:Ex}{env:List b7}{st:St}(h1:e.home)(h2:ow st.m env af.res)(h3:jD af env st=vd)(h4:st.m=m1)(h5:Q vd m1):kn af Q e env st:=⟨h1,h2,m1,fun i=>by rw[h4],by rw[h3];exact h5⟩
section
variable [dw] {P:Program} {ν:List (Nat×Nat)} {cy:List Nat} {Y:Ctx}
end
end
section
abbrev RT:=List D->D->Prop
abbrev FT:=D->List D->D->D->Prop
abbrev TT:=List D->St->(D->St->Prop)->Prop
def zu (T:TT):Prop:=∀ds st K K',(∀d st',K d st'->K' d st')->T ds st K->T ds st K'
def u9 (A:RT->Prop):RT:=fun ds d=>∀T,A T->T ds d
def uZ (A:FT->Prop):FT:=fun d ds v s=>∀T,A T->T d ds v s
def MR (T:TT):Ctx:=⟨fun _ _=>False,fun _ _=>.any,fun _=>T,fun _ _ _=>False,fun _ _ _=>.any,fun _ _ _=>.any,0⟩
def Ig (C:Ctx->Prop):TT:=fun ds st K=>∀T,zu T->C (MR T)->T ds st K
def Ab (C:Ctx->Prop):zu (Ig C):=fun _ _ _ _ h h1 T hT hC=>hT _ _ _ _ h (h1 T hT hC)
def noR:RT:=fun _ _=>False
def RJ:FT:=fun _ _ _ _=>False
def noT:TT:=fun _ _ _=>False
def vD:zu noT:=fun _ _ _ _ _ h=>h.elim
structure lH where
 key:Nat
 rel:RT
 mu:List D->Nat
 relF:FT
 tr:TT
 muE:List D->St->Nat
 mono:zu tr
def mu0:List D->Nat:=fun _=>0
def Li:List D->St->Nat:=fun _ _=>0
def ll:lH:=⟨0,noR,mu0,RJ,noT,Li,vD⟩
def rP (k:Nat)(A:RT->Prop)(mu:List D->Nat:=mu0):lH:=⟨k,u9 A,mu,RJ,noT,Li,vD⟩
def rF (k:Nat)(A:FT->Prop):lH:=⟨k,noR,mu0,uZ A,noT,Li,vD⟩
def rG (k:Nat)(C:Ctx->Prop)(mu:List D->St->Nat:=Li):lH:=⟨k,noR,mu0,RJ,Ig C,mu,Ab C⟩
noncomputable def pick (r:D->Prop):D:=Classical.epsilon r
def jB {r:D->Prop}(h:∃d,r d):r (pick r):=Classical.epsilon_spec h
def O5 (R:RT):Prop:=∀ds d d',R ds d->R ds d'->d=d'
def Bz (R:FT):Prop:=∀d ds v s v' s',R d ds v s->R d ds v' s'->v=v'/\s=s'
def HN {A:RT->Prop}(h:A fun ds d=>A fun ds' d'=>ds'=ds->d=d'):O5 (u9 A):=fun ds d d' h1 h2=>h2 _ (h1 _ h) rfl
def KX {A:FT->Prop}(h:A fun d ds v s=>A fun d' ds' v' s'=>d'=d->ds'=ds->v=v'/\s=s'):Bz (uZ A):=fun d ds v s v' s' h1 h2=>h2 _ (h1 _ h) rfl rfl
noncomputable def wQ (t:List (Nat×lH)):Ctx where
 pre n ds:=∃d,(lk t n ll).rel ds d
 val n ds:=pick ((lk t n ll).rel ds)
 tr n:=(lk t n ll).tr
 fp n d ds:=∃v s,(lk t n ll).relF d ds v s
 fv n d ds:=pick fun v=>∃s,(lk t n ll).relF d ds v s
 fs n d ds:=pick fun s=>∃v,(lk t n ll).relF d ds v s
 lo:=0
def Jc (t:List (Nat×lH)):ND:=⟨fun n=>(lk t n ll).key,fun n=>(lk t n ll).mu,fun n=>(lk t n ll).muE⟩
noncomputable abbrev under (t:List (Nat×lH))(k u:Nat):Ctx:=(wQ t).under (Jc t) k u
def oE (t:List (Nat×lH))(k u n:Nat):(((wQ t).under (Jc t) k u).at n).cM:=
 fun f ds st K K' h hh=>⟨hh.1,(lk t f ll).mono ds st K K' h hh.2⟩
section
variable {t:List (Nat×lH)} {n k u:Nat} {ds:List D} {d v s:D} {st:St} {K:D->St->Prop}
def dS (hD:O5 (lk t n ll).rel)(hk:(lk t n ll).key<k\/(lk t n ll).key=k/\(lk t n ll).mu ds<u)(h:(lk t n ll).rel ds d):(under t k u).pre n ds/\(under t k u).val n ds=d:=
 ⟨⟨hk,d,h⟩,hD _ _ _ (jB ⟨d,h⟩) h⟩
def okf (hD:Bz (lk t n ll).relF)(hk:(lk t n ll).key<k)(h:(lk t n ll).relF d ds v s):(under t k u).fp n d ds/\(under t k u).fv n d ds=v/\(under t k u).fs n d ds=s:=by
 refine⟨⟨.inl hk,v,s,h⟩, ?_, ?_⟩
 .obtain⟨s',h'⟩:=jB (r:=fun v=>∃s,(lk t n ll).relF d ds v s) ⟨v,s,h⟩;exact(hD _ _ _ _ _ _ h' h).1
 .obtain⟨v',h'⟩:=jB (r:=fun s=>∃v,(lk t n ll).relF d ds v s) ⟨s,v,h⟩;exact(hD _ _ _ _ _ _ h' h).2
def DP (hk:(lk t n ll).key<k\/(lk t n ll).key=k/\(lk t n ll).muE ds st<u)(h:(lk t n ll).tr ds st K):(under t k u).tr n ds st K:=⟨hk,h⟩
end
section
variable [dw] {P:Program} {ν:List (Nat×Nat)} {cy:List Nat} {Y:Ctx} {t:List (Nat×lH)} {fid n key:Nat}
def C6 (P:Program)(ν:List (Nat×Nat))(cy:List Nat)(Y:Ctx)(fid:Nat)(ds:List D)(d:D):Prop:=Ok P ν cy Y->∀(x:X) (args:Array Value),args.size=ds.length->(∀i,i<ds.length->RD ν x (args.getD i undef) (ds.getD i .any))->aW ds=true->
  (∀b,x.I b->b<x.w.heap.size)->dw.gd x->iQ P x (fun v x'=>nN x x'/\RD ν x' v d) ((callFunc fid args).run P x.w)
def C7 (P:Program)(ν:List (Nat×Nat))(cy:List Nat)(Y:Ctx)(fid:Nat)(d:D)(ds:List D)(vd new:D):Prop:=Ok P ν cy Y->∀(x:X) (f:Nat->Option bT) (args:Array Value) (l k:Nat),args.size=ds.length+1->
   RD ν x (args.getD 0 undef) (.ptr l k 0 0)->(∀i,i<ds.length->RD ν x (args.getD (i+1) undef) (ds.getD i .any))->eI ν x f->f l=some (.buf k [d])->d.bm=true->aW ds=true->
   iQ P x (fun v x'=>Step x x'/\RD ν x' v vd/\eI ν x' (fun l'=>if l'=l then some (.buf k [new])else f l')/\x'.β=x.β) ((callFunc fid args).run P x.w)
def kJ (P:Program)(ν:List (Nat×Nat))(cy:List Nat)(Y:Ctx)(fid:Nat)(ds:List D)(st:St)(K:D->St->Prop):Prop:=Ok P ν cy Y->∀(x:X) (args:Array Value),args.size=ds.length->(∀i,i<ds.length->RD ν x (args.getD i undef) (ds.getD i .any))->eI ν x (look st.m)->eG st x->
  iQ P x (fun v x'=>∃d st',K d st'/\Step x x'/\RD ν x' v d/\eI ν x' (look st'.m)/\eG st' x') ((callFunc fid args).run P x.w)
structure O6 (P:Program)(ν:List (Nat×Nat))(cy:List Nat)(t:List (Nat×lH))(fid n:Nat):Prop where
 p:∀ds d,(lk t n ll).rel ds d->C6 P ν cy (under t (lk t n ll).key ((lk t n ll).mu ds)) fid ds d
 f:Bz (lk t n ll).relF/\∀d ds v s,(lk t n ll).relF d ds v s->C7 P ν cy (under t (lk t n ll).key ((lk t n ll).mu (d::ds))) fid d ds v s
 g:∀ds st K,(lk t n ll).tr ds st K->kJ P ν cy (under t (lk t n ll).key ((lk t n ll).muE ds st)) fid ds st K
def okA (hsm:∀fid n,dx ν fid=some n->n<1000000)(hB:∀t,cy.contains (1000000000+t)=true->t=dw.tB)(hG:∀g,cy.contains (500000000+g)=true->dw.gz g)(h:∀fid n,dx ν fid=some n->O6 P ν cy t fid n):Ok P ν cy (wQ t):=by
 refine RL (Jc t) hsm hB hG (fun fid n hn ds hp hok=>(h fid n hn).p ds _ (jB hp) hok) (fun fid n hn _ d ds hp hok=>?_) (fun fid n hn ds st K htr hok=>(h fid n hn).g ds st K htr hok);obtain⟨v,s,hr⟩:=hp;obtain⟨hD,hf⟩:=(h fid n hn).f;have h2:(wQ t).fv n d ds=v/\(wQ t).fs n d ds=s:=by
  constructor
  .obtain⟨s',h'⟩:=jB (r:=fun v=>∃s,(lk t n ll).relF d ds v s) ⟨v,s,hr⟩;exact(hD _ _ _ _ _ _ h' hr).1
  .obtain⟨v',h'⟩:=jB (r:=fun s=>∃v,(lk t n ll).relF d ds v s) ⟨s,v,hr⟩;exact(hD _ _ _ _ _ _ h' hr).2
 rw[h2.1,h2.2];exact hf d ds v s hr hok
def yO {Y:D->List D->Ctx}:Bz RJ/\∀d ds v s,RJ d ds v s->C7 P ν cy (Y d ds) fid d ds v s:=⟨fun _ _ _ _ _ _ h=>h.elim,fun _ _ _ _ h=>h.elim⟩
def b9 {A:RT->Prop}{mu:List D->Nat}(hr:lk t n ll=rP key A mu)(h:A fun ds d=>C6 P ν cy (under t key (mu ds)) fid ds d):O6 P ν cy t fid n:=by
 refine⟨?_, ?_, ?_⟩<;>rw[hr]
 .exact fun ds d hd=>hd (fun ds d=>C6 P ν cy (under t key (mu ds)) fid ds d) h
 .exact yO
 .exact fun _ _ _ h=>h.elim
def oweF {A:FT->Prop}(hr:lk t n ll=rF key A)(hD:Bz (uZ A))(h:A fun d ds v s=>C7 P ν cy (under t key 0) fid d ds v s):O6 P ν cy t fid n:=by
 refine⟨?_, ?_, ?_⟩<;>rw[hr]
 .exact fun _ _ h=>h.elim
 .exact⟨hD,fun d ds v s hd=>hd _ h⟩
 .exact fun _ _ _ h=>h.elim
def FQ {Y:List D->St->Ctx}:zu fun ds st K=>kJ P ν cy (Y ds st) fid ds st K:=fun ds st K K' h hg hok x args hl ha hs hf=>(hg hok x args hl ha hs hf).mono fun v x' ⟨d,st',h1,h2⟩=>⟨d,st',h _ _ h1,h2⟩
def vL {C:Ctx->Prop}{mu:List D->St->Nat}(hr:lk t n ll=rG key C mu)(h:C (MR fun ds st K=>kJ P ν cy (under t key (mu ds st)) fid ds st K)):O6 P ν cy t fid n:=by
 refine⟨?_, ?_, ?_⟩<;>rw[hr]
 .exact fun _ _ h=>h.elim
 .exact yO
 .exact fun ds st K hd=>hd (fun ds st K=>kJ P ν cy (under t key (mu ds st)) fid ds st K) FQ h
def zn (P:Program)(ν:List (Nat×Nat))(cy:List Nat)(fid:Nat)(af:aM):Prop:=(P.funcs[fid]?).map (fun f=>(compile P ν cy f,f.name== "runtime.NumGoroutine"))=some (some af,false)
def zn.split {af:aM}(h:zn P ν cy fid af):∃fn,P.funcs[fid]? =some fn/\compile P ν cy fn=some af/\(fn.name== "runtime.NumGoroutine")=false:=by
 grind [zn]
def bh {af:aM}{ds:List D}{d:D}(hmix:P.follows .mixedOrders=true)(hC:zn P ν cy fid af)(h1:ds.length=af.np)(h2:cq (Y.at 0) af.body (O7 af d) (fK af ds) ⟨0,[]⟩):C6 P ν cy Y fid ds d:=by
 intro hok x args hl hargs hnl himm hgd;obtain⟨fn,hf,hc,hn⟩:=hC.split;obtain⟨body,c1,_⟩:=hH hc;exact .inr ⟨fid,args,iS hf hn (by rw[c1];rfl) args x.w,K3 hok hmix hf hc hl hargs hnl himm hgd h1 h2⟩
def Ru {af:aM}{d:D}{ds:List D}{vd new:D}(k0:Nat)(hmix:P.follows .mixedOrders=true)(hC:zn P ν cy fid af)(h1:ds.length+1=af.np)(hk:d.cells.length=k0)
  (h2:cq (Y.at 1) af.body (NG af k0 vd new) (fK af (.ptr 0 k0 0 0::ds)) ⟨1,[(0,.buf k0 [d])]⟩):C7 P ν cy Y fid d ds vd new:=by
 intro hok x f args l k hl h0 hargs hs hfl hd hnl;obtain⟨fn,hf,hc,hn⟩:=hC.split;obtain⟨body,c1,_⟩:=hH hc;have hkk:k=k0:=by
  generalize args.getD 0 undef=v0 at h0;cases h0 with
  |ptr _ _ _ _ b base tot at_ hβ hat=>
   obtain⟨p1,p2,c,T,fr,p3,p4,p5,p6⟩:=(hs.own l _ b base tot hfl hβ).2;have:=(p6 0 bz).1
   grind
 subst hkk;exact .inr ⟨fid,args,iS hf hn (by rw[c1];rfl) args x.w,K1 hok hmix hf hc hl h0 hargs hs hfl hd hnl h1 h2⟩
def pA {af:aM}{ds:List D}{st:St}{K:D->St->Prop}{σi:List (Nat×Nat)}{q:Nat}{m0:List (Nat×bT)}{cs:List D}{Q:D->List (Nat×bT)->Prop}(hmono:∀q,(Y.at q).cM)(hmix:P.follows .mixedOrders=true)(hC:zn P ν cy fid af)
  (h1:cs.length=ds.length) (h2:∀i,i<ds.length->KJ 0 σi (ds.getD i .any) (cs.getD i .any)) (h3:cs.length=af.np)
  (h4:eQ 0 q σi=true) (h5:∀l i,(l,i)∈σi->look st.m l≠none) (h6:∀i b,look m0 i=some b->∃l b',(l,i)∈σi/\look st.m l=some b'/\mH 0 σi b' b)
  (h7:cq (Y.at q) af.body (kn af Q) (fK af cs) ⟨q,m0⟩) (h8:∀d m1,Q d m1->∃(σo:List (Nat×Nat)) (q1:Nat) (st':St) (vd':D),Fr σi σo q q1 m0 m1 st st'/\KJ 0 σo d vd'/\K vd' st'):kJ P ν cy Y fid ds st K:=by
 intro hok x args hl hargs hs hfr;obtain⟨fn,hf,hc,hn⟩:=hC.split;obtain⟨body,c1,_⟩:=hH hc;refine .inr ⟨fid,args,iS hf hn (by rw[c1];rfl) args x.w, ?_⟩;refine Calls.mono (K2 (K:=K) hok hmix hf hc hl hargs hs hfr h1 h2 h3 h4 h5 h6 (gp (hmono q) _ _ _ _ _ (fun e env st1 h=>?_) h7)) fun e w' he=>?_
 .obtain⟨g1,g2,m1,g3,g4⟩:=h
  grind
 grind
end
end
theorem p8 {α:Type}{f:α->D}(hf:∀x y,f x=f y↔x=y):∀a b:List α,a.map f=b.map f↔a=b
 |[],[]=>bz
 |[],_::_=>bz
 |_::_,[]=>bz
 |x::a,y::b=>by simp only[List.map_cons,sy,hf,p8 hf a b]
def N3 (a b:Nat):((a:Nat):Int)=(b:Nat)↔a=b:=ae
theorem iU8 (x y:UInt8):((x.toNat:Nat):Int)=(y.toNat:Nat)↔x=y:=(N3 _ _).trans C1
def Rz (a b:List dF):a.map D.str=b.map D.str↔a=b:=p8 (fun _ _=>bz) a b
def K8 (a b:List Int):a.map (D.int .i64)=b.map (D.int .i64)↔a=b:=p8 (fun _ _=>bz) a b
def iByt (a b:dF):(a.map fun c=>D.int .u8 c.toNat)=(b.map fun c=>D.int .u8 c.toNat)↔a=b:=by grind [p8,iU8]
def iVer (a b:bp):bp.D a=bp.D b↔a=b:=by cases a;cases b;simp[bp.D]
def Lv [dw]{P:Program}{ν:List (Nat×Nat)}{cy:List Nat}{t:List (Nat×lH)}{fid n:Nat}(hr:lk t n ll=ll):O6 P ν cy t fid n:=by
 refine⟨?_, ?_, ?_⟩<;>rw[hr]
 .exact fun _ _ h=>h.elim
 .exact yO
 .exact fun _ _ _ h=>h.elim
structure Cut where
 e:Int
 v:bp
 a:Bool
 deriving Inhabited,DecidableEq
def Cut.D (c:Cut):D:=.agg [.int .i64 c.e,.int .i64 c.v.major,.int .i64 c.v.minor,.int .i64 c.v.patch,.str c.v.pre,.str c.v.build,.bool c.a]
structure Span where
 f:Cut
 t:Cut
 deriving Inhabited,DecidableEq
def Span.D (s:Span):D:=.agg [.int .i64 s.f.e,.int .i64 s.f.v.major,.int .i64 s.f.v.minor,.int .i64 s.f.v.patch,.str s.f.v.pre,.str s.f.v.build,.bool s.f.a,
 .int .i64 s.t.e,.int .i64 s.t.v.major,.int .i64 s.t.v.minor,.int .i64 s.t.v.patch,.str s.t.v.pre,.str s.t.v.build,.bool s.t.a]
structure bQ where
 rel:List Span
 pr:List Span
 deriving Inhabited,DecidableEq
def bQ.D (s:bQ):D:=.agg [.sl 14 (s.rel.map Span.D),.sl 14 (s.pr.map Span.D)]
structure Want where
 u:Int
 s:bQ
 deriving Inhabited,DecidableEq
def Want.D (w:Want):D:=.agg [.int .i64 w.u,.sl 14 (w.s.rel.map Span.D),.sl 14 (w.s.pr.map Span.D)]
abbrev j8:=List Want
def dP (r:j8):D:=.sl 3 (r.map Want.D)
structure dJ where
 v:bp
 sh:Int
 needs:List j8
 bars:List Want
 deriving Inhabited,DecidableEq
def dJ.D (c:dJ):D:=.agg [.int .i64 c.v.major,.int .i64 c.v.minor,.int .i64 c.v.patch,.str c.v.pre,.str c.v.build,.int .i64 c.sh,.sl 1 (c.needs.map dP),.sl 3 (c.bars.map Want.D)]
structure bI where
 name:dF
 feat:dF
 cands:List dJ
 deriving Inhabited,DecidableEq
def bI.D (u:bI):D:=.agg [.str u.name,.str u.feat,.sl 8 (u.cands.map dJ.D)]
structure bH where
 us:List bI
 deriving Inhabited,DecidableEq
def bH.D (w:bH):D:=.agg [.sl 3 (w.us.map bI.D)]
structure bB where
 u:Int
 m:Int
 deriving Inhabited,DecidableEq
def bB.D (t:bB):D:=.agg [.int .i64 t.u,.int .i64 t.m]
structure ar where
 kind:Int
 unit:Int
 a:Int
 b:Int
 terms:List bB
 deriving Inhabited,DecidableEq
def ar.D (r:ar):D:=.agg [.int .i64 r.kind,.int .i64 r.unit,.int .i64 r.a,.int .i64 r.b,.sl 2 (r.terms.map bB.D)]
structure bo where
 w:bH
 allow:List Int
 rows:List ar
 deriving Inhabited,DecidableEq
def bo.D (c:bo):D:=.agg [.sl 3 (c.w.us.map bI.D),.sl 1 (c.allow.map (D.int .i64)),.sl 5 (c.rows.map ar.D)]
def NZ (a b:Bool):ic (D.bool a).cells (D.bool b).cells=decide (a=b):=by cases a<;>cases b<;>rfl
def rB (f:Nat->Int):Nat->Nat->Int
 |_,0=>0
 |i,k+1=>if f i=0 then rB f (i+1) k else f i
def gM (f:Nat->Int)(i n:Nat):Int:=rB f i (n-i)
def FM {f:Nat->Int}{i n:Nat}(h:i<n)(hf:f i=0):gM f i n=gM f (i+1) n:=by
 unfold gM;obtain⟨k,hk⟩:∃k,n-i=k+1:=⟨n-i-1,ae⟩
 grind [rB]
def BO {f:Nat->Int}{i n:Nat}(h:i<n)(hf:f i≠0):gM f i n=f i:=by
 unfold gM;obtain⟨k,hk⟩:∃k,n-i=k+1:=⟨n-i-1,ae⟩
 rw[hk];simp only[rB,hf,aE]
def FL {f:Nat->Int}{i n:Nat}(h:n<=i):gM f i n=0:=by
 unfold gM;rw[show n-i=0 by omega];rfl
def dp (a b:Int):Int:=if a<b then-1 else if b<a then 1 else 0
def lh (a b:dF):Int:=if Op.bytesLess a b=true then-1 else if a=b then 0 else 1
def pn (a b:dF):Int:=if cI a=true/\cI b=true then dp (tq a) (tq b)else if cI a=true then-1 else if cI b=true then 1 else lh a b
def A8 (l m:List dF):Nat->Nat->Int
 |_,0=>dp l.length m.length
 |i,k+1=>if pn l[i]! m[i]! ≠0 then pn l[i]! m[i]! else A8 l m (i+1) k
def pF (l m:List dF)(i:Nat):Int:=A8 l m i (min l.length m.length-i)
def xX {l m:List dF}{i:Nat}(h:i<l.length/\i<m.length)(hn:pn l[i]! m[i]! ≠0):pF l m i=pn l[i]! m[i]! :=by
 unfold pF;rw[show min l.length m.length-i=(min l.length m.length-(i+1))+1 by omega,A8,ax hn]
def A7 {l m:List dF}{i:Nat}(h:i<l.length/\i<m.length)(hn:pn l[i]! m[i]! =0):pF l m i=pF l m (i+1):=by
 unfold pF;rw[show min l.length m.length-i=(min l.length m.length-(i+1))+1 by omega,A8,ai (by rw[hn];simp)]
def xW {l m:List dF}{i:Nat}(h:l.length<=i\/m.length<=i):pF l m i=dp l.length m.length:=by
 unfold pF;rw[show min l.length m.length-i=0 by omega,A8]
def rZ (a b:dF):Int:=if a=b then 0 else if a=[]then 1 else if b=[]then-1 else pF (bM a 46) (bM b 46) 0
def kL (a b:bp):Int:=if j3 a=false\/j3 b=false then 0 else
 if dp a.major b.major≠0 then dp a.major b.major else if dp a.minor b.minor≠0 then dp a.minor b.minor else
 if dp a.patch b.patch≠0 then dp a.patch b.patch else rZ a.pre b.pre
def jO (v:bp):bp:=⟨v.major,v.minor,v.patch,v.pre,[]⟩
theorem FG (a:Int):dp a a=0:=by simp[dp]
def rr {a b:Int}:dp a b=0↔a=b:=by
 grind [dp]
def FH {a b:bp}(h:jO a=jO b):kL a b=0:=by
 grind [jO,kL,rZ,FG]
theorem HV (x y z:Int):gM (fun i=>[x,y,z][i]!) 0 [x,y,z].length=if x≠0 then x else if y≠0 then y else z:=by
 grind [gM,rB]
def HX {x y z:Int}(h:gM (fun i=>[x,y,z][i]!) 0 [x,y,z].length=0):x=0/\y=0/\z=0:=by
 grind [HV]
def HW {a b:bp}(hv:¬(j3 a=false\/j3 b=false))(h:¬gM (fun i=>[dp a.major b.major,dp a.minor b.minor,dp a.patch b.patch][i]!) 0 [dp a.major b.major,dp a.minor b.minor,dp a.patch b.patch].length=0):
  gM (fun i=>[dp a.major b.major,dp a.minor b.minor,dp a.patch b.patch][i]!) 0 [dp a.major b.major,dp a.minor b.minor,dp a.patch b.patch].length=kL a b:=by
 grind [HV,kL]
def HL {a b:bp}(hv:¬(j3 a=false\/j3 b=false))(h1:dp a.major b.major=0)(h2:dp a.minor b.minor=0)(h3:dp a.patch b.patch=0):kL a b=rZ a.pre b.pre:=by
 grind [kL]
def KU {a b:bp}(h1:dp a.major b.major=0)(h2:dp a.minor b.minor=0)(h3:dp a.patch b.patch=0)(h4:a.pre=b.pre):jO a=jO b:=by
 unfold jO;rw[rr.1 h1,rr.1 h2,rr.1 h3,h4]
def Cut.sm (c:Cut):Prop:=c.v.sm
def Span.sm (s:Span):Prop:=s.f.sm/\s.t.sm
def bW (l:List Span):Prop:=∀s∈l,s.sm
def bQ.sm (s:bQ):Prop:=bW s.rel/\bW s.pr
def Want.sm (w:Want):Prop:=w.s.sm
def dJ.sm (c:dJ):Prop:=c.v.sm/\(∀r∈c.needs,∀w∈r,w.sm)/\∀w∈c.bars,w.sm
def bI.sm (u:bI):Prop:=u.cands.length<=16/\∀c∈u.cands,c.sm
def bH.sm (w:bH):Prop:=∀u∈w.us,u.sm
def zV:bp:=⟨0,0,0,[],[]⟩
def lj (c:Cut):Bool:=if c.e=0 then j3 c.v&&decide (c.v.build=[])else(decide (c.e=-1) ||decide (c.e=1))&&decide (c.v=zV)&& !c.a
def gh (a b:Cut):Int:=if lj a=false\/lj b=false then 0 else if a.e≠0\/b.e≠0 then dp a.e b.e else
 if kL a.v b.v≠0 then kL a.v b.v else if a.a=b.a then 0 else if b.a=true then-1 else 1
def jZ (s:Span):Bool:=lj s.f&&lj s.t&&decide (gh s.f s.t<0)
def gI (c:Cut)(v:bp):Bool:=if lj c=false\/j3 v=false then false else if c.e≠0 then decide (c.e<0)else decide (kL c.v v<0) ||(decide (kL c.v v=0)&& !c.a)
def lM (s:Span)(v:bp):Bool:=jZ s&&j3 v&&gI s.f v&& !gI s.t v
def tt (l:List Span)(i:Nat):Bool:=jZ l[i]! && !(decide (0<i)&&decide (0<=gh l[i-1]!.t l[i]!.f))
def lS (l:List Span):Bool:=dd (tt l) 0 l.length
def qq (f:Nat->Bool)(i n:Nat):Bool:=!dd (fun i=>!f i) i n
def lq {f:Nat->Bool}{i n:Nat}(h:i<n):qq f i n=(f i ||qq f (i+1) n):=by
 unfold qq;rw[bD h];simp
def tF {f:Nat->Bool}{i n:Nat}(h:n<=i):qq f i n=false:=by
 unfold qq;rw[dr h];rfl
def Ho {f:Nat->Bool}{i n:Nat}:qq f i n=true↔∃j,i<=j/\j<n/\f j=true:=by
 unfold qq;rw[ef,<-Bool.not_eq_true,cE];simp
def na (l:List Span)(v:bp):Bool:=lS l&&qq (fun i=>lM l[i]! v) 0 l.length
def pY (v:bp):Bool:=decide (v.major=0)&&decide (v.minor=0)&&decide (v.patch=0)
def jE (c:Cut):Bool:=decide (c.e≠0) ||(!c.a&&decide (c.v.pre=[])&& !pY c.v)
def mA (c:Cut):Bool:=decide (c.e≠0) ||(!c.a&&decide (c.v.pre=[])&& !decide (c.v=zV))
def nd (s:bQ):Bool:=lS s.rel&&lS s.pr&&dd (fun i=>jE s.rel[i]!.f&&jE s.rel[i]!.t) 0 s.rel.length
def MO (s:bQ):Bool:=dd (fun i=>mA s.rel[i]!.f&&mA s.rel[i]!.t) 0 s.rel.length&&(lS s.rel&&lS s.pr)
def nB (s:bQ)(v:bp):Bool:=nd s&&j3 v&&(if v.pre=[]then na s.rel v else na s.pr v)
def v7 {c:Cut}(h:lj c=true):mA c=jE c:=by
 obtain⟨e,⟨a,b,c,p,q⟩,f⟩:=c;by_cases he:e=0
 .simp only[lj,he,aF,br,bC]at h;obtain⟨_,rfl⟩:=h;simp only[mA,jE,pY,zV,bp.mk.injEq];by_cases h1:p=[]<;>by_cases h2:a=0<;>by_cases h3:b=0<;>by_cases h4:c=0<;>simp[h1,h2,h3,h4]
 .simp[mA,jE,he]
def Ju {l:List Span}(h:lS l=true){i:Nat}(hi:i<l.length):lj l[i]!.f=true/\lj l[i]!.t=true:=by
 unfold lS at h;rw[cE]at h;have:=h i ae hi;simp only[tt,jZ,br]at this;exact⟨this.1.1.1,this.1.1.2⟩
def LV (s:bQ):MO s=nd s:=by
 unfold MO nd;cases h:lS s.rel with
 |false=>simp
 |true=>
  have:dd (fun i=>mA s.rel[i]!.f&&mA s.rel[i]!.t) 0 s.rel.length=dd (fun i=>jE s.rel[i]!.f&&jE s.rel[i]!.t) 0 s.rel.length:=by
   rw[Bool.eq_iff_iff,cE,cE];constructor<;>intro g j h1 h2<;>have q:=Ju h h2<;>have:=g j h1 h2<;>rw[v7 q.1,v7 q.2]at* <;>exact this
  rw[this];cases lS s.pr<;>simp
def mW:Cut:=⟨-1,zV,false⟩
def qN:Cut:=⟨1,zV,false⟩
def lr (v:bp):Cut:=⟨0,jO v,false⟩
def tJ (v:bp):Cut:=⟨0,jO v,true⟩
def nD (v:bp):bp:=⟨v.major,v.minor,v.patch,[],[]⟩
def eR (v:bp)(p:Int):bp:=if p=0 then⟨v.major+1,0,0,[],[]⟩else if p=1 then⟨v.major,v.minor+1,0,[],[]⟩else⟨v.major,v.minor,v.patch+1,[],[]⟩
def fT (v:bp)(p:Int):bp×Bool:=if j3 v=false\/p<0\/2<p then(zV,false)else if j3 (eR v p)=false then(zV,false)else(eR v p,true)
def vC (v:bp):Nat->bp×Bool
 |0=>(zV,false)
 |n+1=>if(fT v (n:Int)).2=true then((fT v (n:Int)).1,true)else vC v n
def iI (v:bp):bp×Bool:=if j3 v=false then(zV,false)else if v.pre≠[]then(nD v,true)else vC v 3
def nP (v:bp):Cut:=if pY v=true then mW else lr (nD v)
def zH (v:bp):Cut:=if(iI (nD v)).2=false then qN else lr (iI (nD v)).1
def kP (l:List Cut)(c:Cut)(i:Nat):Nat:=i+((l.drop i).takeWhile fun x=>decide (gh x c<0)).length
def K9 {l:List Cut}{c:Cut}{i:Nat}(h:i<l.length)(hc:gh l[i]! c<0):kP l c i=kP l c (i+1):=by
 unfold kP;rw[lf h,List.takeWhile_cons_of_pos (by simpa[h]using hc)];simp;omega
def La {l:List Cut}{c:Cut}{i:Nat}(h:i<l.length->¬gh l[i]! c<0):kP l c i=i:=by
 unfold kP;rcases cT i l.length with hi|hi
 .rw[lf hi,List.takeWhile_cons_of_neg (by simpa[hi]using h hi)];rfl
 .rw[nk hi];rfl
def td (l:List Cut)(c:Cut):List Cut:=if kP l c 0<l.length/\gh l[kP l c 0]! c=0 then l else(l.take (kP l c 0)++[c])++l.drop (kP l c 0)
def mf (l:List Span):Nat->List Cut
 |0=>[mW,qN]
 |i+1=>td (td (mf l i) l[i]!.f) l[i]!.t
def cG (l:List Span):List Cut:=mf l l.length
def pR (l:List Span)(f t:Cut):Bool:=qq (fun i=>decide (gh l[i]!.f f<=0)&&decide (gh t l[i]!.t<=0)) 0 l.length
def kQ (l:List Span)(f t:Cut):List Span:=if 0<l.length/\gh l[l.length-1]!.t f=0 then l.set (l.length-1) ⟨l[l.length-1]!.f,t⟩else l++[⟨f,t⟩]
def ez (p:Cut->Cut->Bool)(c:List Cut):Nat->List Span
 |0=>[]
 |i+1=>if p c[i]! c[i+1]! =true then kQ (ez p c i) c[i]! c[i+1]! else ez p c i
def AV (p:Cut->Cut->Bool)(c:List Cut):List Span:=ez p c (c.length-1)
def og (l:List Span):List Span×Bool:=if dd (fun i=>jZ l[i]!) 0 l.length=true then(AV (pR l) (cG l),true)else([],false)
def GX (a b:List Span):List Span:=if lS a=false\/lS b=false then []else(og (a++b)).1
def tp (a:List Span):List Span:=if lS a=false then []else AV (fun x y=>!pR a x y) (cG a)
def vE:bQ:=⟨[],[]⟩
def qm:List Span:=[⟨mW,qN⟩]
def wN:bQ:=⟨qm,qm⟩
def bY (v:bp):bQ:=if j3 v=false then vE else if v.pre≠[]then⟨[],[⟨lr v,tJ v⟩]⟩else⟨[⟨nP v,zH v⟩],[]⟩
def IG (a b:bQ):bQ:=if nd a=false\/nd b=false then vE else⟨GX a.rel b.rel,GX a.pr b.pr⟩
def w6 (a:bQ):bQ:=if nd a=false then vE else⟨tp a.rel,tp a.pr⟩
def nK (l:List Cut):Prop:=∀c∈l,c.sm
def Fs (l:List Span):Prop:=bW l/\l.length<=1000
def BE (s:bQ):Prop:=Fs s.rel/\Fs s.pr
def sW:zV.sm:=by simp[zV,bp.sm]
def oO:mW.sm:=sW
def qO:qN.sm:=sW
def tM {v:bp}(h:v.sm):(jO v).sm:=⟨h.1,by simp[jO]⟩
def y8 (v:bp):(nD v).sm:=by simp[nD,bp.sm]
def qy (v:bp)(p:Int):(eR v p).sm:=by unfold eR;split<;>(try split)<;>simp[bp.sm]
def Hy (v:bp)(p:Int):(fT v p).1.sm:=by unfold fT;split<;>(try split)<;>first|exact sW|exact qy v p
def Ak (v:bp):∀n,(vC v n).1.sm
 |0=>sW
 |n+1=>by
  rw[vC];split
  .exact Hy v _
  .exact Ak v n
def Ir (v:bp):(iI v).1.sm:=by
 unfold iI;repeat' split
 all_goals first|exact sW|exact y8 v|exact Ak v _
def JS {v:bp}(h:j3 v=true):(0<=v.major/\v.major<=9999)/\(0<=v.minor/\v.minor<=9999)/\0<=v.patch/\v.patch<=9999:=by
 simp only[j3,BP,br,bC]at h;omega
def yx {l:List Cut}{c:Cut}(hl:nK l)(hc:c.sm):nK (td l c):=by
 unfold td;split
 .exact hl
 .intro x hx;simp only[List.mem_append,bG]at hx;rcases hx with(hx|rfl)|hx
  .exact hl _ (C2 hx)
  .exact hc
  .exact hl _ (List.mem_of_mem_drop hx)
def uC (l:List Cut)(c:Cut):(td l c).length<=l.length+1:=by
 unfold td;split<;>simp<;>omega
def uG {l:List Span}(hl:bW l):∀{i:Nat},i<=l.length->nK (mf l i)
 |0,_=>by intro x hx;simp[mf]at hx;rcases hx with rfl|rfl;exact oO;exact qO
 |i+1,h=>yx (yx (uG hl ae) (hl _ (aj ae)).1) (hl _ (aj ae)).2
def qD {l:List Span}(hl:bW l):nK (cG l):=uG hl (aA _)
def ru (l:List Span):∀i,(mf l i).length<=2+2*i
 |0=>by simp[mf]
 |i+1=>by
  have h1:=ru l i;have h2:=uC (mf l i) l[i]!.f;have h3:=uC (td (mf l i) l[i]!.f) l[i]!.t;simp only[mf];omega
def oM (l:List Span):(cG l).length<=2+2*l.length:=ru l _
def H6 {l:List Span}{f t:Cut}(hl:bW l)(hf:f.sm)(ht:t.sm):bW (kQ l f t):=by
 unfold kQ;split
 .rename_i h;intro x hx;rcases List.mem_or_eq_of_mem_set hx with hx|rfl
  .exact hl x hx
  .exact⟨(hl _ (aj ae)).1,ht⟩
 .intro x hx;rcases List.mem_append.1 hx with hx|hx
  .exact hl x hx
  .obtain rfl:=bG.1 hx;exact⟨hf,ht⟩
def rC (l:List Span)(f t:Cut):(kQ l f t).length<=l.length+1:=by
 unfold kQ;split<;>simp
def oB {p:Cut->Cut->Bool}{c:List Cut}(hc:nK c):∀{i:Nat},i<c.length\/i=0->bW (ez p c i)
 |0,_=>fun _ h=>by cases h
 |i+1,h=>by
  rw[ez];split
  .exact H6 (oB hc ae) (hc _ (aj ae)) (hc _ (aj ae))
  .exact oB hc ae
def o9 {p:Cut->Cut->Bool}{c:List Cut}:∀i,(ez p c i).length<=i
 |0=>by simp[ez]
 |i+1=>by
  have h1:=o9 (p:=p) (c:=c) i;rw[ez];split
  .have:=rC (ez p c i) c[i]! c[i+1]!;omega
  .omega
def AW {p:Cut->Cut->Bool}{c:List Cut}(hc:nK c):bW (AV p c):=oB hc ae
def xQ {p:Cut->Cut->Bool}{c:List Cut}:(AV p c).length<=c.length:=by
 have:=o9 (p:=p) (c:=c) (c.length-1);unfold AV;omega
def Hq {a b:List Span}(ha:bW a)(hb:bW b):bW (a++b):=fun x hx=>(List.mem_append.1 hx).elim (ha x) (hb x)
def jz:bW []:=fun _ h=>by cases h
def IF {a b:List Span}(ha:bW a)(hb:bW b):bW (GX a b):=by
 unfold GX og;split
 .exact jz
 .split
  .exact AW (qD (Hq ha hb))
  .exact jz
def DL {a:List Span}(ha:bW a):bW (tp a):=by
 unfold tp;split
 .exact jz
 .exact AW (qD ha)
def Ot {a b:bQ}(ha:a.sm)(hb:b.sm):(IG a b).sm:=by
 unfold IG;split
 .exact⟨jz,jz⟩
 .exact⟨IF ha.1 hb.1,IF ha.2 hb.2⟩
def Ll {a:bQ}(ha:a.sm):(w6 a).sm:=by
 unfold w6;split
 .exact⟨jz,jz⟩
 .exact⟨DL ha.1,DL ha.2⟩
def Fu (v:bp):(nP v).sm:=by
 unfold nP;split
 .exact oO
 .exact tM (y8 v)
def KQ (v:bp):(zH v).sm:=by
 unfold zH;split
 .exact qO
 .exact tM (Ir _)
def xi {v:bp}(h:v.sm):(bY v).sm:=by
 unfold bY;split
 .exact⟨jz,jz⟩
 .split
  .exact⟨jz,fun x hx=>by obtain rfl:=bG.1 hx;exact⟨tM h,tM h⟩⟩
  .exact⟨fun x hx=>by obtain rfl:=bG.1 hx;exact⟨Fu v,KQ v⟩,jz⟩
def C8:wN.sm:=⟨fun x hx=>by obtain rfl:=bG.1 hx;exact⟨oO,qO⟩,fun x hx=>by obtain rfl:=bG.1 hx;exact⟨oO,qO⟩⟩
def OZ {xs:List Span}{k:Nat}{t:Cut}(h:k<xs.length):(xs.map Span.D).set k (oC ((xs.map Span.D).getD k .any) 14 7 7 (Cut.D t))=(xs.set k ⟨xs[k]!.f,t⟩).map Span.D:=by
 rw[getD_map h,List.map_set];rfl
structure Key where
 n:dF
 f:dF
 deriving Inhabited
def Key.D (k:Key):D:=.agg [.str k.n,.str k.f]
def oF (n:Int)(w:Want):Bool:=decide (0<w.u)&&decide (w.u<n)&&nd w.s
def nj (n:Int)(l:List Want):Bool:=dd (fun i=>oF n l[i]!) 0 l.length
def oz (n:Int)(l:List Want):Bool:=nj n l&&(decide (0<l.length)&&decide (l.length<=24))
def nq (n:Int)(c:dJ):Bool:=decide (c.needs.length<=24)&&decide (c.bars.length<=24)&&dd (fun i=>oz n c.needs[i]!) 0 c.needs.length&&nj n c.bars
def vK (a b:Key):Int:=if lh a.n b.n≠0 then lh a.n b.n else lh a.f b.f
def ym (a b:bI):Bool:=Op.bytesLess a.name b.name ||(decide (a.name=b.name)&&Op.bytesLess a.feat b.feat)
def qC (n:Int)(cs:List dJ)(k:Nat):Bool:=j3 cs[k]!.v&&nq n cs[k]! && !(decide (0<k)&&decide (0<=kL cs[k-1]!.v cs[k]!.v))
def sU (us:List bI)(i:Nat):Bool:=!(decide (0<i)&&decide (us[i]!.name=[]))&& !(decide (1<i)&& !ym us[i-1]! us[i]!)&&decide (us[i]!.cands.length<=16)&&dd (qC us.length us[i]!.cands) 0 us[i]!.cands.length
def Dy (us:List bI):Bool:=decide (us[0]!.name=[])&&decide (us[0]!.feat=[])&&decide (us[0]!.cands.length=1)
def po (w:bH):Bool:=decide (1<=w.us.length)&&decide (w.us.length<=48)&&Dy w.us&&dd (sU w.us) 0 w.us.length
def Ih (a:dF):Op.bytesLess a a=false:=by
 induction a with
 |nil=>rfl
 |cons x r ih=>unfold Op.bytesLess;simp[ih]
def F9 (a b:bI):decide (0<=vK ⟨a.name,a.feat⟩ ⟨b.name,b.feat⟩)=!ym a b:=by
 unfold vK ym lh;have h:=Ih b.name;by_cases h1:Op.bytesLess a.name b.name=true<;>by_cases h2:a.name=b.name<;>by_cases h3:Op.bytesLess a.feat b.feat=true<;>by_cases h4:a.feat=b.feat<;>simp_all
def Rx (a b:Cut):Cut.D a=Cut.D b↔a=b:=by
 obtain⟨e,⟨v1,v2,v3,v4,v5⟩,x⟩:=a;obtain⟨e',⟨w1,w2,w3,w4,w5⟩,x'⟩:=b;simp[Cut.D,and_assoc]
def Ry (a b:List Cut):a.map Cut.D=b.map Cut.D↔a=b:=p8 Rx a b
def MC (a b:Span):Span.D a=Span.D b↔a=b:=by
 obtain⟨⟨e,⟨v1,v2,v3,v4,v5⟩,x⟩,⟨f,⟨u1,u2,u3,u4,u5⟩,y⟩⟩:=a;obtain⟨⟨e',⟨w1,w2,w3,w4,w5⟩,x'⟩,⟨f',⟨t1,t2,t3,t4,t5⟩,y'⟩⟩:=b;simp[Span.D,and_assoc]
def BV (a b:List Span):a.map Span.D=b.map Span.D↔a=b:=p8 MC a b
def iSet (a b:bQ):bQ.D a=bQ.D b↔a=b:=by cases a;cases b;simp[bQ.D,BV]
def ME (a b:Want):Want.D a=Want.D b↔a=b:=by
 obtain⟨u,⟨x,y⟩⟩:=a;obtain⟨u',⟨x',y'⟩⟩:=b;simp[Want.D,BV]
def BW (a b:List Want):a.map Want.D=b.map Want.D↔a=b:=p8 ME a b
def MF (a b:j8):dP a=dP b↔a=b:=by simp[dP,BW]
def H8 (a b:List j8):a.map dP=b.map dP↔a=b:=p8 MF a b
def Rw (a b:dJ):dJ.D a=dJ.D b↔a=b:=by
 obtain⟨⟨v1,v2,v3,v4,v5⟩,s,x,y⟩:=a;obtain⟨⟨w1,w2,w3,w4,w5⟩,s',x',y'⟩:=b;simp[dJ.D,H8,BW,and_assoc]
def MA (a b:List dJ):a.map dJ.D=b.map dJ.D↔a=b:=p8 Rw a b
def RC (a b:bI):bI.D a=bI.D b↔a=b:=by cases a;cases b;simp[bI.D,MA]
def DA (a b:List bI):a.map bI.D=b.map bI.D↔a=b:=p8 RC a b
def iWld (a b:bH):bH.D a=bH.D b↔a=b:=by cases a;cases b;simp[bH.D,DA]
def RA (a b:bB):bB.D a=bB.D b↔a=b:=by cases a;cases b;simp[bB.D]
def Dz (a b:List bB):a.map bB.D=b.map bB.D↔a=b:=p8 RA a b
def MB (a b:ar):ar.D a=ar.D b↔a=b:=by cases a;cases b;simp[ar.D,Dz]
def BU (a b:List ar):a.map ar.D=b.map ar.D↔a=b:=p8 MB a b
def N2 (a b:bo):bo.D a=bo.D b↔a=b:=by
 obtain⟨⟨x⟩,y,z⟩:=a;obtain⟨⟨x'⟩,y',z'⟩:=b;simp[bo.D,DA,K8,BU]
def iKey (a b:Key):Key.D a=Key.D b↔a=b:=by cases a;cases b;simp[Key.D]
def iTag (a b:Bool):((bif a then 929 else 933)=(bif b then 929 else 933:Nat))↔a=b:=by cases a<;>cases b<;>simp
def iGs (a b:Gs):Gs.D a=Gs.D b↔a=b:=by cases a;cases b;simp[Gs.D,K8]
def Rr {A:FT->Prop}(h:A (fun d ds v s=>A fun d' ds' v' s'=>d'=d->ds'=ds->v=v'/\s=s'):=by
 (repeat' first|apply And.intro|intro _)
 all_goals rename_i e' e
 all_goals (try simp only[sy,D.str.injEq,D.int.injEq,D.bool.injEq,D.sl.injEq,iGs,Rz,iU8,C1,N3,aQ,aP]at e e')
 all_goals first|rfl|(simp only[e,e'];done)|simp_all):Bz (uZ A):=KX h
def FA (m:Int)(i:Nat):Bool:=decide (IntKind.i64.wrap ((BitVec.ofInt 64 (m.fdiv (2^(min (i:Int).toNat 64))))&&&(BitVec.ofInt 64 1)).toNat=1)
def tS (m:Int)(vs:List bp):Nat->bQ
 |0=>vE
 |i+1=>if FA m i=true then IG (tS m vs i) (bY vs[i]!)else tS m vs i
def tv (g:Gs)(vs:List bp):bQ:=if g.bR.val 6=0 then wN else if g.bR.val 6=1 then w6 (tS (g.val 8) vs vs.length)else tS (g.val 8) vs vs.length
def cD (g:Gs)(n:Nat)(vs:Nat->List bp):Want:=⟨1+g.val ((n:Int) -1),tv g.bR (vs (1+g.val ((n:Int) -1)).toNat)⟩
def Gs.eE (g:Gs):Gs:=g.bR.bR.bR
def iZ (n:Nat)(vs:Nat->List bp):Nat->Gs->List j8->List j8×Gs
 |0,g,acc=>(acc,g)
 |k+1,g,acc=>if g.eE.val 3=0 then iZ n vs k g.eE.bR.eE (acc++[[cD g n vs,cD g.eE.bR n vs]])else iZ n vs k g.eE.bR (acc++[[cD g n vs]])
def ay (g:Gs)(n:Nat)(vs:Nat->List bp)(most:Int):List j8×Gs:=iZ n vs (g.val (most+1)).toNat g.bR []
def pf (n:Nat)(s:bQ):Prop:=s.sm/\s.rel.length<=n/\s.pr.length<=n
def pf.s {n:Nat}{s:bQ}(h:pf n s)(hn:n<=1000):BE s:=⟨⟨h.1.1,ea h.2.1 hn⟩,⟨h.1.2,ea h.2.2 hn⟩⟩
def pf.mono {n k:Nat}{s:bQ}(h:pf n s)(hn:n<=k):pf k s:=⟨h.1,ea h.2.1 hn,ea h.2.2 hn⟩
def Lj {n:Nat}:pf n vE:=⟨⟨jz,jz⟩,Nat.zero_le _,Nat.zero_le _⟩
def qF {v:bp}(h:v.sm):pf 1 (bY v):=by
 refine⟨xi h, ?_, ?_⟩<;>(unfold bY;split;exact Nat.zero_le _;split<;>simp)
def DQ (a b:List Span):(GX a b).length<=2+2*(a.length+b.length):=by
 unfold GX og;split
 .exact Nat.zero_le _
 .split
  .have h1:=xQ (p:=pR (a++b)) (c:=cG (a++b));have h2:=oM (a++b);simp only[cK]at h2;dsimp only;omega
  .exact Nat.zero_le _
def Ao (a:List Span):(tp a).length<=2+2*a.length:=by
 unfold tp;split
 .exact Nat.zero_le _
 .have h1:=xQ (p:=fun x y=>!pR a x y) (c:=cG a);have h2:=oM a;omega
def RM {a b:bQ}{n k:Nat}(ha:pf n a)(hb:pf k b):pf (2+2*(n+k)) (IG a b):=by
 refine⟨Ot ha.1 hb.1, ?_, ?_⟩<;>unfold IG<;>split
 .exact Nat.zero_le _
 .have:=DQ a.rel b.rel;have:=ha.2.1;have:=hb.2.1;dsimp only;omega
 .exact Nat.zero_le _
 .have:=DQ a.pr b.pr;have:=ha.2.2;have:=hb.2.2;dsimp only;omega
def Og {a:bQ}{n:Nat}(ha:pf n a):pf (2+2*n) (w6 a):=by
 refine⟨Ll ha.1, ?_, ?_⟩<;>unfold w6<;>split
 .exact Nat.zero_le _
 .have:=Ao a.rel;have:=ha.2.1;dsimp only;omega
 .exact Nat.zero_le _
 .have:=Ao a.pr;have:=ha.2.2;dsimp only;omega
def ML {m:Int}{vs:List bp}(hv:∀v∈vs,v.sm):∀{k:Nat},k<=vs.length->pf (4*2^k-4) (tS m vs k)
 |0,_=>Lj
 |k+1,h=>by
  have ih:=ML (m:=m) hv (show k<=vs.length by omega);have h2:4*2^(k+1)=8*2^k:=by rw[Nat.pow_succ];omega
  have h1:1<=2^k:=Nat.one_le_two_pow;rw[tS];split
  .exact(RM ih (qF (hv _ (aj ae)))).mono ae
  .exact ih.mono ae
def NM:pf 1 wN:=⟨C8,bZ,bZ⟩
def IE {m:Int}{vs:List bp}(hv:∀v∈vs,v.sm)(h4:vs.length<=4){k:Nat}(hk:k<=vs.length):pf 60 (tS m vs k):=(ML hv hk).mono (by
 have:2^k<=2^4:=Nat.pow_le_pow_right bZ ae;omega)
def OQ {g:Gs}{vs:List bp}(hv:∀v∈vs,v.sm)(h4:vs.length<=4):pf 122 (tv g vs):=by
 have h:=IE (m:=g.val 8) hv h4 (aA _);unfold tv;split
 .exact NM.mono bZ
 .split
  .exact Og h
  .exact h.mono bZ
inductive NF where
 |nil|sl (l:List j8)|own (k:Nat)
 deriving Inhabited
inductive BF where
 |nil|sl (l:List Want)|own (k:Nat)
 deriving Inhabited
def NF.D (e:Nat):NF->D
 | .nil=>.aG
 | .sl l=>.sl 1 (l.map dP)
 | .own k=>.own e 1 0 k
def BF.D (e:Nat):BF->D
 | .nil=>.aG
 | .sl l=>.sl 3 (l.map Want.D)
 | .own k=>.own e 3 0 k
structure CW where
 v:bp
 sh:Int
 n:NF
 b:BF
 deriving Inhabited
def CW.D (e:Nat)(c:CW):D:=.agg [.int .i64 c.v.major,.int .i64 c.v.minor,.int .i64 c.v.patch,.str c.v.pre,.str c.v.build,.int .i64 c.sh,c.n.D e,c.b.D e]
def NF.pl:NF->Bool
 | .own _=>false
 |_=>true
def BF.pl:BF->Bool
 | .own _=>false
 |_=>true
def CW.pl (c:CW):Bool:=c.n.pl&&c.b.pl
def F4 (l:List Want):aW (l.map Want.D)=true:=bL (fun _=>by simp only[Want.D,D.bm,aW,eM]) _
def F3 (r:j8):(dP r).bm=true:=by simp only[dP,D.bm]
def iJ (l:List j8):aW (l.map dP)=true:=bL F3 _
def CW.bm {e:Nat}{c:CW}(h:c.pl=true):(c.D e).bm=true:=by
 obtain⟨v,sh,n,b⟩:=c;cases n<;>cases b<;>first|(simp[CW.pl,NF.pl,BF.pl]at h;done)|rfl
theorem CW.rn {e e' lo:Nat}{σ:List (Nat×Nat)}(h:e9 lo σ e=some e')(c:CW):jk lo σ (c.D e)=some (c.D e'):=by
 obtain⟨v,sh,n,b⟩:=c;cases n<;>cases b<;>simp[CW.D,NF.D,BF.D,jk,fk,qg,h]
def dC {e e' lo:Nat}{σ:List (Nat×Nat)}(h:e9 lo σ e=some e'):∀xs:List CW,fk lo σ (xs.map (CW.D e))=some (xs.map (CW.D e'))
 |[]=>rfl
 |c::r=>by simp only[List.map_cons,fk,CW.rn h c,dC h r]
def CW.Rs {l e k:Nat}{es:List Abs.D}(h:e≠l)(c:CW):dy l k es (c.D e)=c.D e:=by
 obtain⟨v,sh,n,b⟩:=c;cases n<;>cases b<;>simp[CW.D,NF.D,BF.D,dy,du,h]
def fZ {l e k:Nat}{es:List D}(h:e≠l):∀xs:List CW,du l k es (xs.map (CW.D e))=xs.map (CW.D e)
 |[]=>rfl
 |c::r=>by simp only[List.map_cons,du,CW.Rs (es:=es) (k:=k) h c,fZ h r]
def CW.pl_e {e e':Nat}{c:CW}(h:c.pl=true):c.D e=c.D e':=by
 obtain⟨v,sh,n,b⟩:=c;cases n<;>cases b<;>first|(simp[CW.pl,NF.pl,BF.pl]at h;done)|rfl
def tL {e e':Nat}{xs:List CW}(h:∀c∈xs,c.pl=true):xs.map (CW.D e)=xs.map (CW.D e'):=List.map_congr_left fun c hc=>CW.pl_e (h c hc)
def ct {e:Nat}:∀{xs:List CW},(∀c∈xs,c.pl=true)->aW (xs.map (CW.D e))=true
 |[],_=>rfl
 |c::r,h=>by simp only[List.map_cons,aW,CW.bm (h c (.head _)),ct fun x hx=>h x (.tail _ hx),eM]
def vj {α β:Type} [Inhabited α] [Inhabited β]{f:α->β}{xs:List α}{i:Nat}(h:i<xs.length):(xs.map f)[i]! =f xs[i]! :=by
 simp[List.getElem!_eq_getElem?_getD,h]
def UD (nm ft:Nat->dF)(ln:Nat->Nat)(j:Nat):D:=.agg [.str (nm j),.str (ft j),.own (2+j) 8 0 (ln j)]
def UB (n:Nat)(nm ft:Nat->dF)(ln:Nat->Nat):List D:=(List.range n).map (UD nm ft ln)
def kF {n i:Nat}(h:i<n):(List.range n)[i]! =i:=by
 simp[List.getElem!_eq_getElem?_getD,h]
def nO {l k n:Nat}{es:List D}{nm ft:Nat->dF}{ln:Nat->Nat}(h:8≠k):du l k es (UB n nm ft ln)=UB n nm ft ln:=by
 unfold UB;generalize List.range n=r;induction r with
 |nil=>rfl
 |cons a r ih=>simp only[List.map_cons,du,ih,UD,dy,h,aZ,a7,aE]
def jm {lo n:Nat}{nm ft:Nat->dF}{ln:Nat->Nat}(σ:List (Nat×Nat))(h:∀j,j<n->e9 lo σ (2+j)=some (2+j)):fk lo σ (UB n nm ft ln)=some (UB n nm ft ln):=by
 unfold UB;have h2:∀j∈List.range n,e9 lo σ (2+j)=some (2+j):=fun j hj=>h j (List.mem_range.1 hj)
 revert h2;generalize List.range n=r;intro h2;induction r with
 |nil=>rfl
 |cons a r ih=>
  have:=h2 a (.head _);simp only[List.map_cons,fk,UD,jk,qg,this,ih fun j hj=>h2 j (.tail _ hj)]
def hO {a b:bT}{r:List (Nat×bT)}(cs:Nat->List D){v:Nat}(h:v<8):look ((0,a)::(1,b)::(2,.buf 8 (cs 0))::(3,.buf 8 (cs 1))::(4,.buf 8 (cs 2))::(5,.buf 8 (cs 3))::(6,.buf 8 (cs 4))::(7,.buf 8 (cs 5))::(8,.buf 8 (cs 6))::(9,.buf 8 (cs 7))::r) (2+v)=some (.buf 8 (cs v)):=by
 match v,h with
 |0,_=>rfl
 |1,_=>rfl
 |2,_=>rfl
 |3,_=>rfl
 |4,_=>rfl
 |5,_=>rfl
 |6,_=>rfl
 |7,_=>rfl
def KN (m:List (Nat×bT))(g:Gs)(n:Nat)(nm ft:Nat->dF)(cs:Nat->List CW)(kk:Nat)(E:List D):Prop:=
 look m 0=some (.buf 2 [g.D])/\look m 1=some (.buf 3 (UB n nm ft fun j=>(cs j).length))/\(∀v,v<8->look m (2+v)=some (.buf 8 ((cs v).map (CW.D 10))))/\look m 10=some (.buf kk E)
def eight {P:Nat->Prop}(h0:P 0)(h1:P 1)(h2:P 2)(h3:P 3)(h4:P 4)(h5:P 5)(h6:P 6)(h7:P 7):∀v,v<8->P v
 |0,_=>h0
 |1,_=>h1
 |2,_=>h2
 |3,_=>h3
 |4,_=>h4
 |5,_=>h5
 |6,_=>h6
 |7,_=>h7
def G9 (n:Nat)(cs:Nat->List CW):Prop:=(2<=n/\n<=8)/\∀t,(cs t).length<=4/\∀c∈cs t,c.v.sm
def gT (cs:Nat->List CW)(t:Nat):List bp:=(cs t).map CW.v
def gN (l k:Nat)(es:List D)(rs:List j8):du l k es (rs.map dP)=rs.map dP:=fW l k es _ (iJ rs)
def fL (l k:Nat)(es:List D)(rs:List Want):du l k es (rs.map Want.D)=rs.map Want.D:=fW l k es _ (F4 rs)
def Want.fz (l k:Nat)(es:List Abs.D)(w:Want):dy l k es w.D=w.D:=pQ l k es _ (by simp only[Want.D,D.bm,aW,eM])
def Gs.fz (l k:Nat)(es:List Abs.D)(g:Gs):dy l k es g.D=g.D:=pQ l k es _ (by simp only[Gs.D,D.bm,aW,eM])
def Jt {lo l:Nat}{σ:List (Nat×Nat)}(h:l<lo)(hs:(σ.all fun p=>Nat.ble lo p.1)=true:=by rfl):e9 lo σ l=some l:=by
 induction σ with
 |nil=>simp[e9,Nat.blt,show Nat.ble (l+1) lo=true from eB]
 |cons a r ih=>
  simp only[List.all_cons,br,Nat.ble_eq]at hs;have hb:Nat.beq a.1 l=false:=by
   cases e:Nat.beq a.1 l with
   |false=>rfl
   |true=>have:=Nat.eq_of_beq_eq_true e;omega
  simp only[e9,hb,cond_false];exact ih (by simpa using hs.2)
structure RU where
 name:dF
 feat:dF
 cs:List CW
 deriving Inhabited
def a8 (v:bp):CW:=⟨v,0,.nil,.nil⟩
def wE:CW:=⟨zV,-1,.nil,.nil⟩
def bS:List dF:=[[97,110,116],[98,101,101],[99,111,119],[100,111,103],[101,108,107]]
def vv:bS.length=5:=rfl
def bE (m:Int):Nat->List bp
 |0=>[]
 |i+1=>if FA m i=true then bE m i++[cJ[i]!]else bE m i
def fF (vs:List bp):Nat->Gs->List bp->List bp×Gs
 |0,g,acc=>(acc,g)
 |r+1,g,acc=>fF vs r g.bR (if 0<g.val 3 then acc++[vs[vs.length-(r+1)]!]else acc)
def eY (few:Int):Nat->Gs->List RU->List RU×Gs
 |0,g,us=>(us,g.bR)
 |r+1,g,us=>
  if((4-r:Nat):Int)<1+g.val few then
   if 4-r<2/\g.bR.bR.val 3=0 then
    eY few r (fF (bE (g.bR.val 16) 4) (bE (g.bR.val 16) 4).length g.eE []).2
     ((us++[⟨bS[4-r]!,[],(bE (g.bR.val 16) 4).map a8⟩])++[⟨bS[4-r]!,[102],(fF (bE (g.bR.val 16) 4) (bE (g.bR.val 16) 4).length g.eE []).1.map a8⟩])
   else eY few r (if 4-r<2 then g.eE else g.bR.bR) (us++[⟨bS[4-r]!,[],(bE (g.bR.val 16) 4).map a8⟩])
  else(us,g.bR)
def tw:List RU:=[⟨[],[],[wE]⟩]
def eA (g:Gs)(few:Int):List RU×Gs:=eY few 5 g tw
def xd (us:List RU):List D:=UB us.length (fun j=>us[j]!.name) (fun j=>us[j]!.feat) (fun j=>us[j]!.cs.length)
def UM (g:Gs)(us:List RU):List (Nat×bT):=[(0,.buf 2 [g.D]),(1,.buf 3 (xd us)),(2,.buf 8 (us[0]!.cs.map (CW.D 10))),(3,.buf 8 (us[1]!.cs.map (CW.D 10))),(4,.buf 8 (us[2]!.cs.map (CW.D 10))),
 (5,.buf 8 (us[3]!.cs.map (CW.D 10))),(6,.buf 8 (us[4]!.cs.map (CW.D 10))),(7,.buf 8 (us[5]!.cs.map (CW.D 10))),(8,.buf 8 (us[6]!.cs.map (CW.D 10))),(9,.buf 8 (us[7]!.cs.map (CW.D 10)))]
def jT {us:List RU}{x:RU}{t:Nat}(h:t<us.length):(us++[x])[t]! =us[t]! :=by
 simp[List.getElem!_eq_getElem?_getD,List.getElem?_append_left h]
def jU {us:List RU}{x:RU}{t:Nat}(h:t=us.length):(us++[x])[t]! =x:=by
 subst h;simp[List.getElem!_eq_getElem?_getD]
def qJ {us:List RU}{t:Nat}(h:us.length<=t):us[t]! =default:=by
 simp[List.getElem!_eq_getElem?_getD,h]
def KK (us:List RU)(x:RU):xd (us++[x])=xd us++[.agg [.str x.name,.str x.feat,.own (2+us.length) 8 0 x.cs.length]]:=by
 unfold xd UB;rw[cK,List.length_singleton,List.range_succ,List.map_append];congr 1
 .apply List.map_congr_left;intro j hj;simp only[UD,jT (List.mem_range.1 hj)]
 .simp only[List.map_cons,List.map_nil,UD,jU rfl]
def AR {lo:Nat}{σ:List (Nat×Nat)}:∀{a b a' b':List D},fk lo σ a=some a'->fk lo σ b=some b'->fk lo σ (a++b)=some (a'++b')
 |[],b,a',b',h1,h2=>by simp only[fk,bc]at h1;subst h1;exact h2
 |d::r,b,a',b',h1,h2=>by
  simp only[fk]at h1;split at h1
  .rename_i d' r' e1 e2;obtain rfl:=bl h1;simp only[qn,fk,e1,AR e2 h2]
  .cases h1
def CU (LU LC p:Nat):List (Nat×Nat):=(LU,1)::(LC,2+p)::(List.range p).map fun t=>(2+t,2+t)
def eD {a b:Nat}(h:a≠b):Nat.beq a b=false:=by
 cases e:Nat.beq a b with
 |false=>rfl
 |true=>exact absurd (Nat.eq_of_beq_eq_true e) h
def MP {lo:Nat}:∀{r:List Nat}{t:Nat},t∈r->e9 lo (r.map fun t=>(2+t,2+t)) (2+t)=some (2+t)
 |a::r,t,h=>by
  simp only[List.map_cons,e9];cases e:Nat.beq (2+a) (2+t)with
  |true=>rw[cond_true,Nat.eq_of_beq_eq_true e]
  |false=>
   rw[cond_false];rcases dz.1 h with rfl|h
   .simp at e
   .exact MP h
def JA {LU LC p t:Nat}(hU:10<=LU)(hC:10<=LC)(hp:p<8)(ht:t<p):e9 1 (CU LU LC p) (2+t)=some (2+t):=by
 simp only[CU,e9,eD (show LU≠2+t by omega),eD (show LC≠2+t by omega),cond_false];exact MP (List.mem_range.2 ht)
def OT {LU LC p:Nat}(hU:10<=LU)(hC:10<=LC)(hne:LU≠LC)(hp:p<8):eQ 1 10 (CU LU LC p)=true:=by
 have b1:=eD hne;have b2:=eD (Ne.symm hne);have u2:=eD (show 2≠LU by omega);have u3:=eD (show 3≠LU by omega);have u4:=eD (show 4≠LU by omega);have u5:=eD (show 5≠LU by omega);have u6:=eD (show 6≠LU by omega);have u7:=eD (show 7≠LU by omega);have u8:=eD (show 8≠LU by omega);have c2:=eD (show 2≠LC by omega);have c3:=eD (show 3≠LC by omega);have c4:=eD (show 4≠LC by omega);have c5:=eD (show 5≠LC by omega);have c6:=eD (show 6≠LC by omega);have c7:=eD (show 7≠LC by omega);have c8:=eD (show 8≠LC by omega)
 match p,hp with
 |0,_|1,_|2,_|3,_|4,_|5,_|6,_|7,_=>
  simp only[CU,List.range,List.range.loop,List.map_cons,List.map_nil,eQ,List.all_cons,List.all_nil,b1,b2,u2,u3,u4,u5,u6,u7,u8,c2,c3,c4,c5,c6,c7,c8,Nat.reduceAdd,Bool.not_false,ik,eM];rfl
def R2 {LU LC p t:Nat}(hp:p<t)(h8:t<8):((CU LU LC p).all fun q=>!Nat.beq q.2 (2+t))=true:=by
 simp only[CU,List.all_cons,br,ef,List.all_eq_true,eN,List.mem_range];refine⟨eD ae,eD ae, ?_⟩;rintro q ⟨j,hj,rfl⟩;exact eD (by simp only;omega)
def RE (r:List Nat):e9 1 (r.map fun t=>(2+t,2+t)) 0=some 0:=by
 induction r with
 |nil=>rfl
 |cons a r ih=>simp only[List.map_cons,e9,eD (show 2+a≠0 by omega),cond_false];exact ih
def CN {lo k i n l l':Nat}{σ:List (Nat×Nat)}(h:e9 lo σ l=some l'):jk lo σ (.own l k i n)=some (.own l' k i n):=by simp only[jk,qg,h]
def DW {a b k:Nat}{c d:Nat}{r:List (Nat×Nat)}(h:e9 1 r 0=some 0)(ha:a≠0)(hb:c≠0):jk 1 ((a,b)::(c,d)::r) (.ptr 0 k 0 0)=some (.ptr 0 k 0 0):=by simp only[jk,qg,e9,eD ha,eD hb,cond_false,h]
def R1 {LU LC p:Nat}(hU:10<=LU)(hC:10<=LC):e9 1 (CU LU LC p) 0=some 0:=by
 simp only[CU,e9,eD (show LU≠0 by omega),eD (show LC≠0 by omega),cond_false];generalize List.range p=r;induction r with
 |nil=>rfl
 |cons a r ih=>simp only[List.map_cons,e9,eD (show 2+a≠0 by omega),cond_false];exact ih
def RU.pl (u:RU):Prop:=∀c∈u.cs,c.pl=true
def xZ {nx LU LC:Nat}{g:Gs}{us:List RU}{x:RU}{m:List (Nat×bT)}{env env':List b7}(hp:us.length<8)(hU:10<=LU)(hC:10<=LC)(hne:LU≠LC)(hpl:∀u∈us,u.pl)(hx:x.pl)(h0:look m 0=some (.buf 2 [g.D]))
  (h1:look m LU=some (.buf 3 (xd us++[.agg [.str x.name,.str x.feat,.own LC 8 0 x.cs.length]]))) (h2:look m LC=some (.buf 8 (x.cs.map (CW.D 10)))) (hcs:∀t,t<us.length->look m (2+t)=some (.buf 8 (us[t]!.cs.map (CW.D 10))))
  (he:∀r,e9 1 r 0=some 0->aN 1 ((LU,1)::(LC,2+us.length)::r) env env'):aU 1 env ⟨nx,m⟩ env' ⟨10,UM g (us++[x])⟩:=by
 refine aU.to (CU LU LC us.length) rfl (OT hU hC hne hp) (he _ (RE _)) ?_;have hLC:e9 1 (CU LU LC us.length) LC=some (2+us.length):=by simp only[CU,e9,eD hne,cond_false,Nat.beq_refl,cond_true]
 have ent:∀t,t<8->((∃l b,e9 1 (CU LU LC us.length) l=some (2+t)/\look m l=some b/\mH 1 (CU LU LC us.length) b (.buf 8 ((us++[x])[t]!.cs.map (CW.D 10))))\/
   (Nat.ble 1 (2+t)=true/\Nat.blt (2+t) 10=true/\(CU LU LC us.length).all (fun p=>!Nat.beq p.2 (2+t))=true/\∃k,bT.buf 8 ((us++[x])[t]!.cs.map (CW.D 10))=.buf k [])):=by
  intro t ht;rcases Nat.lt_trichotomy t us.length with h|h|h
  .exact .inl ⟨2+t,_,JA hU hC hp h,hcs t h,rfl,.inl ⟨by rw[jT h],ct (hpl _ (aj h))⟩⟩
  .subst h;exact .inl ⟨LC,_,hLC,h2,rfl,.inl ⟨by rw[jU rfl],ct hx⟩⟩
  .refine .inr ⟨by rw[Nat.ble_eq];omega,by rw[Nat.blt,Nat.ble_eq];omega,R2 h ht,8, ?_⟩;rw[qJ eB];rfl
 refine⟨.inl ⟨0,_,R1 hU hC,h0,rfl,.inl ⟨rfl,rfl⟩⟩,.inl ⟨LU,_,by simp only[CU,e9,Nat.beq_refl,cond_true],h1,rfl,.inr (.inl ?_)⟩,ent 0 bZ,ent 1 bZ,ent 2 bZ,ent 3 bZ,ent 4 bZ,ent 5 bZ,ent 6 bZ,ent 7 bZ,trivial⟩;rw[KK];refine AR (jm _ fun j hj=>JA hU hC hp hj) ?_;simp only[fk,jk,qg,hLC]
def kD (m:Int):∀i,(bE m i).length<=i
 |0=>aA _
 |i+1=>by
  have:=kD m i;rw[bE];split
  .simp only[cK,List.length_singleton];omega
  .omega
def x8:cJ.length=4:=rfl
def qu (m:Int):∀i,i<=4->∀v∈bE m i,v.sm
 |0,_,v,h=>by cases h
 |i+1,hi,v,h=>by
  rw[bE]at h;have hm:∀v∈cJ,v.sm:=by
   intro v hv;simp only[cJ,dz,ec,or_false]at hv;rcases hv with rfl|rfl|rfl|rfl<;>simp[bp.sm]
  split at h
  .rcases List.mem_append.1 h with h|h
   .exact qu m i ae v h
   .obtain rfl:=bG.1 h;exact hm _ (aj (by rw[x8];omega))
  .exact qu m i ae v h
def fC (vs:List bp):∀c∈vs.map a8,c.pl=true:=by
 intro c hc;obtain⟨v,_,rfl⟩:=eN.1 hc;rfl
def Ac {a:bT}{r:List (Nat×bT)}(cs:Nat->List D){v:Nat}(h:v<8):look ((0,a)::(2,.buf 8 (cs 0))::(3,.buf 8 (cs 1))::(4,.buf 8 (cs 2))::(5,.buf 8 (cs 3))::(6,.buf 8 (cs 4))::(7,.buf 8 (cs 5))::(8,.buf 8 (cs 6))::(9,.buf 8 (cs 7))::r) (2+v)=some (.buf 8 (cs v)):=by
 match v,h with
 |0,_=>rfl
 |1,_=>rfl
 |2,_=>rfl
 |3,_=>rfl
 |4,_=>rfl
 |5,_=>rfl
 |6,_=>rfl
 |7,_=>rfl
def jh {us:List RU}(h:∀u∈us,u.pl)(t:Nat):aW (us[t]!.cs.map (CW.D 10))=true:=by
 rcases cT t us.length with ht|ht
 .exact ct (h _ (aj ht))
 .rw[qJ ht];rfl
def IJ {us:List RU}{x:RU}(h:∀u∈us,u.pl)(hx:x.pl):∀u∈us++[x],u.pl:=fun u hu=>(List.mem_append.1 hu).elim (h u) fun e=>by obtain rfl:=bG.1 e;exact hx
def mI {lo:Nat}{us:List RU}(σ:List (Nat×Nat))(h:∀j,j<us.length->e9 lo σ (2+j)=some (2+j)):fk lo σ (xd us)=some (xd us):=jm σ h
def hY {lo v:Nat}{r:List (Nat×Nat)}(h:v<8):e9 lo ((1,1)::(2,2)::(3,3)::(4,4)::(5,5)::(6,6)::(7,7)::(8,8)::(9,9)::r) (2+v)=some (2+v):=by
 match v,h with
 |0,_=>rfl
 |1,_=>rfl
 |2,_=>rfl
 |3,_=>rfl
 |4,_=>rfl
 |5,_=>rfl
 |6,_=>rfl
 |7,_=>rfl
def xj (vs:List bp):∀r g acc,(fF vs r g acc).1.length<=acc.length+r
 |0,g,acc=>aA _
 |r+1,g,acc=>by
  have:=xj vs r g.bR (if 0<g.val 3 then acc++[vs[vs.length-(r+1)]!]else acc);rw[fF];split at this<;>rename_i h
  .rw[ax h];simp only[cK,List.length_singleton]at this;omega
  .rw[ai h];omega
def Gs.x7 (g:Gs)(n:Int):(1<=n->0<=g.val n/\g.val n<n)/\(n<1->g.val n=0):=⟨fun h=>cX _ _ h,fun h=>by simp only[Gs.val,bO];rw[ax h]⟩
def GD {few:Int}{i:Nat}{h:Gs}{us:List RU}(h5:i<5)(hl:(i:Int)<1+h.val few):eY few (5-i) h us=
   if i<2/\h.bR.bR.val 3=0 then
    eY few (4-i) (fF (bE (h.bR.val 16) 4) (bE (h.bR.val 16) 4).length h.eE []).2
     ((us++[⟨bS[i]!,[],(bE (h.bR.val 16) 4).map a8⟩])++[⟨bS[i]!,[102],(fF (bE (h.bR.val 16) 4) (bE (h.bR.val 16) 4).length h.eE []).1.map a8⟩])
   else eY few (4-i) (if i<2 then h.eE else h.bR.bR) (us++[⟨bS[i]!,[],(bE (h.bR.val 16) 4).map a8⟩]):=by
 obtain⟨r,hr⟩:∃r,5-i=r+1:=⟨4-i,ae⟩
 rw[hr,eY];obtain rfl:r=4-i:=ae;rw[show 4-(4-i)=i by omega,ax hl]
def CY {few:Int}{i:Nat}{h:Gs}{us:List RU}(h5:i<=5)(hl:i=5\/¬(i:Int)<1+h.val few):eY few (5-i) h us=(us,h.bR):=by
 rcases cT i 5 with h6|h6
 .obtain⟨r,hr⟩:∃r,5-i=r+1:=⟨4-i,ae⟩
  rw[hr,eY];obtain rfl:r=4-i:=ae;rw[show 4-(4-i)=i by omega,ai (by rcases hl with hl|hl;omega;exact hl)]
 .rw[show 5-i=0 by omega,eY]
def HS {vs:List bp}{j:Nat}{k:Gs}{acc:List bp}(hj:j<vs.length):fF vs (vs.length-j) k acc=fF vs (vs.length-(j+1)) k.bR (if 0<k.val 3 then acc++[vs[j]!]else acc):=by
 obtain⟨r,hr⟩:∃r,vs.length-j=r+1:=⟨vs.length-j-1,ae⟩
 rw[hr,fF,<-hr,show vs.length-(vs.length-j)=j by omega,show r=vs.length-(j+1)by omega]
end Go.Abs
