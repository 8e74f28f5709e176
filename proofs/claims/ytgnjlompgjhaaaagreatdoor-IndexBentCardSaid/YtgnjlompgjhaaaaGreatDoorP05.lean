/- A part of the proofs. -/
import Derived.IntWalk
import Derived.KernelRfl
import Derived.Lib.TrimUEq
import Derived.Test.YtgnjlompgjhaaaaGreatDoorP04
set_option linter.all false
set_option maxRecDepth 60000
namespace Go.Abs
section
section
variable {Y:Ctx} {draw:Bool} {r:List GI} {env rs:List cg} {nx:Nat} {m:List (Nat×bW)} {K:List cg->St->Prop} {g:Option (Nat×Bool)} {f:Bool}
def at8 (s:List UInt8)(i:Nat):Int:=((s.getD i 0).toNat:Int)
def vT (s:List UInt8)(i:Nat):0<=at8 s i/\at8 s i<256:=by
 have:=(s.getD i 0).toNat_lt;unfold at8;omega
def D.YD:D->Bool
 | .str _=>true
 |_=>false
def wrap_i64 {a:Int}(h1:-9223372036854775808<=a)(h2:a<=9223372036854775807):IntKind.i64.wrap a=a:=IntWalk.i64_in _ ae
def qc (a b:List UInt8):(a==b)=decide (a=b):=by
 grind
def getD_map {α:Type} [Inhabited α]{q:α->D}{xs:List α}{i:Nat}(h:i<xs.length):(xs.map q).getD i .any=q xs[i]! :=by
 simp[List.getD,h]
def Zp (b:UInt8):(D.int .u8 b.toNat).u8=b:=by simp[D.u8]
def Uq (s:List UInt8):D.str ((s.map fun b=>D.int .u8 b.toNat).map D.u8)=.str s:=by
 congr 1;rw[List.map_map]
 conv=>rhs;rw[<-List.map_id s]
 apply List.map_congr_left;intro b _;exact Zp b
def GF (rs:List cg):Option (Nat×Bool)->Bool->Prop
 |none,f=>f=true
 |some (j,w),f=>∃ok b,cR [] rs (.l j)=⟨ok,.bool b⟩/\(ok&&(b==w))=f
def GF.flag (h:GF rs g f):flag rs.reverse g=f/\Ce rs.reverse g:=by
 cases g with
 |none=>exact⟨h.symm,trivial⟩
 |some jw=>
  obtain⟨j,w⟩:=jw;obtain⟨ok,b,h1,h2⟩:=h;have h3:rs.reverse.getD j .un=⟨ok,.bool b⟩:=by rw[<-h1,<-nB];rfl
  simp only[Abs.flag,Ce,h3,h2,D.isBool];exact⟨trivial,fun _=>trivial⟩
def SQ {i:aV}(hM:i.dC=false)(hF:i.vk draw g=false)(hC:g.isSome=true->i.calm=true)(hg:GF rs g f)(d:D)(ho:f=true->i.ez Y (cR env rs) m)
  (hv:f=true->i.val Y (cR env rs) m (nx+rs.length)=d) (m':List (Nat×bW)) (hm:i.c7 Y (cR env rs) m (nx+rs.length)=m')
  (h:(f=true->i.IC draw (cR env rs))->aM Y draw r env (⟨f,d⟩::rs) nx m' K):aM Y draw (⟨i,g⟩::r) env rs nx m K:=by
 obtain⟨hf,hb⟩:=hg.flag;unfold aM;rw[nQ hM hF,nB,hf];refine⟨?_,ho,fun ha=>⟨d,by simpa using hv, ?_⟩⟩
 .cases g with
  |none=>trivial
  |some jw=>exact⟨hC rfl,hb⟩
 grind [aM]
def iz {i:aV}(hC:i.calm=true)(hg:GF rs g f)(d:D)(ho:f=true->i.ez Y (cR env rs) m)
  (hv:f=true->i.val Y (cR env rs) m (nx+rs.length)=d) (m':List (Nat×bW)) (hm:i.c7 Y (cR env rs) m (nx+rs.length)=m')
  (h:(f=true->i.IC draw (cR env rs))->aM Y draw r env (⟨f,d⟩::rs) nx m' K):aM Y draw (⟨i,g⟩::r) env rs nx m K:=
 SQ (by cases i<;>first|rfl|cases hC) (by simp[aV.vk,hC]) (fun _=>hC) hg d ho hv m' hm h
def cd {i:aV}(hC:i.pure=true)(hg:GF rs g f)(d:D)(ho:f=true->i.ez Y (cR env rs) m)
  (hv:f=true->i.val Y (cR env rs) m (nx+rs.length)=d) 
  (h:(f=true->i.IC draw (cR env rs))->aM Y draw r env (⟨f,d⟩::rs) nx m K):aM Y draw (⟨i,g⟩::r) env rs nx m K:=
 iz (Pb hC) hg d ho hv m (SI hC) h
def rY {i:aV}(hM:i.dC=false)(d:D)(ho:i.ez Y (cR env rs) m)
  (hv:i.val Y (cR env rs) m (nx+rs.length)=d) (m':List (Nat×bW)) (hm:i.c7 Y (cR env rs) m (nx+rs.length)=m')
  (h:i.IC draw (cR env rs)->aM Y draw r env (⟨true,d⟩::rs) nx m' K):aM Y draw (⟨i,none⟩::r) env rs nx m K:=
 SQ hM (by simp[aV.vk]) (fun h=>by cases h) rfl d (fun _=>ho) (fun _=>hv) m' hm (fun ha=>h (ha rfl))
def r_mv {x:Src}{fx:Bool}{d:D}(h:aM Y draw r env (⟨f,d⟩::rs) nx m K)(hg:GF rs g f:=by exact du)(hx:cR env rs x=⟨fx,d⟩:=by exact rfl)(kx:f=true->fx=true:=by exact cu):aM Y draw (⟨.mv x,g⟩::r) env rs nx m K:=
 cd rfl hg _ (fun hf=>by simp[aV.ez,hx,kx hf]) (fun hf=>by simp[aV.val,hx]) (fun ha=>h)
def r_not {x:Src}{fx:Bool}{b:Bool}(h:aM Y draw r env (⟨f,.bool (!b)⟩::rs) nx m K)(hg:GF rs g f:=by exact du)(hx:cR env rs x=⟨fx,.bool b⟩:=by exact rfl)(kx:f=true->fx=true:=by exact cu):aM Y draw (⟨.un .not x,g⟩::r) env rs nx m K:=
 cd rfl hg _ (fun hf=>by simp[aV.ez,hx,kx hf]) (fun hf=>by simp[aV.val,hx]) (fun ha=>h)
def r_or {c b:Src}{fc fb t y:Bool}(h:aM Y draw r env (⟨f,.bool (t ||y)⟩::rs) nx m K)(hg:GF rs g f:=by exact du)(hc:cR env rs c=⟨fc,.bool t⟩:=by exact rfl)(hb:cR env rs b=⟨fb,.bool y⟩:=by exact rfl)(kc:f=true->fc=true:=by exact cu)(kb:f=true->t=false->fb=true:=by intro h1 h2;first|(rw[h2];exact rfl)|(rw[h2,h1];rfl)|(rw[h1,h2];rfl)|simp_all):aM Y draw (⟨.pick c (.c (.bool true)) b,g⟩::r) env rs nx m K:=
 cd rfl hg _ (fun hf=>by simp only[aV.ez,hc,hb];exact⟨kc hf,fun _=>rfl,fun e=>kb hf e⟩) (fun hf=>by simp only[aV.val,hc,hb];cases t<;>rfl) (fun _=>h)
def SM {c a:Src}{fc fa t y:Bool}(h:aM Y draw r env (⟨f,.bool (t&&y)⟩::rs) nx m K)(hg:GF rs g f:=by exact du)(hc:cR env rs c=⟨fc,.bool t⟩:=by exact rfl)(ha:cR env rs a=⟨fa,.bool y⟩:=by exact rfl)(kc:f=true->fc=true:=by exact cu)(ka:f=true->t=true->fa=true:=by intro h1 h2;first|(rw[h2];exact rfl)|(rw[h2,h1];rfl)|(rw[h1,h2];rfl)|simp_all):aM Y draw (⟨.pick c a (.c (.bool false)),g⟩::r) env rs nx m K:=
 cd rfl hg _ (fun hf=>by simp only[aV.ez,hc,ha];exact⟨kc hf,fun e=>ka hf e,fun _=>rfl⟩) (fun hf=>by simp only[aV.val,hc,ha];cases t<;>rfl) (fun _=>h)
def VE {x y:Src}{fx fy:Bool}{a b:Int}(h:aM Y draw r env (⟨f,.int .i64 (a+b)⟩::rs) nx m K)(hg:GF rs g f:=by exact du)(hx:cR env rs x=⟨fx,.int .i64 a⟩:=by exact rfl)(hy:cR env rs y=⟨fy,.int .i64 b⟩:=by exact rfl)(kx:f=true->fx=true:=by exact cu)(ky:f=true->fy=true:=by exact cu)(hb:f=true->-9223372036854775808<=a+b/\a+b<=9223372036854775807:=by exact Il):aM Y draw (⟨.bin .add x y,g⟩::r) env rs nx m K:=
 cd rfl hg _ (fun hf=>by simp[aV.ez,hx,hy,kx hf,ky hf,jI]) (fun hf=>by simp only[aV.val,hx,hy,jZ];rw[wrap_i64 (hb hf).1 (hb hf).2]) (fun ha=>h)
def Be {x y:Src}{fx fy:Bool}{k:IntKind}{a b:Int}(v:Int)(h:aM Y draw r env (⟨f,.int k v⟩::rs) nx m K)(hg:GF rs g f:=by exact du)(hx:cR env rs x=⟨fx,.int k a⟩:=by exact rfl)(hy:cR env rs y=⟨fy,.int k b⟩:=by exact rfl)(kx:f=true->fx=true:=by exact cu)(ky:f=true->fy=true:=by exact cu)(hb:f=true->k.wrap (a+b)=v):aM Y draw (⟨.bin .add x y,g⟩::r) env rs nx m K:=
 cd rfl hg _ (fun hf=>by simp[aV.ez,hx,hy,kx hf,ky hf,jI]) (fun hf=>by simp only[aV.val,hx,hy,jZ];rw[hb hf]) (fun ha=>h)
def LJ {x y:Src}{fx fy:Bool}{a b:Int}(h:aM Y draw r env (⟨f,.int .i64 (a-b)⟩::rs) nx m K)(hg:GF rs g f:=by exact du)(hx:cR env rs x=⟨fx,.int .i64 a⟩:=by exact rfl)(hy:cR env rs y=⟨fy,.int .i64 b⟩:=by exact rfl)(kx:f=true->fx=true:=by exact cu)(ky:f=true->fy=true:=by exact cu)(hb:f=true->-9223372036854775808<=a-b/\a-b<=9223372036854775807:=by exact Il):aM Y draw (⟨.bin .sub x y,g⟩::r) env rs nx m K:=
 cd rfl hg _ (fun hf=>by simp[aV.ez,hx,hy,kx hf,ky hf,jI]) (fun hf=>by simp only[aV.val,hx,hy,jZ];rw[wrap_i64 (hb hf).1 (hb hf).2]) (fun ha=>h)
def qy {x y:Src}{fx fy:Bool}{k:IntKind}{a b:Int}(v:Int)(h:aM Y draw r env (⟨f,.int k v⟩::rs) nx m K)(hg:GF rs g f:=by exact du)(hx:cR env rs x=⟨fx,.int k a⟩:=by exact rfl)(hy:cR env rs y=⟨fy,.int k b⟩:=by exact rfl)(kx:f=true->fx=true:=by exact cu)(ky:f=true->fy=true:=by exact cu)(hb:f=true->k.wrap (a-b)=v):aM Y draw (⟨.bin .sub x y,g⟩::r) env rs nx m K:=
 cd rfl hg _ (fun hf=>by simp[aV.ez,hx,hy,kx hf,ky hf,jI]) (fun hf=>by simp only[aV.val,hx,hy,jZ];rw[hb hf]) (fun ha=>h)
def nG {x y:Src}{fx fy:Bool}{a b:Int}(h:aM Y draw r env (⟨f,.int .i64 (a*b)⟩::rs) nx m K)(hg:GF rs g f:=by exact du)(hx:cR env rs x=⟨fx,.int .i64 a⟩:=by exact rfl)(hy:cR env rs y=⟨fy,.int .i64 b⟩:=by exact rfl)(kx:f=true->fx=true:=by exact cu)(ky:f=true->fy=true:=by exact cu)(hb:f=true->-9223372036854775808<=a*b/\a*b<=9223372036854775807:=by exact Il):aM Y draw (⟨.bin .mul x y,g⟩::r) env rs nx m K:=
 cd rfl hg _ (fun hf=>by simp[aV.ez,hx,hy,kx hf,ky hf,jI]) (fun hf=>by simp only[aV.val,hx,hy,jZ];rw[wrap_i64 (hb hf).1 (hb hf).2]) (fun ha=>h)
def S1 {x y:Src}{fx fy:Bool}{k:IntKind}{a b:Int}(v:Int)(h:aM Y draw r env (⟨f,.int k v⟩::rs) nx m K)(hg:GF rs g f:=by exact du)(hx:cR env rs x=⟨fx,.int k a⟩:=by exact rfl)(hy:cR env rs y=⟨fy,.int k b⟩:=by exact rfl)(kx:f=true->fx=true:=by exact cu)(ky:f=true->fy=true:=by exact cu)(hb:f=true->k.wrap (a*b)=v):aM Y draw (⟨.bin .mul x y,g⟩::r) env rs nx m K:=
 cd rfl hg _ (fun hf=>by simp[aV.ez,hx,hy,kx hf,ky hf,jI]) (fun hf=>by simp only[aV.val,hx,hy,jZ];rw[hb hf]) (fun ha=>h)
def r_quo {x y:Src}{fx fy:Bool}{k:IntKind}{a b:Int}(v:Int)(h:aM Y draw r env (⟨f,.int k v⟩::rs) nx m K)(hg:GF rs g f:=by exact du)(hx:cR env rs x=⟨fx,.int k a⟩:=by exact rfl)(hy:cR env rs y=⟨fy,.int k b⟩:=by exact rfl)(kx:f=true->fx=true:=by exact cu)(ky:f=true->fy=true:=by exact cu)(hn:f=true->b≠0)(hb:f=true->k.wrap (a.tdiv b)=v):aM Y draw (⟨.bin .quo x y,g⟩::r) env rs nx m K:=
 cd rfl hg _ (fun hf=>by simp[aV.ez,hx,hy,kx hf,ky hf,jI,hn hf]) (fun hf=>by simp only[aV.val,hx,hy,jZ];rw[hb hf]) (fun ha=>h)
def LI {x y:Src}{fx fy:Bool}{k:IntKind}{a b:Int}(v:Int)(h:aM Y draw r env (⟨f,.int k v⟩::rs) nx m K)(hg:GF rs g f:=by exact du)(hx:cR env rs x=⟨fx,.int k a⟩:=by exact rfl)(hy:cR env rs y=⟨fy,.int k b⟩:=by exact rfl)(kx:f=true->fx=true:=by exact cu)(ky:f=true->fy=true:=by exact cu)(hn:f=true->b≠0)(hb:f=true->a.tmod b=v):aM Y draw (⟨.bin .rem x y,g⟩::r) env rs nx m K:=
 cd rfl hg _ (fun hf=>by simp[aV.ez,hx,hy,kx hf,ky hf,jI,hn hf]) (fun hf=>by simp only[aV.val,hx,hy,jZ];rw[hb hf]) (fun ha=>h)
def Hf {x y:Src}{fx fy:Bool}{k k2:IntKind}{a b:Int}(v:Int)(h:aM Y draw r env (⟨f,.int k v⟩::rs) nx m K)(hg:GF rs g f:=by exact du)(hx:cR env rs x=⟨fx,.int k a⟩:=by exact rfl)(hy:cR env rs y=⟨fy,.int k2 b⟩:=by exact rfl)(kx:f=true->fx=true:=by exact cu)(ky:f=true->fy=true:=by exact cu)(hn:f=true->0<=b:=by exact uG)(hb:f=true->k.wrap (a*2^(min b.toNat k.bits))=v):aM Y draw (⟨.bin .shl x y,g⟩::r) env rs nx m K:=
 cd rfl hg _ (fun hf=>by simp[aV.ez,hx,hy,kx hf,ky hf,jI,hn hf]) (fun hf=>by simp only[aV.val,hx,hy,jZ];rw[hb hf]) (fun ha=>h)
def tu {x y:Src}{fx fy:Bool}{k k2:IntKind}{a b:Int}(v:Int)(h:aM Y draw r env (⟨f,.int k v⟩::rs) nx m K)(hg:GF rs g f:=by exact du)(hx:cR env rs x=⟨fx,.int k a⟩:=by exact rfl)(hy:cR env rs y=⟨fy,.int k2 b⟩:=by exact rfl)(kx:f=true->fx=true:=by exact cu)(ky:f=true->fy=true:=by exact cu)(hn:f=true->0<=b:=by exact uG)(hb:f=true->a.fdiv (2^(min b.toNat k.bits))=v):aM Y draw (⟨.bin .shr x y,g⟩::r) env rs nx m K:=
 cd rfl hg _ (fun hf=>by simp[aV.ez,hx,hy,kx hf,ky hf,jI,hn hf]) (fun hf=>by simp only[aV.val,hx,hy,jZ];rw[hb hf]) (fun ha=>h)
def um {x y:Src}{fx fy:Bool}{k:IntKind}{a b:Int}(v:Int)(h:aM Y draw r env (⟨f,.int k v⟩::rs) nx m K)(hg:GF rs g f:=by exact du)(hx:cR env rs x=⟨fx,.int k a⟩:=by exact rfl)(hy:cR env rs y=⟨fy,.int k b⟩:=by exact rfl)(kx:f=true->fx=true:=by exact cu)(ky:f=true->fy=true:=by exact cu)(hb:f=true->k.wrap (((BitVec.ofInt k.bits a)&&&(BitVec.ofInt k.bits b)).toNat)=v):aM Y draw (⟨.bin .and x y,g⟩::r) env rs nx m K:=
 cd rfl hg _ (fun hf=>by simp[aV.ez,hx,hy,kx hf,ky hf,jI]) (fun hf=>by simp only[aV.val,hx,hy,jZ];rw[hb hf]) (fun ha=>h)
def He {x y:Src}{fx fy:Bool}{k:IntKind}{a b:Int}(v:Int)(h:aM Y draw r env (⟨f,.int k v⟩::rs) nx m K)(hg:GF rs g f:=by exact du)(hx:cR env rs x=⟨fx,.int k a⟩:=by exact rfl)(hy:cR env rs y=⟨fy,.int k b⟩:=by exact rfl)(kx:f=true->fx=true:=by exact cu)(ky:f=true->fy=true:=by exact cu)(hb:f=true->k.wrap (((BitVec.ofInt k.bits a) |||(BitVec.ofInt k.bits b)).toNat)=v):aM Y draw (⟨.bin .or x y,g⟩::r) env rs nx m K:=
 cd rfl hg _ (fun hf=>by simp[aV.ez,hx,hy,kx hf,ky hf,jI]) (fun hf=>by simp only[aV.val,hx,hy,jZ];rw[hb hf]) (fun ha=>h)
def EY {x y:Src}{fx fy:Bool}{k:IntKind}{a b:Int}(v:Int)(h:aM Y draw r env (⟨f,.int k v⟩::rs) nx m K)(hg:GF rs g f:=by exact du)(hx:cR env rs x=⟨fx,.int k a⟩:=by exact rfl)(hy:cR env rs y=⟨fy,.int k b⟩:=by exact rfl)(kx:f=true->fx=true:=by exact cu)(ky:f=true->fy=true:=by exact cu)(hb:f=true->k.wrap (((BitVec.ofInt k.bits a)^^^(BitVec.ofInt k.bits b)).toNat)=v):aM Y draw (⟨.bin .xor x y,g⟩::r) env rs nx m K:=
 cd rfl hg _ (fun hf=>by simp[aV.ez,hx,hy,kx hf,ky hf,jI]) (fun hf=>by simp only[aV.val,hx,hy,jZ];rw[hb hf]) (fun ha=>h)
def SZ {x y:Src}{fx fy:Bool}{k:IntKind}{a b:Int}(h:aM Y draw r env (⟨f,.bool (decide (a<b))⟩::rs) nx m K)(hg:GF rs g f:=by exact du)(hx:cR env rs x=⟨fx,.int k a⟩:=by exact rfl)(hy:cR env rs y=⟨fy,.int k b⟩:=by exact rfl)(kx:f=true->fx=true:=by exact cu)(ky:f=true->fy=true:=by exact cu):aM Y draw (⟨.bin .lss x y,g⟩::r) env rs nx m K:=
 cd rfl hg _ (fun hf=>by simp[aV.ez,hx,hy,kx hf,ky hf,jI]) (fun hf=>by simp only[aV.val,hx,hy,jZ]<;>rfl) (fun ha=>h)
def Y6 {x y:Src}{fx fy:Bool}{k:IntKind}{a b:Int}(h:aM Y draw r env (⟨f,.bool (decide (a<=b))⟩::rs) nx m K)(hg:GF rs g f:=by exact du)(hx:cR env rs x=⟨fx,.int k a⟩:=by exact rfl)(hy:cR env rs y=⟨fy,.int k b⟩:=by exact rfl)(kx:f=true->fx=true:=by exact cu)(ky:f=true->fy=true:=by exact cu):aM Y draw (⟨.bin .leq x y,g⟩::r) env rs nx m K:=
 cd rfl hg _ (fun hf=>by simp[aV.ez,hx,hy,kx hf,ky hf,jI]) (fun hf=>by simp only[aV.val,hx,hy,jZ]<;>rfl) (fun ha=>h)
def JC {x y:Src}{fx fy:Bool}{k:IntKind}{a b:Int}(h:aM Y draw r env (⟨f,.bool (decide (b<a))⟩::rs) nx m K)(hg:GF rs g f:=by exact du)(hx:cR env rs x=⟨fx,.int k a⟩:=by exact rfl)(hy:cR env rs y=⟨fy,.int k b⟩:=by exact rfl)(kx:f=true->fx=true:=by exact cu)(ky:f=true->fy=true:=by exact cu):aM Y draw (⟨.bin .gtr x y,g⟩::r) env rs nx m K:=
 cd rfl hg _ (fun hf=>by simp[aV.ez,hx,hy,kx hf,ky hf,jI]) (fun hf=>by simp only[aV.val,hx,hy,jZ]<;>rfl) (fun ha=>h)
def Y1 {x y:Src}{fx fy:Bool}{k:IntKind}{a b:Int}(h:aM Y draw r env (⟨f,.bool (decide (b<=a))⟩::rs) nx m K)(hg:GF rs g f:=by exact du)(hx:cR env rs x=⟨fx,.int k a⟩:=by exact rfl)(hy:cR env rs y=⟨fy,.int k b⟩:=by exact rfl)(kx:f=true->fx=true:=by exact cu)(ky:f=true->fy=true:=by exact cu):aM Y draw (⟨.bin .geq x y,g⟩::r) env rs nx m K:=
 cd rfl hg _ (fun hf=>by simp[aV.ez,hx,hy,kx hf,ky hf,jI]) (fun hf=>by simp only[aV.val,hx,hy,jZ]<;>rfl) (fun ha=>h)
def YZ {x y:Src}{fx fy:Bool}{k:IntKind}{a b:Int}(h:aM Y draw r env (⟨f,.bool (decide (a=b))⟩::rs) nx m K)(hg:GF rs g f:=by exact du)(hx:cR env rs x=⟨fx,.int k a⟩:=by exact rfl)(hy:cR env rs y=⟨fy,.int k b⟩:=by exact rfl)(kx:f=true->fx=true:=by exact cu)(ky:f=true->fy=true:=by exact cu):aM Y draw (⟨.bin .eql x y,g⟩::r) env rs nx m K:=
 cd rfl hg _ (fun hf=>by simp[aV.ez,hx,hy,kx hf,ky hf,jI]) (fun hf=>by simp only[aV.val,hx,hy,jZ]<;>rfl) (fun ha=>h)
def Y8 {x y:Src}{fx fy:Bool}{k:IntKind}{a b:Int}(h:aM Y draw r env (⟨f,.bool (!decide (a=b))⟩::rs) nx m K)(hg:GF rs g f:=by exact du)(hx:cR env rs x=⟨fx,.int k a⟩:=by exact rfl)(hy:cR env rs y=⟨fy,.int k b⟩:=by exact rfl)(kx:f=true->fx=true:=by exact cu)(ky:f=true->fy=true:=by exact cu):aM Y draw (⟨.bin .neq x y,g⟩::r) env rs nx m K:=
 cd rfl hg _ (fun hf=>by simp[aV.ez,hx,hy,kx hf,ky hf,jI]) (fun hf=>by simp only[aV.val,hx,hy,jZ]<;>rfl) (fun ha=>h)
def S0 {x y:Src}{fx fy:Bool}{a b:List UInt8}(h:aM Y draw r env (⟨f,.bool (Op.bytesLess a b)⟩::rs) nx m K)(hg:GF rs g f:=by exact du)(hx:cR env rs x=⟨fx,.str a⟩:=by exact rfl)(hy:cR env rs y=⟨fy,.str b⟩:=by exact rfl)(kx:f=true->fx=true:=by exact cu)(ky:f=true->fy=true:=by exact cu):aM Y draw (⟨.bin .lss x y,g⟩::r) env rs nx m K:=
 cd rfl hg _ (fun hf=>by simp[aV.ez,hx,hy,kx hf,ky hf,jI]) (fun hf=>by simp only[aV.val,hx,hy,jZ,qc]) (fun ha=>h)
def Y7 {x y:Src}{fx fy:Bool}{a b:List UInt8}(h:aM Y draw r env (⟨f,.bool (Op.bytesLess a b ||decide (a=b))⟩::rs) nx m K)(hg:GF rs g f:=by exact du)(hx:cR env rs x=⟨fx,.str a⟩:=by exact rfl)(hy:cR env rs y=⟨fy,.str b⟩:=by exact rfl)(kx:f=true->fx=true:=by exact cu)(ky:f=true->fy=true:=by exact cu):aM Y draw (⟨.bin .leq x y,g⟩::r) env rs nx m K:=
 cd rfl hg _ (fun hf=>by simp[aV.ez,hx,hy,kx hf,ky hf,jI]) (fun hf=>by simp only[aV.val,hx,hy,jZ,qc]) (fun ha=>h)
def JD {x y:Src}{fx fy:Bool}{a b:List UInt8}(h:aM Y draw r env (⟨f,.bool (!(Op.bytesLess a b ||decide (a=b)))⟩::rs) nx m K)(hg:GF rs g f:=by exact du)(hx:cR env rs x=⟨fx,.str a⟩:=by exact rfl)(hy:cR env rs y=⟨fy,.str b⟩:=by exact rfl)(kx:f=true->fx=true:=by exact cu)(ky:f=true->fy=true:=by exact cu):aM Y draw (⟨.bin .gtr x y,g⟩::r) env rs nx m K:=
 cd rfl hg _ (fun hf=>by simp[aV.ez,hx,hy,kx hf,ky hf,jI]) (fun hf=>by simp only[aV.val,hx,hy,jZ,qc]) (fun ha=>h)
def Y2 {x y:Src}{fx fy:Bool}{a b:List UInt8}(h:aM Y draw r env (⟨f,.bool (!Op.bytesLess a b)⟩::rs) nx m K)(hg:GF rs g f:=by exact du)(hx:cR env rs x=⟨fx,.str a⟩:=by exact rfl)(hy:cR env rs y=⟨fy,.str b⟩:=by exact rfl)(kx:f=true->fx=true:=by exact cu)(ky:f=true->fy=true:=by exact cu):aM Y draw (⟨.bin .geq x y,g⟩::r) env rs nx m K:=
 cd rfl hg _ (fun hf=>by simp[aV.ez,hx,hy,kx hf,ky hf,jI]) (fun hf=>by simp only[aV.val,hx,hy,jZ,qc]) (fun ha=>h)
def Y0 {x y:Src}{fx fy:Bool}{a b:List UInt8}(h:aM Y draw r env (⟨f,.bool (decide (a=b))⟩::rs) nx m K)(hg:GF rs g f:=by exact du)(hx:cR env rs x=⟨fx,.str a⟩:=by exact rfl)(hy:cR env rs y=⟨fy,.str b⟩:=by exact rfl)(kx:f=true->fx=true:=by exact cu)(ky:f=true->fy=true:=by exact cu):aM Y draw (⟨.bin .eql x y,g⟩::r) env rs nx m K:=
 cd rfl hg _ (fun hf=>by simp[aV.ez,hx,hy,kx hf,ky hf,jI]) (fun hf=>by simp only[aV.val,hx,hy,jZ,qc]) (fun ha=>h)
def Y9 {x y:Src}{fx fy:Bool}{a b:List UInt8}(h:aM Y draw r env (⟨f,.bool (!decide (a=b))⟩::rs) nx m K)(hg:GF rs g f:=by exact du)(hx:cR env rs x=⟨fx,.str a⟩:=by exact rfl)(hy:cR env rs y=⟨fy,.str b⟩:=by exact rfl)(kx:f=true->fx=true:=by exact cu)(ky:f=true->fy=true:=by exact cu):aM Y draw (⟨.bin .neq x y,g⟩::r) env rs nx m K:=
 cd rfl hg _ (fun hf=>by simp[aV.ez,hx,hy,kx hf,ky hf,jI]) (fun hf=>by simp only[aV.val,hx,hy,jZ,qc]) (fun ha=>h)
def dj {x y:Src}{fx fy:Bool}{a b:List UInt8}(h:aM Y draw r env (⟨f,.str (a++b)⟩::rs) nx m K)(hg:GF rs g f:=by exact du)(hx:cR env rs x=⟨fx,.str a⟩:=by exact rfl)(hy:cR env rs y=⟨fy,.str b⟩:=by exact rfl)(kx:f=true->fx=true:=by exact cu)(ky:f=true->fy=true:=by exact cu)(hb:f=true->a.length+b.length<=9223372036854775807):aM Y draw (⟨.bin .add x y,g⟩::r) env rs nx m K:=
 cd rfl hg _ (fun hf=>by simp[aV.ez,hx,hy,kx hf,ky hf,jI,hb hf]) (fun hf=>by simp only[aV.val,hx,hy,jZ]) (fun ha=>h)
def WN {x y:Src}{fx fy:Bool}{ag:Bool}{ks:List CK}{a b:D}{v:Bool}(h:aM Y draw r env (⟨f,.bool (v)⟩::rs) nx m K)(hb:jk a.cells b.cells=v)(hg:GF rs g f:=by exact du)(hx:cR env rs x=⟨fx,a⟩:=by exact rfl)(hy:cR env rs y=⟨fy,b⟩:=by exact rfl)(kx:f=true->fx=true:=by exact cu)(ky:f=true->fy=true:=by exact cu)(h1:f=true->a.isAgg=ag/\b.isAgg=ag/\gE ks a.cells/\gE ks b.cells:=by exact yy):aM Y draw (⟨.eqA false ag ks x y,g⟩::r) env rs nx m K:=
 cd rfl hg _ (fun hf=>by simp only[aV.ez,hx,hy];exact⟨kx hf,ky hf,h1 hf⟩) (fun hf=>by simp only[aV.val,hx,hy];rw[hb];rfl) (fun ha=>h)
def LG {x y:Src}{fx fy:Bool}{ag:Bool}{ks:List CK}{a b:D}{v:Bool}(h:aM Y draw r env (⟨f,.bool (!v)⟩::rs) nx m K)(hb:jk a.cells b.cells=v)(hg:GF rs g f:=by exact du)(hx:cR env rs x=⟨fx,a⟩:=by exact rfl)(hy:cR env rs y=⟨fy,b⟩:=by exact rfl)(kx:f=true->fx=true:=by exact cu)(ky:f=true->fy=true:=by exact cu)(h1:f=true->a.isAgg=ag/\b.isAgg=ag/\gE ks a.cells/\gE ks b.cells:=by exact yy):aM Y draw (⟨.eqA true ag ks x y,g⟩::r) env rs nx m K:=
 cd rfl hg _ (fun hf=>by simp only[aV.ez,hx,hy];exact⟨kx hf,ky hf,h1 hf⟩) (fun hf=>by simp only[aV.val,hx,hy];rw[hb];rfl) (fun ha=>h)
def lJ {x:Src}{fx:Bool}{k k2:IntKind}{a:Int}(v:Int)(h:aM Y draw r env (⟨f,.int k v⟩::rs) nx m K)(hg:GF rs g f:=by exact du)(hx:cR env rs x=⟨fx,.int k2 a⟩:=by exact rfl)(kx:f=true->fx=true:=by exact cu)(hb:f=true->k.wrap a=v):aM Y draw (⟨.cvi k x,g⟩::r) env rs nx m K:=
 cd rfl hg _ (fun hf=>by simp[aV.ez,hx,kx hf]) (fun hf=>by simp only[aV.val,hx];rw[hb hf]) (fun ha=>h)
def SY {x:Src}{fx:Bool}{s:List UInt8}(h:(f=true->draw=false->s.length<=9223372036854775807)->aM Y draw r env (⟨f,.int .i64 s.length⟩::rs) nx m K)(hg:GF rs g f:=by exact du)(hx:cR env rs x=⟨fx,.str s⟩:=by exact rfl)(kx:f=true->fx=true:=by exact cu):aM Y draw (⟨.lenS x,g⟩::r) env rs nx m K:=
 cd rfl hg _ (fun hf=>by simp[aV.ez,hx,kx hf]) (fun hf=>by simp[aV.val,hx]) (fun ha=>h (fun hf hd=>by have:=ha hf;subst hd;simpa[aV.IC,hx,kx hf]using this))
def SW {x:Src}{fx:Bool}{α:Type}{k:Nat}{q:α->D}{xs:List α}(h:(f=true->draw=false->xs.length<=9223372036854775807)->aM Y draw r env (⟨f,.int .i64 xs.length⟩::rs) nx m K)(hg:GF rs g f:=by exact du)(hx:cR env rs x=⟨fx,.sl k (xs.map q)⟩:=by exact rfl)(kx:f=true->fx=true:=by exact cu):aM Y draw (⟨.len x,g⟩::r) env rs nx m K:=
 cd rfl hg _ (fun hf=>by simp[aV.ez,hx,kx hf]) (fun hf=>by simp[aV.val,hx]) (fun ha=>h (fun hf hd=>by have:=ha hf;subst hd;simpa[aV.IC,hx,kx hf]using this))
def SX {x:Src}{fx:Bool}{l k i n:Nat}(h:(f=true->draw=false->n<=9223372036854775807)->aM Y draw r env (⟨f,.int .i64 n⟩::rs) nx m K)(hg:GF rs g f:=by exact du)(hx:cR env rs x=⟨fx,.own l k i n⟩:=by exact rfl)(kx:f=true->fx=true:=by exact cu):aM Y draw (⟨.len x,g⟩::r) env rs nx m K:=
 cd rfl hg _ (fun hf=>by simp[aV.ez,hx,kx hf]) (fun hf=>by simp[aV.val,hx]) (fun ha=>h (fun hf hd=>by have:=ha hf;subst hd;simpa[aV.IC,hx,kx hf]using this))
def Y5 {x:Src}{fx:Bool}(h:aM Y draw r env (⟨f,.int .i64 0⟩::rs) nx m K)(hg:GF rs g f:=by exact du)(hx:cR env rs x=⟨fx,.bq⟩:=by exact rfl)(kx:f=true->fx=true:=by exact cu):aM Y draw (⟨.len x,g⟩::r) env rs nx m K:=
 cd rfl hg _ (fun hf=>by simp[aV.ez,hx,kx hf]) (fun hf=>by simp[aV.val,hx]) (fun ha=>h)
def Za {x:Src}{fx:Bool}{l k i o:Nat}(h:aM Y draw r env (⟨f,.ptr l k i o⟩::rs) nx m K)(hg:GF rs g f:=by exact du)(hx:cR env rs x=⟨fx,.ptr l k i o⟩:=by exact rfl)(kx:f=true->fx=true:=by exact cu):aM Y draw (⟨.nilck x,g⟩::r) env rs nx m K:=
 cd rfl hg _ (fun hf=>by simp[aV.ez,hx,kx hf]) (fun hf=>by simp[aV.val,hx]) (fun ha=>h)
def Zb {x:Src}{fx:Bool}{k i o:Nat}{es:List D}(h:aM Y draw r env (⟨f,.ref k es i o⟩::rs) nx m K)(hg:GF rs g f:=by exact du)(hx:cR env rs x=⟨fx,.ref k es i o⟩:=by exact rfl)(kx:f=true->fx=true:=by exact cu):aM Y draw (⟨.nilck x,g⟩::r) env rs nx m K:=
 cd rfl hg _ (fun hf=>by simp[aV.ez,hx,kx hf]) (fun hf=>by simp[aV.val,hx]) (fun ha=>h)
def r_faP {x:Src}{fx:Bool}{off l k i o:Nat}(h:aM Y draw r env (⟨f,.ptr l k i (o+off)⟩::rs) nx m K)(hg:GF rs g f:=by exact du)(hx:cR env rs x=⟨fx,.ptr l k i o⟩:=by exact rfl)(kx:f=true->fx=true:=by exact cu):aM Y draw (⟨.fa off x,g⟩::r) env rs nx m K:=
 cd rfl hg _ (fun hf=>by simp[aV.ez,hx,kx hf]) (fun hf=>by simp[aV.val,hx]) (fun ha=>h)
def r_faR {x:Src}{fx:Bool}{off k i o:Nat}{es:List D}(h:aM Y draw r env (⟨f,.ref k es i (o+off)⟩::rs) nx m K)(hg:GF rs g f:=by exact du)(hx:cR env rs x=⟨fx,.ref k es i o⟩:=by exact rfl)(kx:f=true->fx=true:=by exact cu):aM Y draw (⟨.fa off x,g⟩::r) env rs nx m K:=
 cd rfl hg _ (fun hf=>by simp[aV.ez,hx,kx hf]) (fun hf=>by simp[aV.val,hx]) (fun ha=>h)
def bH {x y:Src}{fx fy:Bool}{α:Type}{k:Nat}{q:α->D}{xs:List α}{i:Int}{kk:IntKind}(j:Nat)(h:aM Y draw r env (⟨f,.ref k (xs.map q) j 0⟩::rs) nx m K)(hg:GF rs g f:=by exact du)(hx:cR env rs x=⟨fx,.sl k (xs.map q)⟩:=by exact rfl)(hy:cR env rs y=⟨fy,.int kk i⟩:=by exact rfl)(kx:f=true->fx=true:=by exact cu)(ky:f=true->fy=true:=by exact cu)(hj:f=true->i=(j:Int):=by exact vJ)(hb:f=true->j<xs.length:=by exact uG):aM Y draw (⟨.ia k x y,g⟩::r) env rs nx m K:=
 cd rfl hg _ (fun hf=>by simp only[aV.ez,hx,hy,bN];exact⟨kx hf,ky hf,trivial,by have:=hj hf;omega,by have:=hj hf;have:=hb hf;omega⟩) (fun hf=>by simp only[aV.val,hx,hy];rw[hj hf];rfl) (fun ha=>h)
def ie {x y:Src}{fx fy:Bool}{l k i0 n:Nat}{i:Int}{kk:IntKind}(j:Nat)(h:aM Y draw r env (⟨f,.ptr l k (i0+j) 0⟩::rs) nx m K)(hg:GF rs g f:=by exact du)(hx:cR env rs x=⟨fx,.own l k i0 n⟩:=by exact rfl)(hy:cR env rs y=⟨fy,.int kk i⟩:=by exact rfl)(kx:f=true->fx=true:=by exact cu)(ky:f=true->fy=true:=by exact cu)(hj:f=true->i=(j:Int):=by exact vJ)(hb:f=true->j<n:=by exact uG):aM Y draw (⟨.ia k x y,g⟩::r) env rs nx m K:=
 cd rfl hg _ (fun hf=>by simp only[aV.ez,hx,hy];exact⟨kx hf,ky hf,trivial,by have:=hj hf;omega,by have:=hj hf;have:=hb hf;omega⟩) (fun hf=>by simp only[aV.val,hx,hy];rw[hj hf];rfl) (fun ha=>h)
def rX {x y:Src}{fx fy:Bool}{l k k2 n i0 o:Nat}{i:Int}{kk:IntKind}(j:Nat)(h:aM Y draw r env (⟨f,.ptr l k2 i0 (o+j*k)⟩::rs) nx m K)(hg:GF rs g f:=by exact du)(hx:cR env rs x=⟨fx,.ptr l k2 i0 o⟩:=by exact rfl)(hy:cR env rs y=⟨fy,.int kk i⟩:=by exact rfl)(kx:f=true->fx=true:=by exact cu)(ky:f=true->fy=true:=by exact cu)(hj:f=true->i=(j:Int):=by exact vJ)(hb:f=true->j<n:=by exact uG):aM Y draw (⟨.iaP n k x y,g⟩::r) env rs nx m K:=
 cd rfl hg _ (fun hf=>by simp only[aV.ez,hx,hy];exact⟨kx hf,ky hf,by have:=hj hf;omega,by have:=hj hf;have:=hb hf;omega⟩) (fun hf=>by simp only[aV.val,hx,hy];rw[hj hf];rfl) (fun ha=>h)
def JE {x y:Src}{fx fy:Bool}{k k2 n i0 o:Nat}{es:List D}{i:Int}{kk:IntKind}(j:Nat)(h:aM Y draw r env (⟨f,.ref k2 es i0 (o+j*k)⟩::rs) nx m K)(hg:GF rs g f:=by exact du)(hx:cR env rs x=⟨fx,.ref k2 es i0 o⟩:=by exact rfl)(hy:cR env rs y=⟨fy,.int kk i⟩:=by exact rfl)(kx:f=true->fx=true:=by exact cu)(ky:f=true->fy=true:=by exact cu)(hj:f=true->i=(j:Int):=by first|exact fun _=>rfl|(intro _;omega))(hb:f=true->j<n:=by intro _;omega):aM Y draw (⟨.iaP n k x y,g⟩::r) env rs nx m K:=
 cd rfl hg _ (fun hf=>by simp only[aV.ez,hx,hy];exact⟨kx hf,ky hf,by have:=hj hf;omega,by have:=hj hf;have:=hb hf;omega⟩) (fun hf=>by simp only[aV.val,hx,hy];rw[hj hf];rfl) (fun ha=>h)
def pU {x y:Src}{fx fy:Bool}{s:List UInt8}{i:Int}{kk:IntKind}(j:Nat)(h:aM Y draw r env (⟨f,.int .u8 (at8 s j)⟩::rs) nx m K)(hg:GF rs g f:=by exact du)(hx:cR env rs x=⟨fx,.str s⟩:=by exact rfl)(hy:cR env rs y=⟨fy,.int kk i⟩:=by exact rfl)(kx:f=true->fx=true:=by exact cu)(ky:f=true->fy=true:=by exact cu)(hj:f=true->i=(j:Int):=by exact vJ)(hb:f=true->j<s.length:=by exact uG):aM Y draw (⟨.ixS x y,g⟩::r) env rs nx m K:=
 cd rfl hg _ (fun hf=>by simp only[aV.ez,hx,hy];exact⟨kx hf,ky hf,by have:=hj hf;omega,by have:=hj hf;have:=hb hf;omega⟩) (fun hf=>by simp only[aV.val,hx,hy];rw[hj hf];rfl) (fun ha=>h)
def LH {x y:Src}{fx fy:Bool}{n k:Nat}{ag:Bool}{cs:List D}{i:Int}{kk:IntKind}(j:Nat)(v:D)(h:aM Y draw r env (⟨f,v⟩::rs) nx m K)(hg:GF rs g f:=by exact du)(hx:cR env rs x=⟨fx,.agg cs⟩:=by exact rfl)(hy:cR env rs y=⟨fy,.int kk i⟩:=by exact rfl)(kx:f=true->fx=true:=by exact cu)(ky:f=true->fy=true:=by exact cu)(hj:f=true->i=(j:Int):=by exact vJ)(hb:f=true->j<n:=by exact uG)(hl:cs.length=n*k:=by exact rfl)(h1:ag=false->k=1:=by intro h;first|exact rfl|cases h)(hv:f=true->cut cs (j*k) k ag=v):aM Y draw (⟨.ixA n k ag x y,g⟩::r) env rs nx m K:=
 cd rfl hg _ (fun hf=>by simp only[aV.ez,hx,hy];exact⟨kx hf,ky hf,h1,by have:=hj hf;omega,by have:=hj hf;have:=hb hf;omega,hl⟩) (fun hf=>by simp only[aV.val,hx,hy];rw[<-hv hf,hj hf];rfl) (fun ha=>h)
def SR {x y:Src}{fx fy:Bool}{α:Type}{k:Nat}{q:α->D}{xs:List α}{i:Int}{kk:IntKind}(h:aM Y draw r env (⟨f,.ref k (xs.map q) i.toNat 0⟩::rs) nx m K)(hg:GF rs g f:=by exact du)(hx:cR env rs x=⟨fx,.sl k (xs.map q)⟩:=by exact rfl)(hy:cR env rs y=⟨fy,.int kk i⟩:=by exact rfl)(kx:f=true->fx=true:=by exact cu)(ky:f=true->fy=true:=by exact cu)(hb:f=true->0<=i/\i<(xs.length:Nat):=by exact Il):aM Y draw (⟨.ia k x y,g⟩::r) env rs nx m K:=
 cd rfl hg _ (fun hf=>by simp only[aV.ez,hx,hy,bN];exact⟨kx hf,ky hf,trivial,(hb hf).1,(hb hf).2⟩) (fun hf=>by simp only[aV.val,hx,hy]<;>rfl) (fun ha=>h)
def Y3 {x y:Src}{fx fy:Bool}{l k i0 n:Nat}{i:Int}{kk:IntKind}(h:aM Y draw r env (⟨f,.ptr l k (i0+i.toNat) 0⟩::rs) nx m K)(hg:GF rs g f:=by exact du)(hx:cR env rs x=⟨fx,.own l k i0 n⟩:=by exact rfl)(hy:cR env rs y=⟨fy,.int kk i⟩:=by exact rfl)(kx:f=true->fx=true:=by exact cu)(ky:f=true->fy=true:=by exact cu)(hb:f=true->0<=i/\i<(n:Nat):=by exact Il):aM Y draw (⟨.ia k x y,g⟩::r) env rs nx m K:=
 cd rfl hg _ (fun hf=>by simp only[aV.ez,hx,hy,bN];exact⟨kx hf,ky hf,trivial,(hb hf).1,(hb hf).2⟩) (fun hf=>by simp only[aV.val,hx,hy]<;>rfl) (fun ha=>h)
def Y4 {x y:Src}{fx fy:Bool}{s:List UInt8}{i:Int}{kk:IntKind}(h:aM Y draw r env (⟨f,.int .u8 (at8 s i.toNat)⟩::rs) nx m K)(hg:GF rs g f:=by exact du)(hx:cR env rs x=⟨fx,.str s⟩:=by exact rfl)(hy:cR env rs y=⟨fy,.int kk i⟩:=by exact rfl)(kx:f=true->fx=true:=by exact cu)(ky:f=true->fy=true:=by exact cu)(hb:f=true->0<=i/\i<(s.length:Nat):=by exact Il):aM Y draw (⟨.ixS x y,g⟩::r) env rs nx m K:=
 cd rfl hg _ (fun hf=>by simp only[aV.ez,hx,hy,bN];exact⟨kx hf,ky hf,(hb hf).1,(hb hf).2⟩) (fun hf=>by simp only[aV.val,hx,hy]<;>rfl) (fun ha=>h)
def fu {x y:Src}{fx fy:Bool}{s:List UInt8}{k2:IntKind}{a:Int}(i:Nat)(h:aM Y draw r env (⟨f,.str (s.drop i)⟩::rs) nx m K)(hg:GF rs g f:=by exact du)(hx:cR env rs x=⟨fx,.str s⟩:=by exact rfl)(hy:cR env rs y=⟨fy,.int k2 a⟩:=by exact rfl)(kx:f=true->fx=true:=by exact cu)(ky:f=true->fy=true:=by exact cu)(hi:f=true->a=(i:Int):=by exact vJ)(hb:f=true->i<=s.length:=by exact uG):aM Y draw (⟨.slS x (some y) none,g⟩::r) env rs nx m K:=
 cd rfl hg _ (fun hf=>by simp only[aV.ez,O1,dO,hx,hy];have:=hb hf;have:=hi hf;refine⟨kx hf,ky hf,trivial, ?_⟩;simp only[py,e8,cr,ct,Int.ofNat_eq_natCast];omega) (fun hf=>by simp only[aV.val,dO,e8,hx,hy];rw[hi hf];simp) (fun ha=>h)
def rZ {x y:Src}{fx fy:Bool}{α:Type}{k:Nat}{q:α->D}{s:List α}{k2:IntKind}{a:Int}(i:Nat)(h:aM Y draw r env (⟨f,.sl k ((s.drop i).map q)⟩::rs) nx m K)(hg:GF rs g f:=by exact du)(hx:cR env rs x=⟨fx,.sl k (s.map q)⟩:=by exact rfl)(hy:cR env rs y=⟨fy,.int k2 a⟩:=by exact rfl)(kx:f=true->fx=true:=by exact cu)(ky:f=true->fy=true:=by exact cu)(hi:f=true->a=(i:Int):=by exact vJ)(hb:f=true->i<=s.length:=by exact uG):aM Y draw (⟨.slA k x (some y) none,g⟩::r) env rs nx m K:=
 cd rfl hg _ (fun hf=>by simp only[aV.ez,O1,dO,hx,hy,bN];have:=hb hf;have:=hi hf;refine⟨kx hf,ky hf,trivial,trivial, ?_⟩;simp only[py,e8,cr,ct,Int.ofNat_eq_natCast];omega) (fun hf=>by simp only[aV.val,dO,e8,hx,hy];rw[hi hf];first|(simp only[List.take_length,Int.toNat_natCast,List.map_drop];done)|simp[List.map_drop,List.map_take]) (fun ha=>h)
def kX {x z:Src}{fx fz:Bool}{s:List UInt8}{k3:IntKind}{c:Int}(j:Nat)(h:aM Y draw r env (⟨f,.str (s.take j)⟩::rs) nx m K)(hg:GF rs g f:=by exact du)(hx:cR env rs x=⟨fx,.str s⟩:=by exact rfl)(hz:cR env rs z=⟨fz,.int k3 c⟩:=by exact rfl)(kx:f=true->fx=true:=by exact cu)(kz:f=true->fz=true:=by exact cu)(hj:f=true->c=(j:Int):=by exact vJ)(hb:f=true->j<=s.length:=by exact uG):aM Y draw (⟨.slS x none (some z),g⟩::r) env rs nx m K:=
 cd rfl hg _ (fun hf=>by simp only[aV.ez,O1,dO,hx,hz];have:=hb hf;have:=hj hf;refine⟨kx hf,trivial,kz hf, ?_⟩;simp only[py,e8,cr,ct,Int.ofNat_eq_natCast];omega) (fun hf=>by simp only[aV.val,dO,e8,hx,hz];rw[hj hf];simp) (fun ha=>h)
def oq {x z:Src}{fx fz:Bool}{α:Type}{k:Nat}{q:α->D}{s:List α}{k3:IntKind}{c:Int}(j:Nat)(h:aM Y draw r env (⟨f,.sl k ((s.take j).map q)⟩::rs) nx m K)(hg:GF rs g f:=by exact du)(hx:cR env rs x=⟨fx,.sl k (s.map q)⟩:=by exact rfl)(hz:cR env rs z=⟨fz,.int k3 c⟩:=by exact rfl)(kx:f=true->fx=true:=by exact cu)(kz:f=true->fz=true:=by exact cu)(hj:f=true->c=(j:Int):=by exact vJ)(hb:f=true->j<=s.length:=by exact uG):aM Y draw (⟨.slA k x none (some z),g⟩::r) env rs nx m K:=
 cd rfl hg _ (fun hf=>by simp only[aV.ez,O1,dO,hx,hz,bN];have:=hb hf;have:=hj hf;refine⟨kx hf,trivial,kz hf,trivial, ?_⟩;simp only[py,e8,cr,ct,Int.ofNat_eq_natCast];omega) (fun hf=>by simp only[aV.val,dO,e8,hx,hz];rw[hj hf];first|(simp only[List.take_length,Int.toNat_natCast,List.map_drop];done)|simp[List.map_drop,List.map_take]) (fun ha=>h)
def vA {x z:Src}{fx fz:Bool}{l k i0 n:Nat}{k3:IntKind}{c:Int}(j:Nat)(h:aM Y draw r env (⟨f,.own l k i0 j⟩::rs) nx m K)(hg:GF rs g f:=by exact du)(hx:cR env rs x=⟨fx,.own l k i0 n⟩:=by exact rfl)(hz:cR env rs z=⟨fz,.int k3 c⟩:=by exact rfl)(kx:f=true->fx=true:=by exact cu)(kz:f=true->fz=true:=by exact cu)(hj:f=true->c=(j:Int):=by exact vJ)(hb:f=true->j<=n:=by exact uG):aM Y draw (⟨.slA k x none (some z),g⟩::r) env rs nx m K:=
 cd rfl hg _ (fun hf=>by simp only[aV.ez,O1,dO,hx,hz];have:=hb hf;have:=hj hf;refine⟨kx hf,trivial,kz hf,trivial, ?_⟩;simp only[py,e8,cr,ct,Int.ofNat_eq_natCast];omega) (fun hf=>by simp only[aV.val,dO,e8,hx,hz];rw[hj hf];simp) (fun ha=>h)
def Bh {x y z:Src}{fx fy fz:Bool}{s:List UInt8}{k2:IntKind}{a:Int}(i:Nat){k3:IntKind}{c:Int}(j:Nat)(h:aM Y draw r env (⟨f,.str ((s.take j).drop i)⟩::rs) nx m K)(hg:GF rs g f:=by exact du)(hx:cR env rs x=⟨fx,.str s⟩:=by exact rfl)(hy:cR env rs y=⟨fy,.int k2 a⟩:=by exact rfl)(hz:cR env rs z=⟨fz,.int k3 c⟩:=by exact rfl)(kx:f=true->fx=true:=by exact cu)(ky:f=true->fy=true:=by exact cu)(kz:f=true->fz=true:=by exact cu)(hi:f=true->a=(i:Int):=by exact vJ)(hj:f=true->c=(j:Int):=by exact vJ)(hb:f=true->i<=j/\j<=s.length:=by exact Il):aM Y draw (⟨.slS x (some y) (some z),g⟩::r) env rs nx m K:=
 cd rfl hg _ (fun hf=>by simp only[aV.ez,O1,dO,hx,hy,hz];have:=hb hf;have:=hi hf;have:=hj hf;refine⟨kx hf,ky hf,kz hf, ?_⟩;simp only[py,e8,cr,ct,Int.ofNat_eq_natCast];omega) (fun hf=>by simp only[aV.val,dO,e8,hx,hy,hz];rw[hi hf,hj hf];simp) (fun ha=>h)
def Bg {x y z:Src}{fx fy fz:Bool}{α:Type}{k:Nat}{q:α->D}{s:List α}{k2:IntKind}{a:Int}(i:Nat){k3:IntKind}{c:Int}(j:Nat)(h:aM Y draw r env (⟨f,.sl k (((s.take j).drop i).map q)⟩::rs) nx m K)(hg:GF rs g f:=by exact du)(hx:cR env rs x=⟨fx,.sl k (s.map q)⟩:=by exact rfl)(hy:cR env rs y=⟨fy,.int k2 a⟩:=by exact rfl)(hz:cR env rs z=⟨fz,.int k3 c⟩:=by exact rfl)(kx:f=true->fx=true:=by exact cu)(ky:f=true->fy=true:=by exact cu)(kz:f=true->fz=true:=by exact cu)(hi:f=true->a=(i:Int):=by exact vJ)(hj:f=true->c=(j:Int):=by exact vJ)(hb:f=true->i<=j/\j<=s.length:=by exact Il):aM Y draw (⟨.slA k x (some y) (some z),g⟩::r) env rs nx m K:=
 cd rfl hg _ (fun hf=>by simp only[aV.ez,O1,dO,hx,hy,hz,bN];have:=hb hf;have:=hi hf;have:=hj hf;refine⟨kx hf,ky hf,kz hf,trivial, ?_⟩;simp only[py,e8,cr,ct,Int.ofNat_eq_natCast];omega) (fun hf=>by simp only[aV.val,dO,e8,hx,hy,hz];rw[hi hf,hj hf];first|(simp only[List.take_length,Int.toNat_natCast,List.map_drop];done)|simp[List.map_drop,List.map_take]) (fun ha=>h)
def eX {x:Src}{fx:Bool}{i:Nat}{ds:List D}(v:D)(h:aM Y draw r env (⟨f,v⟩::rs) nx m K)(hg:GF rs g f:=by exact du)(hx:cR env rs x=⟨fx,.tup ds⟩:=by exact rfl)(kx:f=true->fx=true:=by exact cu)(hv:f=true->ds.getD i .any=v:=by exact fun _=>rfl)(hb:f=true->i<ds.length:=by intro _;simp only[aP,a8];omega):aM Y draw (⟨.ext x i,g⟩::r) env rs nx m K:=
 cd rfl hg _ (fun hf=>by simp only[aV.ez,hx];exact⟨kx hf,hb hf⟩) (fun hf=>by simp only[aV.val,hx];exact hv hf) (fun ha=>h)
def de {z:List D}{ps:List (Nat×Nat×Src)}(v:List D)(h:aM Y draw r env (⟨f,.agg v⟩::rs) nx m K)(hg:GF rs g f:=by exact du)(hv:f=true->An (cR env rs) z ps=v:=by exact fun _=>rfl)(ho:f=true->CT (cR env rs) z.length ps:=by exact yy):aM Y draw (⟨.build z ps,g⟩::r) env rs nx m K:=
 cd rfl hg _ (fun hf=>ho hf) (fun hf=>by simp only[aV.val];rw[hv hf]) (fun _=>h)
def bg {z:List D}{ps:List (Nat×Nat×Src)}(d:D)(h:aM Y draw r env (⟨f,d⟩::rs) nx m K)(hg:GF rs g f:=by exact du)(hv:f=true->D.agg (An (cR env rs) z ps)=d:=by exact fun _=>rfl)(ho:f=true->CT (cR env rs) z.length ps:=by exact yy):aM Y draw (⟨.build z ps,g⟩::r) env rs nx m K:=
 cd rfl hg _ (fun hf=>ho hf) (fun hf=>by simp only[aV.val];exact hv hf) (fun _=>h)
def YG {e:D}{n o:Nat}{ag:Bool}(h:e.isAgg=ag):oF e n n o ag=e:=by simp[oF,h]
def cz {x:Src}{fx:Bool}{n l:Nat}{ag:Bool}{d:D}(h:aM Y draw r env (⟨f,d⟩::rs) nx m K)(hg:GF rs g f:=by exact du)(hx:cR env rs x=⟨fx,.ptr l n 0 0⟩:=by exact rfl)(kx:f=true->fx=true:=by exact cu)(hl:f=true->look m l=some (.buf n [d]):=by exact fun _=>rfl)(ha:f=true->d.isAgg=ag:=by exact fun _=>rfl):aM Y draw (⟨.ld n ag x,g⟩::r) env rs nx m K:=
 iz rfl hg _ (fun hf=>by simp only[aV.ez,hx,GQ,fX,hl hf];exact⟨kx hf,⟨trivial,aJ⟩,ae⟩) (fun hf=>by simp only[aV.val,hx,FK,bC,hl hf,jt];exact YG (ha hf)) m rfl (fun ha=>h)
def aT {x:Src}{fx:Bool}{n l k o:Nat}{ag:Bool}{d:D}(v:D)(h:aM Y draw r env (⟨f,v⟩::rs) nx m K)(hg:GF rs g f:=by exact du)(hx:cR env rs x=⟨fx,.ptr l k 0 o⟩:=by exact rfl)(kx:f=true->fx=true:=by exact cu)(hl:f=true->look m l=some (.buf k [d]):=by exact fun _=>rfl)(hv:f=true->oF d k n o ag=v:=by exact fun _=>rfl)(ho:o+n<=k:=by omega):aM Y draw (⟨.ld n ag x,g⟩::r) env rs nx m K:=
 iz rfl hg _ (fun hf=>by simp only[aV.ez,hx,GQ,fX,hl hf];exact⟨kx hf,⟨trivial,aJ⟩,ho⟩) (fun hf=>by simp only[aV.val,hx,FK,bC,hl hf,jt];exact hv hf) m rfl (fun ha=>h)
def SS {x:Src}{fx:Bool}{n l k i o:Nat}{ag:Bool}{es:List D}(v:D)(h:aM Y draw r env (⟨f,v⟩::rs) nx m K)(hg:GF rs g f:=by exact du)(hx:cR env rs x=⟨fx,.ptr l k i o⟩:=by exact rfl)(kx:f=true->fx=true:=by exact cu)(hl:f=true->look m l=some (.buf k es):=by exact fun _=>rfl)(hi:f=true->i<es.length)(hv:f=true->oF (es.getD i .any) k n o ag=v)(ho:o+n<=k:=by omega):aM Y draw (⟨.ld n ag x,g⟩::r) env rs nx m K:=
 iz rfl hg _ (fun hf=>by simp only[aV.ez,hx,GQ,fX,hl hf];exact⟨kx hf,⟨trivial,by have:=hi hf;omega⟩,ho⟩) (fun hf=>by simp only[aV.val,hx,FK,bC,hl hf];exact hv hf) m rfl (fun ha=>h)
def pV {x:Src}{fx:Bool}{α:Type} [Inhabited α]{n l k i o:Nat}{ag:Bool}{q:α->D}{xs:List α}(v:D)(h:aM Y draw r env (⟨f,v⟩::rs) nx m K)(hg:GF rs g f:=by exact du)(hx:cR env rs x=⟨fx,.ptr l k i o⟩:=by exact rfl)(kx:f=true->fx=true:=by exact cu)(hl:f=true->look m l=some (.buf k (xs.map q)):=by exact fun _=>rfl)(hi:f=true->i<xs.length:=by exact uG)(hv:f=true->oF (q xs[i]!) k n o ag=v:=by exact fun _=>rfl)(ho:o+n<=k:=by omega):aM Y draw (⟨.ld n ag x,g⟩::r) env rs nx m K:=
 iz rfl hg _ (fun hf=>by simp only[aV.ez,hx,GQ,fX,hl hf,bN];exact⟨kx hf,⟨trivial,by have:=hi hf;omega⟩,ho⟩) (fun hf=>by simp only[aV.val,hx,FK,bC,hl hf];rw[getD_map (hi hf)];exact hv hf) m rfl (fun ha=>h)
def bD {x:Src}{fx:Bool}{α:Type} [Inhabited α]{n k i o:Nat}{ag:Bool}{q:α->D}{xs:List α}(v:D)(h:aM Y draw r env (⟨f,v⟩::rs) nx m K)(hg:GF rs g f:=by exact du)(hx:cR env rs x=⟨fx,.ref k (xs.map q) i o⟩:=by exact rfl)(kx:f=true->fx=true:=by exact cu)(hi:f=true->i<xs.length:=by exact uG)(hv:f=true->oF (q xs[i]!) k n o ag=v:=by exact fun _=>rfl)(ho:o+n<=k:=by omega):aM Y draw (⟨.ld n ag x,g⟩::r) env rs nx m K:=
 iz rfl hg _ (fun hf=>by simp only[aV.ez,hx,GQ,bN];exact⟨kx hf,hi hf,ho⟩) (fun hf=>by simp only[aV.val,hx,FK];rw[getD_map (hi hf)];exact hv hf) m rfl (fun ha=>h)
def e7 {x:Src}{fx:Bool}{n k i o:Nat}{ag:Bool}{es:List D}(v:D)(h:aM Y draw r env (⟨f,v⟩::rs) nx m K)(hg:GF rs g f:=by exact du)(hx:cR env rs x=⟨fx,.ref k es i o⟩:=by exact rfl)(kx:f=true->fx=true:=by exact cu)(hi:f=true->i<es.length:=by intro _;simp only[aP,a8];omega)(hv:f=true->oF (es.getD i .any) k n o ag=v:=by exact fun _=>rfl)(ho:o+n<=k:=by omega):aM Y draw (⟨.ld n ag x,g⟩::r) env rs nx m K:=
 iz rfl hg _ (fun hf=>by simp only[aV.ez,hx,GQ];exact⟨kx hf,hi hf,ho⟩) (fun hf=>by simp only[aV.val,hx,FK];exact hv hf) m rfl (fun ha=>h)
def Bf {x:Src}{fx:Bool}{n k i o:Nat}{ag:Bool}{es:List D}(v:D)(h:aM Y draw r env (⟨f,v⟩::rs) nx m K)(hg:GF rs g f:=by exact du)(hx:cR env rs x=⟨fx,.ref k es i o⟩:=by exact rfl)(kx:f=true->fx=true:=by exact cu)(hi:f=true->i<es.length:=by intro _;simp only[aP,a8];omega)(hv:f=true->oF (es.getD i .any) k n o ag=v:=by exact fun _=>rfl)(ho:o+n<=k:=by omega):aM Y draw (⟨.ldI n ag x,g⟩::r) env rs nx m K:=
 cd rfl hg _ (fun hf=>by simp only[aV.ez,hx,GQ];exact⟨kx hf,hi hf,ho⟩) (fun hf=>by simp only[aV.val,hx,FK];exact hv hf) (fun ha=>h)
def r_box {x:Src}{fx:Bool}{k:Nat}{d:D}{L:Nat}{m2:List (Nat×bW)}(h:aM Y draw r env (⟨f,.ptr L k 0 0⟩::rs) nx m2 K)(hg:GF rs g f:=by exact du)(hx:cR env rs x=⟨fx,d⟩:=by exact rfl)(kx:f=true->fx=true:=by exact cu)(hc:d.cells.length=k:=by exact rfl)(hL:nx+rs.length=L:=by exact xo)(hm:dG m L (.buf k [d])=m2:=by simp only[dG,cH,Nat.reduceEqDiff,aW,aX,Nat.reduceAdd,reduceCtorEq];exact rfl):aM Y draw (⟨.box k x,g⟩::r) env rs nx m K:=
 iz rfl hg _ (fun hf=>by simp only[aV.ez,hx];exact⟨kx hf,hc⟩) (fun hf=>by simp only[aV.val,hx,hL]) _ (by simp only[aV.c7,hx,hL];exact hm) (fun _=>h)
def r_mkB {L:Nat}{m2:List (Nat×bW)}(h:aM Y draw r env (⟨f,.ptr L 2 0 0⟩::rs) nx m2 K)(hg:GF rs g f:=by exact du)(hL:nx+rs.length=L:=by exact xo)(hm:dG m L (.bld none 0 false)=m2:=by simp only[dG,cH,Nat.reduceEqDiff,aW,aX,Nat.reduceAdd,reduceCtorEq];exact rfl):aM Y draw (⟨.mkB,g⟩::r) env rs nx m K:=
 iz rfl hg _ (fun _=>trivial) (fun hf=>by simp only[aV.val,hL]) _ (by simp only[aV.c7,hL];exact hm) (fun _=>h)
def r_s2b {x:Src}{fx:Bool}{s:List UInt8}{L:Nat}{m2:List (Nat×bW)}(h:aM Y draw r env (⟨f,.own L 1 0 s.length⟩::rs) nx m2 K)(hg:GF rs g f:=by exact du)(hx:cR env rs x=⟨fx,.str s⟩:=by exact rfl)(kx:f=true->fx=true:=by exact cu)(hL:nx+rs.length=L:=by exact xo)(hm:dG m L (.buf 1 (s.map fun b=>.int .u8 b.toNat))=m2:=by simp only[dG,cH,Nat.reduceEqDiff,aW,aX,Nat.reduceAdd,reduceCtorEq];exact rfl):aM Y draw (⟨.s2b x,g⟩::r) env rs nx m K:=
 iz rfl hg _ (fun hf=>by simp only[aV.ez,hx];exact⟨kx hf,trivial⟩) (fun hf=>by simp only[aV.val,hx,hL]) _ (by simp only[aV.c7,hx,hL];exact hm) (fun _=>h)
def r_rng {x:Src}{fx:Bool}{s:List UInt8}{L:Nat}{m2:List (Nat×bW)}(h:aM Y draw r env (⟨f,.it L⟩::rs) nx m2 K)(hg:GF rs g f:=by exact du)(hx:cR env rs x=⟨fx,.str s⟩:=by exact rfl)(kx:f=true->fx=true:=by exact cu)(hL:nx+rs.length=L:=by exact xo)(hm:dG m L (.iter s 0)=m2:=by simp only[dG,cH,Nat.reduceEqDiff,aW,aX,Nat.reduceAdd,reduceCtorEq];exact rfl):aM Y draw (⟨.xU x,g⟩::r) env rs nx m K:=
 iz rfl hg _ (fun hf=>by simp only[aV.ez,hx];exact⟨kx hf,trivial⟩) (fun hf=>by simp only[aV.val,hx,hL]) _ (by simp only[aV.c7,hx,hL];exact hm) (fun _=>h)
def df {k n:Nat}{z:D}{ps:List (Nat×Src)}{L:Nat}{m2:List (Nat×bW)}(es:List D)(h:aM Y draw r env (⟨f,.own L k 0 n⟩::rs) nx m2 K)(hg:GF rs g f:=by exact du)(he:nq (cR env rs) (List.replicate n z) ps=es:=by exact rfl)(ho:f=true->tN (cR env rs) k n ps:=by exact yy)(hz:z.cells.length=k:=by exact rfl)(hL:nx+rs.length=L:=by exact xo)(hm:dG m L (.buf k es)=m2:=by simp only[dG,cH,Nat.reduceEqDiff,aW,aX,Nat.reduceAdd,reduceCtorEq];exact rfl):aM Y draw (⟨.bsl k z n ps,g⟩::r) env rs nx m K:=
 iz rfl hg _ (fun hf=>⟨hz,ho hf⟩) (fun hf=>by simp only[aV.val,hL]) _ (by simp only[aV.c7,he,hL];exact hm) (fun _=>h)
def WQ {k:Nat}{z:D}{x y:Src}{k1 k2:IntKind}{a c:Int}{L:Nat}{m2:List (Nat×bW)}(n:Nat)(h:aM Y draw r env (⟨true,.own L k 0 n⟩::rs) nx m2 K)(hx:cR env rs x=⟨true,.int k1 a⟩:=by exact rfl)(hy:cR env rs y=⟨true,.int k2 c⟩:=by exact rfl)(hn:a=(n:Int):=by first|exact rfl|omega)(hc:a<=c/\c<=1073741824:=by constructor<;>omega)(hz:z.cells.length=k:=by exact rfl)(hL:nx+rs.length=L:=by exact xo)(hm:dG m L (.buf k (List.replicate n z))=m2:=by simp only[dG,cH,Nat.reduceEqDiff,aW,aX,Nat.reduceAdd,reduceCtorEq];exact rfl):aM Y draw (⟨.mks k z x y,none⟩::r) env rs nx m K:=
 rY rfl _ (by simp only[aV.ez,hx,hy];exact⟨trivial,trivial,hz,ae,hc.1,hc.2⟩) (by simp only[aV.val,hx,hL,D.nat,hn];rfl) _ (by simp only[aV.c7,hx,hL,D.nat,hn];exact hm) (fun _=>h)
def aI {n l k o:Nat}{x y:Src}{d v:D}{m2:List (Nat×bW)}(e:D)(h:aM Y draw r env (⟨true,.any⟩::rs) nx m2 K)(hx:cR env rs x=⟨true,.ptr l k 0 o⟩:=by exact rfl)(hy:cR env rs y=⟨true,v⟩:=by exact rfl)(hl:look m l=some (.buf k [d]):=by exact rfl)(hc:v.cells.length=n:=by exact rfl)(he:vD d k n o v=e:=by exact rfl)(ho:o+n<=k:=by omega)(hm:dG m l (.buf k [e])=m2:=by simp only[dG,cH,Nat.reduceEqDiff,aW,aX,Nat.reduceAdd,reduceCtorEq];exact rfl):aM Y draw (⟨.st n x y,none⟩::r) env rs nx m K:=
 rY rfl _ (by simp only[aV.ez,hx,hy,fX,hl];exact⟨trivial,trivial,hc,⟨trivial,aJ⟩,ho⟩) rfl _ (by simp only[aV.c7,hx,hy,bC,hl,jt,List.set_cons_zero,he];exact hm) (fun _=>h)
def r5 {n l k i o:Nat}{x y:Src}{v:D}{es:List D}{m2:List (Nat×bW)}(es2:List D)(h:aM Y draw r env (⟨true,.any⟩::rs) nx m2 K)(hx:cR env rs x=⟨true,.ptr l k i o⟩:=by exact rfl)(hy:cR env rs y=⟨true,v⟩:=by exact rfl)(hl:look m l=some (.buf k es):=by exact rfl)(hi:i<es.length)(hc:v.cells.length=n:=by exact rfl)(he:es.set i (vD (es.getD i .any) k n o v)=es2)(ho:o+n<=k:=by omega)(hm:dG m l (.buf k es2)=m2:=by simp only[dG,cH,Nat.reduceEqDiff,aW,aX,Nat.reduceAdd,reduceCtorEq];exact rfl):aM Y draw (⟨.st n x y,none⟩::r) env rs nx m K:=
 rY rfl _ (by simp only[aV.ez,hx,hy,fX,hl];exact⟨trivial,trivial,hc,⟨trivial,ae⟩,ho⟩) rfl _ (by simp only[aV.c7,hx,hy,bC,hl,he];exact hm) (fun _=>h)
def sA (m:List (Nat×bW))(k:Nat)(d:D)(ys:List D):Prop:=Em m k d/\qS m d=ys
def sA.sl {k:Nat}{es:List D}:sA m k (.sl k es) es:=⟨rfl,rfl⟩
def sA.bq {k:Nat}:sA m k .bq []:=⟨trivial,rfl⟩
def sA.own {l k i n:Nat}{es:List D}(hl:look m l=some (.buf k es))(hb:i+n<=es.length):sA m k (.own l k i n) ((es.drop i).take n):=⟨⟨rfl,by simp only[fX,hl];exact⟨trivial,hb⟩⟩,by simp only[qS,bC,hl]⟩
def sA.all {l k n:Nat}{es:List D}(hl:look m l=some (.buf k es))(hb:n=es.length):sA m k (.own l k 0 n) es:=by
 have:=sA.own (i:=0) (n:=n) hl ae;simpa[hb]using this
def sA.str {s:List UInt8}:sA m 1 (.str s) (s.map fun b=>.int .u8 b.toNat):=⟨rfl,rfl⟩
def SO {k n:Nat}{x y:Src}{d:D}{ys:List D}{L:Nat}{m2:List (Nat×bW)}(h:aM Y draw r env (⟨true,.own L k 0 n⟩::rs) nx m2 K)(hx:cR env rs x=⟨true,.bq⟩:=by exact rfl)(hy:cR env rs y=⟨true,d⟩:=by exact rfl)(he:sA m k d ys)(hn:ys.length=n)(hb:n<=1073741824:=by omega)(hL:nx+rs.length=L:=by exact xo)(hm:dG m L (.buf k ys)=m2:=by simp only[dG,cH,Nat.reduceEqDiff,aW,aX,Nat.reduceAdd,reduceCtorEq];exact rfl):aM Y draw (⟨.app k x y,none⟩::r) env rs nx m K:=
 rY rfl _ (by simp only[aV.ez,hx,hy,he.2,hn];exact⟨trivial,trivial,he.1,hb⟩) (by simp only[aV.val,hx,hy,he.2,hn,hL]) _ (by simp only[aV.c7,hx,hy,he.2,hL];exact hm) (fun _=>h)
def LF {k n:Nat}{y:Src}{fy:Bool}{d:D}{ys:List D}{L:Nat}{m2:List (Nat×bW)}(h:aM Y draw r env (⟨f,.own L k 0 n⟩::rs) nx m2 K)(hg:GF rs g f:=by exact du)(hy:cR env rs y=⟨fy,d⟩:=by exact rfl)(ky:f=true->fy=true:=by exact cu)(he:sA m k d ys)(hn:ys.length=n)(hb:n<=1073741824:=by omega)(hL:nx+rs.length=L:=by exact xo)(hm:dG m L (.buf k ys)=m2:=by simp only[dG,cH,Nat.reduceEqDiff,aW,aX,Nat.reduceAdd,reduceCtorEq];exact rfl):aM Y draw (⟨.appN k y,g⟩::r) env rs nx m K:=
 iz rfl hg _ (fun hf=>by simp only[aV.ez,hy,he.2,hn];exact⟨ky hf,he.1,hb⟩) (fun hf=>by simp only[aV.val,hy,he.2,hn,hL]) _ (by simp only[aV.c7,hy,he.2,hL];exact hm) (fun _=>h)
def xS {k l i a n:Nat}{x y:Src}{d:D}{xs ys:List D}{L:Nat}{m2:List (Nat×bW)}(zs:List D)(h:aM Y draw r env (⟨true,.own L k 0 n⟩::rs) nx m2 K)(hx:cR env rs x=⟨true,.own l k i a⟩:=by exact rfl)(hy:cR env rs y=⟨true,d⟩:=by exact rfl)(hl:look m l=some (.buf k xs):=by exact rfl)(ha:i+a<=xs.length)(he:sA m k d ys)(hz:(xs.drop i).take a++ys=zs)(hn:a+ys.length=n)(hb:n<=1073741824:=by omega)(hL:nx+rs.length=L:=by exact xo)(hm:dG (cH m l) L (.buf k zs)=m2:=by simp only[dG,cH,Nat.reduceEqDiff,aW,aX,Nat.reduceAdd,reduceCtorEq];exact rfl):aM Y draw (⟨.app k x y,none⟩::r) env rs nx m K:=
 rY rfl _ (by simp only[aV.ez,hx,hy,he.2,fX,hl,hn];exact⟨trivial,trivial,he.1,trivial,⟨trivial,ha⟩,hb⟩) (by simp only[aV.val,hx,hy,he.2,hn,hL]) _ (by simp only[aV.c7,hx,hy,he.2,bC,hl,hz,hL];exact hm) (fun _=>h)
def gL {α:Type}{q:α->D}{xs:List α}{e:α}{k l ly:Nat}{x y:Src}{L:Nat}{m2:List (Nat×bW)}(h:aM Y draw r env (⟨true,.own L k 0 (xs++[e]).length⟩::rs) nx m2 K)(hx:cR env rs x=⟨true,.own l k 0 xs.length⟩:=by exact rfl)(hy:cR env rs y=⟨true,.own ly k 0 1⟩:=by exact rfl)(hl:look m l=some (.buf k (xs.map q)):=by exact rfl)(he:look m ly=some (.buf k [q e]):=by exact rfl)(hb:xs.length+1<=1073741824:=by omega)(hL:nx+rs.length=L:=by exact xo)(hm:dG (cH m l) L (.buf k ((xs++[e]).map q))=m2:=by simp only[dG,cH,Nat.reduceEqDiff,aW,aX,Nat.reduceAdd,reduceCtorEq];exact rfl):aM Y draw (⟨.app k x y,none⟩::r) env rs nx m K:=
 xS (zs:=(xs++[e]).map q) (hx:=hx) (hy:=hy) (hl:=hl) (ha:=aJ) (he:=sA.all (es:=[q e]) he rfl) (hz:=by rw[bY,ed aJ];simp) (hn:=aJ) (hb:=cY) (hL:=hL) (hm:=hm) (h:=h)
def SP {α:Type}{q:α->D}{xs ys:List α}{k l:Nat}{x y:Src}{d:D}{L:Nat}{m2:List (Nat×bW)}(h:aM Y draw r env (⟨true,.own L k 0 (xs++ys).length⟩::rs) nx m2 K)(hx:cR env rs x=⟨true,.own l k 0 xs.length⟩:=by exact rfl)(hy:cR env rs y=⟨true,d⟩:=by exact rfl)(hl:look m l=some (.buf k (xs.map q)):=by exact rfl)(he:sA m k d (ys.map q))(hb:xs.length+ys.length<=1073741824:=by omega)(hL:nx+rs.length=L:=by exact xo)(hm:dG (cH m l) L (.buf k ((xs++ys).map q))=m2:=by simp only[dG,cH,Nat.reduceEqDiff,aW,aX,Nat.reduceAdd,reduceCtorEq];exact rfl):aM Y draw (⟨.app k x y,none⟩::r) env rs nx m K:=
 xS (zs:=(xs++ys).map q) (hx:=hx) (hy:=hy) (hl:=hl) (ha:=aJ) (he:=he) (hz:=by rw[bY,ed aJ];simp) (hn:=aJ) (hb:=cY) (hL:=hL) (hm:=hm) (h:=h)
def Hd {x:Src}{fx:Bool}{d:D}{ys:List D}(s:List UInt8)(h:aM Y draw r env (⟨f,.str s⟩::rs) nx m K)(hg:GF rs g f:=by exact du)(hx:cR env rs x=⟨fx,d⟩:=by exact rfl)(kx:f=true->fx=true:=by exact cu)(he:f=true->sA m 1 d ys)(hs:f=true->ys=s.map fun b=>.int .u8 b.toNat)(hd:d.YD=false:=by exact rfl):aM Y draw (⟨.b2s x,g⟩::r) env rs nx m K:=
 iz rfl hg _ (fun hf=>by
  simp only[aV.ez,hx,(he hf).2,hs hf];refine⟨kx hf,(by cases d<;>first|trivial|(cases hd)),(he hf).1,fun e hm=>?_⟩;obtain⟨b,_,rfl⟩:=ey.1 hm;have:=b.toNat_lt;exact⟨rfl,ae,ae⟩) (fun hf=>by simp only[aV.val,hx,(he hf).2,hs hf];rw[Uq]) m rfl (fun _=>h)
def E1 {x:Src}{l pos:Nat}{s:List UInt8}{m2:List (Nat×bW)}(c w:Nat)(h:aM Y draw r env (⟨true,.tup [.bool true,.int .i64 pos,.int .i32 c]⟩::rs) nx m2 K)(hx:cR env rs x=⟨true,.it l⟩:=by exact rfl)(hl:look m l=some (.iter s pos):=by exact rfl)(hp:pos<s.length)(hc:vZ s pos=(c,w))(hm:dG m l (.iter s (pos+w))=m2:=by simp only[dG,cH,Nat.reduceEqDiff,aW,aX,Nat.reduceAdd,reduceCtorEq];exact rfl):aM Y draw (⟨.FL x,none⟩::r) env rs nx m K:=
 rY rfl _ (by simp only[aV.ez,hx,hl];exact⟨trivial,trivial⟩) (by simp only[aV.val,hx,hl,hc,hp,decide_true,cond_true]) _ (by simp only[aV.c7,hx,hl,hc,hp,decide_true,cond_true];exact hm) (fun _=>h)
def E0 {x:Src}{l pos:Nat}{s:List UInt8}(h:aM Y draw r env (⟨true,.tup [.bool false]⟩::rs) nx m K)(hx:cR env rs x=⟨true,.it l⟩:=by exact rfl)(hl:look m l=some (.iter s pos):=by exact rfl)(hp:¬pos<s.length):aM Y draw (⟨.FL x,none⟩::r) env rs nx m K:=
 rY rfl _ (by simp only[aV.ez,hx,hl];exact⟨trivial,trivial⟩) (by simp only[aV.val,hx,hl,hp,decide_false,cond_false]) _ (by simp only[aV.c7,hx,hl,hp,decide_false,cond_false]) (fun _=>h)
def aq {n:Nat}{args:List Src}{sh:List (List Sh)}{aoF:List D}{v:D}(h:aM Y draw r env (⟨f,v⟩::rs) nx m K)(hg:GF rs g f:=by exact du)(hc:Y.pre n aoF/\Y.val n aoF=v)(ha:f=true->ot m sh (jj (cR env rs) args)=aoF:=by exact fun _=>rfl)(ho:f=true->xP (cR env rs) args:=by exact yy)(hp:f=true->kY m sh (jj (cR env rs) args):=by exact yy)(hk:f=true->tG (jj (cR env rs) args) v=true:=by exact fun _=>rfl):aM Y draw (⟨.call n args sh,g⟩::r) env rs nx m K:=
 iz rfl hg _ (fun hf=>by simp only[aV.ez,(eA _ _ _).1,ha hf,hc.2];exact⟨ho hf,(eA _ _ _).2.2 (hp hf),hc.1,hk hf⟩) (fun hf=>by simp only[aV.val,(eA _ _ _).1,ha hf,hc.2]) m rfl (fun _=>h)
def c8 {n:Nat}{args:List Src}{sh:List (List Sh)}{aoF:List D}{v:D}(h:aM Y draw r env (⟨f,v⟩::rs) nx m K)(hg:GF rs g f:=by exact du)(hc:f=true->Y.pre n aoF/\Y.val n aoF=v)(ha:f=true->ot m sh (jj (cR env rs) args)=aoF:=by exact fun _=>rfl)(ho:f=true->xP (cR env rs) args:=by exact yy)(hp:f=true->kY m sh (jj (cR env rs) args):=by exact yy)(hk:f=true->tG (jj (cR env rs) args) v=true:=by exact fun _=>rfl):aM Y draw (⟨.call n args sh,g⟩::r) env rs nx m K:=
 iz rfl hg _ (fun hf=>by simp only[aV.ez,(eA _ _ _).1,ha hf,(hc hf).2];exact⟨ho hf,(eA _ _ _).2.2 (hp hf),(hc hf).1,hk hf⟩) (fun hf=>by simp only[aV.val,(eA _ _ _).1,ha hf,(hc hf).2]) m rfl (fun _=>h)
def VF {n:Nat}{x:Src}{fx:Bool}{caps:List D}{args:List Src}{sh:List (List Sh)}{aoF:List D}{v:D}(h:aM Y draw r env (⟨f,v⟩::rs) nx m K)(hg:GF rs g f:=by exact du)(hx:cR env rs x=⟨fx,.fn n caps⟩:=by exact rfl)(kx:f=true->fx=true:=by exact cu)(hb:n<1000000:=by decide)(hc:f=true->Y.pre n aoF/\Y.val n aoF=v)(ha:f=true->ot m sh (jj (cR env rs) args++caps)=aoF:=by exact fun _=>rfl)(ho:f=true->xP (cR env rs) args:=by exact yy)(hp:f=true->kY m sh (jj (cR env rs) args++caps):=by exact yy)(hk:f=true->tG (jj (cR env rs) args++caps) v=true:=by exact fun _=>rfl):aM Y draw (⟨.callv x args sh,g⟩::r) env rs nx m K:=
 iz rfl hg _ (fun hf=>by simp only[aV.ez,hx,(eA _ _ _).1,ha hf,(hc hf).2];exact⟨kx hf,ho hf,hb,(eA _ _ _).2.2 (hp hf),(hc hf).1,hk hf⟩) (fun hf=>by simp only[aV.val,hx,(eA _ _ _).1,ha hf,(hc hf).2]) m rfl (fun _=>h)
def WO {n:Nat}{caps:List Src}(cs:List D)(h:aM Y draw r env (⟨f,.fn n cs⟩::rs) nx m K)(hg:GF rs g f:=by exact du)(hc:f=true->jj (cR env rs) caps=cs:=by exact fun _=>rfl)(ho:f=true->xP (cR env rs) caps:=by exact yy):aM Y draw (⟨.mkf n caps,g⟩::r) env rs nx m K:=
 cd rfl hg _ (fun hf=>ho hf) (fun hf=>by simp only[aV.val,hc hf]) (fun _=>h)
def nF {n l k:Nat}{x:Src}{args:List Src}{sh:List (List Sh)}{d v e:D}{aoF:List D}{m2:List (Nat×bW)}(h:aM Y draw r env (⟨true,v⟩::rs) nx m2 K)(hx:cR env rs x=⟨true,.ptr l k 0 0⟩:=by exact rfl)(hl:look m l=some (.buf k [d]):=by exact rfl)(hd:d.bI=true:=by exact rfl)(hc:Y.fp n d aoF/\Y.fv n d aoF=v/\Y.fs n d aoF=e)(ha:ot [] sh (jj (cR env rs) args)=aoF:=by exact rfl)(ho:xP (cR env rs) args:=by repeat' first|exact trivial|exact rfl|refine And.intro ?_ ?_|decide)(hn:bG (jj (cR env rs) args)=true:=by exact rfl)(hm:dG m l (.buf k [e])=m2:=by simp only[dG,cH,Nat.reduceEqDiff,aW,aX,Nat.reduceAdd,reduceCtorEq];exact rfl):aM Y draw (⟨.callF n x args sh,none⟩::r) env rs nx m K:=
 rY rfl _ (by simp only[aV.ez,hx,fX,bC,hl,jt,(eA _ _ _).1,ha];exact⟨trivial,ho,hn,trivial,trivial,⟨trivial,aJ⟩,aJ,hd,hc.1⟩) (by simp only[aV.val,hx,bC,hl,jt,(eA _ _ _).1,ha,hc.2.1]) _ (by simp only[aV.c7,hx,bC,hl,jt,(eA _ _ _).1,ha,hc.2.2];exact hm) (fun _=>h)
end
end
end Go.Abs
section
namespace Go.Abs
abbrev au:=List UInt8
structure cn where
 major:Int
 minor:Int
 patch:Int
 pre:au
 build:au
 deriving Inhabited,DecidableEq
def cn.D (v:cn):D:=.agg [.int .i64 v.major,.int .i64 v.minor,.int .i64 v.patch,.str v.pre,.str v.build]
structure vO where
 name:au
 v:cn
 shelf:au
 sum:Int
 feats:List au
 deriving Inhabited,DecidableEq
def vO.D (x:vO):D:=.agg [.str x.name,.int .i64 x.v.major,.int .i64 x.v.minor,.int .i64 x.v.patch,.str x.v.pre,.str x.v.build,.str x.shelf,.int .u64 x.sum,.sl 1 (x.feats.map D.str)]
structure Env where
 e0:au
 e1:au
 e2:au
 deriving Inhabited,DecidableEq
def Env.D (e:Env):D:=.agg [.str e.e0,.str e.e1,.str e.e2]
structure FG where
 env:Env
 lines:List vO
 deriving Inhabited,DecidableEq
def FG.D (l:FG):D:=.agg [.str l.env.e0,.str l.env.e1,.str l.env.e2,.sl 9 (l.lines.map vO.D)]
end Go.Abs
namespace Go.Abs
theorem vb (a b:List UInt8):Yq (.str a) (.str b)=decide (a=b):=qc a b
theorem yE (k k2:IntKind)(a b:Int):Yq (.int k a) (.int k2 b)=decide (a=b):=rfl
def cn.eq (a b:cn):jk (cn.D a).cells (cn.D b).cells=decide (a=b):=by
 obtain⟨a1,a2,a3,a4,a5⟩:=a;obtain⟨b1,b2,b3,b4,b5⟩:=b
 grind [cn.D,D.cells,jk,vb,yE]
def Env.eq (a b:Env):jk (Env.D a).cells (Env.D b).cells=decide (a=b):=by
 obtain⟨a1,a2,a3⟩:=a;obtain⟨b1,b2,b3⟩:=b
 grind [Env.D,D.cells,jk,vb,yE]
theorem cn.inj {a b:cn}(h:cn.D a=cn.D b):a=b:=by
 obtain⟨a1,a2,a3,a4,a5⟩:=a;obtain⟨b1,b2,b3,b4,b5⟩:=b
 grind [cn.D]
theorem Env.inj {a b:Env}(h:Env.D a=Env.D b):a=b:=by
 obtain⟨a1,a2,a3⟩:=a;obtain⟨b1,b2,b3⟩:=b
 grind [Env.D]
theorem map_inj {α:Type}{q:α->D}(hq:∀a b,q a=q b->a=b):∀{xs ys:List α},xs.map q=ys.map q->xs=ys
 |[],[],_=>rfl
 |[],_::_,h=>by simp at h
 |_::_,[],h=>by simp at h
 |a::r,b::s,h=>by
  simp only[List.map_cons,oD]at h;rw[hq a b h.1,map_inj hq h.2]
theorem str_inj (a b:List UInt8)(h:D.str a=D.str b):a=b:=by simpa using h
theorem vO.inj {a b:vO}(h:vO.D a=vO.D b):a=b:=by
 obtain⟨a1,⟨v1,v2,v3,v4,v5⟩,a2,a3,a4⟩:=a;obtain⟨b1,⟨w1,w2,w3,w4,w5⟩,b2,b3,b4⟩:=b
 grind [vO.D,map_inj,str_inj]
theorem FG.inj {a b:FG}(h:FG.D a=FG.D b):a=b:=by
 obtain⟨⟨a1,a2,a3⟩,a4⟩:=a;obtain⟨⟨b1,b2,b3⟩,b4⟩:=b
 grind [FG.D,map_inj,vO.inj]
end Go.Abs
end
section
namespace Go.Abs
def allI (p:Nat->Bool):Nat->Nat->Bool
 |_,0=>true
 |i,k+1=>p i&&allI p (i+1) k
def cQ (p:Nat->Bool)(i n:Nat):Bool:=allI p i (n-i)
theorem aU {p:Nat->Bool}{i n:Nat}(h:i<n):cQ p i n=(p i&&cQ p (i+1) n):=by
 unfold cQ;rw[show n-i=(n-(i+1))+1 by omega];rfl
def cj {p:Nat->Bool}{i n:Nat}(h:n<=i):cQ p i n=true:=by
 unfold cQ;rw[show n-i=0 by omega];rfl
theorem F2 {p:Nat->Bool}:∀{k i:Nat},allI p i k=true↔∀j,i<=j->j<i+k->p j=true
 |0,i=>by simp[allI];intro j h1 h2;omega
 |k+1,i=>by
  simp only[allI,bB,F2 (k:=k)]
  grind
theorem eC {p:Nat->Bool}{i n:Nat}:cQ p i n=true↔∀j,i<=j->j<n->p j=true:=by
 grind [cQ,F2]
end Go.Abs
namespace Go.Abs
def aH {a a' b b':D}(h1:a=a')(h2:b=b'):D.tup [a,b]=D.tup [a',b']:=by rw[h1,h2]
def di {a a' b b' c c':D}(h1:a=a')(h2:b=b')(h3:c=c'):D.tup [a,b,c]=D.tup [a',b',c']:=by rw[h1,h2,h3]
end Go.Abs
namespace Go.Abs
def ld8 (s:au)(i:Nat):oF (D.int .u8 (s[i]!).toNat) 1 1 0 false=.int .u8 (at8 s i):=by
 simp only[oF,D.isAgg,at8];simp;rfl
end Go.Abs
namespace Go.Abs
def uY (s:au)(pos:Nat)(h:pos<s.length):∃c w,vZ s pos=(c,w)/\1<=w/\((w=1/\(c:Int)=at8 s pos/\c<128)\/(128<=c/\128<=at8 s pos)):=by
 refine⟨(vZ s pos).1,(vZ s pos).2,rfl, ?_⟩;have e:vZ s pos=Lib.decodeN (s.length-pos) (s.getD pos 0).toNat (s.getD (pos+1) 0).toNat (s.getD (pos+2) 0).toNat (s.getD (pos+3) 0).toNat:=Lib.decode_N ⟨⟨s⟩⟩ pos;rw[e];unfold at8;generalize (s.getD pos 0).toNat=b0;generalize (s.getD (pos+1) 0).toNat=b1;generalize (s.getD (pos+2) 0).toNat=b2;generalize (s.getD (pos+3) 0).toNat=b3;generalize s.length-pos=n;by_cases hb:b0<128
 .unfold Lib.decodeN;rw[aw hb];exact⟨aL _,.inl ⟨rfl,rfl,hb⟩⟩
 .unfold Lib.decodeN
  grind
end Go.Abs
namespace Go.Abs
def oZ {α:Type}{q:α->D}{xs:List α}{m:List (Nat×bW)}{l:Nat}(hq:∀x,xV m [.a] (q x)=q x)(hl:look m l=some (.buf 1 (xs.map q))):xV m [.sl 1 [.a]] (.own l 1 0 xs.length)=.sl 1 (xs.map q):=by
 show D.sl 1 _=_;simp only[bC,hl,bY,aN,List.map_map];congr 1;apply List.map_congr_left;intro x _;have:=hq x;simp only[Function.comp];generalize q x=d at this;cases d<;>exact this
def mT {α:Type}{q:α->D}{xs:List α}{m:List (Nat×bW)}{l:Nat}(hq:∀x,TR m [.a] (q x))(hl:look m l=some (.buf 1 (xs.map q))):TR m [.sl 1 [.a]] (.own l 1 0 xs.length):=by
 grind [TR,WU,WT,fX,bC,aN]
end Go.Abs
end
namespace Go.Abs
def iy (c:Int):Bool:=decide (97<=c)&&decide (c<=122)
def bn (c:Int):Bool:=decide (48<=c)&&decide (c<=57)
def y0 (c:Int):Bool:=iy c ||bn c ||decide (c=95)
def cV (s:au):Bool:=decide (1<=s.length)&&decide (s.length<=12)&&cQ (fun i=>y0 (at8 s i)) 0 s.length
def YK (s:au)(i:Nat):Bool:=(iy (at8 s i) ||bn (at8 s i) ||decide (at8 s i=45))&& !(decide (at8 s i=45)&&decide (at8 s (i-1)=45))
def dK (s:au):Bool:=decide (1<=s.length)&&decide (s.length<=16)&&iy (at8 s 0)&& !decide (at8 s (s.length-1)=45)&&cQ (YK s) 1 s.length
def pr (s:au)(i:Nat):Bool:=iy (at8 s i) ||(bn (at8 s i)&& !decide (i=0)) ||(decide (at8 s i=45)&& !decide (i=0)&& !decide (i=s.length-1)&& !decide (at8 s (i-1)=45))
def Vj (s:au)(h1:1<=s.length)(h2:s.length<=16):dK s=cQ (pr s) 0 s.length:=by
 rw[Bool.eq_iff_iff];simp only[dK,b9 h1,b9 h2,gz,bB,bd,bc,eC];constructor
 .rintro⟨⟨h3,h4⟩,h5⟩ j _ hj;rcases Nat.eq_zero_or_pos j with rfl|hp
  .simp[pr,h3]
  .have:=h5 j hp hj;simp only[YK,bB,cM,bd,dy,aK,bc]at this;simp only[pr,bB,cM,bd,aK,bc];rcases this with⟨(h6|h6)|h6,h7⟩
   .exact Or.inl (Or.inl h6)
   .exact Or.inl (Or.inr ⟨h6,ae⟩)
   .refine Or.inr ⟨⟨⟨h6,ae⟩, ?_⟩, ?_⟩
    .rintro rfl;exact h4 h6
    .rcases h7 with h7|h7
     .exact absurd h6 h7
     .exact h7
 .intro h;have h0:=h 0 ae ae;have hlow:iy (at8 s 0)=true:=by simpa[pr]using h0
  refine⟨⟨hlow, ?_⟩,fun j hj1 hj2=>?_⟩
  .intro he;have hl:=h (s.length-1) ae ae;rcases Nat.eq_or_lt_of_le h1 with e|e
   .rw[<-e]at he;simp only[Nat.sub_self]at he;simp only[iy,bB,aK]at hlow;omega
   .simp only[pr,he,iy,bn]at hl;simp at hl
  .have:=h j ae hj2;simp only[pr,bB,cM,bd,aK,bc]at this;simp only[YK,bB,cM,bd,dy,aK,bc];rcases this with(h6|h6)|h6
   .refine⟨Or.inl (Or.inl h6),Or.inl ?_⟩;simp only[iy,bB,aK]at h6;omega
   .refine⟨Or.inl (Or.inr h6.1),Or.inl ?_⟩;have:=h6.1;simp only[bn,bB,aK]at this;omega
   .exact⟨Or.inr h6.1.1.1,Or.inr h6.2⟩
def dL (s:au):Nat:=s.foldl (fun n b=>n*10+(b.toNat-48)) 0
def fU (s:au):Bool:=decide (1<=s.length)&&decide (s.length<=9)&& !(decide (1<s.length)&&decide (at8 s 0=48))&&cQ (fun i=>bn (at8 s i)) 0 s.length&&decide (dL s<=9999)
def ef (s:au):Int:=if fU s=true then(dL s:Int)else 0
theorem lx (s:au)(i:Nat)(h:i<s.length):s.take (i+1)=s.take i++[s.getD i 0]:=by
 rw[List.take_succ];simp[h]
def xN (s:au)(i:Nat)(h:i<s.length):dL (s.take (i+1))=dL (s.take i)*10+((at8 s i).toNat-48):=by
 rw[lx s i h];simp[dL,List.foldl_append,at8]
def O0 (s:au):dL s+23<=23*10^s.length:=by
 have:∀(s:au) (n k:Nat),n+23<=23*10^k->s.foldl (fun n b=>n*10+(b.toNat-48)) n+23<=23*10^(k+s.length):=by
  intro s;induction s with
  |nil=>intro n k h;simpa using h
  |cons b r ih=>
   intro n k h;have hb:=b.toNat_lt;have:=ih (n*10+(b.toNat-48)) (k+1) (by rw[Nat.pow_succ];omega);simp only[List.foldl_cons,aP];rw[show k+(r.length+1)=k+1+r.length by omega];exact this
 have:=this s 0 0 aJ;simpa[dL]using this
def vz (s:au)(i:Nat)(h:i<=9):dL (s.take i)<=23000000000:=by
 have h1:=O0 (s.take i);have h2:(s.take i).length<=9:=cY;have h3:10^(s.take i).length<=10^9:=Nat.pow_le_pow_right ae h2;omega
def G2 (s:au):∀n:Nat,s.foldl (fun n b=>n*10+(b.toNat-48)) n=n*10^s.length+dL s:=by
 unfold dL;induction s with
 |nil=>intro n;simp
 |cons b r ih=>
  intro n;simp only[List.foldl_cons,aP];rw[ih,ih (0*10+(b.toNat-48)),Nat.pow_succ];simp only[Nat.zero_mul,bQ,Nat.add_mul];rw[Nat.mul_assoc n 10,Nat.mul_comm 10];omega
def xM (b:UInt8)(r:au):dL (b::r)=(b.toNat-48)*10^r.length+dL r:=by
 have:=G2 r (0*10+(b.toNat-48));simp only[dL,List.foldl_cons]at this⊢;rw[this];simp
def xz {b:UInt8}{r:au}(h:cQ (fun i=>bn (at8 (b::r) i)) 0 (b::r).length=true):bn b.toNat=true/\cQ (fun i=>bn (at8 r i)) 0 r.length=true:=by
 rw[eC]at h;refine⟨by simpa[at8]using h 0 ae aJ, ?_⟩;rw[eC];intro j _ hj;simpa[at8]using h (j+1) ae cY
def Di:∀(s:au),cQ (fun i=>bn (at8 s i)) 0 s.length=true->dL s<10^s.length
 |[],_=>by simp[dL]
 |b::r,h=>by
  obtain⟨h1,h2⟩:=xz h;have:=Di r h2;rw[xM,aP,Nat.pow_succ];simp only[bn,bB,aK]at h1;have h3:b.toNat-48<=9:=ae;have:=fk (10^r.length) h3;omega
theorem Dh {b:UInt8}{r:au}(h:49<=b.toNat):10^r.length<=dL (b::r):=by
 rw[xM];have:=fk (10^r.length) (show 1<=b.toNat-48 by omega);omega
theorem EN (s:au):fU s=(decide (1<=s.length)&&decide (s.length<=4)&& !(decide (1<s.length)&&decide (at8 s 0=48))&&cQ (fun i=>bn (at8 s i)) 0 s.length):=by
 unfold fU;cases hd:cQ (fun i=>bn (at8 s i)) 0 s.length with
 |false=>simp
 |true=>
  have hlt:=Di s hd;by_cases h4:s.length<=4
  .have:10^s.length<=10^4:=Nat.pow_le_pow_right ae h4;rw[b9 h4,b9 (by omega:s.length<=9),b9 (by omega:dL s<=9999)];simp
  .rw[cG h4]
   match s,hd,h4 with
   |b::r,hd,h4=>
    by_cases h0:at8 (b::r) 0=48
    .rw[b9 h0,b9 (by omega:1<(b::r).length)];simp
    .have h1:=(xz hd).1;simp only[bn,bB,aK]at h1;have h2:49<=b.toNat:=by
      simp[at8]at h0;omega
     have h3:=Dh (r:=r) h2;have:10^4<=10^r.length:=Nat.pow_le_pow_right ae (by simp at h4;omega);rw[cG (by omega:¬dL (b::r)<=9999)];simp
def dg (n:Nat):UInt8:=UInt8.ofNat (48+n)
def Ej:Nat->Nat->au
 |0,n=>[dg n]
 |f+1,n=>if n<10 then [dg n]else Ej f (n/10)++[dg (n%10)]
def dI (n:Nat):au:=Ej n n
def KP:∀(f g n:Nat),n<=f->n<=g->Ej f n=Ej g n
 |0,0,n,_,_=>rfl
 |0,g+1,n,h,_=>by
  obtain rfl:n=0:=ae;simp[Ej]
 |f+1,0,n,_,h=>by
  obtain rfl:n=0:=ae;simp[Ej]
 |f+1,g+1,n,h1,h2=>by
  simp only[Ej];split
  .rfl
  .rw[KP f g (n/10) ae ae]
theorem ml {n:Nat}(h:n<10):dI n=[dg n]:=by
 unfold dI;cases n<;>simp[Ej,h]
theorem nA {n:Nat}(h:9<n):dI n=dI (n/10)++[dg (n%10)]:=by
 unfold dI;obtain⟨k,rfl⟩:∃k,n=k+1:=⟨n-1,ae⟩
 simp only[Ej];rw[ak ae,KP k ((k+1) /10) _ ae ae]
def eJ:∀(k n:Nat),n<10^k->0<k->(dI n).length<=k:=by
 intro k;induction k with
 |zero=>intro n _ h;omega
 |succ k ih=>
  intro n h _;by_cases h10:n<10
  .rw[ml h10];simp
  .rw[nA ae];have hk:0<k:=by
    rcases Nat.eq_zero_or_pos k with rfl|h0
    .simp at h;omega
    .exact h0
   have:=ih (n/10) (by rw[Nat.pow_succ]at h;omega) hk;simp;omega
theorem CM {n:Nat}(h:n<10):((dg n).toNat:Int)=48+n:=by
 have:(48+n)%256=48+n:=Nat.mod_eq_of_lt ae;simp[dg,this]
def cD (b:Int):au->au->List au
 |[],cur=>[cur]
 |c::r,cur=>if(c.toNat:Int)=b then cur::cD b r []else cD b r (cur++[c])
def ai (s:au)(b:Int):List au:=cD b s []
def mq (s:au)(i:Nat)(h:i<s.length):s.drop i=s.getD i 0::s.drop (i+1):=by
 rw[iW h];simp[h]
def DG {s:au}{b:Int}{i fr:Nat}(h:i<s.length)(he:at8 s i=b):cD b (s.drop i) ((s.take i).drop fr)=((s.take i).drop fr)::cD b (s.drop (i+1)) ((s.take (i+1)).drop (i+1)):=by
 rw[mq s i h];have h2:(s.take (i+1)).drop (i+1)=[]:=aJ;rw[h2];simp only[cD];rw[aw (by simpa[at8]using he)]
def DH {s:au}{b:Int}{i fr:Nat}(h:i<s.length)(hf:fr<=i)(he:¬at8 s i=b):cD b (s.drop i) ((s.take i).drop fr)=cD b (s.drop (i+1)) ((s.take (i+1)).drop fr):=by
 rw[mq s i h,lx s i h,List.drop_append_of_le_length cY];simp only[cD];rw[ak (by simpa[at8]using he)]
def BE {s:au}{b:Int}{i fr:Nat}(h:s.length<=i):cD b (s.drop i) ((s.take i).drop fr)=[s.drop fr]:=by
 rw[lC h,ed h];rfl
def ux (b:Int):∀(s cur:au),(cD b s cur).length<=s.length+1
 |[],cur=>by simp[cD]
 |c::r,cur=>by
  simp only[cD];split
  .have:=ux b r [];simp;omega
  .have:=ux b r (cur++[c]);simp;omega
theorem dk (s:au)(b:Int):(ai s b).length<=s.length+1:=ux b s []
theorem ep (b:Int)(s cur:au):1<=(cD b s cur).length:=by
 induction s generalizing cur with
 |nil=>simp[cD]
 |cons c r ih=>
  simp only[cD];split
  .simp
  .exact ih _
def il (s:au)(b:Int)(i:Nat):au×au:=match(s.drop i).findIdx? (fun c=>decide ((c.toNat:Int)=b))with
 |some k=>(s.drop (i+k+1),s.take (i+k))
 |none=>([],s)
def aG (s:au)(b:Int):au×au:=il s b 0
def z8 {s:au}{b:Int}{i:Nat}(h:i<s.length)(he:at8 s i=b):il s b i=(s.drop (i+1),s.take i):=by
 unfold il;rw[mq s i h,List.findIdx?_cons];simp only[at8]at he;rw[aw (by simpa using he)];rfl
def Aa {s:au}{b:Int}{i:Nat}(h:i<s.length)(he:¬at8 s i=b):il s b i=il s b (i+1):=by
 unfold il;rw[mq s i h,List.findIdx?_cons];simp only[at8]at he;simp only[he,decide_false,gy,aX];cases(s.drop (i+1)).findIdx? (fun c=>decide ((c.toNat:Int)=b))with
 |none=>rfl
 |some k=>simp only[Option.map_some];rw[show i+(k+1)=i+1+k by omega]
def xu {s:au}{b:Int}{i:Nat}(h:s.length<=i):il s b i=([],s):=by
 unfold il;rw[lC h];rfl
def nH (c:Int):Bool:=iy c ||bn c ||decide (c=45)
def sn (t:au):Bool:=decide (1<=t.length)&&decide (t.length<=8)&&cQ (fun i=>nH (at8 t i)) 0 t.length
def dc (t:au):Bool:=cQ (fun i=>bn (at8 t i)) 0 t.length&&decide (0<t.length)
def iL (p:Bool)(t:au):Bool:=sn t&& !(p&&dc t&& !fU t)
def oV (s:au)(p:Bool):Bool:=decide ((ai s 46).length<=4)&&cQ (fun i=>iL p (ai s 46)[i]!) 0 (ai s 46).length
def sq (s:au)(p:Bool):Bool:=decide (s=[]) ||oV s p
def qi (n:Int):Bool:=decide (0<=n)&&decide (n<=9999)
def eZ (v:cn):Bool:=qi v.major&&qi v.minor&&qi v.patch&&sq v.pre true&&sq v.build false
def sv (v:cn):au:=dI v.major.toNat++[46]++dI v.minor.toNat++[46]++dI v.patch.toNat++(if v.pre=[]then []else 45::v.pre)++(if v.build=[]then []else 43::v.build)
def jW (v:cn):au:=if eZ v=true then sv v else []
def cn.sm (v:cn):Prop:=v.pre.length<=1048576/\v.build.length<=1048576
def Vw (a b:Int):Int:=IntKind.u64.wrap ((BitVec.ofInt 64 a |||BitVec.ofInt 64 b).toNat)
def BU (a b:Int):Int:=IntKind.u64.wrap ((BitVec.ofInt 64 a^^^BitVec.ofInt 64 b).toNat)
def tv (a:Int)(k:Nat):Int:=IntKind.u64.wrap (a*2^k)
def si (a:Int)(k:Nat):Int:=a.fdiv (2^k)
def Zh (h:Int)(k:Nat):Int:=Vw (tv h k) (si h (64-k))
def LX (h:Int)(c:Int):Int:=IntKind.u64.wrap (Zh (BU h c) 13*18397679294719823053)
def xi (s:au):Int:=s.foldl (fun h c=>LX h c.toNat) 11400714819323198485
def HX (s:au):Int:=BU (xi s) (si (xi s) 29)
def DN (s:au)(i:Nat)(h:i<s.length):xi (s.take (i+1))=LX (xi (s.take i)) (at8 s i):=by
 grind [lx,xi,at8]
def Lu (n:Int)(i:Nat):Nat:=(BitVec.ofInt 64 (si n (4*i))&&&15#64).toNat
theorem wP (n:Int)(i:Nat):Lu n i<16:=by
 unfold Lu;rw[BitVec.toNat_and];exact Nat.lt_of_le_of_lt Nat.and_le_right aF
def GZ (n:Int)(i:Nat):IntKind.u64.wrap ((BitVec.ofInt 64 (si n (4*i))&&&BitVec.ofInt 64 15).toNat)=(Lu n i:Nat):=by
 have h:=wP n i;unfold Lu at h⊢;have e:BitVec.ofInt 64 15=15#64:=aF;rw[e,IntKind.wrap_u64];omega
def tf (k:Nat):UInt8:=([48,49,50,51,52,53,54,55,56,57,97,98,99,100,101,102]:au).getD k 0
def fO (n:Int):au:=(List.range 16).map fun j=>tf (Lu n (15-j))
theorem gY (n:Int):(fO n).length=16:=by simp[fO]
def Ks (n:Int)(k:Nat)(h:k<=16):((fO n).take k).length=k:=by simp[gY];omega
def BG (n:Int)(k:Nat)(h:k<16):(fO n).take (k+1)=(fO n).take k++[([48,49,50,51,52,53,54,55,56,57,97,98,99,100,101,102]:au).getD (Lu n (15-k)) 0]:=by
 grind [lx,gY,fO,tf]
def U1 (k:Nat)(h:k<10):((tf k).toNat:Int)=48+k:=by
 have:∀k:Fin 10,((tf k.1).toNat:Int)=48+k.1:=aF
 exact this ⟨k,h⟩
def U0 (k:Nat)(h:10<=k)(h2:k<16):((tf k).toNat:Int)=87+k:=by
 have:∀k:Fin 16,10<=k.1->((tf k.1).toNat:Int)=87+k.1:=aF
 exact this ⟨k,h2⟩ h
def vG (n:Int)(i:Nat):au:=List.replicate (16-i) 0++(fO n).drop (16-i)
theorem s8 (n:Int)(i:Nat):(vG n i).length=16:=by simp[vG,gY]
def P0 (n:Int):vG n 16=fO n:=by simp[vG]
def P1 (n:Int)(i:Nat)(h:i<16):vG n (i+1)=(vG n i).set (15-i) (tf (Lu n i)):=by
 apply List.ext_getElem
 .simp[s8]
 grind [s8,vG,fO]
def jz (c:Int):Bool:=bn c ||(decide (97<=c)&&decide (c<=102))
def qU (c:Int):Int:=if bn c=true then c-48 else c-87
def r7 (n c:Int):Int:=Vw (tv n 4) (qU c)
def ou (s:au):Int:=s.foldl (fun n c=>r7 n c.toNat) 0
def ur (s:au)(i:Nat)(h:i<s.length):ou (s.take (i+1))=r7 (ou (s.take i)) (at8 s i):=by
 grind [lx,ou,at8]
def iI (s:au):Bool:=decide (s.length=16)&&cQ (fun i=>jz (at8 s i)) 0 s.length
def oT (s:au):Int:=if iI s=true then ou s else 0
def Env.at (e:Env):Nat->au
 |0=>e.e0
 |1=>e.e1
 |_=>e.e2
def Env.ld (e:Env){i:Nat}(h:i<3):oF (Env.D e) 3 1 (0+i*1) false=.str (e.at i):=by
 match i,h with
 |0,_=>rfl
 |1,_=>rfl
 |2,_=>rfl
def FG.ld (l:FG){i:Nat}(h:i<3):oF (FG.D l) 4 1 (0+i*1) false=.str (l.env.at i):=by
 match i,h with
 |0,_=>rfl
 |1,_=>rfl
 |2,_=>rfl
def Env.cut (e:Env){i:Nat}(h:i<3):Abs.cut [.str e.e0,.str e.e1,.str e.e2] (i*1) 1 false=.str (e.at i):=by
 match i,h with
 |0,_=>rfl
 |1,_=>rfl
 |2,_=>rfl
def vO.sm (x:vO):Prop:=x.v.sm/\x.name.length<=1048576/\x.shelf.length<=1048576/\x.feats.length<=1048576/\∀t∈x.feats,t.length<=1048576
def FG.sm (l:FG):Prop:=l.lines.length<=1048576/\(∀x∈l.lines,x.sm)/\∀i,(l.env.at i).length<=1048576
theorem bE {α:Type} [Inhabited α]{l:List α}{i:Nat}(h:i<l.length):l[i]! ∈l:=by
 simp[h]
structure Kp where
 name:au
 v:cn
 deriving Inhabited,DecidableEq
def Kp.D (x:Kp):D:=.agg [.str x.name,.int .i64 x.v.major,.int .i64 x.v.minor,.int .i64 x.v.patch,.str x.v.pre,.str x.v.build]
theorem pX {α:Type} [Inhabited α] [DecidableEq α]{a b:List α}(h:a.length=b.length):decide (a=b)=cQ (fun i=>decide (a[i]! =b[i]!)) 0 a.length:=by
 rw[Bool.eq_iff_iff,aK,eC];constructor
 .rintro rfl j _ _;simp
 .intro hj;apply List.ext_getElem h
  grind
def vO.same {a b:vO}(e1:a.name=b.name)(e2:a.v=b.v)(e3:a.shelf=b.shelf)(e4:a.sum=b.sum)(e5:a.feats.length=b.feats.length):decide (a=b)=cQ (fun i=>decide (a.feats[i]! =b.feats[i]!)) 0 a.feats.length:=by
 rw[<-pX e5];obtain⟨a1,a2,a3,a4,a5⟩:=a;obtain⟨b1,b2,b3,b4,b5⟩:=b
 grind
def aS (b:au):List au->au
 |[]=>[]
 |[t]=>t
 |t::u::r=>t++b++aS b (u::r)
theorem ga (b t:au)(r:List au)(h:r≠[]):aS b (t::r)=t++b++aS b r:=by
 cases r with
 |nil=>exact absurd rfl h
 |cons u r=>rfl
def ry {α:Type}(q:α->au)(B:Nat):∀l:List α,(∀x∈l,(q x).length<=B)->((l.map q).flatten).length<=l.length*B
 |[],_=>aJ
 |a::r,h=>by
  have h1:=h a (.head _);have h2:=ry q B r fun x hx=>h x (.tail _ hx)
  simp only[List.map_cons,List.flatten_cons,bP,aP,Nat.succ_mul];omega
def BM (v:cn)(h:v.sm):(jW v).length<=2097200:=by
 unfold jW;split
 .rename_i hv;simp only[eZ,bB]at hv;obtain⟨⟨⟨⟨hv1,hv2⟩,hv3⟩,_⟩,_⟩:=hv;simp only[qi,bB,aK]at hv1 hv2 hv3;have hl1:=eJ 4 v.major.toNat ae ae;have hl2:=eJ 4 v.minor.toNat ae ae;have hl3:=eJ 4 v.patch.toNat ae ae;obtain⟨h1,h2⟩:=h
  grind [sv]
 .simp
def Env.sm (e:Env):Prop:=∀i,(e.at i).length<=1048576
end Go.Abs
section
namespace Go.Abs
def YX (v n:Int):Int:=if n<1 then 0 else if v.tmod n<0 then v.tmod n+n else v.tmod n
def Kv (v n:Int)(h:1<=n):-n<v.tmod n/\v.tmod n<n:=⟨Int.lt_tmod_of_pos v ae,Int.tmod_lt_of_pos v ae⟩
def atI (l:List Int)(i:Int):Int:=if i<0\/(l.length:Int)<=i then i.tmod 3 else l[i.toNat]!
structure Gs where
 l:List Int
 i:Int
 deriving Inhabited
def Gs.D (g:Gs):D:=.agg [.sl 1 (g.l.map (D.int .i64)),.int .i64 g.i]
def Gs.val (g:Gs)(n:Int):Int:=YX (atI g.l g.i) n
def Gs.FL (g:Gs):Gs:=⟨g.l,g.i+1⟩
def iu (s:au)(b:UInt8):au×au×Bool:=match s.findIdx? (fun c=>c==b)with
 |some k=>(s.take k,s.drop (k+1),true)
 |none=>(s,[],false)
def cU (s p:au):au×Bool:=if p.isPrefixOf s=true then(s.drop p.length,true)else(s,false)
def QX (s:au)(b:UInt8):(iu s b).1.length<=s.length/\((iu s b).2.2=true->(iu s b).1.length+1<=s.length):=by
 unfold iu;split
 .rename_i k h;have:=List.findIdx?_eq_some_iff_findIdx_eq.1 h;simp only[er];omega
 .simp
structure Wr where
 s:au
 at':Nat
 n:Nat
def Wr.D (r:Wr):D:=.agg [.str r.s,.int .i64 (r.at':Nat),.int .i64 (r.n:Nat)]
def Wr.ln (r:Wr):au×au×Bool:=iu (r.s.drop r.at') 10
def Wr.FL (r:Wr):Wr:=⟨r.s,if r.ln.2.2=true then r.at'+(r.ln.1.length+1)else r.at',r.n+1⟩
def gm:cn:=⟨0,0,0,[],[]⟩
def gf (s:au):Option cn:=
 let a:=aG s 43
 let b:=aG a.2 45
 let l:=ai b.2 46
 if l.length=3/\fU l[0]! =true/\fU l[1]! =true/\fU l[2]! =true then
  let v:cn:=⟨ef l[0]!,ef l[1]!,ef l[2]!,b.1,a.1⟩
  if eZ v=true/\jW v=s then some v else none
 else none
def OV (l:List au)(i:Nat):D:=.agg [.int .i64 (if 0<i then ef l[0]! else 0),.int .i64 (if 1<i then ef l[1]! else 0),.int .i64 (if 2<i then ef l[2]! else 0)]
def GX (l:List au)(i:Nat)(h:i<3):vD (OV l i) 3 1 (0+i*1) (.int .i64 (ef l[i]!))=OV l (i+1):=by
 match i,h with
 |0,_=>rfl
 |1,_=>rfl
 |2,_=>rfl
def kn (s:au)(b:Int):(aG s b).1.length<=s.length/\(aG s b).2.length<=s.length:=by
 grind [aG,il]
def uy (b:Int):∀(s cur:au),∀t∈cD b s cur,t.length<=cur.length+s.length
 |[],cur,t,h=>by simp only[cD,cI]at h;subst h;simp
 |c::r,cur,t,h=>by
  simp only[cD]at h;split at h
  .rcases ca.1 h with rfl|h
   .simp
   .have:=uy b r [] t h;simp at this⊢;omega
  .have:=uy b r (cur++[c]) t h;simp at this⊢;omega
def dS (s:au)(b:Int){t:au}(h:t∈ai s b):t.length<=s.length:=by
 have:=uy b s [] t h;simpa using this
theorem qA (s:au)(b:Int){i:Nat}(h:i<(ai s b).length):((ai s b)[i]!).length<=s.length:=dS s b (bE h)
end Go.Abs
namespace Go.Abs
def oK (s:au):Int:=if(gf s).isSome=true then 0 else 5
end Go.Abs
namespace Go.Abs
end Go.Abs
namespace Go.Abs
def VX {s:au}(h:s.length<=1048576):((gf s).getD gm).sm:=by
 have h0:gm.sm:=⟨by simp[gm],by simp[gm]⟩;cases hq:gf s with
 |none=>exact h0
 |some v=>
  simp only[Option.getD_some];simp only[gf]at hq;split at hq
  .split at hq
   .obtain rfl:=bM hq;have h1:=kn s 43;have h2:=kn (aG s 43).2 45;exact⟨by simp only;omega,by simp only;omega⟩
   .cases hq
  .cases hq
def TF (s:au):decide (oK s=0)=(gf s).isSome:=by
 unfold oK;cases(gf s)<;>simp
end Go.Abs
namespace Go.Abs
def I1 (s p:au):(cU s p).1.length<=s.length:=by
 unfold cU;split<;>simp
end Go.Abs
namespace Go.Abs
variable {e:Env} {f:Nat} {r:Wr} {ls:List vO}
end Go.Abs
namespace Go.Abs
end Go.Abs
end
namespace Go.Abs
section
section
variable {Y:Ctx} {draw:Bool} {r:List GI} {env rs:List cg} {nx:Nat} {m:List (Nat×bW)} {K:List cg->St->Prop} {g:Option (Nat×Bool)} {f:Bool}
def r_off {i:aV}{j:Nat}{w:Bool}(d:D)(h:aM Y draw r env (⟨false,d⟩::rs) nx m K)(hC:i.pure=true:=by exact rfl)(hg:GF rs (some (j,w)) false:=by exact⟨_,_,rfl,rfl⟩):aM Y draw (⟨i,some (j,w)⟩::r) env rs nx m K:=
 cd hC hg d (fun h=>by cases h) (fun h=>by cases h) (fun _=>h)
def cx {n:Nat}{args:List Src}{aoF:List D}{v:D}{nx':Nat}{m':List (Nat×bW)}(h:aM Y draw r env (⟨true,v⟩::rs) nx' m' K)
  (hc:∀K':D->St->Prop,K' v ⟨nx'+rs.length,m'⟩->Y.tr n aoF ⟨nx+rs.length,m⟩ K') (hn:nx<=nx') (ha:jj (cR env rs) args=aoF:=by exact rfl)
  (ho:xP (cR env rs) args:=by repeat' first|exact trivial|exact rfl|refine And.intro ?_ ?_):aM Y draw (⟨.callM n args,none⟩::r) env rs nx m K:=by
 unfold aM;show True/\(true=true->xP (Src.ev env rs.reverse) args/\Y.tr n (jj (Src.ev env rs.reverse) args) {nx:=nx+rs.reverse.length,m:=m} _)/\(true=false->_)
 grind [nB,aM]
def Zd {l k i0 n:Nat}{x y z:Src}{fx fy fz:Bool}{kh km:IntKind}{h' m':Int}(j:Nat)(h:aM Y draw r env (⟨f,.own l k i0 j⟩::rs) nx m K)(hg:GF rs g f:=by exact du)(hx:cR env rs x=⟨fx,.own l k i0 n⟩:=by exact rfl)(hy:cR env rs y=⟨fy,.int kh h'⟩:=by exact rfl)(hz:cR env rs z=⟨fz,.int km m'⟩:=by exact rfl)
  (kx:f=true->fx=true:=by exact cu) (ky:f=true->fy=true:=by exact cu) (kz:f=true->fz=true:=by exact cu)
  (hj:f=true->h'=(j:Int)) (hb:f=true->(j:Int)<=m'/\m'<=(n:Int)):aM Y draw (⟨.slX k x y z,g⟩::r) env rs nx m K:=
 cd rfl hg _ (fun hf=>by have h1:=hj hf;have h2:=hb hf;simp only[aV.ez,hx,hy,hz];exact⟨kx hf,ky hf,kz hf,ae,ae,trivial,h2.2⟩) (fun hf=>by simp only[aV.val,hx,hy];rw[hj hf,Int.toNat_natCast]) (fun _=>h)
def Zc {α:Type}{q:α->D}{s:List α}{k:Nat}{x y z:Src}{fx fy fz:Bool}{kh km:IntKind}{h' m':Int}(j:Nat)(h:aM Y draw r env (⟨f,.sl k ((s.take j).map q)⟩::rs) nx m K)(hg:GF rs g f:=by exact du)(hx:cR env rs x=⟨fx,.sl k (s.map q)⟩:=by exact rfl)(hy:cR env rs y=⟨fy,.int kh h'⟩:=by exact rfl)(hz:cR env rs z=⟨fz,.int km m'⟩:=by exact rfl)
  (kx:f=true->fx=true:=by exact cu) (ky:f=true->fy=true:=by exact cu) (kz:f=true->fz=true:=by exact cu)
  (hj:f=true->h'=(j:Int)) (hb:f=true->(j:Int)<=m'/\m'<=(s.length:Int)):aM Y draw (⟨.slX k x y z,g⟩::r) env rs nx m K:=
 cd rfl hg _ (fun hf=>by have h1:=hj hf;have h2:=hb hf;simp only[aV.ez,hx,hy,hz,bN];exact⟨kx hf,ky hf,kz hf,ae,ae,trivial,h2.2⟩) (fun hf=>by simp only[aV.val,hx,hy];rw[hj hf,Int.toNat_natCast,List.map_take]) (fun _=>h)
def gH {n:Nat}{args:List Src}{aoF:List D}{ι:Type}(P:ι->Prop)(V:ι->D)(nx':Nat)(M:ι->List (Nat×bW))(h:∀i,P i->aM Y draw r env (⟨true,V i⟩::rs) nx' (M i) K)
  (hc:∀K':D->St->Prop,(∀i,P i->K' (V i) ⟨nx'+rs.length,M i⟩)->Y.tr n aoF ⟨nx+rs.length,m⟩ K') (hn:nx<=nx') (ha:jj (cR env rs) args=aoF:=by exact rfl)
  (ho:xP (cR env rs) args:=by repeat' first|exact trivial|exact rfl|refine And.intro ?_ ?_):aM Y draw (⟨.callM n args,none⟩::r) env rs nx m K:=by
 unfold aM;show True/\(true=true->xP (Src.ev env rs.reverse) args/\Y.tr n (jj (Src.ev env rs.reverse) args) {nx:=nx+rs.reverse.length,m:=m} _)/\(true=false->_)
 grind [nB,aM]
def wY {n j:Nat}{w:Bool}{args:List Src}{aoF:List D}{ι:Type}(P:ι->Prop)(V:ι->D)(nx':Nat)(M:ι->List (Nat×bW))(h:∀i,P i->aM Y draw r env (⟨true,V i⟩::rs) nx' (M i) K)(hg:GF rs (some (j,w)) true:=by exact⟨_,_,rfl,rfl⟩)
  (hc:∀K':D->St->Prop,(∀i,P i->K' (V i) ⟨nx'+rs.length,M i⟩)->Y.tr n aoF ⟨nx+rs.length,m⟩ K') (hn:nx<=nx') (ha:jj (cR env rs) args=aoF:=by exact rfl)
  (ho:xP (cR env rs) args:=by repeat' first|exact trivial|exact rfl|refine And.intro ?_ ?_):aM Y draw (⟨.callM n args,some (j,w)⟩::r) env rs nx m K:=by
 unfold aM;show Ce rs.reverse (some (j,w))/\(flag rs.reverse (some (j,w))=true->xP (Src.ev env rs.reverse) args/\Y.tr n (jj (Src.ev env rs.reverse) args) {nx:=nx+rs.reverse.length,m:=m} _)/\(flag rs.reverse (some (j,w))=false->_);obtain⟨hg1,hg2⟩:=hg.flag
 grind [nB,aM]
def EZ {n j:Nat}{w:Bool}{args:List Src}(h:aM Y draw r env (⟨false,.any⟩::rs) nx m K)(hg:GF rs (some (j,w)) false:=by exact⟨_,_,rfl,rfl⟩):aM Y draw (⟨.callM n args,some (j,w)⟩::r) env rs nx m K:=by
 unfold aM;show Ce rs.reverse (some (j,w))/\(flag rs.reverse (some (j,w))=true->_)/\(flag rs.reverse (some (j,w))=false->_);obtain⟨hg1,hg2⟩:=hg.flag
 grind [aM]
def SN {c a:Src}{fc t:Bool}(h:aM Y draw r env (⟨f,.bool false⟩::rs) nx m K)(hg:GF rs g f:=by exact du)(hc:cR env rs c=⟨fc,.bool t⟩:=by exact rfl)(kc:f=true->fc=true:=by exact fun _=>rfl)(ht:t=false:=by exact rfl):aM Y draw (⟨.pick c a (.c (.bool false)),g⟩::r) env rs nx m K:=by
 subst ht;refine cd rfl hg _ (fun hf=>?_) (fun hf=>?_) (fun _=>h)
 .simp only[aV.ez,hc];exact⟨kc hf,⟨fun h=>absurd h aJ,fun _=>rfl⟩⟩
 .simp only[aV.val,hc];have:cR env rs (.c (.bool false))=⟨true,.bool false⟩:=rfl;rw[this];cases(cR env rs a).d<;>rfl
def nP {n:Nat}{x:Src}{caps:List D}{args:List Src}{aoF:List D}{ι:Type}(P:ι->Prop)(V:ι->D)(nx':Nat)(M:ι->List (Nat×bW))(h:∀i,P i->aM Y draw r env (⟨true,V i⟩::rs) nx' (M i) K)
  (hc:∀K':D->St->Prop,(∀i,P i->K' (V i) ⟨nx'+rs.length,M i⟩)->Y.tr (Ed n) aoF ⟨nx+rs.length,m⟩ K') (hn:nx<=nx') (hn2:n<2000000:=by decide) (hx:cR env rs x=⟨true,.fn n caps⟩:=by exact rfl) (ha:B7 n (jj (cR env rs) args) caps=aoF:=by exact rfl)
  (ho:xP (cR env rs) args:=by repeat' first|exact trivial|exact rfl|refine And.intro ?_ ?_):aM Y draw (⟨.callvM x args,none⟩::r) env rs nx m K:=by
 unfold aM;show Rr rs.reverse (.callvM x args) none/\(Src.ev env rs.reverse x).ok=true/\xP (Src.ev env rs.reverse) args/\match(Src.ev env rs.reverse x).d with
   | .fn n caps=>n<2000000/\Y.tr (Ed n) (B7 n (jj (Src.ev env rs.reverse) args) caps) {nx:=nx+rs.reverse.length,m:=m} _
   |_=>False
 rw[nB,List.length_reverse];simp only[hx,ha];refine⟨trivial,trivial,ho,hn2,hc _ fun i hi=>⟨by show nx+rs.length<=nx'+rs.length;omega, ?_⟩⟩
 grind [aM]
def SV {x:Src}{fx:Bool}{α:Type} [Inhabited α]{n k i o:Nat}{ag:Bool}{q:α->D}{xs:List α}(v:D)(h:aM Y draw r env (⟨f,v⟩::rs) nx m K)(hg:GF rs g f:=by exact du)(hx:cR env rs x=⟨fx,.ref k (xs.map q) i o⟩:=by exact rfl)(kx:f=true->fx=true:=by exact cu)(hi:f=true->i<xs.length:=by exact uG)(hv:f=true->oF (q xs[i]!) k n o ag=v:=by exact fun _=>rfl)(ho:o+n<=k:=by omega):aM Y draw (⟨.ldU n ag x,g⟩::r) env rs nx m K:=
 iz rfl hg _ (fun hf=>by simp only[aV.ez,hx,GQ,bN];exact⟨kx hf,hi hf,ho⟩) (fun hf=>by simp only[aV.val,hx,FK];rw[getD_map (hi hf)];exact hv hf) m rfl (fun ha=>h)
def SU {x:Src}{fx:Bool}{n l k o:Nat}{ag:Bool}{d:D}(v:D)(h:aM Y draw r env (⟨f,v⟩::rs) nx m K)(hg:GF rs g f:=by exact du)(hx:cR env rs x=⟨fx,.ptr l k 0 o⟩:=by exact rfl)(kx:f=true->fx=true:=by exact cu)(hl:f=true->look m l=some (.buf k [d]):=by exact fun _=>rfl)(hv:f=true->oF d k n o ag=v:=by exact fun _=>rfl)(ho:o+n<=k:=by omega)(hd:f=true->d.bI=false:=by exact fun _=>rfl):aM Y draw (⟨.ldU n ag x,g⟩::r) env rs nx m K:=
 iz rfl hg _ (fun hf=>by simp only[aV.ez,hx,GQ,fX,hl hf];exact⟨kx hf,⟨⟨trivial,aJ⟩,ho⟩,by simp only[bC,hl hf,bG,hd hf];rfl⟩) (fun hf=>by simp only[aV.val,hx,FK,bC,hl hf,jt];exact hv hf) m rfl (fun ha=>h)
end
end
end Go.Abs
section
namespace Go.Abs
def Vp:List au->D
 |[]=>.bq
 |a::r=>.sl 1 ((a::r).map D.str)
def Dg:∀l,(Vp l).bI=true
 |[]=>rfl
 |a::r=>rfl
def vO.N (x:vO):Go.Abs.D:=.agg [.str x.name,.int .i64 x.v.major,.int .i64 x.v.minor,.int .i64 x.v.patch,.str x.v.pre,.str x.v.build,.str x.shelf,.int .u64 x.sum,Vp x.feats]
def vO.oM (x:vO):x.N.bI=true:=by
 have:=Dg x.feats;simp only[vO.N,D.bI,bG,this,nb]
end Go.Abs
namespace Go.Abs
def vO.F (name:au)(v:cn)(shelf:au)(sum:Int)(fs:Go.Abs.D):Go.Abs.D:=.agg [.str name,.int .i64 v.major,.int .i64 v.minor,.int .i64 v.patch,.str v.pre,.str v.build,.str shelf,.int .u64 sum,fs]
mutual
theorem Yv (l k:Nat)(es:List D):∀d:D,d.bI=true->iD l k es d=d
 | .agg a,h=>by simp only[iD,qj l k es a (by simpa[D.bI]using h)]
 | .tup a,h=>by simp only[iD,qj l k es a (by simpa[D.bI]using h)]
 | .fn n a,h=>by simp only[iD,qj l k es a (by simpa[D.bI]using h)]
 | .own ..,h=>by simp[D.bI]at h
 | .ptr ..,h=>by simp[D.bI]at h
 | .it ..,h=>by simp[D.bI]at h
 | .any,_| .bool _,_| .int ..,_| .str _,_| .bq,_| .sl ..,_| .ref ..,_| .nilp,_| .nilf,_=>rfl
theorem qj (l k:Nat)(es:List D):∀ds:List D,bG ds=true->iN l k es ds=ds
 |[],_=>rfl
 |d::r,h=>by
  simp only[bG,bB]at h;simp only[iN,Yv l k es d h.1,qj l k es r h.2]
end
end Go.Abs
namespace Go.Abs
end Go.Abs
namespace Go.Abs
end Go.Abs
namespace Go.Abs
end Go.Abs
namespace Go.Abs
end Go.Abs
namespace Go.Abs
end Go.Abs
end
section
namespace Go.Abs
end Go.Abs
namespace Go.Abs
def Kp.eq (a b:Kp):jk (Kp.D a).cells (Kp.D b).cells=decide (a=b):=by
 obtain⟨n1,⟨a1,a2,a3,a4,a5⟩⟩:=a;obtain⟨n2,⟨b1,b2,b3,b4,b5⟩⟩:=b
 grind [Kp.D,D.cells,jk,vb,yE]
structure vO.ok (n:Nat)(x:vO):Prop where
 pre:x.v.pre.length<=3
 build:x.v.build.length<=2
 name:x.name.length<=16
 shelf:x.shelf.length<=16
 nf:x.feats.length<=n
 ft:∀t∈x.feats,t.length<=16
 sum:0<=x.sum/\x.sum<18446744073709551616
structure FG.ok (n:Nat)(l:FG):Prop where
 len:l.lines.length<=4
 lines:∀x∈l.lines,x.ok n
 env:∀i,(l.env.at i).length<=16
def FG.ok.sm {n:Nat}{l:FG}(h:l.ok n)(hn:n<=1000):l.sm:=by
 refine⟨by have:=h.len;omega,fun x hx=>?_,fun i=>by have:=h.env i;omega⟩;have k:=h.lines x hx;have k1:=k.pre;have k2:=k.build;have k3:=k.name;have k4:=k.shelf;have k5:=k.nf;exact⟨⟨ae,ae⟩,ae,ae,ae,fun t ht=>by have:=k.ft t ht;omega⟩
def vO.ok.mono {n m:Nat}{x:vO}(h:x.ok n)(hm:n<=m):x.ok m:=⟨h.pre,h.build,h.name,h.shelf,dm h.nf hm,h.ft,h.sum⟩
end Go.Abs
end
namespace Go.Abs
section
def lk {α:Type}:List (Nat×α)->Nat->α->α
 |[],_,d=>d
 |(a,b)::r,n,d=>bif Nat.beq a n then b else lk r n d
structure Row where
 key:Nat
 pre:List D->Prop
 val:List D->D
structure RowF where
 pre:D->List D->Prop
 val:D->List D->D
 new:D->List D->D
def Row.no:Row:=⟨0,fun _=>False,fun _=>.any⟩
def RowF.no:RowF:=⟨fun _ _=>False,fun _ _=>.any,fun _ _=>.any⟩
section
variable [dR] {P:Program} {ν:List (Nat×Nat)} {c7:List Nat} {Y:Ctx}
end
end
section
variable [dR]
section
variable {P:Program} {ν:List (Nat×Nat)} {c7:List Nat} {Y:Ctx}
def RD.re {x x':X}{σ:List (Nat×Nat)}(hw:x'.w=x.w)(hI:x'.I=x.I)(hβ:∀l l',lK 0 σ l=some l'->x'.β l'=x.β l){v:Value}{d d':D}(hv:RD ν x v d)(hd:T1 0 σ d d'):RD ν x' v d':=by
 rcases hd with⟨rfl,hn⟩|hd|hd
 .exact hv.bI hn (fun _ h=>by rw[hI];exact h) (fun _ _=>by rw[hw])
 .grind [RD.rn]
 grind [RD.nl]
def o9.re {x x':X}{σ:List (Nat×Nat)}(hw:x'.w=x.w)(hI:x'.I=x.I)(hβ:∀l l',lK 0 σ l=some l'->x'.β l'=x.β l){b base tot:Nat}{b0 blk:bW}(o2:o9 ν x b base tot b0)(q3:sB 0 σ b0 blk):o9 ν x' b base tot blk:=by
 cases b0 with
 |iter s p=>
  cases blk with
  |iter s' p'=>simp only[sB]at q3;obtain⟨rfl,rfl⟩:=q3;simp only[o9,hw]at o2⊢;exact o2
  |_=>simp[sB]at q3
 |row s=>
  cases blk with
  |row s'=>simp only[sB]at q3;subst q3;simp only[o9,hw]at o2⊢;exact o2
  |_=>simp[sB]at q3
 |bld o n u=>
  cases blk with
  |bld o' n' u'=>
   simp only[sB]at q3;obtain⟨q3,rfl,rfl⟩:=q3;obtain⟨p1,v,p2,p3⟩:=o2;refine⟨p1,v,by rw[hw];exact p2, ?_⟩;cases o with
   |none=>simp only at q3;subst q3;exact p3
   |some l0=>
    obtain⟨l1,q4,rfl⟩:=q3;obtain⟨g,t,p4,p5,p6⟩:=p3;exact⟨g,t,p4,p5,by rw[hβ l0 l1 q4];exact p6⟩
  |_=>simp[sB]at q3
 |buf k es=>
  cases blk with
  |iter s' p'=>simp[sB]at q3
  |row s'=>simp[sB]at q3
  |bld o' n' u'=>simp[sB]at q3
  |buf k' es'=>
   simp only[sB]at q3;obtain⟨rfl,q3⟩:=q3;obtain⟨p1,p2,cc,T,fr,p3,p4,p5,p6⟩:=o2;rw[<-hw]at p3;rcases q3 with⟨rfl,hn⟩|q3|q3
   .exact⟨p1,p2,cc,T,fr,p3,p4,p5,fun i hi=>⟨(p6 i hi).1,fun j hj=>⟨((p6 i hi).2 j hj).1,RD.re hw hI hβ ((p6 i hi).2 j hj).2 (.inl ⟨rfl,l6 (dq hn i) j⟩)⟩⟩⟩
   .obtain⟨r1,r2⟩:=lr q3;refine⟨p1,ae,cc,T,fr,p3,p4,p5,fun i hi=>?_⟩;have hi':i<es.length:=ae;obtain⟨s1,s2⟩:=Dv (r2 i hi');exact⟨s1.trans (p6 i hi').1,fun j hj=>⟨((p6 i hi').2 j hj).1,RD.re hw hI hβ ((p6 i hi').2 j hj).2 (.inr (.inl (s2 j (by rw[(p6 i hi').1];exact hj))))⟩⟩
   .obtain⟨r1,r2⟩:=q9 q3;refine⟨p1,ae,cc,T,fr,p3,p4,p5,fun i hi=>?_⟩;have hi':i<es.length:=ae;obtain⟨s1,s2⟩:=Cw (r2 i hi');exact⟨s1.trans (p6 i hi').1,fun j hj=>⟨((p6 i hi').2 j hj).1,RD.re hw hI hβ ((p6 i hi').2 j hj).2 (.inr (.inr (s2 j (by rw[(p6 i hi').1];exact hj))))⟩⟩
def LO {lo c:Nat}{σ:List (Nat×Nat)}{l l':Nat}(h0:gI 0 c σ=true)(h:lK 0 σ l=some l'):l'<c/\(l,l')∈σ:=by
 obtain⟨h1,h2⟩:=vC h0 h
 grind
def vy {c:Nat}:∀{σ:List (Nat×Nat)}{a b:Nat},gI 0 c σ=true->(a,b)∈σ->lK 0 σ a=some b
 |[],a,b,_,h=>by cases h
 |(a0,b0)::r,a,b,h0,h=>by
  unfold lK;simp only[gI,bB,List.all_eq_true,bd]at h0;obtain⟨_,_,p4,p5⟩:=h0;rcases ca.1 h with h|h
  .simp only[eG]at h;obtain⟨rfl,rfl⟩:=h;simp
  .have:=(p4 _ h).1;simp only at this;have hne:Nat.beq a0 a=false:=by
    cases hb:Nat.beq a0 a with
    |false=>rfl
    |true=>obtain rfl:=Nat.eq_of_beq_eq_true hb;simp at this
   rw[hne];exact vy p5 h
structure Fr (σi σo:List (Nat×Nat))(q q1:Nat)(m0 m1:List (Nat×bW))(st st':St):Prop where
 oki:gI 0 q σi=true
 oko:gI 0 st'.nx σo=true
 nx:st.nx<=st'.nx
 lt:∀l i,(l,i)∈σi->look st.m l≠none
 io:∀i l,(i,l)∈σo->(l,i)∈σi\/st.nx<=l
 m0:∀i b,look m0 i=some b->∃l b',(l,i)∈σi/\look st.m l=some b'/\sB 0 σi b' b
 m1:∀l b,look st'.m l=some b->(∃i b1,(i,l)∈σo/\look m1 i=some b1/\sB 0 σo b1 b)\/(lT σo l=none/\(∀i,(l,i)∉σi)/\look st.m l=some b)
def UI {fid:Nat}{fn:Func}{af:aC}{K:D->St->Prop}(hΓ:Ok P ν c7 Y)(hmix:P.follows .mixedOrders=true)(hf:P.funcs[fid]? =some fn)(hc:compile P ν c7 fn=some af)
  {x:X} {args:Array Value} {ds cs:List D} {st:St} {σi:List (Nat×Nat)} {q:Nat} {m0:List (Nat×bW)} (hl:args.size=ds.length) (hargs:∀i,i<ds.length->RD ν x (args.getD i undef) (ds.getD i .any))
  (hs:gv ν x (look st.m)) (hfr:gp st x) (hlen:cs.length=ds.length) (hds:∀i,i<ds.length->T1 0 σi (ds.getD i .any) (cs.getD i .any)) (hnp:cs.length=af.np)
  (oki:gI 0 q σi=true) (hlt:∀l i,(l,i)∈σi->look st.m l≠none) (hm0:∀i b,look m0 i=some b->∃l b',(l,i)∈σi/\look st.m l=some b'/\sB 0 σi b' b)
  (hw:bJ (Y.at q) af.body (fun e env st1=>e.home/\qW st1.m env af.res/\∃(σo:List (Nat×Nat)) (q1:Nat) (m1:List (Nat×bW)) (st':St) (vd':D),Fr σi σo q q1 m0 m1 st st'/\T1 0 σo (me af env st1) vd'/\K vd' st'/\∀i,look st1.m i=look m1 i) (fD af cs) ⟨q,m0⟩):
  Calls P fid args x.w fun
   | .returned v,w'=>∃x' d st',K d st'/\x'.w=w'/\Step x x'/\RD ν x' v d/\gv ν x' (look st'.m)/\gp st' x'
   |_,_=>False:=by
 obtain⟨body,c1,c2,c3,c4,c5,c6⟩:=jv hc
 let x0:X:=⟨x.w,x.I,fun i=>(lT σi i).bind x.β⟩
 have hx0:∀l i,(l,i)∈σi->x0.β i=x.β l:=fun l i h=>by simp only[x0,yL oki h,Option.bind_some]
 have hβ0:∀l i,lK 0 σi l=some i->x0.β i=x.β l:=fun l i h=>hx0 l i (LO (lo:=0) oki h).2
 have hx0':∀i p,x0.β i=some p->∃l,(l,i)∈σi/\x.β l=some p/\i<q:=by
  intro i p h;obtain⟨l,h1,h2⟩:=Option.bind_eq_some_iff.1 (show(lT σi i).bind x.β=some p from h);exact⟨l,mJ h1,h2,sC oki (mJ h1)⟩
 have hs0:gv ν x0 (look m0):=by
  refine⟨fun i blk b base tot e1 e2=>?_,fun i j b base tot base' tot' e1 e2 e3 e4=>?_,hs.imm,fun i b base tot e=>?_,dR.le x _ (fun _ h=>h) (fun _ _=>rfl) hs.gd⟩
  .obtain⟨l,b',h1,h2,h3⟩:=hm0 i blk e1;rw[hx0 l i h1]at e2;obtain⟨o1,o2⟩:=hs.own l b' b base tot h2 e2;exact⟨o1,o9.re (x:=x) (x':=x0) rfl rfl hβ0 o2 h3⟩
  .obtain⟨l,h1,h2,_⟩:=hx0' i _ e3;obtain⟨l',h1',h2',_⟩:=hx0' j _ e4;have:=hs.inj l l' b base tot base' tot' (hlt _ _ h1) (hlt _ _ h1') h2 h2';subst this;have:=vy oki h1;rw[vy oki h1']at this;exact(bM this).symm
  .obtain⟨l,_,h2,_⟩:=hx0' i _ e;exact hs.e8 l b base tot h2
 have hf0:gp ⟨q,m0⟩ x0:=by
  refine⟨fun i hi=>?_,fun i hi=>?_⟩
  .cases h:x0.β i with
   |none=>rfl
   |some p=>obtain⟨_,_,_,h4⟩:=hx0' i p h;simp only at hi;omega
  .cases h:look m0 i with
   |none=>exact absurd h hi
   |some b=>obtain⟨l,b',h1,_⟩:=hm0 i b h;exact sC oki h1
 have hi:=xg (P:=P) (ν:=ν) (c7:=c7) (x:=x0) (ds:=cs) (st:=⟨q,m0⟩) c4 c5 c6 (args:=args) ae hnp (fun i hi=>RD.re (x:=x) (x':=x0) rfl rfl hβ0 (hargs i ae) (hds i ae)) hs0 hf0;have hcs:=tI (C:={P,ν,c7,slots:=slotsOf fn,ntmps:=fn.ntmps,vm:=P3 P fn}) (hΓ.at q) (oU fn).1 hmix x0 (fun l h=>hf0.β l h) body af.body c2 _ _ _ _ x0 hw hi (.refl _);refine calls_of_wp hf c1 (wp_mono hcs fun e a w' hp=>?_);obtain⟨e',x',env',st1,he,hxw,hst,hi',hh,hro,σo,q1,m1,st',vd',hfm,hvd,hK,hlk⟩:=hp;subst hxw;obtain⟨v,r1,r2,r3⟩:=sa hi' c3 hro
 let x2:X:=⟨x'.w,x'.I,fun l=>match lT σo l with|some i=>x'.β i|none=>x.β l⟩
 have hx2:∀i l,(i,l)∈σo->x2.β l=x'.β i:=fun i l h=>by simp only[x2,yL hfm.oko h]
 have hx2n:∀l,lT σo l=none->x2.β l=x.β l:=fun l h=>by simp only[x2,h]
 have hβ2:∀i l,lK 0 σo i=some l->x2.β l=x'.β i:=fun i l h=>hx2 i l (LO (lo:=0) hfm.oko h).2
 have hx0s:∀l i p,(l,i)∈σi->x.β l=some p->x'.β i=some p:=fun l i p h e=>hst.β _ _ (by rw[hx0 l i h];exact e)

 have hnew:∀i p,x'.β i=some p->(∃l,(l,i)∈σi/\x.β l=some p)\/x.w.heap.size<=p.1\/∃l p',(∃j,(l,j)∈σi)/\x.β l=some p'/\p'.1=p.1:=by
  intro i p e;rcases hst.newβ i p e with h|h|⟨j,p',h1,h2⟩
  .obtain⟨l,h3,h4,_⟩:=hx0' i p h;exact .inl ⟨l,h3,h4⟩
  .exact .inr (.inl h)
  .obtain⟨l,h3,h4,_⟩:=hx0' j p' h1;exact .inr (.inr ⟨l,p',⟨j,h3⟩,h4,h2⟩)
 have hstep:Step x x2:=by
  refine⟨hst.os,hst.tape,hst.output,hst.size,hst.I,hst.pk,fun l p hp=>?_,fun b hb hn=>hst.old b hb fun i p h e=>?_,fun b h=>?_,fun l p h=>?_⟩
  .cases h:lT σo l with
   |none=>rw[hx2n l h];exact hp
   |some i=>
    have hm:=mJ h;rw[hx2 i l hm];rcases hfm.io i l hm with h2|h2
    .exact hx0s l i p h2 hp
    .rw[hfr.β l h2]at hp;cases hp
  .obtain⟨l,_,h2,_⟩:=hx0' i p h;exact hn l p h2 e
  .rcases hst.newI b h with h|h|⟨i,p,h1,h2⟩
   .exact .inl h
   .exact .inr (.inl h)
   .obtain⟨l,_,h3,_⟩:=hx0' i p h1;exact .inr (.inr ⟨l,p,h3,h2⟩)
  .cases h1:lT σo l with
   |none=>rw[hx2n l h1]at h;exact .inl h
   |some i=>
    have hm:=mJ h1;rw[hx2 i l hm]at h;rcases hnew i p h with⟨l',h2,h3⟩|h2|⟨l',p',_,h3,h4⟩
    .exact .inr (.inr ⟨l',p,h3,rfl⟩)
    .exact .inr (.inl h2)
    .exact .inr (.inr ⟨l',p',h3,h4⟩)
 have hsim:gv ν x2 (look st'.m):=by
  refine⟨fun l blk b base tot e1 e2=>?_,fun l1 l2 b base tot base' tot' e1 e2 e3 e4=>?_,hi'.oJ.imm,fun l b base tot e=>?_,dR.le x' _ (fun _ h=>h) (fun _ _=>rfl) hi'.oJ.gd⟩
  .rcases hfm.m1 l blk e1 with⟨i,b1,h1,h2,h3⟩|⟨h1,h2,h3⟩
   .rw[hx2 i l h1]at e2;obtain⟨o1,o2⟩:=hi'.oJ.own i b1 b base tot (by rw[hlk];exact h2) e2;exact⟨o1,o9.re (x:=x') (x':=x2) rfl rfl hβ2 o2 h3⟩
   .rw[hx2n l h1]at e2;obtain⟨o1,o2⟩:=hs.own l blk b base tot h3 e2;have hlt:=hs.e8 l b base tot e2;have hno:∀i p,x0.β i=some p->p.1≠b:=by
     rintro i ⟨b',base',tot'⟩ h e;simp only at e;subst e;obtain⟨l',h4,h5,_⟩:=hx0' i _ h;have:=hs.inj l' l b' base' tot' base tot (hfm.lt _ _ h4) (by rw[h3];simp) h5 e2;subst this;exact h2 _ h4
    refine⟨fun h=>?_,o2.mono hstep.le (hst.old b hlt hno)⟩;rcases hst.newI b h with h|h|⟨i,p,h4,h5⟩
    .exact o1 h
    .exact absurd hlt (Nat.not_lt.2 h)
    .exact hno i p h4 h5
  .have mix:∀l1 l2 base tot base' tot',(∃i b1,(i,l1)∈σo/\look m1 i=some b1)->lT σo l2=none->(∀i,(l2,i)∉σi)->look st.m l2≠none->x2.β l1=some (b,base,tot)->x2.β l2=some (b,base',tot')->False:=by
    rintro l1 l2 base tot base' tot' ⟨i,b1,h1,h2⟩ h3 h4 h5 e3 e4;rw[hx2 i l1 h1]at e3;rw[hx2n l2 h3]at e4;rcases hnew i _ e3 with⟨l',h6,h7⟩|h6|⟨l',⟨pb,pt,pq⟩,⟨j,h6⟩,h7,h8⟩
    .have:=hs.inj l' l2 b base tot base' tot' (hfm.lt _ _ h6) h5 h7 e4;subst this;exact h4 _ h6
    .have:=hs.e8 l2 b base' tot' e4;simp only at h6;omega
    .simp only at h8;subst h8;have:=hs.inj l' l2 pb pt pq base' tot' (hfm.lt _ _ h6) h5 h7 e4;subst this;exact h4 _ h6
   cases f1:look st'.m l1 with
   |none=>exact absurd f1 e1
   |some b1=>
    cases f2:look st'.m l2 with
    |none=>exact absurd f2 e2
    |some b2=>
     rcases hfm.m1 l1 b1 f1 with⟨i,c1,h1,h2,_⟩|⟨h1,h2,h3⟩<;>rcases hfm.m1 l2 b2 f2 with⟨j,c2,k1,k2,_⟩|⟨k1,k2,k3⟩
     .rw[hx2 i l1 h1]at e3;rw[hx2 j l2 k1]at e4;have:=hi'.oJ.inj i j b base tot base' tot' (by rw[hlk,h2];simp) (by rw[hlk,k2];simp) e3 e4;subst this;have:=vy hfm.oko h1;rw[vy hfm.oko k1]at this;exact(bM this).symm
     .exact(mix l1 l2 base tot base' tot' ⟨i,c1,h1,h2⟩ k1 k2 (by rw[k3];simp) e3 e4).elim
     .exact(mix l2 l1 base' tot' base tot ⟨j,c2,k1,k2⟩ h1 h2 (by rw[h3];simp) e4 e3).elim
     .rw[hx2n l1 h1]at e3;rw[hx2n l2 k1]at e4;exact hs.inj l1 l2 b base tot base' tot' (by rw[h3];simp) (by rw[k3];simp) e3 e4
  .cases h1:lT σo l with
   |none=>rw[hx2n l h1]at e;exact fm (hs.e8 l b base tot e) hst.size
   |some i=>
    rw[hx2 i l (mJ h1)]at e;exact hi'.oJ.e8 i b base tot e
 have hfr2:gp st' x2:=by
  refine⟨fun l hl=>?_,fun l hl=>?_⟩
  .cases h1:lT σo l with
   |none=>rw[hx2n l h1];exact hfr.β l (by have:=hfm.nx;omega)
   |some i=>have:=sC hfm.oko (mJ h1);omega
  .cases f1:look st'.m l with
   |none=>exact absurd f1 hl
   |some b1=>
    rcases hfm.m1 l b1 f1 with⟨i,c1,h1,_⟩|⟨_,_,h3⟩
    .exact sC hfm.oko h1
    .have:=hfr.m l (by rw[h3];simp);have:=hfm.nx;omega
 have hrd:=RD.re (ν:=ν) (x:=x') (x':=x2) rfl rfl hβ2 r2 hvd;rcases Ex.EP hh with h|h<;>rw[h]at he<;>subst he<;>exact⟨hi'.defers,v,r1,x2,vd',st',hK,rfl,hstep,hrd,hsim,hfr2⟩
end
end
section
structure RowT where
 tr:List D->St->(D->St->Prop)->Prop
 mu:List D->St->Nat
 mono:∀(ds:List D) (st:St) (K K':D->St->Prop),(∀d st',K d st'->K' d st')->tr ds st K->tr ds st K'
def RowT.no:RowT:=⟨fun _ _ _=>False,fun _ _=>0,fun _ _ _ _ _ h=>h⟩
def jQ (af:aC)(Q:D->List (Nat×bW)->Prop):Ex->List cg->St->Prop:=fun e env st=>e.home/\qW st.m env af.res/\∃m1,(∀i,look st.m i=look m1 i)/\Q (me af env st) m1
def bO {af:aC}{Q:D->List (Nat×bW)->Prop}{vd:D}{m1:List (Nat×bW)}{e:Ex}{env:List cg}{st:St}(h1:e.home)(h2:qW st.m env af.res)(h3:me af env st=vd)(h4:st.m=m1)(h5:Q vd m1):jQ af Q e env st:=⟨h1,h2,m1,fun i=>by rw[h4],by rw[h3];exact h5⟩
def One (vd:D)(m1:List (Nat×bW)):D->List (Nat×bW)->Prop:=fun d m=>d=vd/\m=m1
def oneq (vd:D)(m1:List (Nat×bW)):One vd m1 vd m1:=⟨rfl,rfl⟩
section
variable [dR] {P:Program} {ν:List (Nat×Nat)} {c7:List Nat} {Y:Ctx}
def Qz (P:Program)(ν:List (Nat×Nat))(Γ':Ctx)(c7:List Nat)(tr:List D->St->(D->St->Prop)->Prop)(fid:Nat):Prop:=
 ∀(ds:List D) (st:St) (K:D->St->Prop),tr ds st K->Ok P ν c7 Γ'->∀(x:X) (args:Array Value),args.size=ds.length->(∀i,i<ds.length->RD ν x (args.getD i undef) (ds.getD i .any))->gv ν x (look st.m)->gp st x->
  jP P x (fun v x'=>∃d st',K d st'/\Step x x'/\RD ν x' v d/\gv ν x' (look st'.m)/\gp st' x') ((callFunc fid args).run P x.w)
end
end
section
abbrev RT:=List D->D->Prop
abbrev FT:=D->List D->D->D->Prop
abbrev TT:=List D->St->(D->St->Prop)->Prop
def FN (T:TT):Prop:=∀ds st K K',(∀d st',K d st'->K' d st')->T ds st K->T ds st K'
def EJ (A:RT->Prop):RT:=fun ds d=>∀T,A T->T ds d
def po (A:FT->Prop):FT:=fun d ds v s=>∀T,A T->T d ds v s
def Ty (T:TT):Ctx:=⟨fun _ _=>False,fun _ _=>.any,fun _=>T,fun _ _ _=>False,fun _ _ _=>.any,fun _ _ _=>.any,0⟩
def Jo (C:Ctx->Prop):TT:=fun ds st K=>∀T,FN T->C (Ty T)->T ds st K
def xI (C:Ctx->Prop):FN (Jo C):=fun _ _ _ _ h h1 T hT hC=>hT _ _ _ _ h (h1 T hT hC)
def noR:RT:=fun _ _=>False
def noF:FT:=fun _ _ _ _=>False
def noT:TT:=fun _ _ _=>False
def AQ:FN noT:=fun _ _ _ _ _ h=>h.elim
structure qO where
 key:Nat
 rel:RT
 mu:List D->Nat
 relF:FT
 tr:TT
 muE:List D->St->Nat
 mono:FN tr
def mu0:List D->Nat:=fun _=>0
def RY:List D->St->Nat:=fun _ _=>0
def nv:qO:=⟨0,noR,mu0,noF,noT,RY,AQ⟩
def rP (k:Nat)(A:RT->Prop)(mu:List D->Nat:=mu0):qO:=⟨k,EJ A,mu,noF,noT,RY,AQ⟩
def rF (k:Nat)(A:FT->Prop):qO:=⟨k,noR,mu0,po A,noT,RY,AQ⟩
def rG (k:Nat)(C:Ctx->Prop)(mu:List D->St->Nat:=RY):qO:=⟨k,noR,mu0,noF,Jo C,mu,xI C⟩
def rFG (k:Nat)(A:FT->Prop)(C:Ctx->Prop):qO:=⟨k,noR,mu0,po A,Jo C,RY,xI C⟩
noncomputable def pick (r:D->Prop):D:=Classical.epsilon r
def l7 {r:D->Prop}(h:∃d,r d):r (pick r):=Classical.epsilon_spec h
def Det (R:RT):Prop:=∀ds d d',R ds d->R ds d'->d=d'
def zR (R:FT):Prop:=∀d ds v s v' s',R d ds v s->R d ds v' s'->v=v'/\s=s'
def Ym {A:RT->Prop}(h:A fun ds d=>A fun ds' d'=>ds'=ds->d=d'):Det (EJ A):=fun ds d d' h1 h2=>h2 _ (h1 _ h) rfl
def Uz {A:FT->Prop}(h:A fun d ds v s=>A fun d' ds' v' s'=>d'=d->ds'=ds->v=v'/\s=s'):zR (po A):=fun d ds v s v' s' h1 h2=>h2 _ (h1 _ h) rfl rfl
noncomputable def Ca (t:List (Nat×qO)):Ctx where
 pre n ds:=∃d,(lk t n nv).rel ds d
 val n ds:=pick ((lk t n nv).rel ds)
 tr n:=(lk t n nv).tr
 fp n d ds:=∃v s,(lk t n nv).relF d ds v s
 fv n d ds:=pick fun v=>∃s,(lk t n nv).relF d ds v s
 fs n d ds:=pick fun s=>∃v,(lk t n nv).relF d ds v s
 lo:=0
def S2 (t:List (Nat×qO)):X4:=⟨fun n=>(lk t n nv).key,fun n=>(lk t n nv).mu,fun n=>(lk t n nv).muE⟩
noncomputable abbrev under (t:List (Nat×qO))(k u:Nat):Ctx:=(Ca t).under (S2 t) k u
def vH (t:List (Nat×qO))(k u n:Nat):(((Ca t).under (S2 t) k u).at n).b7:=
 fun f ds st K K' h hh=>⟨hh.1,(lk t f nv).mono ds st K K' h hh.2⟩
section
variable {t:List (Nat×qO)} {n k u:Nat} {ds:List D} {d v s:D} {st:St} {K:D->St->Prop}
def ZE (hD:Det (lk t n nv).rel)(hk:(lk t n nv).key<k\/(lk t n nv).key=k/\(lk t n nv).mu ds<u)(h:(lk t n nv).rel ds d):(under t k u).pre n ds/\(under t k u).val n ds=d:=
 ⟨⟨hk,d,h⟩,hD _ _ _ (l7 ⟨d,h⟩) h⟩
def okf (hD:zR (lk t n nv).relF)(hk:(lk t n nv).key<k)(h:(lk t n nv).relF d ds v s):(under t k u).fp n d ds/\(under t k u).fv n d ds=v/\(under t k u).fs n d ds=s:=by
 refine⟨⟨.inl hk,v,s,h⟩, ?_, ?_⟩
 .obtain⟨s',h'⟩:=l7 (r:=fun v=>∃s,(lk t n nv).relF d ds v s) ⟨v,s,h⟩;exact(hD _ _ _ _ _ _ h' h).1
 .obtain⟨v',h'⟩:=l7 (r:=fun s=>∃v,(lk t n nv).relF d ds v s) ⟨s,v,h⟩;exact(hD _ _ _ _ _ _ h' h).2
def uH (hk:(lk t n nv).key<k\/(lk t n nv).key=k/\(lk t n nv).muE ds st<u)(h:(lk t n nv).tr ds st K):(under t k u).tr n ds st K:=⟨hk,h⟩
end
section
variable [dR] {P:Program} {ν:List (Nat×Nat)} {c7:List Nat} {Y:Ctx} {t:List (Nat×qO)} {fid n key:Nat}
def KD (P:Program)(ν:List (Nat×Nat))(c7:List Nat)(Y:Ctx)(fid:Nat)(ds:List D)(d:D):Prop:=Ok P ν c7 Y->∀(x:X) (args:Array Value),args.size=ds.length->(∀i,i<ds.length->RD ν x (args.getD i undef) (ds.getD i .any))->bG ds=true->
  (∀b,x.I b->b<x.w.heap.size)->dR.gd x->jP P x (fun v x'=>nW x x'/\RD ν x' v d) ((callFunc fid args).run P x.w)
def Cv (P:Program)(ν:List (Nat×Nat))(c7:List Nat)(Y:Ctx)(fid:Nat)(d:D)(ds:List D)(vd new:D):Prop:=Ok P ν c7 Y->∀(x:X) (f:Nat->Option bW) (args:Array Value) (l k:Nat),args.size=ds.length+1->
   RD ν x (args.getD 0 undef) (.ptr l k 0 0)->(∀i,i<ds.length->RD ν x (args.getD (i+1) undef) (ds.getD i .any))->gv ν x f->f l=some (.buf k [d])->d.bI=true->bG ds=true->
   jP P x (fun v x'=>Step x x'/\RD ν x' v vd/\gv ν x' (fun l'=>if l'=l then some (.buf k [new])else f l')/\x'.β=x.β) ((callFunc fid args).run P x.w)
def oL (P:Program)(ν:List (Nat×Nat))(c7:List Nat)(Y:Ctx)(fid:Nat)(ds:List D)(st:St)(K:D->St->Prop):Prop:=Ok P ν c7 Y->∀(x:X) (args:Array Value),args.size=ds.length->(∀i,i<ds.length->RD ν x (args.getD i undef) (ds.getD i .any))->gv ν x (look st.m)->gp st x->
  jP P x (fun v x'=>∃d st',K d st'/\Step x x'/\RD ν x' v d/\gv ν x' (look st'.m)/\gp st' x') ((callFunc fid args).run P x.w)
structure Zx (P:Program)(ν:List (Nat×Nat))(c7:List Nat)(t:List (Nat×qO))(fid n:Nat):Prop where
 p:∀ds d,(lk t n nv).rel ds d->KD P ν c7 (under t (lk t n nv).key ((lk t n nv).mu ds)) fid ds d
 f:zR (lk t n nv).relF/\∀d ds v s,(lk t n nv).relF d ds v s->Cv P ν c7 (under t (lk t n nv).key ((lk t n nv).mu (d::ds))) fid d ds v s
 g:∀ds st K,(lk t n nv).tr ds st K->oL P ν c7 (under t (lk t n nv).key ((lk t n nv).muE ds st)) fid ds st K
def okA (hsm:∀fid n,fI ν fid=some n->n<1000000)(hB:∀t,c7.contains (1000000000+t)=true->t=dR.tB)(h:∀fid n,fI ν fid=some n->Zx P ν c7 t fid n):Ok P ν c7 (Ca t):=by
 refine ok_of (S2 t) hsm hB (fun fid n hn ds hp hok=>(h fid n hn).p ds _ (l7 hp) hok) (fun fid n hn _ d ds hp hok=>?_) (fun fid n hn ds st K htr hok=>(h fid n hn).g ds st K htr hok);obtain⟨v,s,hr⟩:=hp;obtain⟨hD,hf⟩:=(h fid n hn).f;have h2:(Ca t).fv n d ds=v/\(Ca t).fs n d ds=s:=by
  constructor
  .obtain⟨s',h'⟩:=l7 (r:=fun v=>∃s,(lk t n nv).relF d ds v s) ⟨v,s,hr⟩;exact(hD _ _ _ _ _ _ h' hr).1
  .obtain⟨v',h'⟩:=l7 (r:=fun s=>∃v,(lk t n nv).relF d ds v s) ⟨s,v,hr⟩;exact(hD _ _ _ _ _ _ h' hr).2
 rw[h2.1,h2.2];exact hf d ds v s hr hok
def Lv {Y:D->List D->Ctx}:zR noF/\∀d ds v s,noF d ds v s->Cv P ν c7 (Y d ds) fid d ds v s:=⟨fun _ _ _ _ _ _ h=>h.elim,fun _ _ _ _ h=>h.elim⟩
def bw {A:RT->Prop}{mu:List D->Nat}(hr:lk t n nv=rP key A mu)(h:A fun ds d=>KD P ν c7 (under t key (mu ds)) fid ds d):Zx P ν c7 t fid n:=by
 refine⟨?_, ?_, ?_⟩<;>rw[hr]
 .exact fun ds d hd=>hd (fun ds d=>KD P ν c7 (under t key (mu ds)) fid ds d) h
 .exact Lv
 .exact fun _ _ _ h=>h.elim
def YW {A:FT->Prop}(hr:lk t n nv=rF key A)(hD:zR (po A))(h:A fun d ds v s=>Cv P ν c7 (under t key 0) fid d ds v s):Zx P ν c7 t fid n:=by
 refine⟨?_, ?_, ?_⟩<;>rw[hr]
 .exact fun _ _ h=>h.elim
 .exact⟨hD,fun d ds v s hd=>hd _ h⟩
 .exact fun _ _ _ h=>h.elim
def C0 {Y:List D->St->Ctx}:FN fun ds st K=>oL P ν c7 (Y ds st) fid ds st K:=fun ds st K K' h hg hok x args hl ha hs hf=>(hg hok x args hl ha hs hf).mono fun v x' ⟨d,st',h1,h2⟩=>⟨d,st',h _ _ h1,h2⟩
def mM {C:Ctx->Prop}{mu:List D->St->Nat}(hr:lk t n nv=rG key C mu)(h:C (Ty fun ds st K=>oL P ν c7 (under t key (mu ds st)) fid ds st K)):Zx P ν c7 t fid n:=by
 refine⟨?_, ?_, ?_⟩<;>rw[hr]
 .exact fun _ _ h=>h.elim
 .exact Lv
 .exact fun ds st K hd=>hd (fun ds st K=>oL P ν c7 (under t key (mu ds st)) fid ds st K) C0 h
def oweFG {A:FT->Prop}{C:Ctx->Prop}(hr:lk t n nv=rFG key A C)(hD:zR (po A))(h:A fun d ds v s=>Cv P ν c7 (under t key 0) fid d ds v s)(h2:C (Ty fun ds st K=>oL P ν c7 (under t key 0) fid ds st K)):Zx P ν c7 t fid n:=by
 refine⟨?_, ?_, ?_⟩<;>rw[hr]
 .exact fun _ _ h=>h.elim
 .exact⟨hD,fun d ds v s hd=>hd _ h⟩
 .exact fun ds st K hd=>hd _ C0 h2
def KB (P:Program)(ν:List (Nat×Nat))(c7:List Nat)(fid:Nat)(af:aC):Prop:=(P.funcs[fid]?).map (fun f=>(compile P ν c7 f,f.name== "runtime.NumGoroutine"))=some (some af,false)
def KB.split {af:aC}(h:KB P ν c7 fid af):∃fn,P.funcs[fid]? =some fn/\compile P ν c7 fn=some af/\(fn.name== "runtime.NumGoroutine")=false:=by
 grind [KB]
def aO {af:aC}{ds:List D}{d:D}(hmix:P.follows .mixedOrders=true)(hC:KB P ν c7 fid af)(h1:ds.length=af.np)(h2:bJ (Y.at 0) af.body (X7 af d) (fD af ds) ⟨0,[]⟩):KD P ν c7 Y fid ds d:=by
 intro hok x args hl hargs hnl himm hgd;obtain⟨fn,hf,hc,hn⟩:=hC.split;obtain⟨body,c1,_⟩:=jv hc;exact .inr ⟨fid,args,ji hf hn (by rw[c1];rfl) args x.w,UJ hok hmix hf hc hl hargs hnl himm hgd h1 h2⟩
def Gv {af:aC}{d:D}{ds:List D}{vd new:D}(k0:Nat)(hmix:P.follows .mixedOrders=true)(hC:KB P ν c7 fid af)(h1:ds.length+1=af.np)(hk:d.cells.length=k0)
  (h2:bJ (Y.at 1) af.body (NQ af k0 vd new) (fD af (.ptr 0 k0 0 0::ds)) ⟨1,[(0,.buf k0 [d])]⟩):Cv P ν c7 Y fid d ds vd new:=by
 intro hok x f args l k hl h0 hargs hs hfl hd hnl;obtain⟨fn,hf,hc,hn⟩:=hC.split;obtain⟨body,c1,_⟩:=jv hc;have hkk:k=k0:=by
  generalize args.getD 0 undef=v0 at h0;cases h0 with
  |ptr _ _ _ _ b base tot at_ hβ hat=>
   obtain⟨p1,p2,c,T,fr,p3,p4,p5,p6⟩:=(hs.own l _ b base tot hfl hβ).2;have:=(p6 0 aJ).1
   grind
 subst hkk;exact .inr ⟨fid,args,ji hf hn (by rw[c1];rfl) args x.w,UH hok hmix hf hc hl h0 hargs hs hfl hd hnl h1 h2⟩
def UT {k l:Nat}{d:D}{ds:List D}{vd new:D}{st:St}{K:D->St->Prop}(h:Cv P ν c7 Y fid d ds vd new)(hl:look st.m l=some (.buf k [d]))(hd:d.bI=true)(hnl:bG ds=true)(hK:K vd ⟨st.nx,dG st.m l (.buf k [new])⟩):
  oL P ν c7 Y fid (.ptr l k 0 0::ds) st K:=by
 intro hok x args hl2 hargs hs hf;refine(h hok x (look st.m) args l k (by simpa using hl2) (hargs 0 aJ) (fun i hi=>hargs (i+1) (by simpa using hi)) hs hl hd hnl).mono ?_;rintro v x' ⟨h1,h2,h3,h4⟩;have e:(fun l'=>if l'=l then some (.buf k [new])else look st.m l')=look (dG st.m l (.buf k [new])):=by
  funext l';rw[cJ]
 refine⟨vd,_,hK,h1,h2,e▸h3,fun l' hl'=>by rw[h4];exact hf.β l' hl',fun l' hl'=>?_⟩;rw[cJ]at hl';split at hl'
 .rename_i e;subst e;exact hf.m _ (by rw[hl];simp)
 .exact hf.m _ hl'
def xF {af:aC}{ds:List D}{st:St}{K:D->St->Prop}{σi:List (Nat×Nat)}{q:Nat}{m0:List (Nat×bW)}{cs:List D}{Q:D->List (Nat×bW)->Prop}(hmono:∀q,(Y.at q).b7)(hmix:P.follows .mixedOrders=true)(hC:KB P ν c7 fid af)
  (h1:cs.length=ds.length) (h2:∀i,i<ds.length->T1 0 σi (ds.getD i .any) (cs.getD i .any)) (h3:cs.length=af.np)
  (h4:gI 0 q σi=true) (h5:∀l i,(l,i)∈σi->look st.m l≠none) (h6:∀i b,look m0 i=some b->∃l b',(l,i)∈σi/\look st.m l=some b'/\sB 0 σi b' b)
  (h7:bJ (Y.at q) af.body (jQ af Q) (fD af cs) ⟨q,m0⟩) (h8:∀d m1,Q d m1->∃(σo:List (Nat×Nat)) (q1:Nat) (st':St) (vd':D),Fr σi σo q q1 m0 m1 st st'/\T1 0 σo d vd'/\K vd' st'):oL P ν c7 Y fid ds st K:=by
 intro hok x args hl hargs hs hfr;obtain⟨fn,hf,hc,hn⟩:=hC.split;obtain⟨body,c1,_⟩:=jv hc;refine .inr ⟨fid,args,ji hf hn (by rw[c1];rfl) args x.w, ?_⟩;refine Calls.mono (UI (K:=K) hok hmix hf hc hl hargs hs hfr h1 h2 h3 h4 h5 h6 (hH (hmono q) _ _ _ _ _ (fun e env st1 h=>?_) h7)) fun e w' he=>?_
 .obtain⟨g1,g2,m1,g3,g4⟩:=h
  grind
 grind
end
end
end Go.Abs
section
namespace Go.Abs
structure bS where
 name:au
 range:au
 feats:List au
 bare:Bool
 deriving Inhabited,DecidableEq
def bS.D (x:bS):D:=.agg [.str x.name,.str x.range,.sl 1 (x.feats.map D.str),.bool x.bare]
structure bp where
 any:List bS
 when':au
 option:au
 deriving Inhabited,DecidableEq
def bp.D (x:bp):D:=.agg [.sl 4 (x.any.map bS.D),.str x.when',.str x.option]
structure fq where
 name:au
 range:au
 when':au
 deriving Inhabited,DecidableEq
def fq.D (x:fq):D:=.agg [.str x.name,.str x.range,.str x.when']
structure bZ where
 name:au
 of:List au
 deriving Inhabited,DecidableEq
def bZ.D (x:bZ):D:=.agg [.str x.name,.sl 1 (x.of.map D.str)]
structure Rec where
 name:au
 v:cn
 needs:List bp
 bars:List fq
 feats:List bZ
 deriving Inhabited,DecidableEq
def Rec.D (x:Rec):D:=.agg [.str x.name,.int .i64 x.v.major,.int .i64 x.v.minor,.int .i64 x.v.patch,.str x.v.pre,.str x.v.build,.sl 3 (x.needs.map bp.D),.sl 3 (x.bars.map fq.D),.sl 2 (x.feats.map bZ.D)]
structure dH where
 op:Int
 parts:Int
 v:cn
 deriving Inhabited,DecidableEq
def dH.D (x:dH):D:=.agg [.int .i64 x.op,.int .i64 x.parts,.int .i64 x.v.major,.int .i64 x.v.minor,.int .i64 x.v.patch,.str x.v.pre,.str x.v.build]
structure Nd where
 op:Int
 a:Int
 b:Int
 key:Int
 text:au
 deriving Inhabited,DecidableEq
def Nd.D (x:Nd):D:=.agg [.int .i64 x.op,.int .i64 x.a,.int .i64 x.b,.int .i64 x.key,.str x.text]
def fq.eq (a b:fq):jk (fq.D a).cells (fq.D b).cells=decide (a=b):=by
 obtain⟨a1,a2,a3⟩:=a;obtain⟨b1,b2,b3⟩:=b
 grind [fq.D,D.cells,jk,vb]
def bS.same {a b:bS}(e1:a.name=b.name)(e2:a.range=b.range)(e3:a.bare=b.bare):decide (a=b)=decide (a.feats=b.feats):=by
 obtain⟨a1,a2,a3,a4⟩:=a;obtain⟨b1,b2,b3,b4⟩:=b
 grind
def rising (l:List au):Bool:=cQ (fun i=>Op.bytesLess l[i-1]! l[i]!) 1 l.length
def dJ (s:au):Int×au×au:=
 if cV s=true then(1,s,[])
 else if s.length>0/\at8 s 0=63/\cV (s.drop 1)=true then(2,s.drop 1,[])
 else if(ai s 47).length=2/\dK (ai s 47)[0]! =true/\cV (ai s 47)[1]! =true then(3,(ai s 47)[0]!,(ai s 47)[1]!)
 else(0,[],[])
def findF (l:List bZ)(nm:au)(i:Nat):Int:=match(l.drop i).findIdx? (fun x=>decide (x.name=nm))with
 |some k=>((i+k:Nat):Int)
 |none=>-1
def Gi {l:List bZ}{nm:au}{i:Nat}(h:i<l.length)(he:l[i]!.name=nm):findF l nm i=(i:Nat):=by
 unfold findF;rw[iW h,List.findIdx?_cons]
 grind
def Gj {l:List bZ}{nm:au}{i:Nat}(h:i<l.length)(he:¬l[i]!.name=nm):findF l nm i=findF l nm (i+1):=by
 unfold findF;have:¬l[i].name=nm:=by simpa[h]using he
 rw[iW h,List.findIdx?_cons]
 grind
def CU {l:List bZ}{nm:au}{i:Nat}(h:l.length<=i):findF l nm i=-1:=by
 unfold findF;rw[lC h];rfl
def Ww:au:=[100,101,102,97,117,108,116]
def RC (l:List bZ)(nm:au):Bool:=decide (nm=Ww) ||decide (0<=findF l nm 0)
def iT (l:List bZ)(s:au):Bool:=!(decide ((dJ s).1=0) ||(decide ((dJ s).1=1)&& !RC l (dJ s).2.1))
def lV (l:List bZ)(of:List au):Bool:=decide (of.length<=6)&&rising of&&cQ (fun i=>iT l of[i]!) 0 of.length
def jJ (l:List bZ)(i:Nat):Bool:=cV l[i]!.name&& !(decide (0<i)&& !Op.bytesLess l[i-1]!.name l[i]!.name)&&lV l l[i]!.of
def iv (l:List bZ):Bool:=decide (l.length<=8)&&cQ (jJ l) 0 l.length
def bZ.sm (x:bZ):Prop:=x.name.length<=1048576/\x.of.length<=1048576/\∀t∈x.of,t.length<=1048576
def yG (l:List bZ):Prop:=∀x∈l,x.sm
def sN (b:au):∀(l:List au) (i:Nat),(aS b (l.take i)).length<=(aS b l).length
 |[],i=>aJ
 |[t],0=>by simp[aS]
 |[t],i+1=>aJ
 |t::u::r,0=>by simp[aS]
 |t::u::r,1=>by simp[aS]
 |t::u::r,i+2=>by
  have:=sN b (u::r) (i+1)
  grind [aS]
theorem tZ (b t:au):∀(l:List au),l≠[]->aS b (l++[t])=aS b l++b++t
 |[],h=>absurd rfl h
 |[u],_=>by simp[aS]
 |u::v::r,_=>by
  have:=tZ b t (v::r) aJ
  grind [aS]
def qo (b:au)(l:List au)(i:Nat)(h:i<l.length):aS b (l.take (i+1))=(if 0<i then aS b (l.take i)++b else [])++l[i]! :=by
 have e:l.take (i+1)=l.take i++[l[i]!]:=by
  rw[List.take_add_one,List.getElem?_eq_getElem h];simp[h]
 rw[e];by_cases h0:0<i
 .rw[aw h0,tZ _ _ _ (by intro hn;have:=aj List.length hn;simp only[er,a8]at this;omega)]
 grind [aS]
end Go.Abs
namespace Go.Abs
def K5 {s:au}(h0:cV s=true):dJ s=(1,s,[]):=by simp only[dJ,aw h0]
def K6 {s:au}(h0:cV s=false)(h:(0<(s.length:Int)/\at8 s 0=63)/\cV (s.drop 1)=true):dJ s=(2,s.drop 1,[]):=by
 grind [dJ]
theorem GL {s:au}(h:(¬0<(s.length:Int)\/¬at8 s 0=63)\/cV (s.drop 1)=false):¬(s.length>0/\at8 s 0=63/\cV (s.drop 1)=true):=by
 grind
def K7 {s:au}(h0:cV s=false)(h:(¬0<(s.length:Int)\/¬at8 s 0=63)\/cV (s.drop 1)=false)(h2:(((ai s 47).length:Int)=2/\dK (ai s 47)[0]! =true)/\cV (ai s 47)[1]! =true):dJ s=((3:Int),(ai s 47)[0]!,(ai s 47)[1]!):=by
 grind [dJ,GL]
def K4 {s:au}(h0:cV s=false)(h:(¬0<(s.length:Int)\/¬at8 s 0=63)\/cV (s.drop 1)=false)(h2:(¬((ai s 47).length:Int)=2\/dK (ai s 47)[0]! =false)\/cV (ai s 47)[1]! =false):dJ s=(0,[],[]):=by
 grind [dJ,GL]
end Go.Abs
end
namespace Go.Abs
theorem uQ (s:au)(i:Nat)(h:i<s.length):at8 s i=((s[i]'h).toNat:Int):=by simp[at8,h]
def uN (p:Int->Bool)(s:au):cQ (fun i=>p (at8 s i)) 0 s.length=true↔∀c∈s,p c.toNat=true:=by
 rw[eC];constructor
 .intro h c hc;obtain⟨i,hi,rfl⟩:=List.getElem_of_mem hc
  grind [uQ]
 grind [uQ]
theorem sk {b:Int}:∀{s cur:au},(∀c∈s,(c.toNat:Int)≠b)->cD b s cur=[cur++s]
 |[],cur,_=>by simp[cD]
 |c::r,cur,h=>by
  simp only[cD];rw[ak (h c (.head _)),sk (fun d hd=>h d (.tail _ hd))];simp
theorem uz {b:Int}{x:UInt8}(hx:(x.toNat:Int)=b)(r:au):∀{w cur:au},(∀c∈w,(c.toNat:Int)≠b)->cD b (w++x::r) cur=(cur++w)::cD b r []
 |[],cur,_=>by simp[cD,hx]
 |c::w,cur,h=>by
  simp only[fB,cD];rw[ak (h c (.head _)),uz hx r (fun d hd=>h d (.tail _ hd))];simp
def kv {b:Int}{x:UInt8}(hx:(x.toNat:Int)=b):∀{ws:List au},ws≠[]->(∀w∈ws,∀c∈w,(c.toNat:Int)≠b)->ai (aS [x] ws) b=ws
 |[],h,_=>absurd rfl h
 |[w],_,h=>by
  show cD b w []=[w];rw[sk (h w (.head _))];rfl
 |w::u::r,_,h=>by
  have ih:=kv (ws:=u::r) hx aJ (fun v hv=>h v (.tail _ hv));show cD b (w++[x]++aS [x] (u::r)) []=_;rw[eu,List.singleton_append,uz hx _ (h w (.head _))];rw[show cD b (aS [x] (u::r)) []=u::r from ih];rfl
def rJ {b:Int}{x:UInt8}(hx:(x.toNat:Int)=b):∀(s cur:au),aS [x] (cD b s cur)=cur++s
 |[],cur=>by simp[cD,aS]
 |c::r,cur=>by
  simp only[cD];split
  .rename_i h;rw[ga _ _ _ (by intro h;have:=ep b r [];rw[h]at this;simp at this),rJ hx r []];have:c=x:=hX.1 ae;simp[this]
  .rw[rJ hx r];simp
theorem jl {b:Int}{x:UInt8}(hx:(x.toNat:Int)=b)(s:au):aS [x] (ai s b)=s:=by
 unfold ai;rw[rJ hx];rfl
def Gk {p:UInt8->Bool}{w:au}{x:UInt8}{r:au}(h:∀c∈w,p c=false)(hx:p x=true):(w++x::r).findIdx? p=some w.length:=by
 grind
def z7 {b:Int}{w:au}(h:∀c∈w,(c.toNat:Int)≠b):aG w b=([],w):=by
 unfold aG il
 grind
def xt {b:Int}{w r:au}{x:UInt8}(h:∀c∈w,(c.toNat:Int)≠b)(hx:(x.toNat:Int)=b):aG (w++x::r) b=(r,w):=by
 unfold aG il;rw[bY,Gk (fun c hc=>by simpa using h c hc) (by simpa using hx)];simp
theorem Ga {n:Nat}(h:n<10):bn (dg n).toNat=true:=by
 grind [CM,bn]
def uX {Q:Nat->Prop}(h1:∀n,n<10->Q n)(h2:∀n,9<n->Q (n/10)->Q n)(n:Nat):Q n:=by
 induction n using Nat.strongRecOn with
 |ind n ih=>
  grind
theorem ib (n:Nat):∀c∈dI n,bn c.toNat=true:=by
 refine uX (Q:=fun n=>∀c∈dI n,bn c.toNat=true) (fun n h c hc=>?_) (fun n h ih c hc=>?_) n
 .grind [ml,Ga]
 grind [nA,Ga]
theorem AU (s:au)(c:UInt8):dL (s++[c])=dL s*10+(c.toNat-48):=by
 simp[dL,List.foldl_append]
def G1 (n:Nat):dL (dI n)=n:=by
 refine uX (Q:=fun n=>dL (dI n)=n) (fun n h=>?_) (fun n h ih=>?_) n
 .grind [ml,CM,dL]
 grind [nA,AU,CM]
theorem yC (n:Nat):dI n≠[]:=by
 refine uX (Q:=fun n=>dI n≠[]) (fun n h=>?_) (fun n h ih=>?_) n
 .rw[ml h];simp
 .rw[nA h];simp
theorem N8 (n:Nat)(h:0<n):at8 (dI n) 0≠48:=by
 refine uX (Q:=fun n=>0<n->at8 (dI n) 0≠48) (fun n h h0=>?_) (fun n h ih h0=>?_) n h
 .grind [ml,CM,at8]
 grind [nA,yC,at8,dI]
def sT {n:Nat}(h:n<=9999):fU (dI n)=true:=by
 rw[EN];have h1:=List.length_pos_iff.2 (yC n);have h2:=eJ 4 n ae ae;have h3:cQ (fun i=>bn (at8 (dI n) i)) 0 (dI n).length=true:=(uN bn _).2 (ib n)
 grind [dI,ml,N8]
def wQ {n:Nat}(h:n<=9999):ef (dI n)=(n:Int):=by
 rw[ef,aw (sT h),G1]
theorem nM (x:UInt8):∀(ws:List au) (c:UInt8),c∈aS [x] ws->c=x\/∃w∈ws,c∈w
 |[],c,h=>by simp[aS]at h
 |[w],c,h=>.inr ⟨w,.head _,h⟩
 |w::u::r,c,h=>by
  rw[ga _ _ _ aJ]at h;simp only[List.mem_append,cI]at h;rcases h with(h|h)|h
  .exact .inr ⟨w,.head _,h⟩
  .exact .inl h
  .rcases nM x (u::r) c h with h|⟨v,hv,hc⟩
   .exact .inl h
   .exact .inr ⟨v,.tail _ hv,hc⟩
def H0 {s:au}{p:Bool}(h:sq s p=true){c:UInt8}(hc:c∈s):nH c.toNat=true\/c=46:=by
 simp only[sq,cM,aK,oV,bB,eC]at h;rcases h with rfl|⟨_,h⟩
 .cases hc
 .rw[<-jl (b:=46) (x:=46) rfl s]at hc;rcases nM 46 _ c hc with rfl|⟨w,hw,hcw⟩
  .exact .inr rfl
  .left;obtain⟨i,hi,rfl⟩:=List.getElem_of_mem hw;have:=h i ae hi;rw[show(ai s 46)[i]! =(ai s 46)[i]by simp[hi]]at this;simp only[iL,sn,bB]at this;exact(uN nH _).1 this.1.2 c hcw
def Fo {s:au}{p:Bool}(h:sq s p=true){c:UInt8}(hc:c∈s):c.toNat≠43/\c.toNat≠32/\c.toNat≠10:=by
 rcases H0 h hc with h|rfl
 .grind [nH,iy,bn]
 .decide
def rm {c:UInt8}(h:bn c.toNat=true):c.toNat≠46/\c.toNat≠45/\c.toNat≠43/\c.toNat≠32/\c.toNat≠10:=by
 grind [bn]
def coreS (v:cn):au:=dI v.major.toNat++[46]++dI v.minor.toNat++[46]++dI v.patch.toNat
def Ei (v:cn){c:UInt8}(h:c∈coreS v):c.toNat≠45/\c.toNat≠43/\c.toNat≠32/\c.toNat≠10:=by
 simp only[coreS,List.mem_append,cI]at h;rcases h with(((h|rfl)|h)|rfl)|h
 .exact(rm (ib _ c h)).2
 .decide
 .exact(rm (ib _ c h)).2
 .decide
 .exact(rm (ib _ c h)).2
theorem xk (v:cn):sv v=coreS v++(if v.pre=[]then []else 45::v.pre)++(if v.build=[]then []else 43::v.build):=rfl
def VY {v:cn}(h:eZ v=true){c:UInt8}(hc:c∈sv v):c.toNat≠32/\c.toNat≠10:=by
 simp only[eZ,bB]at h;rw[xk]at hc;simp only[List.mem_append]at hc;rcases hc with(hc|hc)|hc
 .exact(Ei v hc).2.2
 .split at hc
  .cases hc
  .rcases ca.1 hc with rfl|hc
   .decide
   .exact(Fo h.1.2 hc).2
 .split at hc
  .cases hc
  .rcases ca.1 hc with rfl|hc
   .decide
   .exact(Fo h.2 hc).2
def Zs {v:cn}(h:eZ v=true):gf (jW v)=some v:=by
 have h0:=h;simp only[eZ,qi,bB,aK]at h;obtain⟨⟨⟨⟨h1,h2⟩,h3⟩,h4⟩,h5⟩:=h;have e0:jW v=sv v:=by rw[jW,aw h0]

 have hcp:∀c∈coreS v++(if v.pre=[]then []else 45::v.pre),(c.toNat:Int)≠43:=fun c hc=>by
  rcases List.mem_append.1 hc with hc|hc
  .have:=(Ei v hc).2.1;omega
  .split at hc
   .cases hc
   .rcases ca.1 hc with rfl|hc
    .decide
    .have:=(Fo h4 hc).1;omega
 have e1:aG (sv v) 43=(v.build,coreS v++(if v.pre=[]then []else 45::v.pre)):=by
  rw[xk];generalize coreS v++(if v.pre=[]then []else 45::v.pre)=q at hcp⊢;split
  .rename_i hb;rw[gN,z7 hcp,hb]
  .exact xt hcp aF
 have hc45:∀c∈coreS v,(c.toNat:Int)≠45:=fun c hc=>by have:=(Ei v hc).1;omega
 have e2:aG (coreS v++(if v.pre=[]then []else 45::v.pre)) 45=(v.pre,coreS v):=by
  split
  .rename_i hb;rw[gN,z7 hc45,hb]
  .exact xt hc45 aF
 have e3:ai (coreS v) 46=[dI v.major.toNat,dI v.minor.toNat,dI v.patch.toNat]:=by
  have:=kv (b:=46) (x:=46) rfl (ws:=[dI v.major.toNat,dI v.minor.toNat,dI v.patch.toNat]) aJ (fun w hw c hc=>by
   have hd:bn c.toNat=true:=by
    simp only[ca,eI,or_false]at hw;rcases hw with rfl|rfl|rfl<;>exact ib _ c hc
   have:=(rm hd).1;omega)
  rw[<-this];simp[aS,coreS]
 have n1:=sT (n:=v.major.toNat) ae;have n2:=sT (n:=v.minor.toNat) ae;have n3:=sT (n:=v.patch.toNat) ae;have o1:=wQ (n:=v.major.toNat) ae;have o2:=wQ (n:=v.minor.toNat) ae;have o3:=wQ (n:=v.patch.toNat) ae;have ev:(⟨((v.major.toNat:Nat):Int),((v.minor.toNat:Nat):Int),((v.patch.toNat:Nat):Int),v.pre,v.build⟩:cn)=v:=by
  obtain⟨a,b,c,d,e⟩:=v;simp only[cn.mk.injEq,cN,ct];simp only at h1 h2 h3;omega
 rw[e0];simp only[gf,e1,e2,e3];rw[aw ⟨rfl,n1,n2,n3⟩];simp only[List.getElem!_cons_zero,List.getElem!_cons_succ,o1,o2,o3,ev];rw[aw ⟨h0,e0⟩]
def HS {Q:au->Prop}(h0:Q [])(h1:∀s c,Q s->Q (s++[c]))(s:au):Q s:=by
 have:∀r:au,Q r.reverse:=by
  intro r;induction r with
  |nil=>exact h0
  |cons c r ih=>rw[List.reverse_cons];exact h1 _ _ ih
 simpa using this s.reverse
def Vo (N i:Nat)(h:N<2^64):Lu (N:Int) i=N/16^i%16:=by
 unfold Lu si;have e1:(N:Int).fdiv (2^(4*i))=((N/2^(4*i):Nat):Int):=by
  grind
 rw[e1,BitVec.ofInt_natCast,BitVec.toNat_and,BitVec.toNat_ofNat];have h2:N/2^(4*i)<2^64:=Nat.lt_of_le_of_lt (Nat.div_le_self _ _) h;rw[Nat.mod_eq_of_lt h2];have e2:(15#64).toNat=2^4-1:=rfl;rw[e2,Nat.and_two_pow_sub_one_eq_mod,show(16:Nat)^i=2^(4*i)by rw[Nat.pow_mul]]
def hv (c:UInt8):Nat:=if bn c.toNat=true then c.toNat-48 else c.toNat-87
def K1 {c:UInt8}(h:jz c.toNat=true):qU c.toNat=(hv c:Int)/\hv c<16:=by
 simp only[jz,bn,cM,bB,aK]at h;unfold qU hv
 grind [bn]
theorem Vx {N h:Nat}(hN:N<2^60)(hh:h<16):Vw (tv (N:Int) 4) (h:Int)=((N*16+h:Nat):Int):=by
 have e1:tv (N:Int) 4=((N*16:Nat):Int):=by
  unfold tv;rw[IntKind.wrap_u64];omega
 rw[e1];unfold Vw;rw[BitVec.ofInt_natCast,BitVec.ofInt_natCast,BitVec.toNat_or,BitVec.toNat_ofNat,BitVec.toNat_ofNat,Nat.mod_eq_of_lt (show N*16<2^64 by omega),Nat.mod_eq_of_lt (show h<2^64 by omega)];have e2:N*16 |||h=N*16+h:=by
  have:=Nat.shiftLeft_add_eq_or_of_lt (show h<2^4 by omega) N;rw[Nat.shiftLeft_eq]at this;exact this.symm
 rw[e2,IntKind.wrap_u64];omega
def ph (s:au):Nat:=s.foldl (fun n c=>n*16+hv c) 0
theorem wx (s:au)(c:UInt8):ph (s++[c])=ph s*16+hv c:=by simp[ph,List.foldl_append]
def U3:∀(s:au),(∀c∈s,jz c.toNat=true)->ph s<16^s.length:=by
 intro s;refine HS (Q:=fun s=>(∀c∈s,jz c.toNat=true)->ph s<16^s.length) (fun _=>by simp[ph]) (fun s c ih h=>?_) s
 .have h1:=ih fun d hd=>h d (by simp[hd])
  have h2:=(K1 (h c aJ)).2
  grind [wx]
def Pd:∀(s:au),s.length<=16->(∀c∈s,jz c.toNat=true)->ou s=(ph s:Int):=by
 intro s;refine HS (Q:=fun s=>s.length<=16->(∀c∈s,jz c.toNat=true)->ou s=(ph s:Int)) (fun _ _=>rfl) (fun s c ih hl h=>?_) s
 .rw[bP,List.length_singleton]at hl;have hs:=fun d (hd:d∈s)=>h d (by simp[hd])
  have h1:=ih ae hs;have h2:=K1 (h c aJ);have h3:=U3 s hs;have h4:16^s.length<=16^15:=Nat.pow_le_pow_right ae ae
  grind [ou,r7,wx,Vx]
def Pc (s:au):iI s=true↔s.length=16/\∀c∈s,jz c.toNat=true:=by
 unfold iI;rw[bB,aK,uN jz]
theorem Gy {k:Nat}(h:k<16):jz (tf k).toNat=true/\hv (tf k)=k:=by
 have:∀k:Fin 16,jz (tf k.1).toNat=true/\hv (tf k.1)=k.1:=aF
 exact this ⟨k,h⟩
def DR (n:Int):∀c∈fO n,jz c.toNat=true:=by grind [fO,Gy,wP]
theorem Bi (n:Int):iI (fO n)=true:=(Pc _).2 ⟨gY n,DR n⟩
def C1 (N:Nat)(h:N<2^64):∀k,k<=16->ph ((fO N).take k)=N/16^(16-k)
 |0,_=>by
  rw[List.take_zero];rw[Nat.div_eq_of_lt (show N<16^(16-0)by omega)];rfl
 |k+1,hk=>by
  have ih:=C1 N h k ae;have e:(fO (N:Int)).take (k+1)=(fO (N:Int)).take k++[tf (Lu N (15-k))]:=BG _ k ae;rw[e,wx,ih,(Gy (wP _ _)).2,Vo N _ h];have e2:16^(16-k)=16^(15-k)*16:=by rw[<-Nat.pow_succ];congr 1;omega
  rw[e2,<-Nat.div_div_eq_div_mul,show 16-(k+1)=15-k by omega];omega
theorem JG {n:Int}(h0:0<=n)(h1:n<18446744073709551616):oT (fO n)=n:=by
 obtain⟨N,rfl⟩:∃N:Nat,n=N:=⟨n.toNat,ae⟩
 rw[oT,aw (Bi _),Pd _ (by rw[gY];omega) (DR _)];have:=C1 N ae 16 ae
 grind [gY]
def Ik (a b:Int):0<=BU a b/\BU a b<18446744073709551616:=by
 unfold BU;rw[IntKind.wrap_u64];omega
def Ko (s:au):0<=HX s/\HX s<18446744073709551616:=Ik _ _
theorem L6 {s:au}(h:cV s=true){c:UInt8}(hc:c∈s):y0 c.toNat=true:=by
 simp only[cV,bB]at h;exact(uN y0 s).1 h.2 c hc
def L7 {s:au}(h:cV s=true){c:UInt8}(hc:c∈s):c.toNat≠32/\c.toNat≠10/\c.toNat≠45:=by
 grind [L6,y0,iy,bn]
def V1 {s:au}(h:cV s=true):s≠[]:=by
 rintro rfl;simp[cV]at h
def yN {s:au}(h:dK s=true):s≠[]/\iy (at8 s 0)=true/\∀c∈s,c.toNat≠32/\c.toNat≠10:=by
 simp only[dK,bB,aK,eC]at h;obtain⟨⟨⟨⟨h1,h2⟩,h3⟩,h4⟩,h5⟩:=h;refine⟨by rintro rfl;simp at h1,h3,fun c hc=>?_⟩;obtain⟨i,hi,rfl⟩:=List.getElem_of_mem hc;rcases Nat.eq_zero_or_pos i with rfl|hp
 .grind [uQ,iy]
 grind [YK,uQ,iy,bn]
def vO.wf (x:vO):Prop:=0<=x.sum/\x.sum<18446744073709551616
def FG.wf (l:FG):Prop:=∀x∈l.lines,x.wf
end Go.Abs
section
namespace Go.Abs
theorem ya {b:Int}{x:UInt8}(hx:(x.toNat:Int)=b):∀(s cur:au),cD b s cur=match s.findIdx? (fun c=>c==x)with
  |some k=>(cur++s.take k)::cD b (s.drop (k+1)) []
  |none=>[cur++s]
 |[],cur=>by simp[cD]
 |c::r,cur=>by
  simp only[cD,List.findIdx?_cons];by_cases h:c=x
  .subst h;rw[aw hx];simp
  .have h1:¬(c.toNat:Int)=b:=fun e=>h (hX.1 ae)
   have h2:(c==x)=false:=by simpa using h
   rw[ak h1,h2,ya hx r (cur++[c])]
   grind
def DJ (s:au)(x:UInt8):ai s x.toNat=if(iu s x).2.2=true then(iu s x).1::ai (iu s x).2.1 x.toNat else [s]:=by
 grind [ai,iu,ya]
def DA {s:au}:(((iu s 47).2.2=true/\dK (iu s 47).1=true)/\cV (iu s 47).2.1=true)↔(((ai s 47).length:Int)=2/\dK (ai s 47)[0]! =true)/\cV (ai s 47)[1]! =true:=by
 have h:=DJ s 47;rw[show(((47:UInt8).toNat:Nat):Int)=47 from rfl]at h;by_cases hc:(iu s 47).2.2=true
 .rw[aw hc]at h;rw[h];have hj:=jl (b:=47) (x:=47) rfl (iu s 47).2.1;constructor
  .grind [ai,iu,cD,sk,L6,y0,iy,bn]
  .rintro⟨⟨h1,h2⟩,h3⟩;refine⟨⟨hc,h2⟩, ?_⟩;generalize ai (iu s 47).2.1 47=q at hj h1 h3
   match q,h1 with
   |[y],_=>
    have:y=(iu s 47).2.1:=hj;rw[<-this];exact h3
   |[],h1=>simp at h1
   |_::_::_,h1=>simp at h1;omega
 .rw[ak hc]at h;rw[h];constructor
  .rintro⟨⟨h1,_⟩,_⟩;exact absurd h1 hc
  .rintro⟨⟨h1,_⟩,_⟩;simp at h1
def GV {s:au}:(cU s [63]).2=true↔0<(s.length:Int)/\at8 s 0=63:=by
 match s with
 |[]=>simp[cU,List.isPrefixOf]
 |c::r=>
  have e:((c.toNat:Int)=63)↔c=63:=⟨fun h=>hX.1 (by have:(63:UInt8).toNat=63:=rfl;omega),fun h=>by subst h;rfl⟩
  grind [cU,at8]
theorem C9 {s:au}(h:(cU s [63]).2=true):(cU s [63]).1=s.drop 1:=by
 grind [cU]
def Vb {s:au}(h0:cV s=false)(h:(cU s [63]).2=true/\cV (cU s [63]).1=true):dJ s=(2,(cU s [63]).1,[]):=by
 rw[C9 h.1]at h⊢;exact K6 h0 ⟨GV.1 h.1,h.2⟩
def K8 {s:au}(h:(cU s [63]).2=false\/cV (cU s [63]).1=false):(¬0<(s.length:Int)\/¬at8 s 0=63)\/cV (s.drop 1)=false:=by
 by_cases hp:(cU s [63]).2=true
 .grind [C9]
 .have:=fun h2=>hp (GV.2 h2)
  grind
def Vc {s:au}(h0:cV s=false)(h:(cU s [63]).2=false\/cV (cU s [63]).1=false)(h2:((iu s 47).2.2=true/\dK (iu s 47).1=true)/\cV (iu s 47).2.1=true):dJ s=((3:Int),(iu s 47).1,(iu s 47).2.1):=by
 have h3:=DA.1 h2;rw[K7 h0 (K8 h) h3];have hs:=DJ s 47;rw[show(((47:UInt8).toNat:Nat):Int)=47 from rfl,aw h2.1.1]at hs;have hj:=jl (b:=47) (x:=47) rfl (iu s 47).2.1;have hl:=h3.1.1;rw[hs]at hl⊢;generalize ai (iu s 47).2.1 47=q at hj hl
 match q,hl with
 |[y],_=>
  have:y=(iu s 47).2.1:=hj;rw[<-this];rfl
 |[],h1=>simp at h1
 |_::_::_,h1=>simp at h1;omega
def U9 {s:au}(h0:cV s=false)(h:(cU s [63]).2=false\/cV (cU s [63]).1=false)(h2:((iu s 47).2.2=false\/dK (iu s 47).1=false)\/cV (iu s 47).2.1=false):dJ s=(0,[],[]):=by
 refine K4 h0 (K8 h) ?_;have hn:¬((((ai s 47).length:Int)=2/\dK (ai s 47)[0]! =true)/\cV (ai s 47)[1]! =true):=fun h3=>by
  obtain⟨⟨g1,g2⟩,g3⟩:=DA.2 h3
  grind
 grind
end Go.Abs
namespace Go.Abs
def Oe {l:List bZ}{i:Nat}(h:(!cV l[i]!.name ||(decide ((0:Int)<(i:Int))&& !Op.bytesLess l[i-1]!.name l[i]!.name) ||decide ((6:Int)<(l[i]!.of.length:Int)) ||!rising l[i]!.of)=false):
  jJ l i=cQ (fun j=>iT l l[i]!.of[j]!) 0 l[i]!.of.length:=by
 grind [jJ,lV]
def Od {l:List bZ}{i:Nat}(h:(!cV l[i]!.name ||(decide ((0:Int)<(i:Int))&& !Op.bytesLess l[i-1]!.name l[i]!.name) ||decide ((6:Int)<(l[i]!.of.length:Int)) ||!rising l[i]!.of)=true):
  jJ l i=false:=by
 grind [jJ,lV,cV,rising]
end Go.Abs
end
