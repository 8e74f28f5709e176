/- A part of the proofs. -/
import Derived.Test.YtpdlhpamcaocgaaGreatDoorP09
set_option linter.all false
set_option maxRecDepth 4000
namespace Go.Abs
section
def JL {a b:Nat}(h:a≠b):Nat.beq a b=false:=by
 cases h2:Nat.beq a b with
 |false=>rfl
 |true=>exact absurd (Nat.eq_of_beq_eq_true h2) h
def gS {a b:Nat}(h:Nat.beq a b=false):Nat.beq b a=false:=JL fun e=>by subst e;rw[Nat.beq_refl]at h;cases h
section
variable [dy] {P:Program} {ν:List (Nat×Nat)} {cQ:List Nat} {t:List (Nat×sf)} {fid n key u k:Nat} {af:aJ} {afB:List D} {nx:Nat} {m:List (Nat×bV)} {K:D->St->Prop}
def IY {a:D}{k q i:Nat}{es:List D}{m1:List (Nat×bV)}(ha:a.bG=true)(hes:bx es=true)(hmix:P.follows .mixedOrders=true)(hC:I9 P ν cQ fid af)(hnp:1=af.np)
  (hl:look m1 q=some (.buf k es)) (hK:K (.own nx k 0 i) ⟨nx+1,(nx,.buf k es)::m⟩) (hw:bX ((under t key u).at 0) af.body (lu af (One (.own q k 0 i) m1)) (fI af [a]) ⟨0,[]⟩):p9 P ν cQ (under t key u) fid [a] ⟨nx,m⟩ K:=by
 refine Ae (σi:=[]) (m0:=[]) (cs:=[a]) (fun q=>aV t key u q) hmix hC rfl ?_ hnp rfl (fun _ _ h=>by cases h) (fun _ _ h=>by cases h) hw ?_
 ·intro i hi
  match i,hi with
  |0,_=>exact .inl ⟨rfl,ha⟩
 ·rintro d m2 ⟨rfl,rfl⟩;refine⟨[(q,nx)],q+1,_,.own nx k 0 i,⟨rfl, ?_,Nat.le_succ _,(fun _ _ h=>by cases h), ?_,(fun _ _ h=>by cases h), ?_⟩,.inr (.inl (by simp[tm,Eg,m5])),hK⟩
  ·simp[iy]
  ·intro i l h;obtain⟨rfl,rfl⟩:=Prod.mk.inj (cK.1 h);exact .inr (aM _)
  ·intro l bb h;simp only[look]at h;split at h
   ·rename_i e;subst e;obtain rfl:=bC h;exact .inl ⟨q,_,.head _,hl,rfl,.inl ⟨rfl,hes⟩⟩
   ·rename_i hn;exact .inr ⟨by simp only[nA,aj hn],(fun _ h=>by cases h),h⟩
def ON {a0 a1 a2 a3 a4 b0 b1 b2 b3 b4 c:Nat}(ha:sV a0 a1 a2 a3 a4=true)(hb:sV b0 b1 b2 b3 b4=true)(hc:b0<c/\b1<c/\b2<c/\b3<c/\b4<c):iy 0 c [(a0,b0),(a1,b1),(a2,b2),(a3,b3),(a4,b4)]=true:=by
 simp only[sV,bn,c9]at ha hb;obtain⟨⟨⟨⟨⟨⟨⟨⟨⟨x1,x2⟩,x3⟩,x4⟩,x5⟩,x6⟩,x7⟩,x8⟩,x9⟩,x10⟩:=ha;obtain⟨⟨⟨⟨⟨⟨⟨⟨⟨y1,y2⟩,y3⟩,y4⟩,y5⟩,y6⟩,y7⟩,y8⟩,y9⟩,y10⟩:=hb;obtain⟨c0,c1,c2,c3,c4⟩:=hc;have bt:∀{x:Nat},x<c->Nat.blt x c=true:=fun {x} h=>by simp[Nat.blt];omega
 have bl:∀{x:Nat},Nat.ble 0 x=true:=fun {x}=>aN
 simp only[iy,List.all_cons,List.all_nil,gS x1,gS x2,gS x3,gS x4,gS x5,gS x6,gS x7,gS x8,gS x9,gS x10,gS y1,gS y2,gS y3,gS y4,gS y5,gS y6,gS y7,gS y8,gS y9,gS y10,bt c0,bt c1,bt c2,bt c3,bt c4,bl,Bool.not_false,Bool.and_self,fA]
def UE {a0 a1 a2 a3 a4 b0 b1 b2 b3 b4:Nat}(ha:sV a0 a1 a2 a3 a4=true):m5 0 [(a0,b0),(a1,b1),(a2,b2),(a3,b3),(a4,b4)] a0=some b0/\m5 0 [(a0,b0),(a1,b1),(a2,b2),(a3,b3),(a4,b4)] a1=some b1/\m5 0 [(a0,b0),(a1,b1),(a2,b2),(a3,b3),(a4,b4)] a2=some b2/\m5 0 [(a0,b0),(a1,b1),(a2,b2),(a3,b3),(a4,b4)] a3=some b3/\m5 0 [(a0,b0),(a1,b1),(a2,b2),(a3,b3),(a4,b4)] a4=some b4:=by
 simp only[sV,bn,c9]at ha;obtain⟨⟨⟨⟨⟨⟨⟨⟨⟨x1,x2⟩,x3⟩,x4⟩,x5⟩,x6⟩,x7⟩,x8⟩,x9⟩,x10⟩:=ha;simp only[m5,x1,x2,x3,x4,x5,x6,x7,x8,x9,x10,Nat.beq_refl,cond_true,cond_false,cr]
def UD {σ:List (Nat×Nat)}{m:List (Nat×bV)}{x:iX}{a0 a1 a2 a3 a4 b0 b1 b2 b3 b4:Nat}(h:ME m x a0 a1 a2 a3 a4)(ha:sV a0 a1 a2 a3 a4=true)(hs:σ=[(a0,b0),(a1,b1),(a2,b2),(a3,b3),(a4,b4)]):
  ∀l b,look (PZ x b0 b1 b2 b3 b4) l=some b->∃i b',(i,l)∈σ/\look m i=some b'/\se 0 σ b' b:=by
 obtain⟨r0,r1,r2,r3,r4⟩:=UE (b0:=b0) (b1:=b1) (b2:=b2) (b3:=b3) (b4:=b4) ha;intro l b hl;rw[<-hs]at r0 r1 r2 r3 r4;have mem:(a0,b0)∈σ/\(a1,b1)∈σ/\(a2,b2)∈σ/\(a3,b3)∈σ/\(a4,b4)∈σ:=by subst hs;simp
 obtain⟨q0,q1,q2,q3,q4⟩:=mem;simp only[PZ,look]at hl;split at hl
 ·rename_i e;subst e;obtain rfl:=bC hl;exact⟨a0,_,q0,h.a0,rfl,.inr (.inl (by simp only[nP,p0,tm,Eg,r1,r3,r4]))⟩
 ·split at hl
  ·rename_i e;subst e;obtain rfl:=bC hl;exact⟨a1,_,q1,h.a1,rfl,.inr (.inl (va _ _ _ _ r2 _))⟩
  ·split at hl
   ·rename_i e;subst e;obtain rfl:=bC hl;exact⟨a2,_,q2,h.a2,rfl,.inl ⟨rfl,lH _⟩⟩
   ·split at hl
    ·rename_i e;subst e;obtain rfl:=bC hl;exact⟨a3,_,q3,h.a3,rfl,.inl ⟨rfl,bJ (fun _=>rfl) _⟩⟩
    ·split at hl
     ·rename_i e;subst e;obtain rfl:=bC hl;exact⟨a4,_,q4,h.a4,rfl,.inl ⟨rfl,bJ (fun _=>rfl) _⟩⟩
     ·cases hl
def QX {m:List (Nat×bV)}{j0 j1 j2 j3 j4 l:Nat}{b:bV}(h:look (Ci m j0 j1 j2 j3 j4) l=some b):(l≠j0/\l≠j1/\l≠j2/\l≠j3/\l≠j4)/\look m l=some b:=by
 simp only[Ci,gy]at h;split at h
 ·cases h
 ·rename_i e4;split at h
  ·cases h
  ·rename_i e3;split at h
   ·cases h
   ·rename_i e2;split at h
    ·cases h
    ·rename_i e1;split at h
     ·cases h
     ·rename_i e0;exact⟨⟨e0,e1,e2,e3,e4⟩,h⟩
def Kx (a b:List (Nat×bV))(l:Nat):look (a++b) l=match look a l with
 |some x=>some x
 |none=>look b l:=by
 induction a with
 |nil=>rfl
 |cons p r ih=>
  obtain⟨q,c⟩:=p;simp only[fu,look];split
  ·rfl
  ·exact ih
def Fa {a0 a1 a2 a3 a4 b0 b1 b2 b3 b4 p q:Nat}(h:(p,q)∈[(a0,b0),(a1,b1),(a2,b2),(a3,b3),(a4,b4)]):p=a0/\q=b0\/p=a1/\q=b1\/p=a2/\q=b2\/p=a3/\q=b3\/p=a4/\q=b4:=by
 simpa only[dr,dc,gw,or_false]using h
def rm {x:iX}{out:Option iX}{j0 j1 j2 j3 j4:Nat}(has:bx afB=true)(hmix:P.follows .mixedOrders=true)(hC:I9 P ν cQ fid af)(hnp:afB.length+1=af.np)
  (h1:ME m x j0 j1 j2 j3 j4) (h2:sV j0 j1 j2 j3 j4=true) (h3:j0<nx/\j1<nx/\j2<nx/\j3<nx/\j4<nx) (hK:K (.bool out.isSome) ⟨nx+4,uz out j0 nx++Ci m j0 j1 j2 j3 j4⟩)
  (hw:bX ((under t key u).at 5) af.body (lu af (P0 out)) (fI af (.ptr 0 10 0 0::afB)) ⟨5,PZ x 0 1 2 3 4⟩):p9 P ν cQ (under t key u) fid (.ptr j0 10 0 0::afB) ⟨nx,m⟩ K:=by
 have g3:iy 0 5 [(j0,0),(j1,1),(j2,2),(j3,3),(j4,4)]=true:=ON h2 rfl aF;have g4:∀l i,(l,i)∈[(j0,0),(j1,1),(j2,2),(j3,3),(j4,4)]->look m l≠none:=by
  intro l i h;rcases Fa h with⟨rfl,_⟩|⟨rfl,_⟩|⟨rfl,_⟩|⟨rfl,_⟩|⟨rfl,_⟩
  ·rw[h1.a0];simp
  ·rw[h1.a1];simp
  ·rw[h1.a2];simp
  ·rw[h1.a3];simp
  ·rw[h1.a4];simp
 have g5:=UD (b0:=0) (b1:=1) (b2:=2) (b3:=3) (b4:=4) h1 h2 rfl;refine Ae (σi:=[(j0,0),(j1,1),(j2,2),(j3,3),(j4,4)]) (cs:=.ptr 0 10 0 0::afB) (fun q=>aV t key u q) hmix hC aN ?_ (by simpa using hnp) g3 g4 g5 hw ?_
 ·intro i hi
  match i with
  |0=>exact .inr (.inl (by simp[tm,Eg,m5]))
  |i+1=>exact .inl ⟨rfl,dk has i⟩
 have hoff:∀l b,look (Ci m j0 j1 j2 j3 j4) l=some b->(∀i,(l,i)∉[(j0,0),(j1,1),(j2,2),(j3,3),(j4,4)])/\look m l=some b:=by
  intro l b h;obtain⟨⟨e0,e1,e2,e3,e4⟩,hl⟩:=QX h;refine⟨fun i hi=>?_,hl⟩;rcases Fa hi with⟨h,_⟩|⟨h,_⟩|⟨h,_⟩|⟨h,_⟩|⟨h,_⟩<;>contradiction
 rintro d m1 ⟨rfl,hy⟩;cases out with
 |none=>
  refine⟨[],5,_,.bool false,⟨g3,by simp[iy],(Nat.le_add_right _ _:nx<=nx+4),g4,(fun _ _ h=>by cases h),g5, ?_⟩,.inl ⟨rfl,rfl⟩,hK⟩;intro l b h;obtain⟨k1,k2⟩:=hoff l b h;exact .inr ⟨rfl,k1,k2⟩
 |some y=>
  obtain⟨a1,a2,a3,a4,hf,hat⟩:=hy y rfl;have hg:sV j0 nx (nx+1) (nx+2) (nx+3)=true:=by
   simp only[sV,bn,c9];refine⟨⟨⟨⟨⟨⟨⟨⟨⟨?_, ?_⟩, ?_⟩, ?_⟩, ?_⟩, ?_⟩, ?_⟩, ?_⟩, ?_⟩, ?_⟩<;>exact JL ae
  refine⟨[(0,j0),(a1,nx),(a2,nx+1),(a3,nx+2),(a4,nx+3)],5+a1+a2+a3+a4,_,.bool true,⟨g3,ON hf hg dP,(Nat.le_add_right _ _:nx<=nx+4),g4, ?_,g5, ?_⟩,.inl ⟨rfl,rfl⟩,hK⟩
  ·intro i l h;rcases Fa h with⟨rfl,rfl⟩|⟨rfl,rfl⟩|⟨rfl,rfl⟩|⟨rfl,rfl⟩|⟨rfl,rfl⟩
   ·exact .inl (.head _)
   all_goals exact .inr dP
  ·intro l b h;dsimp only at h;rw[Kx]at h;cases hl:look (uz (some y) j0 nx) l with
   |some c=>
    rw[hl]at h;obtain rfl:=bC h;exact .inl (UD hat hf rfl l c hl)
   |none=>
    rw[hl]at h;obtain⟨k1,k2⟩:=hoff l b h;refine .inr ⟨?_,k1,k2⟩;simp only[uz,PZ,look]at hl;split at hl
    ·cases hl
    ·rename_i e0;split at hl
     ·cases hl
     ·rename_i e1;split at hl
      ·cases hl
      ·rename_i e2;split at hl
       ·cases hl
       ·rename_i e3;split at hl
        ·cases hl
        ·rename_i e4;simp only[nA,aj e0,aj e1,aj e2,aj e3,aj e4,aj (Ne.symm e0),aj (Ne.symm e1),aj (Ne.symm e2),aj (Ne.symm e3),aj (Ne.symm e4)]
end
end
def kF (l:List Int)(i:Int):Int:=if i<0\/(l.length:Int)<=i then 0 else l[i.toNat]!
def NH {v n:Int}(h:0<n)(h2:¬v.tmod n<0):v.tmod n=v%n:=by
 rw[Int.tmod_eq_emod];rw[Int.tmod_eq_emod]at h2;have h3:=Int.emod_nonneg v (show n≠0 by omega);have h4:=Int.emod_lt_of_pos v h;split at h2<;>split<;>first|omega|contradiction
def NG {v n:Int}(h:0<n)(h2:v.tmod n<0):v.tmod n+n=v%n:=by
 rw[Int.tmod_eq_emod]at h2⊢;have h3:=Int.emod_nonneg v (show n≠0 by omega);have h4:=Int.emod_lt_of_pos v h;have h5:(n.natAbs:Int)=n:=ae;split at h2<;>split<;>first|omega|contradiction
def fJ (l:List Int)(i n:Int):Int:=kF l i%n
def ep (l:List Int)(i n:Int)(h:0<n):0<=fJ l i n/\fJ l i n<n:=⟨Int.emod_nonneg _ ae,Int.emod_lt_of_pos _ h⟩
def kA (v n:Int)(h:0<n):0<=v%n/\v%n<n:=⟨Int.emod_nonneg _ ae,Int.emod_lt_of_pos _ h⟩
def tG {α:Type} [Inhabited α]{q:α->D}(xs:List α){j:Nat}(h:j<xs.length):cut (xs.map q) (j*1) 1 false=q xs[j]! :=by
 show(xs.map q).getD (j*1) .any=_;rw[Nat.mul_one];exact getD_map h
def EP {α:Type} [Inhabited α]{q:α->D}(xs:List α){j n:Nat}(h:j<xs.length)(hn:(1==n)=false):pe (.agg (xs.map q)) n 1 (0+j*1) false=q xs[j]! :=by
 have hc:(D.agg (xs.map q)).cells=xs.map q:=by
  rfl
 unfold pe;rw[hn,hc,bK];exact tG xs h
def KG:List aq:=[[97,112,112],[98],[99],[100],[101,45,50]]
def eO (n:Int):aq:=KG[(n%5).toNat]!
def N3:List aq:=[[120],[121],[122],[119,95,49]]
def mC (n:Int):aq:=N3[(n%4).toNat]!
def E6:List Int:=[9,7,6,3,1,2]
def wm (l:List Int)(i:Int):cZ:=⟨E6[(fJ l i 6).toNat]!,3,⟨fJ l (i+1) 3,fJ l (i+2) 2,0,[],[]⟩⟩
def qL (l:List Int)(i:Int):aq:=if(wm l i).op=9 then [42]else dN (wm l i)
def Aj:List aq:=[[111,115],[97,114,99,104],[97,98,105]]
def HB:List aq:=[[32,61,32],[32,33,61,32]]
def lB (l:List Int)(i:Int):aq:=if 2<fJ l i 6 then []else Aj[(fJ l i 6).toNat]! ++HB[(fJ l (i+1) 2).toNat]! ++mC (1+fJ l (i+1) 3)
def A1:List aq:=[[120],[121]]
def oJ (l:List Int)(i:Int)(alone:Bool):List aq:=if alone=true/\2<fJ l (i+5) 5 then A1.take (fJ l (i+5) 5-2).toNat else []
def mB (l:List Int)(i own:Int)(alone:Bool):bD:=⟨eO (own+1+fJ l i 4),qL l (i+1),oJ l i alone,decide (fJ l (i+4) 3=0)⟩
def fX (l:List Int)(i:Int):Nat:=if fJ l i 5=1 then 2 else 1
def tR (l:List Int)(i own:Int)(k:Nat):List bD:=(List.range k).map fun(k:Nat)=>mB l (i+1+6*(k:Nat)) own (decide ((fX l i:Int)=1))
def ie (l:List Int)(i own:Int):ba:=⟨tR l i own (fX l i),lB l (i+14),if fJ l (i+16) 4=1 then mC (kF l (i+17))else []⟩
def HL (l:List Int)(i own:Int)(k:Nat):tR l i own (k+1)=tR l i own k++[mB l (i+1+6*(k:Nat)) own (decide ((fX l i:Int)=1))]:=by
 unfold tR;rw[List.range_succ,List.map_append];rfl
def xJ (l:List Int)(i:Int):fX l i<=2:=by
 unfold fX;split<;>omega
def lY (s:aq):List aq->Nat
 |[]=>0
 |a::r=>if Op.bytesLess a s=true then lY s r+1 else 0
def gP (l:List aq)(s:aq):List aq:=if lY s l<l.length/\l[lY s l]! =s then l else l.take (lY s l)++[s]++l.drop (lY s l)
def BE (s:aq):∀l:List aq,lY s l<=l.length
 |[]=>aM _
 |a::r=>by
  have:=BE s r;simp only[lY,ax];split<;>omega
def BF (s:aq):∀(l:List aq)(i:Nat),i<lY s l->Op.bytesLess l[i]! s=true
 |[],i,h=>by simp[lY]at h
 |a::r,i,h=>by
  simp only[lY]at h;split at h
  ·rename_i ha;cases i with
   |zero=>simpa using ha
   |succ i=>simpa using BF s r i ae
  ·omega
def vl (s:aq):∀l:List aq,lY s l<l.length->Op.bytesLess l[lY s l]! s=false
 |[],h=>by simp at h
 |a::r,h=>by
  simp only[lY]at h⊢;split
  ·rename_i ha;rw[av ha]at h;simpa using vl s r (by simpa using h)
  ·rename_i ha;simpa using ha
def Et (n b:Int):Int:=IntKind.wrap .i64 (((BitVec.ofInt 64 (n.fdiv (2^(min b.toNat 64))))&&&(BitVec.ofInt 64 1)).toNat)
def nM:List aq:=[Ox,[120],[121],[122]]
def J4 (r:Rec)(n:Int)(of:List aq)(j:Nat):List aq:=if ¬r.needs[j]!.option=[]/\Et n (3+(j:Nat))=1 then gP of ([63]++r.needs[j]!.option)else of
def Oz (r:Rec)(n:Int)(of:List aq)(j:Nat):List aq:=if r.needs[j]!.any.length=1/\Et n (5+(j:Nat))=1 then gP of (r.needs[j]!.any[0]!.name++[47]++[120])else of
def OA (r:Rec)(n:Int)(of:List aq)(j:Nat):List aq:=Oz r n (J4 r n of j) j
def qd (r:Rec)(n:Int)(j:Nat):List aq:=(List.range j).foldl (OA r n) []
def M0 (l:List Int)(i:Int)(n:Int)(k:Nat)(of:List aq):List aq:=if(k<3/\Et n 7=1)/\¬kF l (i+(k:Nat)+1)%3=0 then gP of nM[k+1]! else of
def Qg (l:List Int)(i:Int)(r:Rec)(k:Nat):Option bF:=if kF l (i+(k:Nat))%3=0 then none else some ⟨nM[k]!,M0 l i (kF l (i+(k:Nat))) k (qd r (kF l (i+(k:Nat))) (min r.needs.length 2))⟩
def J5 (l:List Int)(i:Int)(r:Rec)(k:Nat):List bF:=(List.range k).filterMap (Qg l i r)
def j9 (l:List Int)(i:Int)(r:Rec):List bF:=J5 l i r 4
def oZ (r:Rec)(n:Int)(j:Nat):qd r n (j+1)=OA r n (qd r n j) j:=by
 unfold qd;rw[List.range_succ,List.foldl_append];rfl
def Qh {l:List Int}{i:Int}{r:Rec}{k:Nat}(h:kF l (i+(k:Nat))%3=0):J5 l i r (k+1)=J5 l i r k:=by
 unfold J5;rw[List.range_succ,List.filterMap_append];simp[Qg,h]
def Ge {l:List Int}{i:Int}{r:Rec}{k:Nat}{of:List aq}(h:¬kF l (i+(k:Nat))%3=0)(ho:M0 l i (kF l (i+(k:Nat))) k (qd r (kF l (i+(k:Nat))) (min r.needs.length 2))=of):J5 l i r (k+1)=J5 l i r k++[⟨nM[k]!,of⟩]:=by
 unfold J5;rw[List.range_succ,List.filterMap_append];simp[Qg,h,ho]
def ra (l:List aq)(s:aq):(gP l s).length<=l.length+1:=by
 unfold gP;split
 ·omega
 ·simp only[bE,dq,jn,ax,az];omega
def MY (r:Rec)(n:Int)(of:List aq)(j:Nat):(J4 r n of j).length<=of.length+1:=by
 unfold J4;split
 ·exact ra _ _
 ·omega
def MZ (r:Rec)(n:Int)(of:List aq)(j:Nat):(Oz r n of j).length<=of.length+1:=by
 unfold Oz;split
 ·exact ra _ _
 ·omega
def Bm (r:Rec)(n:Int):∀j,(qd r n j).length<=2*j
 |0=>by simp[qd]
 |j+1=>by
  have h1:=Bm r n j;have h2:=MY r n (qd r n j) j;have h3:=MZ r n (J4 r n (qd r n j) j) j;rw[oZ,OA];omega
def nG (n:Int):(eO n).length<=3:=by
 obtain⟨h1,h2⟩:=kA n 5 aF;unfold eO;have:(n%5).toNat<5:=ae;revert this;generalize (n%5).toNat=k;revert k;decide
def uQ (n:Int):(mC n).length<=3:=by
 obtain⟨h1,h2⟩:=kA n 4 aF;unfold mC;have:(n%4).toNat<4:=ae;revert this;generalize (n%4).toNat=k;revert k;decide
def H0 (k:Nat)(h:k<3):(Aj[k]!).length<=4:=by
 revert k;decide
def JY (k:Nat)(h:k<2):(HB[k]!).length<=4:=by
 revert k;decide
def MR (l:List Int)(i:Int):(wm l i).v.sm:=⟨by simp[wm],by simp[wm]⟩
def EN:aJ:=⟨2,5,[⟨2,none⟩],ct,(sq (r1 [gm bL] 2 0) (sq (r1 [gm s0,gm s1,gn (.bin .rem l0 l1),gm l2] 3 3) (sq (sq (r1 [gm s3,a8 l0 bL] 4 1) (.cond s4 (r1 [gm s3,gm s1,ay l0 l1,gm l2] 3 3) .skip)) (sq (r1 [gm s3,gm l0] 2 1) .ret))))⟩
def w478 {Y:Ctx}(hm:(Y.at 0).bz)  (v:Int)(n:Int)  (hp0:0<n/\n<=9223372036854775807):dV Y EN (.int .i64 (v%n)) [.int .i64 v,.int .i64 n]:=by
 show bX _ _ _ [⟨_,_⟩,⟨_,_⟩,_,_,_] _;refine au ?_;refine aT ?_;refine GW (v.tmod n) (hn:=by intro _;omega) (hb:=fun _=>rfl) ?_;have ht:=FQ v n ae;refine br ?_;refine cT (fun hc0=>?_) fun hc0=>?_
 ·refine hE ?_;refine fC ?_;exact NG hp0.1 hc0
 refine aK ?_;refine fC ?_;exact NH hp0.1 hc0
def Hf (Y:Ctx):Prop:=∀(v:Int)(n:Int),(0<n/\n<=9223372036854775807)->Y.pre 478 [.int .i64 v,.int .i64 n]/\Y.val 478 [.int .i64 v,.int .i64 n]=.int .i64 (v%n)
def Nr:aJ:=⟨2,4,[⟨2,none⟩],ct,(sq (r1 [gm bL] 2 0) (sq (sq (r1 [gm s1,a8 l0 bL,gm l1,eU 2 s1,eU 2 s0,cE 2 (.len l4),cE 2 (tz l3 l5),fF l2 l6] 3 7) (.cond s3 (sq (r1 [gm bL] 2 0) .ret) .skip)) (sq (r1 [gm s0,gm s1,ga 1 l0 l1,gd l2,gm l3] 2 4) .ret)))⟩
def w479 {Y:Ctx}(hm:(Y.at 0).bz)  (l:List Int)(i:Int)   :dV Y Nr (.int .i64 (kF l i)) [.sl 1 (l.map (D.int .i64)),.int .i64 i]:=by
 show bX _ _ _ [⟨_,_⟩,⟨_,_⟩,_,_] _;refine au ?_;refine dE ?_;refine js ?_;refine aB ?_;refine cT (fun hc0=>?_) fun hc0=>?_
 ·refine aT ?_;refine fC ?_;simp only[kF];rw[av hc0]
 refine aG ?_;refine Lj ?_;refine aG ?_;refine fC ?_;simp only[kF];rw[aj ae]
def Mo (Y:Ctx):Prop:=∀(l:List Int)(i:Int),Y.pre 479 [.sl 1 (l.map (D.int .i64)),.int .i64 i]/\Y.val 479 [.sl 1 (l.map (D.int .i64)),.int .i64 i]=.int .i64 (kF l i)
def H2:aJ:=⟨3,4,[⟨3,none⟩],ct,(sq (r1 [gm bL] 3 0) (sq (r1 [gm s0,gm s1,gx 479 [l0,l1] [[.sl 1 [.a]],[.a]],gm s2,gx 478 [l2,l3] iB,gm l4] 3 5) .ret))⟩
def w228 {Y:Ctx}(hm:(Y.at 0).bz)(h478:Hf Y)(h479:Mo Y)(l:List Int)(i:Int)(n:Int)  (hp0:0<n/\n<=9223372036854775807):dV Y H2 (.int .i64 (fJ l i n)) [.sl 1 (l.map (D.int .i64)),.int .i64 i,.int .i64 n]:=by
 show bX _ _ _ [⟨_,_⟩,⟨_,_⟩,⟨_,_⟩,_] _;refine au ?_;refine aT ?_;refine ar (hc:=h479 l i) ?_;refine aE ?_;refine ar (hc:=h478 _ n hp0) ?_;refine aB ?_;exact fC rfl
def He (Y:Ctx):Prop:=∀(l:List Int)(i:Int)(n:Int),(0<n/\n<=9223372036854775807)->Y.pre 228 [.sl 1 (l.map (D.int .i64)),.int .i64 i,.int .i64 n]/\Y.val 228 [.sl 1 (l.map (D.int .i64)),.int .i64 i,.int .i64 n]=.int .i64 (fJ l i n)
def H3:aJ:=⟨1,2,jh,ct,(sq (r1 [gm cse] 1 0) (sq (r1 [gn (.build [.str [],.str [],.str [],.str [],.str []] [(0,1,(cs [97,112,112])),(1,1,(cs [98])),(2,1,(cs [99])),(3,1,(cs [100])),(4,1,(cs [101,45,50]))]),gm s0,gx 478 [l1,zx] iB,gn (.ixA 5 1 false l0 l2),gm l3] 1 4) .ret))⟩
def w227 {Y:Ctx}(hm:(Y.at 0).bz)(h478:Hf Y)(n:Int)   :dV Y H3 (.str (eO n)) [.int .i64 n]:=by
 show bX _ _ _ [⟨_,_⟩,_] _;refine au ?_;refine aB ?_;have hr:=kA n 5 aF;refine fj (KG.map D.str) ?_;refine aE ?_;refine ar (hc:=h478 n 5 aF) ?_;refine GV (n%5).toNat (.str KG[(n%5).toNat]!) (hj:=fun _=>ae) (hb:=fun _=>ae) (hv:=fun _=>tG KG (by show _<5;omega)) ?_;refine aB ?_;exact cV rfl
def O1 (Y:Ctx):Prop:=∀(n:Int),Y.pre 227 [.int .i64 n]/\Y.val 227 [.int .i64 n]=.str (eO n)
def H7:aJ:=⟨1,2,jh,ct,(sq (r1 [gm cse] 1 0) (sq (r1 [gn (.build [.str [],.str [],.str [],.str []] [(0,1,(cs [120])),(1,1,(cs [121])),(2,1,(cs [122])),(3,1,(cs [119,95,49]))]),gm s0,gx 478 [l1,sj] iB,gn (.ixA 4 1 false l0 l2),gm l3] 1 4) .ret))⟩
def w481 {Y:Ctx}(hm:(Y.at 0).bz)(h478:Hf Y)(n:Int)   :dV Y H7 (.str (mC n)) [.int .i64 n]:=by
 show bX _ _ _ [⟨_,_⟩,_] _;refine au ?_;refine aB ?_;have hr:=kA n 4 aF;refine fj (N3.map D.str) ?_;refine aE ?_;refine ar (hc:=h478 n 4 aF) ?_;refine GV (n%4).toNat (.str N3[(n%4).toNat]!) (hj:=fun _=>ae) (hb:=fun _=>ae) (hv:=fun _=>tG N3 (by show _<4;omega)) ?_;refine aB ?_;exact cV rfl
def Pg (Y:Ctx):Prop:=∀(n:Int),Y.pre 481 [.int .i64 n]/\Y.val 481 [.int .i64 n]=.str (mC n)
def Kr:aJ:=⟨2,6,[⟨2,none⟩],ct,(sq (r1 [gm cse] 2 0) (sq (r1 [gn (.build [.int .i64 0,.int .i64 0,.int .i64 0,.int .i64 0,.int .i64 0,.int .i64 0] [(0,1,CT),(1,1,HX),(2,1,uv),(3,1,jL),(4,1,ch),(5,1,jE)]),gb 6 (.c (.agg [.int .i64 0,.int .i64 0,.int .i64 0,.int .i64 0,.int .i64 0,.int .i64 0])),gt 6 l1 l0] 3 1) (sq (r2 [gm s0,gm s1,gx 228 [l0,l1,uv] [[.sl 1 [.a]],[.a],[.a]],gn (.iaP 6 1 s3 l2),gd l3,gm s0,gm s1,ay l6 ch,gx 228 [l5,l7,jL] [[.sl 1 [.a]],[.a],[.a]],gm s0,gm s1,ay l10 jE,gx 228 [l9,gJ,jE] [[.sl 1 [.a]],[.a],[.a]],gn (.build [.int .i64 0,.int .i64 0,.int .i64 0,.str [],.str []] [(0,1,l8),(1,1,iM)]),gn (.build [.int .i64 0,.int .i64 0,.int .i64 0,.int .i64 0,.int .i64 0,.str [],.str []] [(0,1,l4),(1,1,jL),(2,5,jN)]),gb 7 (.c (.agg [.int .i64 0,.int .i64 0,.int .i64 0,.int .i64 0,.int .i64 0,.str [],.str []])),gt 7 lx ku] 4 15) (sq (sq (r1 [gf 0 s4,gd l0,aO l1 CT] 5 2) (.cond s5 (sq (r1 [gm (cs [42])] 2 0) .ret) .skip)) (sq (r1 [gk 7 true s4,gx 482 [l0] Mc,gm l1] 2 2) .ret)))))⟩
def w230 {Y:Ctx}(hm:(Y.at 0).bz)(h228:He Y)(h482:Mp Y)(l:List Int)(i:Int)  (hp0:0<=i/\i<=4000000):dV Y Kr (.str (qL l i)) [.sl 1 (l.map (D.int .i64)),.int .i64 i]:=by
 show bX _ _ _ [⟨_,_⟩,⟨_,_⟩,_,_,_,_] _;refine au ?_;refine aB ?_;refine fj (E6.map (D.int .i64)) ?_;refine aE ?_;refine aR (.agg (E6.map (D.int .i64))) (he:=aZ) ?_;refine aA ?_;have hr:=ep l i 6 aF;refine aA ?_;refine ar (hc:=h228 l (i) 6 aF) ?_;refine ri (fJ l i 6).toNat (hj:=fun _=>ae) (hb:=fun _=>ae) ?_;refine bA (v:=.int .i64 E6[(fJ l i 6).toNat]!) (hv:=fun _=>EP E6 (by show _<6;omega) rfl) (ho:=ae) ?_;refine aB ?_;refine ar (hc:=h228 l (i+1) 3 aF) ?_;refine aB ?_;refine ar (hc:=h228 l (i+2) 2 aF) ?_;refine bo (cM.D (wm l i).v) ?_;refine bo (cZ.D (wm l i)) ?_;refine aE ?_;refine aR (cZ.D (wm l i)) (he:=aZ) ?_;refine aG ?_;refine bA (v:=.int .i64 (wm l i).op) ?_;refine aA ?_;refine cT (fun hc0=>?_) fun hc0=>?_
 ·refine aT ?_;refine cV ?_;unfold qL;rw[av hc0]
 refine aA ?_;refine c8 (d:=cZ.D (wm l i)) ?_;refine ar (hc:=h482 (wm l i) (MR l i)) ?_;refine aB ?_;refine cV ?_;unfold qL;rw[aj hc0]
def O2 (Y:Ctx):Prop:=∀(l:List Int)(i:Int),(0<=i/\i<=4000000)->Y.pre 230 [.sl 1 (l.map (D.int .i64)),.int .i64 i]/\Y.val 230 [.sl 1 (l.map (D.int .i64)),.int .i64 i]=.str (qL l i)
def H5:aJ:=⟨2,5,[⟨2,none⟩],ct,(sq (r1 [gm cse] 2 0) (sq (r1 [gm s0,gm s1,gx 228 [l0,l1,uv] [[.sl 1 [.a]],[.a],[.a]],gm l2] 3 3) (sq (sq (r1 [gm s3,dn l0 jE] 4 1) (.cond s4 (sq (r1 [gm cse] 2 0) .ret) .skip)) (sq (r2 [gn (.build [.str [],.str [],.str []] [(0,1,(cs [111,115])),(1,1,(cs [97,114,99,104])),(2,1,(cs [97,98,105]))]),gm s3,gn (.ixA 3 1 false l0 l1),gn (.build [.str [],.str []] [(0,1,(cs [32,61,32])),(1,1,(cs [32,33,61,32]))]),gm s0,gm s1,ay l5 ch,gx 228 [l4,l6,jE] [[.sl 1 [.a]],[.a],[.a]],gn (.ixA 2 1 false l3 l7),ay l2 l8,gm s0,gm s1,ay gJ ch,gx 228 [l10,iM,jL] [[.sl 1 [.a]],[.a],[.a]],ay ch jN,gx 481 [ku] ct,ay l9 lx,gm n9] 2 17) .ret))))⟩
def w231 {Y:Ctx}(hm:(Y.at 0).bz)(h228:He Y)(h481:Pg Y)(l:List Int)(i:Int)  (hp0:0<=i/\i<=4000000):dV Y H5 (.str (lB l i)) [.sl 1 (l.map (D.int .i64)),.int .i64 i]:=by
 show bX _ _ _ [⟨_,_⟩,⟨_,_⟩,_,_,_] _;refine au ?_;refine aT ?_;refine ar (hc:=h228 l (i) 6 aF) ?_;refine br ?_;refine aw (fun hc0=>?_) (fun hc0=>?_)
 ·try simp only[iz]at hc0
  refine aT ?_;refine cV ?_;unfold lB;rw[av hc0]
 simp only[bj]at hc0;have hr:=ep l i 6 aF;have hr2:=ep l (i+1) 2 aF;have hr3:=ep l (i+1) 3 aF;have hw:=uQ (1+fJ l (i+1) 3);have hk:=H0 (fJ l i 6).toNat ae;have he:=JY (fJ l (i+1) 2).toNat ae;refine aA ?_;refine fj (Aj.map D.str) ?_;refine aE ?_;refine GV (fJ l i 6).toNat (.str Aj[(fJ l i 6).toNat]!) (hj:=fun _=>ae) (hb:=fun _=>ae) (hv:=fun _=>tG Aj (by show _<3;omega)) ?_;refine fj (HB.map D.str) ?_;refine aB ?_;refine ar (hc:=h228 l (i+1) 2 aF) ?_;refine GV (fJ l (i+1) 2).toNat (.str HB[(fJ l (i+1) 2).toNat]!) (hj:=fun _=>ae) (hb:=fun _=>ae) (hv:=fun _=>tG HB (by show _<2;omega)) ?_;refine cY (hb:=fun _=>ae) ?_;refine aB ?_;refine ar (hc:=h228 l (i+1) 3 aF) ?_;refine aE ?_;refine ar (hc:=h481 _) ?_;refine cY (hb:=fun _=>by simp only[bE];omega) ?_;refine aB ?_;refine cV ?_;unfold lB;rw[aj hc0]
def O3 (Y:Ctx):Prop:=∀(l:List Int)(i:Int),(0<=i/\i<=4000000)->Y.pre 231 [.sl 1 (l.map (D.int .i64)),.int .i64 i]/\Y.val 231 [.sl 1 (l.map (D.int .i64)),.int .i64 i]=.str (lB l i)
def H6:aJ:=⟨4,8,[⟨4,some (4,true)⟩],[[.a,.a,.sl 1 [.a],.a]],(sq (r1 [gb 4 (.c (.agg [.str [],.str [],.aC,.bool false]))] 4 0) (sq (r1 [gm s2,ay l0 ch,gm s0,gm s1,gx 228 [l2,l3,sj] [[.sl 1 [.a]],[.a],[.a]],ay l1 l4,gx 227 [l5] ct,gm s0,gm s1,ay l8 ch,gx 230 [l7,l9] [[.sl 1 [.a]],[.a]],gm s0,gm s1,ay iM sj,gx 228 [gJ,jN,jL] [[.sl 1 [.a]],[.a],[.a]],aO ku bL,gn (.build [.str [],.str [],.aC,.bool false] [(0,1,l6),(1,1,l10),(3,1,lx)]),gb 4 (.c (.agg [.str [],.str [],.aC,.bool false])),gt 4 pV n9] 7 17) (sq (sq (r1 [gm s0,gm s1,ay l1 zx,gx 228 [l0,l2,zx] [[.sl 1 [.a]],[.a],[.a]],gm l3] 5 4) (sq (r1 [gm s3,gm l0,gmt 1 s5,cu 1 (eF l2 jE),fg l1 l3] 6 4) (.cond s6 (rg [gn (.bsl 1 (.str []) 2 [(0,(cs [120])),(1,(cs [121]))]),gm s5,eH l1 jE,gn (.slA 1 l0 none (some l2)),gf 2 s7,gt 1 l4 l3] []) .skip))) (sq (rg [gk 4 true s7,gt 4 s4 l0] []) .ret))))⟩
def w480 {Y:Ctx}(hm:(Y.at 0).bz)(h227:O1 Y)(h228:He Y)(h230:O2 Y)(l:List Int)(i:Int)(own:Int)(alone:Bool)  (hp0:0<=i/\i<=3000000)(hp1:0<=own/\own<=1000000):dV Y H6 (bD.D (mB l i own alone)) [.sl 1 (l.map (D.int .i64)),.int .i64 i,.int .i64 own,.bool alone]:=by
 show bX _ _ _ [⟨_,_⟩,⟨_,_⟩,⟨_,_⟩,⟨_,_⟩,_,_,_,_] _;refine au ?_;refine aB ?_;have hr:=ep l i 4 aF;refine aG ?_;refine ar (hc:=h228 l (i) 4 aF) ?_;refine aE ?_;refine ar (hc:=h227 (own+1+fJ l i 4)) ?_;refine aB ?_;refine ar (hc:=h230 l (i+1) ae) ?_;refine aB ?_;refine ar (hc:=h228 l (i+4) 3 aF) ?_;refine aE ?_;refine bo (.agg [.str (eO (own+1+fJ l i 4)),.str (qL l (i+1)),.aC,.bool (decide (fJ l (i+4) 3=0))]) ?_;refine aE ?_;refine aR (.agg [.str (eO (own+1+fJ l i 4)),.str (qL l (i+1)),.aC,.bool (decide (fJ l (i+4) 3=0))]) (he:=aZ) ?_;refine aK ?_;refine ar (hc:=h228 l (i+5) 5 aF) ?_;refine aG ?_;have hr5:=ep l (i+5) 5 aF;refine aK ?_;refine cT (fun hc0=>?_) fun hc0=>?_
 ·refine aE ?_;refine c7 (A1.map D.str) ?_;refine aA ?_;refine ue (fJ l (i+5) 5-2).toNat (hj:=fun _=>ae) (hb:=fun _=>ae) ?_;refine aE ?_;refine aR (.agg [.str (eO (own+1+fJ l i 4)),.str (qL l (i+1)),(.own 30 1 0 (fJ l (i+5) 5-2).toNat),.bool (decide (fJ l (i+4) 3=0))]) (he:=aZ) ?_;refine aE ?_;have hk:(fJ l (i+5) 5-2).toNat<=A1.length:=by show _<=2;omega
  refine eR 30 ?_ (he:=by simp only[ll,hY,iK,lO,mU,cD,Nat.reduceEqDiff,aH,aI,cr,bU,b9,cL,cN,bK,bI,aM,bR,aP,reduceCtorEq,ax,az,Nat.reduceAdd,Nat.reduceLeDiff,hk,<-List.map_take];exact rfl) (hm:=by simp only[ll,hY,iK,lO,mU,cD,Nat.reduceEqDiff,aH,aI,cr,bU,b9,cL,cN,bK,bI,aM,bR,aP,reduceCtorEq,ax,az,Nat.reduceAdd,Nat.reduceLeDiff,hk,<-List.map_take];exact rfl);refine aE ?_;refine c8 (d:=(.agg [.str (eO (own+1+fJ l i 4)),.str (qL l (i+1)),(.sl 1 ((A1.take (fJ l (i+5) 5-2).toNat).map D.str)),.bool (decide (fJ l (i+4) 3=0))])) ?_;refine aR (.agg [.str (eO (own+1+fJ l i 4)),.str (qL l (i+1)),(.sl 1 ((A1.take (fJ l (i+5) 5-2).toNat).map D.str)),.bool (decide (fJ l (i+4) 3=0))]) (he:=aZ) ?_;refine aA ?_;refine b8 (?_);simp only[bD.D,mB,oJ];rw[av hc0];rfl
 refine aE ?_;have hf:oJ l i alone=[]:=aj (by rintro⟨h1,h2⟩;rcases hc0 with h|h;rw[h]at h1;cases h1;exact h h2);refine lh [(0,.buf 4 [.agg [.str [],.str [],.aC,.bool false]]),(18,.buf 4 [bD.D (mB l i own alone)])] (.id ah (.bf ah (.cons (by simp only[bD.D,mB,hf];exact .ag (.cons (.refl _) (.cons (.refl _) (.cons (.nil 1) (.cons (.refl _) .nil))))) .nil) .nil)) ?_;refine aE ?_;refine c8 (d:=(bD.D (mB l i own alone))) ?_;refine aR (bD.D (mB l i own alone)) (he:=aZ) ?_;refine aA ?_;refine b8 (?_);rfl
def Se (Y:Ctx):Prop:=∀(l:List Int)(i:Int)(own:Int)(alone:Bool),(0<=i/\i<=3000000)->(0<=own/\own<=1000000)->Y.pre 480 [.sl 1 (l.map (D.int .i64)),.int .i64 i,.int .i64 own,.bool alone]/\Y.val 480 [.sl 1 (l.map (D.int .i64)),.int .i64 i,.int .i64 own,.bool alone]=bD.D (mB l i own alone)
def H4:aJ:=⟨3,10,[⟨3,some (3,true)⟩],[[.sl 4 [.a,.a,.sl 1 [.a],.a],.a,.a]],(sq (r1 [gb 3 (.c (.agg [.aC,.str [],.str []]))] 3 0) (sq (r1 [gb 3 (.c (.agg [.aC,.str [],.str []]))] 8 0) (sq (r1 [gm ch] 6 0) (sq (sq (r1 [gm s0,gm s1,gx 228 [l0,l1,zx] [[.sl 1 [.a]],[.a],[.a]],aO l2 ch] 4 3) (.cond s4 (r1 [gm jE] 6 0) .skip)) (sq (sq (r1 [gm bL] 5 0) (.block 0 (.loop (sq (sq (r1 [gm s5,gm s6,a8 l0 l1] 7 2) (fY s7 0)) (sq (.block 1 (rt [gf 0 s8,gd l0,gm s0,gm s1,ay l3 ch,gm s5,gn (.bin .mul uv l5),ay l4 l6,gm s2,gm s6,aO l9 ch,gx 480 [l2,l7,l8,l10] [[.sl 1 [.a]],[.a],[.a],[.a]],gn (.bsl 4 (.agg [.str [],.str [],.aC,.bool false]) 1 [(0,gJ)]),gn (.app 4 l1 iM),gf 0 s8,gt 1 ku jN] [])) (r1 [gm s5,ay l0 ch,gm l1] 5 2)))))) (sq (rg [gm s0,gm s1,ay l1 (i6 14),gx 231 [l0,l2] [[.sl 1 [.a]],[.a]],gf 1 s8,gt 1 l4 l3] []) (sq (sq (r1 [gm s0,gm s1,ay l1 (i6 16),gx 228 [l0,l2,sj] [[.sl 1 [.a]],[.a],[.a]],aO l3 ch] 9 4) (.cond s9 (rg [gm s0,gm s1,ay l1 (i6 17),gx 479 [l0,l2] [[.sl 1 [.a]],[.a]],gx 481 [l3] ct,gf 2 s8,gt 1 l5 l4] []) .skip)) (sq (rg [gk 3 true s8,gt 3 s3 l0] []) .ret))))))))⟩
def w229 {Y:Ctx}(hm:(Y.at 0).bz)(h228:He Y)(h231:O3 Y)(h479:Mo Y)(h480:Se Y)(h481:Pg Y)(l:List Int)(i:Int)(own:Int)  (hp0:0<=i/\i<=2000000)(hp1:0<=own/\own<=1000000):dV Y H4 (ba.D (ie l i own)) [.sl 1 (l.map (D.int .i64)),.int .i64 i,.int .i64 own]:=by
 show bX _ _ _ [⟨_,_⟩,⟨_,_⟩,⟨_,_⟩,_,_,_,_,_,_,_] _;refine au ?_;refine jr ?_;refine ar (hc:=h228 l (i) 5 aF) ?_;refine aA ?_;refine rI hm (ι:=Unit) (fun _=>[⟨true,.sl 1 (l.map (D.int .i64))⟩,⟨true,.int .i64 i⟩,⟨true,.int .i64 own⟩,⟨true,.ptr 0 3 0 0⟩,.un,.un,⟨true,.int .i64 (fX l i:Nat)⟩,.un,⟨true,.ptr 1 3 0 0⟩,.un]) (fun _=>[(0,.buf 3 [.agg [.aC,.str [],.str []]]),(1,.buf 3 [.agg [.aC,.str [],.str []]])]) 20 (fun _=>True) ?_ ?_
 ·refine gN (fun hc0=>?_) fun hc0=>?_
  ·refine aG ?_;have hmn:((fX l i:Nat):Int)=2:=by simp[fX,hc0]
   exact⟨(),trivial,(bg.to [(0,0),(1,1)] ah ah (by repeat(first|exact dz.nil|refine dz.un ?_|refine dz.eq ah ?_|refine dz.nl (ak (D.int .i64) hmn) ah ?_)) rh)⟩
  refine aA ?_;have hmn:((fX l i:Nat):Int)=1:=by simp[fX,hc0]
  exact⟨(),trivial,(bg.to [(0,0),(1,1)] ah ah (by repeat(first|exact dz.nil|refine dz.un ?_|refine dz.eq ah ?_|refine dz.nl (ak (D.int .i64) hmn) ah ?_)) rh)⟩
 ·rintro _-
  have hml:=xJ l i;refine aG ?_;refine bw hm (ι:=(Nat×List bD)) (fun p=>[⟨true,.sl 1 (l.map (D.int .i64))⟩,⟨true,.int .i64 i⟩,⟨true,.int .i64 own⟩,⟨true,.ptr 0 3 0 0⟩,.un,⟨true,.int .i64 (p.1:Nat)⟩,⟨true,.int .i64 (fX l i:Nat)⟩,.un,⟨true,.ptr 1 3 0 0⟩,.un]) (fun p=>[(0,.buf 3 [.agg [.aC,.str [],.str []]]),(1,.buf 3 [(.agg [.own 2 4 0 p.2.length,.str [],.str []])]),(2,.buf 4 (p.2.map bD.D))]) 40 (fun p=>p.1<=fX l i/\p.2=tR l i own p.1) (fun p=>fX l i-p.1) (0,[]) ⟨dP,rfl⟩ (bg.to [(0,0),(1,1)] ah ah pw (by(first|refine aY.ez ah ah cB ?_|refine aY.lr ah ah ah ?_|refine aY.nI ah ah ah ah ?_);refine aY.ni 1 ah ah (by exact⟨_,_,rfl,⟨_,rfl,⟨_,_,rfl,Or.inr ⟨_,_,_,rfl⟩,⟨_,_,rfl,⟨rfl,rfl⟩,⟨_,_,rfl,⟨rfl,rfl⟩,rfl⟩⟩⟩⟩,rfl⟩) ?_;refine aY.mt ah ah ah ah ?_;exact aY.nil)) ?_;rintro⟨k,ws⟩ ⟨hk,hw⟩;dsimp only at hk hw⊢;have hwl:ws.length=k:=by rw[hw];simp[tR]
  refine aK ?_;refine aw (fun hc1=>?_) (fun hc1=>?_)
  ·try simp only[iz]at hc1
   refine dE ?_;refine wZ ?_;refine aG ?_;refine ar (hc:=h480 l (i+1+6*(k:Nat)) own (decide ((fX l i:Int)=1)) ae hp1) ?_;refine c7 [bD.D (mB l (i+1+6*(k:Nat)) own (decide ((fX l i:Int)=1)))] ?_;refine jg (q:=bD.D) (xs:=ws) (e:=mB l (i+1+6*(k:Nat)) own (decide ((fX l i:Int)=1))) ?_;refine aE ?_;refine aR (.agg [.own 56 4 0 (ws++[mB l (i+1+6*(k:Nat)) own (decide ((fX l i:Int)=1))]).length,.str [],.str []]) (he:=aZ) ?_;refine bY ?_;exact⟨(k+1,ws++[mB l (i+1+6*(k:Nat)) own (decide ((fX l i:Int)=1))]),⟨dP,by dsimp only;rw[HL,hw]⟩,dP,(bg.to [(0,0),(1,1),(56,2)] ah ah pw (by(first|refine aY.ez ah ah cB ?_|refine aY.lr ah ah ah ?_|refine aY.nI ah ah ah ah ?_);refine aY.lr ah ah ah ?_;refine aY.nl 56 ah ah rfl (bJ (fun _=>rfl) _) ?_;exact aY.nil))⟩
  simp only[bj]at hc1;obtain rfl:k=fX l i:=ae;refine aK ?_;refine ar (hc:=h231 l (i+14) ae) ?_;refine aE ?_;refine aR (.agg [.own 2 4 0 ws.length,.str (lB l (i+14)),.str []]) (he:=aZ) ?_;refine aK ?_;refine ar (hc:=h228 l (i+16) 4 aF) ?_;refine aA ?_;refine cT (fun hc2=>?_) fun hc2=>?_
  ·refine aG ?_;refine ar (hc:=h479 l (i+17)) ?_;refine ar (hc:=h481 _) ?_;refine aE ?_;refine aR (.agg [.own 2 4 0 ws.length,.str (lB l (i+14)),.str (mC (kF l (i+17)))]) (he:=aZ) ?_;refine aE ?_;refine eR 2 ?_;refine aE ?_;refine c8 (d:=(.agg [.sl 4 (ws.map bD.D),.str (lB l (i+14)),.str (mC (kF l (i+17)))])) ?_;refine aR (.agg [.sl 4 (ws.map bD.D),.str (lB l (i+14)),.str (mC (kF l (i+17)))]) (he:=aZ) ?_;refine aA ?_;refine b8 (?_);simp only[ba.D,ie];rw[av hc2,<-hw];rfl
  refine aE ?_;refine eR 2 ?_;refine aE ?_;refine c8 (d:=(.agg [.sl 4 (ws.map bD.D),.str (lB l (i+14)),.str []])) ?_;refine aR (.agg [.sl 4 (ws.map bD.D),.str (lB l (i+14)),.str []]) (he:=aZ) ?_;refine aA ?_;refine b8 (?_);simp only[ba.D,ie];rw[aj hc2,<-hw];rfl
def RN (Y:Ctx):Prop:=∀(l:List Int)(i:Int)(own:Int),(0<=i/\i<=2000000)->(0<=own/\own<=1000000)->Y.pre 229 [.sl 1 (l.map (D.int .i64)),.int .i64 i,.int .i64 own]/\Y.val 229 [.sl 1 (l.map (D.int .i64)),.int .i64 i,.int .i64 own]=ba.D (ie l i own)
def Ks:aJ:=⟨2,6,[⟨2,none⟩],[[.sl 1 [.a]]],(sq (r1 [gm (.c (.aC))] 2 0) (sq (r1 [gm bL] 3 0) (sq (.block 0 (.loop (sq (sq (r1 [gm s3,gm s0,gl l1,a8 l0 l2,gm l3,gmt 4 s0,gmt 4 s3,cu 4 (.ia 1 l5 l6),kd 4 l7,gmt 4 s1,cu 4 (qa l8 l9),fg l4 l10] 4 11) (fY s4 0)) (.block 1 (r1 [gm s3,ay l0 ch,gm l1] 3 2))))) (sq (sq (r1 [gm s3,gm s0,gl l1,a8 l0 l2,gm l3,gmt 4 s0,gmt 4 s3,cu 4 (.ia 1 l5 l6),kd 4 l7,gmt 4 s1,cu 4 (cP l8 l9),fg l4 l10] 5 11) (.cond s5 (sq (r1 [gm s0,gm l0] 2 1) .ret) .skip)) (sq (r2 [gm s0,gm s3,gn (.slA 1 l0 none (some l1)),gn (.appN 1 l2),gm s1,gn (.bsl 1 (.str []) 1 [(0,l4)]),gn (.app 1 l3 l5),gm s0,gm s3,gn (.slA 1 l7 (some l8) none),gn (.app 1 l6 l9),gm l10] 2 11) .ret)))))⟩
def w483 {Y:Ctx}(hm:(Y.at 0).bz)  (l:List aq)(s:aq)  (hp0:l.length<=1000):dV Y Ks (.sl 1 ((gP l s).map D.str)) [.sl 1 (l.map D.str),.str s]:=by
 show bX _ _ _ [⟨_,_⟩,⟨_,_⟩,_,_,_,_] _;refine au ?_;refine aT ?_;refine bw hm (ι:=Nat) (fun i=>[⟨true,.sl 1 (l.map D.str)⟩,⟨true,.str s⟩,.un,⟨true,.int .i64 (i:Nat)⟩,.un,.un]) (fun i=>[]) 2 (fun i=>i<=lY s l) (fun i=>l.length-i) 0 (Nat.zero_le _) (dS []) ?_;rintro i hi;have hpl:=BE s l;refine aT ?_;intro u0;refine aG ?_;refine cg i ?_;refine cb (v:=.str l[i]!) ?_;refine aG ?_;refine aw (fun hc0=>?_) (fun hc0=>?_)
 ·simp only[bh,aS]at hc0;have hip:i+1<=lY s l:=by
   by_cases he:i=lY s l
   ·have h1:=vl s l ae;rw[<-he,hc0.2]at h1;cases h1
   ·omega
  refine dE ?_;exact⟨i+1,ae,ae,(dS [])⟩
 simp only[dt,bj]at hc0;obtain rfl:i=lY s l:=by
  by_cases he:i<lY s l
  ·have h1:=BF s l i he;rcases hc0 with h|h
   ·omega
   ·rw[h1]at h;cases h
  ·omega
 refine br ?_;intro u1;refine aG ?_;refine cg (lY s l) ?_;refine cb (v:=.str l[lY s l]!) ?_;refine aG ?_;refine cT (fun hc1=>?_) fun hc1=>?_
 ·refine aK ?_;refine b8 (?_);rw[gP,av ⟨ae,hc1.2⟩];rfl
 refine aG ?_;refine py (lY s l) ?_;refine NK (he:=sJ.sl) (n:=(l.take (lY s l)).length) (hn:=aN) (hb:=by simp only[dq];omega) ?_;refine aE ?_;refine c7 [.str s] ?_;refine jg (q:=D.str) (xs:=l.take (lY s l)) (e:=s) (hb:=by simp only[dq];omega) ?_;refine aA ?_;refine rl (lY s l) ?_;refine Lg (xs:=l.take (lY s l)++[s]) (ys:=l.drop (lY s l)) (he:=sJ.sl) (hb:=by simp only[bE,dq,jn,ax,az];omega) ?_;refine aA ?_;refine eR 36 ?_;refine aE ?_;refine b8 (?_);rw[gP,aj (by rintro⟨h1,h2⟩;rcases hc1 with h|h;omega;exact h h2)];rfl
def Sf (Y:Ctx):Prop:=∀(l:List aq)(s:aq),(l.length<=1000)->Y.pre 483 [.sl 1 (l.map D.str),.str s]/\Y.val 483 [.sl 1 (l.map D.str),.str s]=.sl 1 ((gP l s).map D.str)
def zz:aJ:=⟨3,18,[⟨3,none⟩],[[.sl 2 [.a,.sl 1 [.a]]]],(sq (rg [gb 9 s2,gm (.c (.aC))] [(10,0),(3,1)]) (sq (r1 [gm (.c (.aC))] 17 0) (sq (r1 [gn (.build [.str [],.str [],.str [],.str []] [(0,1,(cs [100,101,102,97,117,108,116])),(1,1,(cs [120])),(2,1,(cs [121])),(3,1,(cs [122]))]),gb 4 (.c (.agg [.str [],.str [],.str [],.str []])),gt 4 l1 l0] 8 1) (sq (sq (r1 [gm bL] 4 0) (.block 0 (.loop (sq (sq (r1 [gm s4,a8 l0 sj] 5 1) (fY s5 0)) (sq (.block 1 (sq (r1 [gm s0,gm s1,gm s4,ay l1 l2,gx 479 [l0,l3] [[.sl 1 [.a]],[.a]],gm l4] 6 5) (sq (sq (r1 [gm s6,gx 478 [l0,jL] iB,aO l1 bL] 7 2) (.cond s7 (.exit 1) .skip)) (sq (r1 [gm s4,gn (.iaP 4 1 s8 l0),gd l1,gn (.build [.str [],.aC] [(0,1,l2)]),gb 2 (.c (.agg [.str [],.aC])),gt 2 l4 l3] 14 4) (sq (sq (r1 [gm bL] 9 0) (.block 2 (.loop (sq (sq (r1 [gm s9,gf 6 kZ,gd l1,gl l2,a8 l0 l3,gm l4,gmt 5 s9,cu 5 (qa l6 jE),fg l5 l7] 11 8) (fY nQ 2)) (sq (.block 3 (sq (r1 [gf 6 kZ,gd l0,gm s9,ga 3 l1 l2,gk 3 true l3,gb 3 (.c (.agg [.aC,.str [],.str []])),gt 3 l5 l4] 12 5) (sq (sq (r1 [gf 2 mQ,gd l0,cv l1 cse,gm l2,gmt 3 s6,gmt 3 s9,cu 3 (zQ jL l5),cu 3 (.cvi .u64 l6),cu 3 (.bin .shr l4 l7),cu 3 (JG l8 ch),cu 3 (cP l9 ch),fg l3 l10] 13 11) (.cond rv (rg [gf 1 r8,gd l0,gf 2 mQ,gd l2,ay (cs [63]) l3,gx 483 [l1,l4] [[.sl 1 [.a]],[.a]],gf 1 r8,gt 1 l6 l5] []) .skip)) (sq (r1 [gf 0 mQ,gd l0,gl l1,aO l2 ch,gm l3,gmt 4 s6,gmt 4 s9,cu 4 (zQ zx l6),cu 4 (.cvi .u64 l7),cu 4 (.bin .shr l5 l8),cu 4 (JG l9 ch),cu 4 (cP l10 ch),fg l4 gJ] 15 12) (.cond wD (rt [gf 1 r8,gd l0,gf 0 mQ,gd l2,ga 4 l3 bL,gf 0 l4,gd l5,ay l6 (cs [47]),ay l7 (cs [120]),gx 483 [l1,l8] [[.sl 1 [.a]],[.a]],gf 1 r8,gt 1 l10 l9] []) .skip))))) (r1 [gm s9,ay l0 ch,gm l1] 9 2)))))) (sq (sq (r1 [gm s4,a8 l0 jL,gm l1,gmt 2 s6,cu 2 (.bin .shr l3 (iu 7)),cu 2 (JG l4 ch),cu 2 (cP l5 ch),fg l2 l6,gm l7,gmt 8 s0,gmt 8 s1,gmt 8 s4,cu 8 (zQ l10 gJ),cu 8 (zQ iM ch),cu 8 (.call 479 [l9,jN] [[.sl 1 [.a]],[.a]]),cu 8 (.call 478 [ku,jL] iB),cu 8 (eM lx bL),fg l8 n9] 16 17) (.cond DN (rt [gf 1 r8,gd l0,gm s4,ay l2 ch,gn (.iaP 4 1 s8 l3),gd l4,gx 483 [l1,l5] [[.sl 1 [.a]],[.a]],gf 1 r8,gt 1 l7 l6] []) .skip)) (r1 [gm BY,gk 2 true r8,gn (.bsl 2 (.agg [.str [],.aC]) 1 [(0,l1)]),gn (.app 2 l0 l2),gm l3] 17 4))))))) (r1 [gm s4,ay l0 ch,gm l1] 4 2)))))) (sq (r1 [gm BY,gm l0] 3 1) .ret)))))⟩
def w232 {Y:Ctx}(hm:(Y.at 0).bz)(h478:Hf Y)(h479:Mo Y)(h483:Sf Y)(l:List Int)(i:Int)(r:Rec)  (hp0:0<=i/\i<=2000000)(hp1:∀j:Nat,j<r.needs.length->r.needs[j]!.option.length<=100/\(r.needs[j]!.any.length=1->r.needs[j]!.any[0]!.name.length<=100)):dV Y zz (.sl 2 ((j9 l i r).map bF.D)) [.sl 1 (l.map (D.int .i64)),.int .i64 i,Rec.D r]:=by
 show bX _ _ _ [⟨_,_⟩,⟨_,_⟩,⟨_,_⟩,_,_,_,_,_,_,_,_,_,_,_,_,_,_,_] _;refine au ?_;refine br ?_;refine fj (nM.map D.str) ?_;refine aE ?_;refine aR (.agg (nM.map D.str)) (he:=aZ) ?_;refine aT ?_;refine bw hm (ι:=(Nat×List bF)) (fun p=>[⟨true,.sl 1 (l.map (D.int .i64))⟩,⟨true,.int .i64 i⟩,.un,.un,⟨true,.int .i64 (p.1:Nat)⟩,.un,.un,.un,⟨true,.ptr 4 4 0 0⟩,.un,⟨true,.ptr 0 9 0 0⟩,.un,.un,.un,.un,.un,.un,⟨true,.own 1 2 0 p.2.length⟩]) (fun p=>[(0,.buf 9 [Rec.D r]),(4,.buf 4 [.agg (nM.map D.str)]),(1,.buf 2 (p.2.map bF.D))]) 30 (fun p=>p.1<=4/\p.2=J5 l i r p.1) (fun p=>4-p.1) (0,[]) ⟨dP,rfl⟩ (bg.to [(0,0),(4,4)] ah ah (by repeat(first|exact dz.nil|refine dz.un ?_|refine dz.eq ah ?_|refine dz.ni (Or.inr ⟨_,_,_,rfl⟩) ?_)) (by refine aY.ez ah ah cB ?_;refine aY.ez ah ah cB ?_;refine aY.mt ah ah ah ah ?_;exact aY.nil)) ?_;rintro⟨k,fs⟩ ⟨hk,hf⟩;dsimp only at hk hf⊢;have hfl:fs.length<=k:=by
  rw[hf];unfold J5;exact cW (List.length_filterMap_le _ _) aN
 refine aT ?_;refine aw (fun hc0=>?_) (fun hc0=>?_)
 ·try simp only[iz]at hc0
  refine br ?_;refine ar (hc:=h479 l (i+(k:Nat))) ?_;refine aT ?_;refine ar (hc:=h478 _ 3 aF) ?_;refine aA ?_;refine cT (fun hc1=>?_) fun hc1=>?_
  ·refine bY ?_;exact⟨(k+1,fs),⟨dP,by dsimp only;rw[hf,Qh hc1]⟩,dP,(bg.to [(0,0),(4,4),(1,1)] ah ah pw (by refine aY.ez ah ah cB ?_;refine aY.ez ah ah cB ?_;refine aY.ez ah ah cB ?_;exact aY.nil))⟩
  refine aB ?_;refine ri k (hb:=fun _=>ae) ?_;refine bA (v:=.str nM[k]!) (hv:=fun _=>EP nM (by show _<4;omega) rfl) (ho:=ae) ?_;refine bo (.agg [.str nM[k]!,.aC]) ?_;refine aE ?_;refine aR (.agg [.str nM[k]!,.aC]) (he:=aZ) ?_;refine aE ?_;refine lh [(0,.buf 9 [Rec.D r]),(4,.buf 4 [.agg (nM.map D.str)]),(1,.buf 2 (fs.map bF.D)),(45,.buf 2 [(.agg [.str nM[k]!,.sl 1 ((([]:List aq)).map D.str)])])] (.id ah (.id ah (.id ah (.bf ah (.cons (.ag (.cons (.refl _) (.cons (.nil 1) .nil))) .nil) .nil)))) ?_;refine aG ?_;refine bw hm (ι:=(Nat×List aq)) (fun p=>[⟨true,.sl 1 (l.map (D.int .i64))⟩,⟨true,.int .i64 i⟩,.un,.un,⟨true,.int .i64 (k:Nat)⟩,.un,⟨true,.int .i64 (kF l (i+(k:Nat)))⟩,.un,⟨true,.ptr 4 4 0 0⟩,⟨true,.int .i64 (p.1:Nat)⟩,⟨true,.ptr 0 9 0 0⟩,.un,.un,.un,⟨true,.ptr 2 2 0 0⟩,.un,.un,⟨true,.own 1 2 0 fs.length⟩]) (fun p=>[(0,.buf 9 [Rec.D r]),(4,.buf 4 [.agg (nM.map D.str)]),(1,.buf 2 (fs.map bF.D)),(2,.buf 2 [.agg [.str nM[k]!,.sl 1 (p.2.map D.str)]])]) 60 (fun p=>p.1<=min r.needs.length 2/\p.2=qd r (kF l (i+(k:Nat))) p.1) (fun p=>2-p.1) (0,[]) ⟨dP,rfl⟩ (bg.to [(0,0),(4,4),(1,1),(45,2)] ah ah pw (by refine aY.ez ah ah cB ?_;refine aY.ez ah ah cB ?_;refine aY.ez ah ah cB ?_;refine aY.nl 45 ah ah rfl ah ?_;exact aY.nil)) ?_;rintro⟨j,of⟩ ⟨hj,ho⟩;dsimp only at hj ho⊢;have hol:of.length<=4:=by
   have:=Bm r (kF l (i+(k:Nat))) j;rw[ho];omega
  refine aG ?_;refine bA (v:=.sl 3 (r.needs.map ba.D)) ?_;refine aE ?_;intro u0;refine aK ?_;refine aw (fun hc2=>?_) (fun hc2=>?_)
  ·simp only[bh,aS]at hc2;obtain⟨hpo,hpn⟩:=hp1 j ae;refine aG ?_;refine bA (v:=.sl 3 (r.needs.map ba.D)) ?_;refine aE ?_;refine cg j (hb:=fun _=>ae) ?_;refine cb (v:=ba.D r.needs[j]!) (hi:=fun _=>ae) ?_;refine aE ?_;refine aR (ba.D r.needs[j]!) (he:=aZ) ?_;refine iG ?_;refine vX (3+(j:Nat)) (hb:=fun _=>by rw[IntKind.wrap_u64];omega) ?_;refine GX _ (hb:=fun _=>rfl) ?_;refine BG (Et (kF l (i+(k:Nat))) (3+(j:Nat))) (hb:=fun _=>rfl) ?_;refine aB ?_;refine cT (fun hc3=>?_) fun hc3=>?_
   ·refine aA ?_;refine bA (v:=.sl 1 (of.map D.str)) ?_;refine aE ?_;refine bA (v:=.str r.needs[j]!.option) ?_;refine cY (hb:=fun _=>by simp only[ax,az];omega) ?_;refine ar (hc:=h483 of ([63]++r.needs[j]!.option) ae) ?_;refine aE ?_;refine aR (.agg [.str nM[k]!,.sl 1 ((gP of ([63]++r.needs[j]!.option)).map D.str)]) (he:=aZ) ?_;refine aT ?_;intro u1;refine aT ?_;refine vX (5+(j:Nat)) (hb:=fun _=>by rw[IntKind.wrap_u64];omega) ?_;refine GX _ (hb:=fun _=>rfl) ?_;refine BG (Et (kF l (i+(k:Nat))) (5+(j:Nat))) (hb:=fun _=>rfl) ?_;refine aB ?_;refine gN (fun hc4=>?_) fun hc4=>?_
    ·refine aE ?_;have hpl:=ra of ([63]++r.needs[j]!.option);refine aE ?_;refine bA (v:=.sl 1 (((gP of ([63]++r.needs[j]!.option))).map D.str)) ?_;refine aE ?_;refine bA (v:=.sl 4 (r.needs[j]!.any.map bD.D)) ?_;refine cg 0 (hb:=fun _=>ae) ?_;refine aE ?_;refine cb (v:=.str r.needs[j]!.any[0]!.name) (hi:=fun _=>ae) ?_;refine cY (hb:=fun _=>by have:=hpn ae;simp only[ax,az];omega) ?_;refine cY (hb:=fun _=>by have:=hpn ae;simp only[bE,ax,az];omega) ?_;refine ar (hc:=h483 (gP of ([63]++r.needs[j]!.option)) (r.needs[j]!.any[0]!.name++[47]++[120]) ae) ?_;refine aE ?_;refine aR (.agg [.str nM[k]!,.sl 1 ((gP (gP of ([63]++r.needs[j]!.option)) (r.needs[j]!.any[0]!.name++[47]++[120])).map D.str)]) (he:=aZ) ?_;refine bY ?_;have hA:J4 r (kF l (i+(k:Nat))) of j=gP of ([63]++r.needs[j]!.option):=av hc3;have hB:Oz r (kF l (i+(k:Nat))) (gP of ([63]++r.needs[j]!.option)) j=gP (gP of ([63]++r.needs[j]!.option)) (r.needs[j]!.any[0]!.name++[47]++[120]):=av ⟨ae,hc4.2⟩;have hJ:qd r (kF l (i+(k:Nat))) (j+1)=(gP (gP of ([63]++r.needs[j]!.option)) (r.needs[j]!.any[0]!.name++[47]++[120])):=by rw[oZ,OA,<-ho,hA,hB]
     exact⟨(j+1,(gP (gP of ([63]++r.needs[j]!.option)) (r.needs[j]!.any[0]!.name++[47]++[120]))),⟨dP,hJ.symm⟩,dP,(bg.to [(0,0),(4,4),(1,1),(2,2)] ah ah pw (by refine aY.ez ah ah cB ?_;refine aY.ez ah ah cB ?_;refine aY.ez ah ah cB ?_;refine aY.ez ah ah cB ?_;exact aY.nil))⟩
    refine bY ?_;have hA:J4 r (kF l (i+(k:Nat))) of j=gP of ([63]++r.needs[j]!.option):=av hc3;have hB:Oz r (kF l (i+(k:Nat))) (gP of ([63]++r.needs[j]!.option)) j=(gP of ([63]++r.needs[j]!.option)):=aj (by rintro⟨h1,h2⟩;rcases hc4 with h|h;omega;exact h h2);have hJ:qd r (kF l (i+(k:Nat))) (j+1)=(gP of ([63]++r.needs[j]!.option)):=by rw[oZ,OA,<-ho,hA,hB]
    exact⟨(j+1,(gP of ([63]++r.needs[j]!.option))),⟨dP,hJ.symm⟩,dP,(bg.to [(0,0),(4,4),(1,1),(2,2)] ah ah pw (by refine aY.ez ah ah cB ?_;refine aY.ez ah ah cB ?_;refine aY.ez ah ah cB ?_;refine aY.ez ah ah cB ?_;exact aY.nil))⟩
   refine aT ?_;intro u1;refine aT ?_;refine vX (5+(j:Nat)) (hb:=fun _=>by rw[IntKind.wrap_u64];omega) ?_;refine GX _ (hb:=fun _=>rfl) ?_;refine BG (Et (kF l (i+(k:Nat))) (5+(j:Nat))) (hb:=fun _=>rfl) ?_;refine aB ?_;refine gN (fun hc4=>?_) fun hc4=>?_
   ·refine aE ?_;have hpl:=ra of ([63]++r.needs[j]!.option);refine aE ?_;refine bA (v:=.sl 1 ((of).map D.str)) ?_;refine aE ?_;refine bA (v:=.sl 4 (r.needs[j]!.any.map bD.D)) ?_;refine cg 0 (hb:=fun _=>ae) ?_;refine aE ?_;refine cb (v:=.str r.needs[j]!.any[0]!.name) (hi:=fun _=>ae) ?_;refine cY (hb:=fun _=>by have:=hpn ae;simp only[ax,az];omega) ?_;refine cY (hb:=fun _=>by have:=hpn ae;simp only[bE,ax,az];omega) ?_;refine ar (hc:=h483 of (r.needs[j]!.any[0]!.name++[47]++[120]) ae) ?_;refine aE ?_;refine aR (.agg [.str nM[k]!,.sl 1 ((gP of (r.needs[j]!.any[0]!.name++[47]++[120])).map D.str)]) (he:=aZ) ?_;refine bY ?_;have hA:J4 r (kF l (i+(k:Nat))) of j=of:=aj (by rintro⟨h1,h2⟩;rcases hc3 with h|h;exact h1 h;exact h h2);have hB:Oz r (kF l (i+(k:Nat))) of j=gP of (r.needs[j]!.any[0]!.name++[47]++[120]):=av ⟨ae,hc4.2⟩;have hJ:qd r (kF l (i+(k:Nat))) (j+1)=(gP of (r.needs[j]!.any[0]!.name++[47]++[120])):=by rw[oZ,OA,<-ho,hA,hB]
    exact⟨(j+1,(gP of (r.needs[j]!.any[0]!.name++[47]++[120]))),⟨dP,hJ.symm⟩,dP,(bg.to [(0,0),(4,4),(1,1),(2,2)] ah ah pw (by refine aY.ez ah ah cB ?_;refine aY.ez ah ah cB ?_;refine aY.ez ah ah cB ?_;refine aY.ez ah ah cB ?_;exact aY.nil))⟩
   refine bY ?_;have hA:J4 r (kF l (i+(k:Nat))) of j=of:=aj (by rintro⟨h1,h2⟩;rcases hc3 with h|h;exact h1 h;exact h h2);have hB:Oz r (kF l (i+(k:Nat))) of j=of:=aj (by rintro⟨h1,h2⟩;rcases hc4 with h|h;omega;exact h h2);have hJ:qd r (kF l (i+(k:Nat))) (j+1)=of:=by rw[oZ,OA,<-ho,hA,hB]
   exact⟨(j+1,of),⟨dP,hJ.symm⟩,dP,(bg.to [(0,0),(4,4),(1,1),(2,2)] ah ah pw (by refine aY.ez ah ah cB ?_;refine aY.ez ah ah cB ?_;refine aY.ez ah ah cB ?_;refine aY.ez ah ah cB ?_;exact aY.nil))⟩
  simp only[dt,bj]at hc2;obtain rfl:j=min r.needs.length 2:=ae;subst ho;refine bY ?_;refine GX _ (hb:=fun _=>rfl) ?_;refine BG (Et (kF l (i+(k:Nat))) 7) (hb:=fun _=>rfl) ?_;refine bY ?_;refine fT (hc:=fun hf=>h479 l (i+(k:Nat)+1)) ?_;refine fT (hc:=fun hf=>h478 _ 3 aF) ?_;refine aB ?_;refine cT (fun hc5=>?_) fun hc5=>?_
  ·refine aA ?_;refine bA (v:=.sl 1 ((qd r (kF l (i+(k:Nat))) (min r.needs.length 2)).map D.str)) ?_;refine aA ?_;refine ri (k+1) (hb:=fun _=>ae) ?_;refine bA (v:=.str nM[k+1]!) (hv:=fun _=>EP nM (by show _<4;omega) rfl) (ho:=ae) ?_;refine ar (hc:=h483 (qd r (kF l (i+(k:Nat))) (min r.needs.length 2)) nM[k+1]! ae) ?_;refine aE ?_;refine aR (.agg [.str nM[k]!,.sl 1 ((gP (qd r (kF l (i+(k:Nat))) (min r.needs.length 2)) nM[k+1]!).map D.str)]) (he:=aZ) ?_;refine aB ?_;refine c8 (d:=bF.D ⟨nM[k]!,gP (qd r (kF l (i+(k:Nat))) (min r.needs.length 2)) nM[k+1]!⟩) ?_;refine c7 [bF.D ⟨nM[k]!,gP (qd r (kF l (i+(k:Nat))) (min r.needs.length 2)) nM[k+1]!⟩] ?_;refine jg (q:=bF.D) (xs:=fs) (e:=⟨nM[k]!,gP (qd r (kF l (i+(k:Nat))) (min r.needs.length 2)) nM[k+1]!⟩) ?_;refine dE ?_;have hC:M0 l i (kF l (i+(k:Nat))) k (qd r (kF l (i+(k:Nat))) (min r.needs.length 2))=gP (qd r (kF l (i+(k:Nat))) (min r.needs.length 2)) nM[k+1]! :=av ⟨⟨ae,hc5.1.2⟩,by rw[show i+(k:Nat)+1=i+(k:Int)+1 by omega];exact hc5.2⟩;exact⟨(k+1,fs++[⟨nM[k]!,gP (qd r (kF l (i+(k:Nat))) (min r.needs.length 2)) nM[k+1]!⟩]),⟨dP,by dsimp only;rw[hf];exact(Ge hc1 hC).symm⟩,dP,(bg.to [(0,0),(4,4),(99,1)] ah ah (by repeat(first|exact dz.nil|refine dz.un ?_|refine dz.eq ah ?_|refine dz.ni (Or.inr ⟨_,_,_,rfl⟩) ?_)) (by refine aY.ez ah ah cB ?_;refine aY.ez ah ah cB ?_;refine aY.nl 99 ah ah rfl (bJ (fun _=>rfl) _) ?_;exact aY.nil))⟩
  refine aB ?_;refine c8 (d:=bF.D ⟨nM[k]!,(qd r (kF l (i+(k:Nat))) (min r.needs.length 2))⟩) ?_;refine c7 [bF.D ⟨nM[k]!,(qd r (kF l (i+(k:Nat))) (min r.needs.length 2))⟩] ?_;refine jg (q:=bF.D) (xs:=fs) (e:=⟨nM[k]!,(qd r (kF l (i+(k:Nat))) (min r.needs.length 2))⟩) ?_;refine dE ?_;have hC:M0 l i (kF l (i+(k:Nat))) k (qd r (kF l (i+(k:Nat))) (min r.needs.length 2))=(qd r (kF l (i+(k:Nat))) (min r.needs.length 2)):=aj (by rintro⟨⟨h1,h2⟩,h3⟩;rcases hc5 with(h|h)|h;omega;exact h h2;exact h3 h);exact⟨(k+1,fs++[⟨nM[k]!,(qd r (kF l (i+(k:Nat))) (min r.needs.length 2))⟩]),⟨dP,by dsimp only;rw[hf];exact(Ge hc1 hC).symm⟩,dP,(bg.to [(0,0),(4,4),(90,1)] ah ah (by repeat(first|exact dz.nil|refine dz.un ?_|refine dz.eq ah ?_|refine dz.ni (Or.inr ⟨_,_,_,rfl⟩) ?_)) (by refine aY.ez ah ah cB ?_;refine aY.ez ah ah cB ?_;refine aY.nl 90 ah ah rfl (bJ (fun _=>rfl) _) ?_;exact aY.nil))⟩
 simp only[bj]at hc0;obtain rfl:k=4:=ae;refine aK ?_;refine eR 1 ?_;refine aE ?_;refine b8 (?_);rw[hf];rfl
def RO (Y:Ctx):Prop:=∀(l:List Int)(i:Int)(r:Rec),(0<=i/\i<=2000000)->(∀j:Nat,j<r.needs.length->r.needs[j]!.option.length<=100/\(r.needs[j]!.any.length=1->r.needs[j]!.any[0]!.name.length<=100))->Y.pre 232 [.sl 1 (l.map (D.int .i64)),.int .i64 i,Rec.D r]/\Y.val 232 [.sl 1 (l.map (D.int .i64)),.int .i64 i,Rec.D r]=.sl 2 ((j9 l i r).map bF.D)
def Ls:aq:=[114,99,46,49]
def sZ (l:List Int)(i:Int):aq:=if fJ l (i+2) 9=1 then Ls else []
def uO (l:List Int)(i:Int):aq:=if fJ l (i+2) 9=2 then [55]else []
def HR (l:List Int)(i:Int):cM:=⟨fJ l i 3,fJ l (i+1) 2,0,sZ l i,uO l i⟩
def gK (l:List Int)(i:Int):Nat:=(fJ l (i+3) 4%3).toNat
def Ud (l:List Int)(i:Int):(fJ l (i+3) 4).tmod 3=(gK l i:Int):=by
 have h:=ep l (i+3) 4 aF;rw[Int.tmod_eq_emod_of_nonneg h.1];unfold gK;omega
def OB (l:List Int)(i:Int):gK l i<=2:=by unfold gK;omega
def Ed (l:List Int)(i own:Int)(n:Nat):List ba:=(List.range n).map fun(q:Nat)=>ie l (i+4+20*((gK l i-q:Nat):Int) -20) own
def J8 {l:List Int}{i own:Int}{k:Nat}(hk:k<=gK l i)(h0:0<k):Ed l i own (gK l i-(k-1))=Ed l i own (gK l i-k)++[ie l (i+4+20*(k:Int) -20) own]:=by
 rw[show gK l i-(k-1)=(gK l i-k)+1 by omega];unfold Ed;rw[List.range_succ,List.map_append,List.map_singleton,show gK l i-(gK l i-k)=k by omega]
def qM (l:List Int)(i own:Int):List ba:=Ed l i own (gK l i)
def zq (l:List Int)(i own:Int):fh:=⟨eO (own+1+fJ l (i+46) 4),qL l (i+47),lB l (i+50)⟩
def sE (l:List Int)(i own:Int):List fh:=if fJ l (i+45) 5=1 then [zq l i own]else []
def qe (l:List Int)(i own:Int):Rec:=⟨eO own,HR l i,qM l i own,sE l i own,[]⟩
def qm (l:List Int)(i own:Int):Rec:={qe l i own with feats:=j9 l (i+52) (qe l i own)}
def HK {l:List Int}{i own:Int}{k:Nat}{w:bD}(h:w∈tR l i own k):w.name.length<=3:=by
 obtain⟨q,_,rfl⟩:=fQ.1 h;exact nG _
def uP (l:List Int)(i own:Int):(ie l i own).option.length<=3:=by
 show(if _ then _ else _:aq).length<=3;split
 ·exact uQ _
 ·simp
def HQ (l:List Int)(i own:Int):∀j:Nat,j<(qe l i own).needs.length->(qe l i own).needs[j]!.option.length<=100/\((qe l i own).needs[j]!.any.length=1->(qe l i own).needs[j]!.any[0]!.name.length<=100):=by
 intro j hj;have hm:=bM hj;obtain⟨q,_,hq⟩:=fQ.1 hm;rw[<-hq];generalize i+4+20*((gK l i-q:Nat):Int) -20=x;refine⟨cW (uP _ _ _) aF,fun h=>?_⟩;have h2:=bM (l:=(ie l x own).any) (i:=0) ae;exact cW (HK (k:=fX l x) h2) aF
def CZ:aJ:=⟨3,10,[⟨3,some (9,true)⟩],[[.a,.a,.a,.a,.a,.a,.sl 3 [.sl 4 [.a,.a,.sl 1 [.a],.a],.a,.a],.sl 3 [.a,.a,.a],.sl 2 [.a,.sl 1 [.a]]]],(sq (r1 [gb 9 (.c (.agg [.str [],.int .i64 0,.int .i64 0,.int .i64 0,.str [],.str [],.aC,.aC,.aC]))] 3 0) (sq (r1 [gm s2,gx 227 [l0] ct,gm s0,gm s1,gx 228 [l2,l3,jL] [[.sl 1 [.a]],[.a],[.a]],gm s0,gm s1,ay l6 ch,gx 228 [l5,l7,jE] [[.sl 1 [.a]],[.a],[.a]],gn (.build [.int .i64 0,.int .i64 0,.int .i64 0,.str [],.str []] [(0,1,l4),(1,1,l8)]),gn (.build [.str [],.int .i64 0,.int .i64 0,.int .i64 0,.str [],.str [],.aC,.aC,.aC] [(0,1,l1),(1,5,l9)]),gb 9 (.c (.agg [.str [],.int .i64 0,.int .i64 0,.int .i64 0,.str [],.str [],.aC,.aC,.aC])),gt 9 gJ l10] 5 11) (sq (sq (r1 [gm s0,gm s1,ay l1 jE,gx 228 [l0,l2,CT] [[.sl 1 [.a]],[.a],[.a]],aO l3 ch] 4 4) (.cond s4 (rg [gf 1 s5,gf 3 l0,gt 1 l1 (cs [114,99,46,49])] []) .skip)) (sq (sq (r1 [gm s0,gm s1,ay l1 jE,gx 228 [l0,l2,CT] [[.sl 1 [.a]],[.a],[.a]],aO l3 jE] 6 4) (.cond s6 (rg [gf 1 s5,gf 4 l0,gt 1 l1 (cs [55])] []) .skip)) (sq (sq (r1 [gm s0,gm s1,ay l1 jL,gx 228 [l0,l2,sj] [[.sl 1 [.a]],[.a],[.a]],gn (.bin .rem l3 jL),gm l4] 7 5) (.block 0 (.loop (sq (sq (r1 [gm s7,dn l0 bL] 8 1) (fY s8 0)) (sq (.block 1 (rt [gf 6 s5,gd l0,gm s0,gm s1,ay l3 sj,gm s7,gn (.bin .mul (i6 20) l5),ay l4 l6,eH l7 (i6 20),gm s2,gx 229 [l2,l8,l9] [[.sl 1 [.a]],[.a],[.a]],gn (.bsl 3 (.agg [.aC,.str [],.str []]) 1 [(0,l10)]),gn (.app 3 l1 gJ),gf 6 s5,gt 1 jN iM] [])) (r1 [gm s7,eH l0 ch,gm l1] 7 2)))))) (sq (sq (r1 [gm s0,gm s1,ay l1 (i6 45),gx 228 [l0,l2,zx] [[.sl 1 [.a]],[.a],[.a]],aO l3 ch] 9 4) (.cond s9 (rt [gf 7 s5,gd l0,gm s2,ay l2 ch,gm s0,gm s1,ay l5 (i6 46),gx 228 [l4,l6,sj] [[.sl 1 [.a]],[.a],[.a]],ay l3 l7,gx 227 [l8] ct,gm s0,gm s1,ay gJ (i6 47),gx 230 [l10,iM] [[.sl 1 [.a]],[.a]],gm s0,gm s1,ay lx (i6 50),gx 231 [ku,n9] [[.sl 1 [.a]],[.a]],gn (.build [.str [],.str [],.str []] [(0,1,l9),(1,1,jN),(2,1,pV)]),gn (.bsl 3 (.agg [.str [],.str [],.str []]) 1 [(0,qu)]),gn (.app 3 l1 sn),gf 7 s5,gt 1 zg wv] []) .skip)) (sq (rg [gm s0,gm s1,ay l1 (i6 52),gk 9 true s5,gx 232 [l0,l2,l3] [[.sl 1 [.a]],[.a],[.a,.a,.a,.a,.a,.a,.sl 3 [.sl 4 [.a,.a,.sl 1 [.a],.a],.a,.a],.sl 3 [.a,.a,.a],.sl 2 [.a,.sl 1 [.a]]]],gf 8 s5,gt 1 l5 l4] []) (sq (rg [gk 9 true s5,gt 9 s3 l0] []) .ret))))))))⟩
def w79 {Y:Ctx}(hm:(Y.at 0).bz)(h227:O1 Y)(h228:He Y)(h229:RN Y)(h230:O2 Y)(h231:O3 Y)(h232:RO Y)(l:List Int)(i:Int)(own:Int)  (hp0:0<=i/\i<=1000000)(hp1:0<=own/\own<=100000):dV Y CZ (Rec.D (qm l i own)) [.sl 1 (l.map (D.int .i64)),.int .i64 i,.int .i64 own]:=by
 show bX _ _ _ [⟨_,_⟩,⟨_,_⟩,⟨_,_⟩,_,_,_,_,_,_,_] _;refine au ?_;refine aG ?_;refine ar (hc:=h227 own) ?_;refine aA ?_;refine ar (hc:=h228 l (i) 3 aF) ?_;refine aB ?_;refine ar (hc:=h228 l (i+1) 2 aF) ?_;refine bo (cM.D ⟨fJ l i 3,fJ l (i+1) 2,0,[],[]⟩) ?_;refine bo (.agg [.str (eO own),.int .i64 (fJ l i 3),.int .i64 (fJ l (i+1) 2),.int .i64 0,.str [],.str [],.aC,.aC,.aC]) ?_;refine aE ?_;refine aR (.agg [.str (eO own),.int .i64 (fJ l i 3),.int .i64 (fJ l (i+1) 2),.int .i64 0,.str [],.str [],.aC,.aC,.aC]) (he:=aZ) ?_;refine aK ?_;refine ar (hc:=h228 l (i+2) 9 aF) ?_;refine aA ?_;refine rI hm (ι:=Unit) (fun _=>[⟨true,.sl 1 (l.map (D.int .i64))⟩,⟨true,.int .i64 i⟩,⟨true,.int .i64 own⟩,⟨true,.ptr 0 9 0 0⟩,.un,⟨true,.ptr 12 9 0 0⟩,.un,.un,.un,.un]) (fun _=>[(0,.buf 9 [dh]),(12,.buf 9 [(.agg [.str (eO own),.int .i64 (fJ l i 3),.int .i64 (fJ l (i+1) 2),.int .i64 0,.str (sZ l i),.str [],.aC,.aC,.aC])])]) 30 (fun _=>True) ?_ ?_
 ·refine gN (fun hc0=>?_) fun hc0=>?_
  ·refine aB ?_;refine aR (.agg [.str (eO own),.int .i64 (fJ l i 3),.int .i64 (fJ l (i+1) 2),.int .i64 0,.str Ls,.str [],.aC,.aC,.aC]) (he:=aZ) ?_;refine aA ?_;have hp:sZ l i=Ls:=av hc0;rw[hp];exact⟨(),trivial,(bg.to [(0,0),(12,12)] ah ah pw (by repeat(first|exact aY.nil|refine aY.ez ah ah cB ?_|refine aY.lr ah ah ah ?_)))⟩
  refine aA ?_;have hp:sZ l i=[]:=aj hc0;rw[hp];exact⟨(),trivial,(bg.to [(0,0),(12,12)] ah ah pw (by repeat(first|exact aY.nil|refine aY.ez ah ah cB ?_|refine aY.lr ah ah ah ?_)))⟩
 ·rintro _-
  refine aT ?_;refine ar (hc:=h228 l (i+2) 9 aF) ?_;refine aA ?_;refine rI hm (ι:=Unit) (fun _=>[⟨true,.sl 1 (l.map (D.int .i64))⟩,⟨true,.int .i64 i⟩,⟨true,.int .i64 own⟩,⟨true,.ptr 0 9 0 0⟩,.un,⟨true,.ptr 12 9 0 0⟩,.un,.un,.un,.un]) (fun _=>[(0,.buf 9 [dh]),(12,.buf 9 [(.agg [.str (eO own),.int .i64 (fJ l i 3),.int .i64 (fJ l (i+1) 2),.int .i64 0,.str (sZ l i),.str (uO l i),.aC,.aC,.aC])])]) 40 (fun _=>True) ?_ ?_
  ·refine gN (fun hc1=>?_) fun hc1=>?_
   ·refine aB ?_;refine aR (.agg [.str (eO own),.int .i64 (fJ l i 3),.int .i64 (fJ l (i+1) 2),.int .i64 0,.str (sZ l i),.str [55],.aC,.aC,.aC]) (he:=aZ) ?_;refine aA ?_;have hp:uO l i=[55]:=av hc1;rw[hp];exact⟨(),trivial,(bg.to [(0,0),(12,12)] ah ah pw (by repeat(first|exact aY.nil|refine aY.ez ah ah cB ?_|refine aY.lr ah ah ah ?_)))⟩
   refine aA ?_;have hp:uO l i=[]:=aj hc1;rw[hp];exact⟨(),trivial,(bg.to [(0,0),(12,12)] ah ah pw (by repeat(first|exact aY.nil|refine aY.ez ah ah cB ?_|refine aY.lr ah ah ah ?_)))⟩
  ·rintro _-
   have hK:=OB l i;refine aT ?_;refine ar (hc:=h228 l (i+3) 4 aF) ?_;refine GW ((gK l i:Nat):Int) (hn:=by intro _;omega) (hb:=fun _=>Ud l i) ?_;refine aA ?_;refine bw hm (ι:=(Nat×List ba)) (fun p=>[⟨true,.sl 1 (l.map (D.int .i64))⟩,⟨true,.int .i64 i⟩,⟨true,.int .i64 own⟩,⟨true,.ptr 0 9 0 0⟩,.un,⟨true,.ptr 12 9 0 0⟩,.un,⟨true,.int .i64 (p.1:Nat)⟩,.un,.un]) (fun p=>[(0,.buf 9 [dh]),(12,.buf 9 [(.agg [.str (eO own),.int .i64 (fJ l i 3),.int .i64 (fJ l (i+1) 2),.int .i64 0,.str (sZ l i),.str (uO l i),.own 1 3 0 p.2.length,.aC,.aC])]),(1,.buf 3 (p.2.map ba.D))]) 60 (fun p=>p.1<=gK l i/\p.2=Ed l i own (gK l i-p.1)) (fun p=>p.1) (gK l i,[]) ⟨aM _,by dsimp only;rw[Nat.sub_self];rfl⟩ (bg.to [(0,0),(12,12)] ah ah pw (by refine aY.ez ah ah cB ?_;refine aY.ni 12 ah ah (by exact⟨_,_,rfl,⟨_,rfl,⟨_,_,rfl,⟨rfl,rfl⟩,⟨_,_,rfl,⟨rfl,rfl⟩,⟨_,_,rfl,⟨rfl,rfl⟩,⟨_,_,rfl,⟨rfl,rfl⟩,⟨_,_,rfl,⟨rfl,rfl⟩,⟨_,_,rfl,⟨rfl,rfl⟩,⟨_,_,rfl,Or.inr ⟨_,_,_,rfl⟩,⟨_,_,rfl,Or.inl rfl,⟨_,_,rfl,Or.inl rfl,rfl⟩⟩⟩⟩⟩⟩⟩⟩⟩⟩,rfl⟩) ?_;refine aY.mt ah ah ah ah ?_;exact aY.nil)) ?_;rintro⟨k,ns⟩ ⟨hk,hn⟩;dsimp only at hk hn⊢;have hnl:ns.length<=3:=by rw[hn];simp[Ed];omega
   refine aT ?_;refine aw (fun hc2=>?_) (fun hc2=>?_)
   ·try simp only[iz]at hc2
    refine dE ?_;refine wZ ?_;refine aB ?_;refine ar (hc:=h229 l (i+4+20*(k:Int) -20) own ae ae) ?_;refine c7 [ba.D (ie l (i+4+20*(k:Int) -20) own)] ?_;refine jg (q:=ba.D) (xs:=ns) (e:=ie l (i+4+20*(k:Int) -20) own) ?_;refine aE ?_;refine aR (.agg [.str (eO own),.int .i64 (fJ l i 3),.int .i64 (fJ l (i+1) 2),.int .i64 0,.str (sZ l i),.str (uO l i),.own 74 3 0 (ns++[ie l (i+4+20*(k:Int) -20) own]).length,.aC,.aC]) (he:=aZ) ?_;refine bY ?_;exact⟨(k-1,ns++[ie l (i+4+20*(k:Int) -20) own]),⟨dP,by dsimp only;rw[J8 hk ae,hn]⟩,dP,(bg.to [(0,0),(12,12),(74,1)] ah ah (by repeat(first|exact dz.nil|refine dz.un ?_|refine dz.eq ah ?_|refine dz.nl (ak (D.int .i64) (show((k-1:Nat):Int)=(k:Int) -1 by omega)) ah ?_)) (by refine aY.ez ah ah cB ?_;refine aY.lr ah ah ah ?_;refine aY.nl 74 ah ah rfl (bJ (fun _=>rfl) _) ?_;exact aY.nil))⟩
   simp only[bj]at hc2;obtain rfl:k=0:=ae;obtain rfl:ns=qM l i own:=by rw[hn];rfl
   refine aB ?_;refine eR 1 ?_;refine aG ?_;refine ar (hc:=h228 l (i+45) 5 aF) ?_;refine aA ?_;refine rI hm (ι:=Unit) (fun _=>[⟨true,.sl 1 (l.map (D.int .i64))⟩,⟨true,.int .i64 i⟩,⟨true,.int .i64 own⟩,⟨true,.ptr 0 9 0 0⟩,.un,⟨true,.ptr 12 9 0 0⟩,.un,.un,.un,.un]) (fun _=>[(0,.buf 9 [dh]),(12,.buf 9 [(.agg [.str (eO own),.int .i64 (fJ l i 3),.int .i64 (fJ l (i+1) 2),.int .i64 0,.str (sZ l i),.str (uO l i),(.sl 3 ((qM l i own).map ba.D)),(.own 2 3 0 (sE l i own).length),.aC])]),(2,.buf 3 ((sE l i own).map fh.D))]) 100 (fun _=>True) ?_ ?_
   ·refine gN (fun hc3=>?_) fun hc3=>?_
    ·refine aE ?_;have hr46:=ep l (i+46) 4 aF;refine aE ?_;refine bA (v:=.aC) ?_;refine aT ?_;refine ar (hc:=h228 l (i+46) 4 aF) ?_;refine aE ?_;refine ar (hc:=h227 (own+1+fJ l (i+46) 4)) ?_;refine aB ?_;refine ar (hc:=h230 l (i+47) ae) ?_;refine aB ?_;refine ar (hc:=h231 l (i+50) ae) ?_;refine bo (fh.D (zq l i own)) ?_;refine c7 [fh.D (zq l i own)] ?_;refine Lc (n:=1) (ys:=[fh.D (zq l i own)]) (he:=sJ.all ah rfl) (hn:=rfl) ?_;refine aE ?_;refine aR (.agg [.str (eO own),.int .i64 (fJ l i 3),.int .i64 (fJ l (i+1) 2),.int .i64 0,.str (sZ l i),.str (uO l i),(.sl 3 ((qM l i own).map ba.D)),(.own 87 3 0 1),.aC]) (he:=aZ) ?_;refine aA ?_;have hb:sE l i own=[zq l i own]:=av hc3;rw[hb];exact⟨(),trivial,(bg.to [(0,0),(12,12),(87,2)] ah ah pw (by refine aY.ez ah ah cB ?_;refine aY.lr ah ah ah ?_;refine aY.nl 87 ah ah ah ah ?_;exact aY.nil))⟩
    refine aA ?_;have hb:sE l i own=[]:=aj hc3;rw[hb];exact⟨(),trivial,(bg.to [(0,0),(12,12)] ah ah pw (by refine aY.ez ah ah cB ?_;refine aY.ni 12 ah ah (by exact⟨_,_,rfl,⟨_,rfl,⟨_,_,rfl,⟨rfl,rfl⟩,⟨_,_,rfl,⟨rfl,rfl⟩,⟨_,_,rfl,⟨rfl,rfl⟩,⟨_,_,rfl,⟨rfl,rfl⟩,⟨_,_,rfl,⟨rfl,rfl⟩,⟨_,_,rfl,⟨rfl,rfl⟩,⟨_,_,rfl,⟨rfl,rfl⟩,⟨_,_,rfl,Or.inr ⟨_,_,_,rfl⟩,⟨_,_,rfl,Or.inl rfl,rfl⟩⟩⟩⟩⟩⟩⟩⟩⟩⟩,rfl⟩) ?_;refine aY.mt ah ah ah ah ?_;exact aY.nil))⟩
   ·rintro _-
    refine eR 2 ?_;refine lh [(0,.buf 9 [dh]),(12,.buf 9 [Rec.D (qe l i own)])] (.id ah (.bf ah (.cons (.ag (.cons (.refl _) (.cons (.refl _) (.cons (.refl _) (.cons (.refl _) (.cons (.refl _) (.cons (.refl _) (.cons (.refl _) (.cons (.refl _) (.cons (.nil 2) .nil)))))))))) .nil) .nil)) ?_;refine aG ?_;refine c8 (d:=Rec.D (qe l i own)) ?_;refine ar (hc:=h232 l (i+52) (qe l i own) ae (HQ l i own)) ?_;refine aE ?_;refine aR (Rec.D (qm l i own)) (he:=aZ) ?_;refine aA ?_;refine c8 (d:=Rec.D (qm l i own)) ?_;refine aR (Rec.D (qm l i own)) (he:=aZ) ?_;refine aA ?_;refine b8 (?_);rfl
def C79 (Y:Ctx):Prop:=∀(l:List Int)(i:Int)(own:Int),(0<=i/\i<=1000000)->(0<=own/\own<=100000)->Y.pre 79 [.sl 1 (l.map (D.int .i64)),.int .i64 i,.int .i64 own]/\Y.val 79 [.sl 1 (l.map (D.int .i64)),.int .i64 i,.int .i64 own]=Rec.D (qm l i own)
def C2:∀a b:aq,Op.bytesLess a b=false->a≠b->Op.bytesLess b a=true
 |[],[],_,h=>absurd rfl h
 |[],_::_,h,_=>by simp[Op.bytesLess]at h
 |_::_,[],_,_=>by simp[Op.bytesLess]
 |x::a,y::b,h,hn=>by
  simp only[Op.bytesLess,c9,bj,dt,beq_eq_false_iff_ne]at h;simp only[Op.bytesLess,cR,aS,bh,beq_iff_eq];obtain⟨h1,h2⟩:=h;by_cases e:x=y
  ·subst e;refine .inr ⟨rfl,C2 a b (h2.resolve_left fun h=>h rfl) fun e=>hn (by rw[e])⟩
  ·left;have h3:¬x.toNat<y.toNat:=fun h=>h1 (UInt8.lt_iff_toNat_lt.2 h)
   have h4:x.toNat≠y.toNat:=fun h=>e (jo.1 h)
   exact UInt8.lt_iff_toNat_lt.2 ae
def yv {l:List aq}{s t:aq}(h:t∈gP l s):t∈l\/t=s:=by
 unfold gP at h;split at h
 ·exact .inl h
 ·simp only[List.mem_append,cK]at h;rcases h with(h|h)|h
  ·exact .inl (m8 h)
  ·exact .inr h
  ·exact .inl (List.mem_of_mem_drop h)
def FE (l:List aq):rising l=true↔∀i,1<=i->i<l.length->Op.bytesLess l[i-1]! l[i]! =true:=by
 unfold rising;rw[eE]
def rb {l:List aq}{s:aq}(h:rising l=true):rising (gP l s)=true:=by
 unfold gP;split
 ·exact h
 ·rename_i hn;rw[FE]at h⊢;have hl:=BE s l;have hlt:=BF s l;have hst:=vl s l;generalize lY s l=k at hn hl hlt hst⊢;have hlen:(l.take k++[s]++l.drop k).length=l.length+1:=by
   simp only[bE,dq,jn,ax,az];omega
  have g1:∀j,j<k->(l.take k++[s]++l.drop k)[j]! =l[j]! :=fun j hj=>by
   have a:j<(l.take k).length:=by rw[dq];omega
   have b:j<l.length:=ae;rw[dG,getElem!_pos _ _ (by rw[bE];omega),List.getElem_append_left a,List.getElem_take,getElem!_pos l j b]
  have g2:(l.take k++[s]++l.drop k)[k]! =s:=by
   have a:(l.take k).length=k:=by rw[dq];omega
   rw[dG,getElem!_pos _ _ (by simp only[bE,a,ax];omega),List.getElem_append_right ae];simp[a]
  have g3:∀j,k<j->j<l.length+1->(l.take k++[s]++l.drop k)[j]! =l[j-1]! :=fun j hj hj2=>by
   have a:(l.take k).length=k:=by rw[dq];omega
   have b:(l.take k++[s]).length=k+1:=by rw[bE,a];rfl
   rw[getElem!_pos _ _ (by rw[hlen];omega),List.getElem_append_right ae,List.getElem_drop,getElem!_pos l (j-1) ae];congr 1;omega
  intro i h1 h2;rw[hlen]at h2;rcases Nat.lt_trichotomy i k with hik|hik|hik
  ·rw[g1 i hik,g1 (i-1) ae];exact h i h1 ae
  ·subst hik;rw[g2,g1 (i-1) ae];exact hlt _ ae
  ·rw[g3 i hik h2];by_cases he:i=k+1
   ·subst he;rw[show k+1-1=k from rfl,g2];exact C2 _ _ (hst ae) fun e=>hn ⟨ae,e⟩
   ·rw[g3 (i-1) ae ae];exact h (i-1) ae ae
def E1:∀k,k<5->fZ KG[k]! =true/\KG[k]!.length<=3/\cU (KG[k]! ++[47]++[120])=((3:Int),KG[k]!,([120]:aq)):=by decide+kernel
def Qv:∀a,a<5->∀b,b<5->a≠b->KG[a]! ≠KG[b]! :=by decide+kernel
def Rb:∀k,k<4->cC N3[k]! =true/\cU (([63]:aq)++N3[k]!)=((2:Int),N3[k]!,([]:aq)):=by decide+kernel
def Qe (k a b:Nat):aq:=if E6[k]! =9 then [42]else dN ⟨E6[k]!,3,⟨(a:Nat),(b:Nat),0,[],[]⟩⟩
def NU (s:aq):Prop:=nF s=true/\s.length<=8/\s≠[]/\(∀c∈s,c≠10)
instance (s:aq):Decidable (NU s):=by unfold NU;infer_instance
def C6 (s:aq):Prop:=ml s=true/\s.length<=16/\(∀c∈s,c≠10)
instance (s:aq):Decidable (C6 s):=by unfold C6;infer_instance
def MS:∀k,k<6->∀a,a<3->∀b,b<2->NU (Qe k a b):=by decide+kernel
def L4:∀k,k<3->∀a,a<2->∀b,b<4->C6 (Aj[k]! ++HB[a]! ++N3[b]!):=by decide+kernel
def o9 (n:Int):(n%5).toNat<5/\eO n=KG[(n%5).toNat]! :=by
 have:=kA n 5 aF;exact⟨ae,rfl⟩
def xK (n:Int):fZ (eO n)=true/\(eO n).length<=3:=⟨(E1 _ (o9 n).1).1,(E1 _ (o9 n).1).2.1⟩
def CO (own d:Int)(h0:0<=d)(h1:d<4):eO (own+1+d)≠eO own:=by
 have a:=o9 (own+1+d);have b:=o9 own;rw[a.2,b.2];exact Qv _ a.1 _ b.1 ae
def CP (n:Int):(n%4).toNat<4/\mC n=N3[(n%4).toNat]! :=by
 have:=kA n 4 aF;exact⟨ae,rfl⟩
def CR (n:Int):cC (mC n)=true/\cU (([63]:aq)++mC n)=((2:Int),mC n,([]:aq)):=Rb _ (CP n).1
def wR (l:List Int)(i:Int):NU (qL l i):=by
 have a:=ep l i 6 aF;have b:=ep l (i+1) 3 aF;have c:=ep l (i+2) 2 aF;have:=MS (fJ l i 6).toNat ae (fJ l (i+1) 3).toNat ae (fJ l (i+2) 2).toNat ae;have e:Qe (fJ l i 6).toNat (fJ l (i+1) 3).toNat (fJ l (i+2) 2).toNat=qL l i:=by
  unfold Qe qL wm;simp only[show((fJ l (i+1) 3).toNat:Int)=fJ l (i+1) 3 by omega,show((fJ l (i+2) 2).toNat:Int)=fJ l (i+2) 2 by omega]
 rwa [e]at this
def Ii:C6 []:=by decide+kernel
def qN (l:List Int)(i:Int):C6 (lB l i):=by
 unfold lB;split
 ·exact Ii
 ·rename_i h;have a:=ep l i 6 aF;have b:=ep l (i+1) 2 aF;have c:=CP (1+fJ l (i+1) 3);rw[c.2];exact L4 _ ae _ ae _ c.1
def vN {f:Nat->Int}{n:Nat}(h:∀j,j<n->f j=0):jJ f 0 n=0:=by
 have:∀k i,i+k=n->jJ f i n=0:=by
  intro k;induction k with
  |zero=>intro i e;exact oW ae
  |succ k ih=>intro i e;rw[oX ae (h i ae)];exact ih (i+1) ae
 exact this n 0 ae
def qJ {f:Nat->Int}{n:Nat}(h:∀j,j<n->f j=0):ij f 0 n=(0,0):=by
 have:∀k i,i+k=n->ij f i n=(0,0):=by
  intro k;induction k with
  |zero=>intro i e;exact lM ae
  |succ k ih=>intro i e;rw[lN ae (h i ae)];exact ih (i+1) ae
 exact this n 0 ae
def AV {r:Rec}{nm rg:aq}(h1:fZ nm=true)(h2:nm≠r.name)(h3:nF rg=true):fD r nm rg=0:=by
 unfold fD;rw[aj (by simp[h1]),aj h2,aj (by simp[h3])]
def L9:∀n,iU (A1.take n) true=true
 |0=>aF
 |1=>aF
 |n+2=>by
  have:A1.take (n+2)=A1:=eK (by simp[A1]);rw[this];decide
def HS (l:List Int)(i:Int)(al:Bool):iU (oJ l i al) al=true:=by
 unfold oJ;split
 ·rename_i h;rw[h.1];exact L9 _
 ·cases al<;>decide
def I1 {r:Rec}{own:Int}(hr:r.name=eO own)(l:List Int)(i:Int)(al:Bool):iF r (mB l i own al) al=0:=by
 have h:=ep l i 4 aF;have h1:=AV (r:=r) (xK (own+1+fJ l i 4)).1 (by rw[hr];exact CO own _ h.1 h.2) (wR l (i+1)).1;unfold iF;show(if fD r (eO (own+1+fJ l i 4)) (qL l (i+1))≠0 then _ else if iU (oJ l i al) al=false then _ else _)=_;rw[h1,aj aN,HS,aj aN]
def CN (l:List Int)(i own:Int)(k:Nat):(tR l i own k).length=k:=by simp[tR]
def CM {l:List Int}{i own:Int}{k j:Nat}(h:j<k):(tR l i own k)[j]! =mB l (i+1+6*(j:Nat)) own (decide ((fX l i:Int)=1)):=by
 unfold tR;rw[getElem!_pos _ _ (by simpa using h)];simp
def Aa (l:List Int)(i:Int):1<=fX l i:=by unfold fX;split<;>omega
def Gg (l:List Int)(i own:Int):(ie l i own).option=[]\/∃n,(ie l i own).option=mC n:=by
 show(if _ then _ else _:aq)=[]\/_;split
 ·rename_i h;exact .inr ⟨kF l (i+17),av h⟩
 ·exact .inl rfl
def Ik {r:Rec}{own:Int}(hr:r.name=eO own)(l:List Int)(i:Int):gU r (ie l i own)=0:=by
 have hl:(ie l i own).any.length=fX l i:=CN _ _ _ _;have h1:=Aa l i;have h2:=xJ l i;unfold gU;rw[aj (by rw[hl];omega),aj (by rw[hl];omega)];have hw:mw r (ie l i own).any=0:=by
  unfold mw;refine vN fun j hj=>?_
  rw[hl]at hj⊢;show iF r (tR l i own (fX l i))[j]! _=0;rw[CM hj];exact I1 hr l _ _
 rw[hw,aj aN,aj (by rw[show(ie l i own).when'=lB l (i+14)from rfl,(qN l (i+14)).1];simp)];rcases Gg l i own with h|⟨n,h⟩
 ·rw[aj (by rw[h];simp)]
 ·rw[aj (by rw[h,(CR n).1];simp)]
def M1 (l:List Int)(i own:Int)(n:Nat):(Ed l i own n).length=n:=by simp[Ed]
def wS {l:List Int}{i own:Int}{n:Nat}{x:ba}(h:x∈Ed l i own n):∃k:Int,x=ie l k own:=by
 obtain⟨q,_,rfl⟩:=fQ.1 h;exact⟨_,rfl⟩
def E0 {r:Rec}{l:List Int}{i own:Int}(hr:r.name=eO own)(hn:r.needs=qM l i own):lS r=(0,0):=by
 unfold lS;refine qJ fun j hj=>?_
 obtain⟨k,hk⟩:=wS (show r.needs[j]! ∈Ed l i own (gK l i)by rw[show Ed l i own (gK l i)=r.needs from hn.symm];exact bM hj);rw[hk];exact Ik hr l k
def JH {r:Rec}{own:Int}(hr:r.name=eO own)(l:List Int)(i:Int):oH r (zq l i own)=0:=by
 have h:=ep l (i+46) 4 aF;have h1:=AV (r:=r) (xK (own+1+fJ l (i+46) 4)).1 (by rw[hr];exact CO own _ h.1 h.2) (wR l (i+47)).1;unfold oH;show(if fD r (eO (own+1+fJ l (i+46) 4)) (qL l (i+47))≠0 then _ else if ml (lB l (i+50))=false then _ else _)=_;rw[h1,aj aN,(qN l (i+50)).1,aj aN]
def HN {l:List Int}{i own:Int}{b:fh}(h:b∈sE l i own):b=zq l i own:=by
 unfold sE at h;split at h
 ·simpa using h
 ·cases h
def T7 (l:List Int)(i:Int)(r:Rec)(t:aq):Prop:=(∃m∈r.needs,m.option≠[]/\t=[63]++m.option)\/(∃m∈r.needs,m.any.length=1/\t=m.any[0]!.name++[47]++[120])\/∃k,k<3/\¬kF l (i+(k:Nat)+1)%3=0/\t=nM[k+1]!
def J6 (l:List Int)(i:Int)(r:Rec)(n:Int):∀j,j<=r.needs.length->rising (qd r n j)=true/\∀t∈qd r n j,T7 l i r t
 |0,_=>⟨rfl,fun t ht=>by simp[qd]at ht⟩
 |j+1,hj=>by
  obtain⟨h1,h2⟩:=J6 l i r n j ae;have hm:r.needs[j]! ∈r.needs:=bM ae;have hA:rising (J4 r n (qd r n j) j)=true/\∀t∈J4 r n (qd r n j) j,T7 l i r t:=by
   unfold J4;split
   ·rename_i h;refine⟨rb h1,fun t ht=>?_⟩;rcases yv ht with ht|rfl
    ·exact h2 t ht
    ·exact .inl ⟨_,hm,h.1,rfl⟩
   ·exact⟨h1,h2⟩
  obtain⟨h3,h4⟩:=hA;rw[oZ,OA];unfold Oz;split
  ·rename_i h;refine⟨rb h3,fun t ht=>?_⟩;rcases yv ht with ht|rfl
   ·exact h4 t ht
   ·exact .inr (.inl ⟨_,hm,h.1,rfl⟩)
  ·exact⟨h3,h4⟩
def Qf (l:List Int)(i:Int)(r:Rec)(n:Int)(k j:Nat)(hj:j<=r.needs.length):rising (M0 l i n k (qd r n j))=true/\(∀t∈M0 l i n k (qd r n j),T7 l i r t)/\(M0 l i n k (qd r n j)).length<=2*j+1:=by
 obtain⟨h1,h2⟩:=J6 l i r n j hj;have h3:=Bm r n j;unfold M0;split
 ·rename_i h;refine⟨rb h1,fun t ht=>?_,cW (ra _ _) ae⟩;rcases yv ht with ht|rfl
  ·exact h2 t ht
  ·exact .inr (.inr ⟨k,h.1.1,h.2,rfl⟩)
 ·exact⟨h1,h2,ae⟩
def sY {l:List Int}{i:Int}{r:Rec}{f:bF}(h:f∈j9 l i r):∃k,k<4/\f.name=nM[k]! /\¬kF l (i+(k:Nat))%3=0/\rising f.of=true/\(∀t∈f.of,T7 l i r t)/\f.of.length<=5:=by
 obtain⟨k,hk,he⟩:=List.mem_filterMap.1 h;rw[List.mem_range]at hk;unfold Qg at he;split at he
 ·cases he
 ·rename_i hn;obtain rfl:=bC he;obtain⟨a,b,c⟩:=Qf l i r (kF l (i+(k:Nat))) k (min r.needs.length 2) ae;exact⟨k,hk,rfl,hn,a,b,dP⟩
def EF {l:List Int}{i:Int}{r:Rec}{k:Nat}(hk:k<4)(h:¬kF l (i+(k:Nat))%3=0):∃f∈j9 l i r,f.name=nM[k]! :=by
 have e:Qg l i r k=some ⟨nM[k]!,M0 l i (kF l (i+(k:Nat))) k (qd r (kF l (i+(k:Nat))) (min r.needs.length 2))⟩:=aj h;exact⟨_,List.mem_filterMap.2 ⟨k,List.mem_range.2 hk,e⟩,rfl⟩
def HH {fs:List bF}{nm:aq}(h:∃f∈fs,f.name=nm):0<=findF fs nm 0:=by
 unfold findF;rw[bR];cases e:fs.findIdx? (fun x=>decide (x.name=nm))with
 |some k=>simp
 |none=>
  rw[List.findIdx?_eq_none_iff]at e;obtain⟨f,hf,hn⟩:=h;have:=e f hf;simp[hn]at this
def C9:∀k,k<4->cU nM[k]! =((1:Int),nM[k]!,([]:aq))/\cC nM[k]! =true:=by decide+kernel
def KH:∀a,a<4->∀b,b<4->a<b->Op.bytesLess nM[a]! nM[b]! =true:=by decide+kernel
def HO (l:List Int)(i:Int)(r:Rec):(j9 l i r).Pairwise fun a b=>Op.bytesLess a.name b.name=true:=by
 unfold j9 J5;refine List.Pairwise.filterMap _ (R:=fun a b=>a<b/\b<4) ?_ aF;intro a b hab x hx y hy;have e:∀{k:Nat} {z:bF},Qg l i r k=some z->z.name=nM[k]! :=fun {k z} h=>by
  unfold Qg at h;split at h
  ·cases h
  ·rw[<-bC h]
 rw[e hx,e hy];exact KH a ae b hab.2 hab.1
def xI (l:List Int)(i:Int)(r:Rec):(j9 l i r).length<=4:=by
 unfold j9 J5;exact cW (List.length_filterMap_le _ _) aN
def NdG (r:Rec):Prop:=∀m∈r.needs,(m.option=[]\/∃n,m.option=mC n)/\(m.any.length=1->∃n,m.any[0]!.name=eO n)
def CV {l:List Int}{i:Int}{r r2:Rec}{t:aq}(h:T7 l i r t)(hr:NdG r)(hn:r2.needs=r.needs)(hf:r2.feats=j9 l i r):iL r2.feats t=true/\jF r2 t=0/\t.length<=7:=by
 rcases h with⟨m,hm,h1,rfl⟩|⟨m,hm,h1,rfl⟩|⟨k,hk,h1,rfl⟩
 ·obtain⟨n,e⟩:=(hr m hm).1.resolve_left h1;have hx:=(CR n).2;have hl:=uQ n;rw[e];refine⟨by unfold iL;rw[hx];rfl, ?_,by simp only[bE,ax,az];omega⟩;unfold jF;rw[hx];have:BC r2.needs (mC n)=true:=by
   unfold BC;rw[List.any_eq_true];exact⟨m,by rw[hn];exact hm,by simp[e]⟩
  simp[this]
 ·obtain⟨n,e⟩:=(hr m hm).2 h1;have hx:=(E1 _ (o9 n).1).2.2;have hl:=nG n;rw[<-(o9 n).2]at hx;rw[e];generalize eO n=w at e hx hl;refine⟨by unfold iL;rw[hx];rfl, ?_,by simp only[bE,ax,az];omega⟩;have:ud r2.needs w=true:=by
   unfold ud;rw[List.any_eq_true];exact⟨m,by rw[hn];exact hm,by rw[e,h1];simp⟩
  unfold jF;rw[hx,aj aN,aj (by rw[this];simp)]
 ·have hx:=(C9 (k+1) ae).1;have hl:∀k,k<4->nM[k]!.length<=7:=aF
  refine⟨?_,by unfold jF;rw[hx];simp,hl _ ae⟩;have:Nf r2.feats nM[k+1]! =true:=by
   unfold Nf;rw[hf,cR];right;rw[aS];exact HH (EF (k:=k+1) ae (by rw[show i+((k+1:Nat):Int)=i+(k:Nat)+1 by omega];exact h1))
  unfold iL;rw[hx];dsimp only;rw[this];rfl
def QG {α:Type} [Inhabited α]{R:α->α->Prop}{l:List α}(h:l.Pairwise R){i:Nat}(h0:0<i)(hi:i<l.length):R l[i-1]! l[i]! :=by
 rw[getElem!_pos l _ ae,getElem!_pos l _ hi];exact List.pairwise_iff_getElem.1 h _ _ ae hi ae
def HG {l:List Int}{i:Int}{r r2:Rec}(hr:NdG r)(hn:r2.needs=r.needs)(hf:r2.feats=j9 l i r):gp r2.feats=true/\sS r2=(0,0):=by
 have hit:∀f∈r2.feats,∀t∈f.of,iL r2.feats t=true/\jF r2 t=0/\t.length<=7:=fun f hf' t ht=>by
  obtain⟨k,_,_,_,_,h,_⟩:=sY (show f∈j9 l i r by rw[<-hf];exact hf');exact CV (h t ht) hr hn hf
 constructor
 ·have hlen:=xI l i r;unfold gp;rw[bh,aS,eE];refine⟨by rw[hf];omega,fun j _ hj=>?_⟩;have hm:r2.feats[j]! ∈r2.feats:=bM hj;obtain⟨k,hk,e1,e2,e3,e4,e5⟩:=sY (show r2.feats[j]! ∈j9 l i r by rw[<-hf];exact hm);unfold jI;rw[e1,(C9 k hk).2,fA,bh];constructor
  ·by_cases h0:0<j
   ·have:=QG (HO l i r) h0 (by rw[<-hf];exact hj);rw[<-hf,e1]at this;rw[this];simp
   ·simp[h0]
  ·unfold kO;rw[bh,bh,aS,eE];exact⟨⟨ae,e3⟩,fun q _ hq=>(hit _ hm _ (bM hq)).1⟩
 ·unfold sS;refine qJ fun j hj=>?_
  unfold kf;exact vN fun q hq=>(hit _ (bM hj) _ (bM hq)).2.1
def oY {α:Type}{f:α->aq}{B:Nat}:∀{l:List α},(∀x∈l,(f x).length<=B)->((l.map f).flatten).length<=l.length*B
 |[],_=>aN
 |a::r,h=>by
  have h1:=h a (.head _);have h2:=oY (l:=r) fun x hx=>h x (.tail _ hx)
  simp only[List.map_cons,List.flatten_cons,bE,ax,Nat.succ_mul];omega
def nK {l:List aq}{B n:Nat}(h:∀t∈l,t.length<=B)(hn:l.length<=n):(cw l).length<=n*(B+1)+1:=by
 have h1:=nJ 32 B l h;have h2:=ff (B+1) hn;simp only[cw,bE,ax,az];omega
def Hc (w:bD):Prop:=w.name.length<=3/\w.range.length<=8/\(w.feats=[]\/w.feats=A1.take 1\/w.feats=A1)
def I8 (n:Nat):A1.take n=[]\/A1.take n=A1.take 1\/A1.take n=A1:=by
 match n with
 |0=>exact .inl rfl
 |1=>exact .inr (.inl rfl)
 |n+2=>exact .inr (.inr (eK (by simp[A1])))
def Ac (l:List Int)(i own:Int)(al:Bool):Hc (mB l i own al):=by
 refine⟨nG _,(wR l (i+1)).2.1, ?_⟩;show oJ l i al=[]\/oJ l i al=A1.take 1\/oJ l i al=A1;unfold oJ;split
 ·exact I8 _
 ·exact .inl rfl
def I2 {w:bD}(h:Hc w):(cw (nt w)).length<=46:=by
 refine nK (B:=8) (n:=5) (fun t ht=>?_) (by simp[nt]);simp only[nt,dr,gw,or_false]at ht;rcases ht with rfl|rfl|rfl|rfl|rfl
 ·decide
 ·have:=h.1;omega
 ·rcases h.2.2 with e|e|e<;>rw[e]<;>decide
 ·split<;>decide
 ·exact h.2.1
def AU {s:aq}(h:s.length<=16):(iE s).length<=35:=by
 unfold iE;split
 ·simp
 ·exact nK (B:=16) (n:=2) (fun t ht=>by
   simp only[dr,gw,or_false]at ht;rcases ht with rfl|rfl
   ·decide
   ·exact h) aN
def KT {s:aq}(h:s.length<=6):(su s).length<=15:=by
 unfold su;split
 ·simp
 ·exact nK (B:=6) (n:=2) (fun t ht=>by
   simp only[dr,gw,or_false]at ht;rcases ht with rfl|rfl
   ·decide
   ·exact h) aN
def HP (l:List Int)(i own:Int):(qU (ie l i own)).length<=160:=by
 have h1:=oY (f:=fun w=>cw (nt w)) (B:=46) (l:=(ie l i own).any) fun w hw=>by
  obtain⟨q,_,rfl⟩:=fQ.1 (show w∈tR l i own (fX l i)from hw);exact I2 (Ac _ _ _ _)
 have h2:(ie l i own).any.length<=2:=by rw[show(ie l i own).any.length=fX l i from CN _ _ _ _];exact xJ l i
 have h3:=AU (qN l (i+14)).2.1;have h4:=KT (s:=(ie l i own).option) (cW (uP l i own) aF);have h5:(cw [eQ]).length<=6:=aF;unfold qU;simp only[bE];show _+(((ie l i own).any.map fun w=>cw (nt w)).flatten).length+(iE (lB l (i+14))).length+_<=_;omega
def JI {b:fh}(h:b.name.length<=3/\b.range.length<=8/\b.when'.length<=16):(wi b).length<=63:=by
 have h1:=nK (B:=8) (n:=3) (l:=[ic,b.name,b.range]) (fun t ht=>by
  simp only[dr,gw,or_false]at ht;rcases ht with rfl|rfl|rfl
  ·decide
  ·omega
  ·exact h.2.1) aN
 have h2:=AU h.2.2;unfold wi;rw[bE];omega
def J7 (l:List Int)(i own:Int):(zq l i own).name.length<=3/\(zq l i own).range.length<=8/\(zq l i own).when'.length<=16:=⟨nG _,(wR l (i+47)).2.1,(qN l (i+50)).2.1⟩
def HE {f:bF}(h:f.name.length<=7/\f.of.length<=5/\∀t∈f.of,t.length<=7):(qI f).length<=57:=by
 refine nK (B:=7) (n:=7) (fun t ht=>?_) cX;simp only[List.mem_append,dr,gw,or_false]at ht;rcases ht with(rfl|rfl)|ht
 ·decide
 ·exact h.1
 ·exact h.2.2 t ht
structure xg (l:List Int)(i own:Int)(r:Rec):Prop where
 nm:r.name=eO own
 ns:r.needs=qM l i own
 v:iW r.v=true/\r.v.pre.length<=4/\r.v.build.length<=1
 bl:r.bars.length<=2
 b:∀b∈r.bars,oH r b=0/\b.name.length<=3/\b.range.length<=8/\b.when'.length<=16
 fs:gp r.feats=true/\sS r=(0,0)
 fl:r.feats.length<=4
 f:∀f∈r.feats,f.name.length<=7/\f.of.length<=5/\∀t∈f.of,t.length<=7
def xM (l:List Int)(i own:Int):(qM l i own).length<=2:=by rw[qM,M1];exact OB l i
def xg.good {l:List Int}{i own:Int}{r:Rec}(h:xg l i own r):qP r:=by
 have h1:=xM l i own;have h2:=h.bl;refine⟨⟨by rw[h.nm];exact(xK own).1,h.v.1⟩,⟨by rw[h.ns];omega,ae⟩,qY (E0 h.nm h.ns) ?_ h.fs.1 h.fs.2⟩;unfold sB;exact qJ fun j hj=>(h.b _ (bM hj)).1
def xg.sm {l:List Int}{i own:Int}{r:Rec}(h:xg l i own r):gV r:=by
 refine⟨⟨by rw[h.nm];exact cW (nG own) aF,cW h.v.2.1 aF,cW h.v.2.2 aF⟩,fun n hn=>?_,fun b hb=>?_,fun f hf=>?_⟩
 ·obtain⟨k,rfl⟩:=wS (show n∈Ed l i own (gK l i)by rw[show Ed l i own (gK l i)=r.needs from h.ns.symm];exact hn);refine⟨fun w hw=>?_,cW (qN l (k+14)).2.1 aF,cW (uP l k own) aF⟩;obtain⟨q,_,rfl⟩:=fQ.1 (show w∈tR l k own (fX l k)from hw);obtain⟨a,b,c⟩:=Ac l (k+1+6*(q:Nat)) own (decide ((fX l k:Int)=1));refine⟨⟨cW a aF,cW b aF⟩,fun t ht=>?_⟩;have hx:∀t∈A1,t.length<=1048576:=aF
  rcases c with e|e|e<;>rw[e]at ht
  ·cases ht
  ·exact hx t (m8 ht)
  ·exact hx t ht
 ·obtain⟨_,a,b,c⟩:=h.b b hb;exact⟨cW a aF,cW b aF,cW c aF⟩
 ·obtain⟨a,b,c⟩:=h.f f hf;exact⟨cW a aF,cW b aF,fun t ht=>cW (c t ht) aF⟩
def L1 {v:cM}(h:iW v=true/\v.pre.length<=4/\v.build.length<=1):(mL v).length<=30:=by
 obtain⟨h1,h2,h3⟩:=h;have hv:=h1;simp only[iW,nw,bh,aS]at h1;have a:=eG 4 v.major.toNat ae ae;have b:=eG 4 v.minor.toNat ae ae;have c:=eG 4 v.patch.toNat ae ae;unfold mL;rw[av hv,IZ];have d:(coreS v).length<=14:=by
  unfold coreS;simp only[bE,ax,az];omega
 simp only[bE];split<;>split<;>simp only[ax,az]<;>omega
def xg.len {l:List Int}{i own:Int}{r:Rec}(h:xg l i own r):(iT r).length<=800:=by
 have h1:(qQ r).length<=94:=nK (B:=30) (n:=3) (fun t ht=>by
  simp only[dr,gw,or_false]at ht;rcases ht with rfl|rfl|rfl
  ·decide
  ·rw[h.nm];exact cW (nG own) aF
  ·exact L1 h.v) aN
 have h2:=oY (f:=qU) (B:=160) (l:=r.needs) fun n hn=>by
  obtain⟨k,rfl⟩:=wS (show n∈Ed l i own (gK l i)by rw[show Ed l i own (gK l i)=r.needs from h.ns.symm];exact hn);exact HP l k own
 have h3:=oY (f:=wi) (B:=63) (l:=r.bars) fun b hb=>JI (h.b b hb).2
 have h4:=oY (f:=qI) (B:=57) (l:=r.feats) fun f hf=>HE (h.f f hf)
 have h5:=xM l i own;have h6:=h.bl;have h7:=h.fl;rw[h.ns]at h2;unfold iT;rw[h.ns];simp only[bE];omega
def xg.check {l:List Int}{i own:Int}{r:Rec}(h:xg l i own r):cH r=(0,0):=by
 obtain⟨⟨a,b⟩,⟨c,d⟩,e⟩:=h.good;rw[qB a b ae ae e,aj (by have:=h.len;omega)]
def xg.print {l:List Int}{i own:Int}{r:Rec}(h:xg l i own r):iq r=(iT r,0):=by
 unfold iq;rw[h.check,aj aN]
def M3 (l:List Int)(i:Int):iW (HR l i)=true/\(HR l i).pre.length<=4/\(HR l i).build.length<=1:=by
 have a:=ep l i 3 aF;have b:=ep l (i+1) 2 aF;have key:∀x,x<3->∀y,y<2->∀p∈[([]:aq),Ls],∀q∈[([]:aq),[55]],iW ⟨(x:Nat),(y:Nat),0,p,q⟩=true:=by decide+kernel
 have hp:sZ l i∈[([]:aq),Ls]:=by unfold sZ;split<;>simp
 have hq:uO l i∈[([]:aq),[55]]:=by unfold uO;split<;>simp
 have h:=key (fJ l i 3).toNat ae (fJ l (i+1) 2).toNat ae _ hp _ hq;have e:(⟨((fJ l i 3).toNat:Int),((fJ l (i+1) 2).toNat:Int),0,sZ l i,uO l i⟩:cM)=HR l i:=by
  unfold HR;simp only[show((fJ l i 3).toNat:Int)=fJ l i 3 by omega,show((fJ l (i+1) 2).toNat:Int)=fJ l (i+1) 2 by omega]
 rw[e]at h;refine⟨h, ?_, ?_⟩
 ·show(sZ l i).length<=4;unfold sZ;split<;>decide
 ·show(uO l i).length<=1;unfold uO;split<;>decide
def Ab (l:List Int)(i own:Int):NdG (qe l i own):=by
 intro m hm;obtain⟨k,rfl⟩:=wS (show m∈Ed l i own (gK l i)from hm);refine⟨Gg l k own,fun h=>?_⟩;have h1:0<fX l k:=by have:=Aa l k;omega
 have:=CM (l:=l) (i:=k) (own:=own) h1;exact⟨_,ak bD.name this⟩
def HM (l:List Int)(i own:Int):(sE l i own).length<=1:=by unfold sE;split<;>simp
def Ny:∀k,k<4->nM[k]!.length<=7:=aF
def J9 (l:List Int)(i own:Int):xg l i own (qm l i own):=by
 have hf:=HG (r:=qe l i own) (r2:=qm l i own) (l:=l) (i:=i+52) (Ab l i own) rfl rfl;refine⟨rfl,rfl,M3 l i,cW (HM l i own) aF,fun b hb=>?_,hf,xI _ _ _,fun f hf2=>?_⟩
 ·obtain rfl:=HN (show b∈sE l i own from hb);exact⟨JH rfl l i,J7 l i own⟩
 ·obtain⟨k,hk,e,_,_,hi,hl⟩:=sY (show f∈j9 l (i+52) (qe l i own)from hf2);refine⟨by rw[e];exact Ny k hk,hl,fun t ht=>?_⟩;exact(CV (r2:=qm l i own) (hi t ht) (Ab l i own) rfl rfl).2.2
end Go.Abs
section
namespace Go.Abs
def fw (t:aq):aq:=(ai t 32)[0]!
def hd (R:List aq):Option aq:=R.head?.map fw
end Go.Abs
namespace Go.Abs
end Go.Abs
end
namespace Go.Abs
def yz:aJ:=⟨2,6,[⟨2,none⟩],ct,(sq (r1 [gm dj] 2 0) (sq (sq (r1 [gm bL] 3 0) (.block 0 (.loop (sq (sq (r1 [gm s3,gm s0,gl l1,a8 l0 l2] 4 3) (fY s4 0)) (sq (.block 1 (sq (r1 [gm s0,gm s3,ga 1 l0 l1,gd l2,gx 357 [l3] ct,ke l4] 5 5) (.cond s5 (sq (r1 [gm dj] 2 0) .ret) .skip))) (r1 [gm s3,ay l0 ch,gm l1] 3 2)))))) (sq (r1 [gm s0,gl l0,ya l1 uv,gm l2,gmt 3 s0,cu 3 (.call 815 [l4] [[.sl 1 [.a]]]),fg l3 l5,gm l6,gmt 7 s1,gmt 7 l8,eU 9 s0,cE 9 (.len l10),cE 9 (cP gJ bL),Qj 7 l9 iM,fg l7 jN,gm ku] 2 15) .ret)))⟩
def w812 {Y:Ctx}(hm:(Y.at 0).bz)(h357:Ek Y)(h815:Pw Y)(l:List aq)(al:Bool)   :dV Y yz (.bool (iU l al)) [.sl 1 (l.map D.str),.bool al]:=by
 show bX _ _ _ [⟨_,_⟩,⟨_,_⟩,_,_,_,_] _;refine au ?_;refine aK ?_;refine bw hm (ι:=Nat) (fun i=>[⟨true,.sl 1 (l.map D.str)⟩,⟨true,.bool al⟩,.un,⟨true,.int .i64 (i:Nat)⟩,.un,.un]) (fun i=>[]) 2 (fun i=>i<=l.length/\iU l al=(cO (fun i=>cC l[i]!) i l.length&&((decide (l.length<=6)&&rising l)&&(al ||decide (l.length=0))))) (fun i=>l.length-i) 0 ⟨ae,(wf_2 l al).symm⟩ (dS []) ?_;rintro i ⟨hi,hr⟩;refine aT ?_;intro u0;refine aA ?_;refine cT (fun hc0=>?_) fun hc0=>?_
 ·refine br ?_;refine ar (hc:=h357 _) ?_;refine aA ?_;refine wp_cond (fun hc1=>?_) (fun hc1=>?_)
  ·simp only[bn]at hc1;refine aK ?_;refine b7 ?_;rw[hr,aX ae,hc1];rfl
  simp only[bP]at hc1;refine bY ?_;exact⟨i+1,⟨ae,by rw[hr,aX ae,hc1];rfl⟩,ae,(dS [])⟩
 refine aT ?_;intro u1;refine aB ?_;refine ar (hc:=h815 _) ?_;refine aT ?_;refine js ?_;refine aK ?_;refine b7 ?_;rw[hr,cj ae,fA,ed.2 (show((l.length:Nat):Int)<=6↔l.length<=6 by omega),ed.2 (show((l.length:Nat):Int)=0↔l.length=0 by omega)]
def SH (Y:Ctx):Prop:=∀(l:List aq)(al:Bool),Y.pre 812 [.sl 1 (l.map D.str),.bool al]/\Y.val 812 [.sl 1 (l.map D.str),.bool al]=.bool (iU l al)
def Fo:aJ:=⟨3,10,[⟨3,none⟩],ct,(sq (rg [gb 9 s0,gb 4 s1,gm bL] [(6,0),(4,1),(3,2)]) (sq (.block 0 (sq (r1 [gf 0 s4,gd l0,gx 216 [l1] ct,ke l2,gm l3] 5 4) (.cond s5 (sq (r1 [gm sj] 3 0) .ret) (sq (r1 [gf 0 s4,gd l0,gf 0 s6,gd l2,aO l1 l3,gm l4] 7 5) (.cond s7 (sq (r1 [gm EI] 3 0) .ret) (sq (r1 [gf 1 s4,gd l0,gx 572 [l1] ct,ke l2,gm l3] 8 4) (.cond s8 (sq (r1 [gm uv] 3 0) .ret) (sq (r1 [gf 2 s4,gd l0,gm s2,gx 812 [l1,l2] [[.sl 1 [.a]],[.a]],ke l3,gm l4] 9 5) (.cond s9 (sq (r1 [gm (i6 11)] 3 0) .ret) .skip))))))))) (sq (r1 [gm bL] 3 0) .ret)))⟩
def w669 {Y:Ctx}(hm:(Y.at 0).bz)(h216:Jn Y)(h572:Pj Y)(h812:SH Y)(r:Rec)(w:bD)(al:Bool)  (hp0:w.sm):dV Y Fo (.int .i64 (iF r w al)) [Rec.D r,bD.D w,.bool al]:=by
 show bX _ _ _ [⟨_,_⟩,⟨_,_⟩,⟨_,_⟩,_,_,_,_,_,_,_] _;refine au ?_;refine bY ?_;refine ar (hc:=h216 _) ?_;refine aB ?_;refine gN (fun hc0=>?_) fun hc0=>?_
 ·refine aT ?_;refine fC ?_;have hw:fD r w.name w.range=4:=by rw[fD,av hc0]
  rw[iF,av (by rw[hw];decide),hw]
 refine bY ?_;refine gN (fun hc1=>?_) fun hc1=>?_
 ·refine aT ?_;refine fC ?_;have hw:fD r w.name w.range=8:=by rw[fD,aj (by simp[hc0]),av hc1]
  rw[iF,av (by rw[hw];decide),hw]
 refine aB ?_;refine ar (hc:=h572 w.range hp0.1.2) ?_;refine aB ?_;refine wp_cond (fun hc2=>?_) (fun hc2=>?_)
 ·try simp only[iz]at hc2
  refine aT ?_;refine fC ?_;have hw:fD r w.name w.range=6:=by rw[fD,aj (by simp[hc0]),aj hc1,av hc2]
  rw[iF,av (by rw[hw];decide),hw]
 simp only[bP]at hc2;have hw0:fD r w.name w.range=0:=by rw[fD,aj (by simp[hc0]),aj hc1,aj (by simp[hc2])]
 refine aG ?_;refine ar (hc:=h812 w.feats al) ?_;refine aB ?_;refine gN (fun hc3=>?_) fun hc3=>?_
 ·refine aT ?_;refine fC ?_;rw[iF,aj (by simp[hw0]),av hc3]
 refine aK ?_;refine fC ?_;rw[iF,aj (by simp[hw0]),aj (by simp[hc3])]
def Sr (Y:Ctx):Prop:=∀(r:Rec)(w:bD)(al:Bool),(w.sm)->Y.pre 669 [Rec.D r,bD.D w,.bool al]/\Y.val 669 [Rec.D r,bD.D w,.bool al]=.int .i64 (iF r w al)
def Fj:aJ:=⟨2,13,[⟨2,none⟩],ct,(sq (rg [gb 9 s0,gb 3 s1,gm bL] [(8,0),(3,1),(2,2)]) (sq (sq (r1 [gf 0 s3,gd l0,gl l1,aO l2 bL] 4 3) (.cond s4 (sq (r1 [gm CT] 2 0) .ret) .skip)) (sq (sq (r1 [gf 0 s3,gd l0,gl l1,dn l2 jL] 5 3) (.cond s5 (sq (r1 [gm jL] 2 0) .ret) .skip)) (sq (sq (r1 [gm bL] 6 0) (.block 0 (.loop (sq (sq (r1 [gm s6,gf 0 s3,gd l1,gl l2,a8 l0 l3] 7 4) (fY s7 0)) (sq (.block 1 (sq (r2 [gk 9 true s8,gf 0 s3,gd l1,gm s6,ga 4 l2 l3,gk 4 true l4,gf 0 s3,gd l6,gl l7,aO l8 ch,gx 669 [l0,l5,l9] [[.a,.a,.a,.a,.a,.a,.sl 3 [.sl 4 [.a,.a,.sl 1 [.a],.a],.a,.a],.sl 3 [.a,.a,.a],.sl 2 [.a,.sl 1 [.a]]],[.a,.a,.sl 1 [.a],.a],[.a]],gm l10] 9 11) (sq (r1 [gm s9,cv l0 bL] 10 1) (.cond kZ (sq (r1 [gm s9,gm l0] 2 1) .ret) .skip)))) (r1 [gm s6,ay l0 ch,gm l1] 6 2)))))) (sq (sq (r1 [gf 1 s3,gd l0,gx 670 [l1] ct,ke l2] 11 3) (.cond nQ (sq (r1 [gm HX] 2 0) .ret) .skip)) (sq (sq (r1 [gf 2 s3,gd l0,cv l1 cse,gm l2,mP 3 2 s3,kd 3 l4,cu 3 (.call 357 [l5] ct),cu 3 (.un .not l6),fg l3 l7] 12 8) (.cond mQ (sq (r1 [gm (i6 14)] 2 0) .ret) .skip)) (sq (r1 [gm bL] 2 0) .ret)))))))⟩
def w457 {Y:Ctx}(hm:(Y.at 0).bz)(h357:Ek Y)(h669:Sr Y)(h670:Pq Y)(r:Rec)(n:ba)  (hp0:n.sm):dV Y Fj (.int .i64 (gU r n)) [Rec.D r,ba.D n]:=by
 show bX _ _ _ [⟨_,_⟩,⟨_,_⟩,_,_,_,_,_,_,_,_,_,_,_] _;refine au ?_;refine dE ?_;intro u0;refine aA ?_;refine cT (fun hc0=>?_) fun hc0=>?_
 ·refine aT ?_;refine fC ?_;rw[gU,av ae]
 refine aK ?_;intro u1;refine aA ?_;refine cT (fun hc1=>?_) fun hc1=>?_
 ·refine aT ?_;refine fC ?_;rw[gU,aj ae,av ae]
 refine aT ?_;refine bw hm (ι:=Nat) (fun i=>[.un,.un,.un,⟨true,.ptr 1 3 0 0⟩,.un,.un,⟨true,.int .i64 (i:Nat)⟩,.un,⟨true,.ptr 0 9 0 0⟩,.un,.un,.un,.un]) (fun i=>[(0,.buf 9 [Rec.D r]),(1,.buf 3 [ba.D n])]) 12 (fun i=>i<=n.any.length/\mw r n.any=jJ (fun i=>iF r n.any[i]! (decide ((n.any.length:Int)=1))) i n.any.length) (fun i=>n.any.length-i) 0 ⟨ae,rfl⟩ (dS [(0,0),(1,1)]) ?_;rintro i ⟨hi,hr⟩;refine aK ?_;intro u2;refine aA ?_;refine cT (fun hc2=>?_) fun hc2=>?_
 ·refine br ?_;refine cg i ?_;first|refine cb (v:=(bD.D _)) ?_|refine fk (v:=(bD.D _)) ?_
  refine aA ?_;refine js ?_;refine aE ?_;refine ar (hc:=h669 r n.any[i]! _ (hp0.1 _ (bM ae))) ?_;refine aK ?_;refine gN (fun hc3=>?_) fun hc3=>?_
  ·refine br ?_;refine fC ?_;have hw:mw r n.any=iF r n.any[i]! (decide ((n.any.length:Int)=1)):=by rw[hr,nX ae hc3]
   rw[gU,aj ae,aj ae,av (by rw[hw];exact hc3),hw]
  refine bY ?_;exact⟨i+1,⟨ae,by rw[hr,oX ae hc3]⟩,ae,(dS [(0,0),(1,1)])⟩
 refine aG ?_;have hw0:mw r n.any=0:=by rw[hr,oW ae]
 refine aA ?_;refine ar (hc:=h670 _) ?_;refine aA ?_;refine aw (fun hc4=>?_) (fun hc4=>?_)
 ·try simp only[iz]at hc4
  refine aT ?_;refine fC ?_;rw[gU,aj ae,aj ae,aj (by simp[hw0]),av hc4]
 simp only[bP]at hc4;refine dE ?_;refine ar (hc:=h357 _) ?_;refine aB ?_;refine aw (fun hc5=>?_) (fun hc5=>?_)
 ·try simp only[iz]at hc5
  refine aT ?_;refine fC ?_;rw[gU,aj ae,aj ae,aj (by simp[hw0]),aj (by simp[hc4]),av hc5]
 simp only[dt,bP,aS]at hc5;refine aT ?_;refine fC ?_;rw[gU,aj ae,aj ae,aj (by simp[hw0]),aj (by simp[hc4]),aj (by rintro⟨g1,g2⟩;rcases hc5 with h|h;exact g1 h;rw[g2]at h;cases h)]
def R5 (Y:Ctx):Prop:=∀(r:Rec)(n:ba),(n.sm)->Y.pre 457 [Rec.D r,ba.D n]/\Y.val 457 [Rec.D r,ba.D n]=.int .i64 (gU r n)
def Iz:aJ:=⟨2,9,[⟨2,none⟩],ct,(sq (rg [gb 9 s0,gb 3 s1,gm bL] [(5,0),(3,1),(2,2)]) (sq (.block 0 (sq (r1 [gf 0 s3,gd l0,gx 216 [l1] ct,ke l2,gm l3] 4 4) (.cond s4 (sq (r1 [gm sj] 2 0) .ret) (sq (r1 [gf 0 s3,gd l0,gf 0 s5,gd l2,aO l1 l3,gm l4] 6 5) (.cond s6 (sq (r1 [gm EI] 2 0) .ret) (sq (r1 [gf 1 s3,gd l0,gx 572 [l1] ct,ke l2,gm l3] 7 4) (.cond s7 (sq (r1 [gm uv] 2 0) .ret) (sq (r1 [gf 2 s3,gd l0,gx 670 [l1] ct,ke l2,gm l3] 8 4) (.cond s8 (sq (r1 [gm HX] 2 0) .ret) .skip))))))))) (sq (r1 [gm bL] 2 0) .ret)))⟩
def w458 {Y:Ctx}(hm:(Y.at 0).bz)(h216:Jn Y)(h572:Pj Y)(h670:Pq Y)(r:Rec)(b:fh)  (hp0:b.sm):dV Y Iz (.int .i64 (oH r b)) [Rec.D r,fh.D b]:=by
 show bX _ _ _ [⟨_,_⟩,⟨_,_⟩,_,_,_,_,_,_,_] _;refine au ?_;refine bY ?_;refine ar (hc:=h216 _) ?_;refine aB ?_;refine gN (fun hc0=>?_) fun hc0=>?_
 ·refine aT ?_;refine fC ?_;have hw:fD r b.name b.range=4:=by rw[fD,av hc0]
  rw[oH,av (by rw[hw];decide),hw]
 refine bY ?_;refine gN (fun hc1=>?_) fun hc1=>?_
 ·refine aT ?_;refine fC ?_;have hw:fD r b.name b.range=8:=by rw[fD,aj (by simp[hc0]),av hc1]
  rw[oH,av (by rw[hw];decide),hw]
 refine aB ?_;refine ar (hc:=h572 b.range hp0.2.1) ?_;refine aB ?_;refine wp_cond (fun hc2=>?_) (fun hc2=>?_)
 ·try simp only[iz]at hc2
  refine aT ?_;refine fC ?_;have hw:fD r b.name b.range=6:=by rw[fD,aj (by simp[hc0]),aj hc1,av hc2]
  rw[oH,av (by rw[hw];decide),hw]
 simp only[bP]at hc2;have hw0:fD r b.name b.range=0:=by rw[fD,aj (by simp[hc0]),aj hc1,aj (by simp[hc2])]
 refine aB ?_;refine ar (hc:=h670 _) ?_;refine aB ?_;refine gN (fun hc3=>?_) fun hc3=>?_
 ·refine aT ?_;refine fC ?_;rw[oH,aj (by simp[hw0]),av hc3]
 refine aK ?_;refine fC ?_;rw[oH,aj (by simp[hw0]),aj (by simp[hc3])]
def R6 (Y:Ctx):Prop:=∀(r:Rec)(b:fh),(b.sm)->Y.pre 458 [Rec.D r,fh.D b]/\Y.val 458 [Rec.D r,fh.D b]=.int .i64 (oH r b)
def BO:aJ:=⟨2,7,[⟨2,none⟩],ct,(sq (rg [gb 9 s0,gm dj] [(4,0),(2,1)]) (sq (sq (r1 [gm bL] 3 0) (.block 0 (.loop (sq (sq (r1 [gm s3,gf 6 s4,gd l1,gl l2,a8 l0 l3] 5 4) (fY s5 0)) (sq (.block 1 (sq (r1 [gf 6 s4,gd l0,gm s3,ga 3 l1 l2,gf 2 l3,gd l4,gm s1,aO l5 l6] 6 7) (.cond s6 (sq (r1 [gm ou] 2 0) .ret) .skip))) (r1 [gm s3,ay l0 ch,gm l1] 3 2)))))) (sq (r1 [gm dj] 2 0) .ret)))⟩
def w673 {Y:Ctx}(hm:(Y.at 0).bz)  (r:Rec)(x:aq)   :dV Y BO (.bool (BC r.needs x)) [Rec.D r,.str x]:=by
 show bX _ _ _ [⟨_,_⟩,⟨_,_⟩,_,_,_,_,_] _;refine au ?_;refine br ?_;refine bw hm (ι:=Nat) (fun i=>[.un,⟨true,.str x⟩,.un,⟨true,.int .i64 (i:Nat)⟩,⟨true,.ptr 0 9 0 0⟩,.un,.un]) (fun i=>[(0,.buf 9 [Rec.D r])]) 3 (fun i=>i<=r.needs.length/\BC r.needs x=(r.needs.drop i).any (fun n=>decide (n.option=x))) (fun i=>r.needs.length-i) 0 ⟨ae,rfl⟩ (dS [(0,0)]) ?_;rintro i ⟨hi,hr⟩;refine aK ?_;intro u0;refine aA ?_;refine cT (fun hc0=>?_) fun hc0=>?_
 ·refine aK ?_;refine cg i ?_;refine aT ?_;refine gN (fun hc1=>?_) fun hc1=>?_
  ·refine aK ?_;refine b7 ?_;rw[hr,A8 (c:=fun n:ba=>decide (n.option=x)) ae (bS hc1)]
  refine bY ?_;exact⟨i+1,⟨ae,by rw[hr,En (c:=fun n:ba=>decide (n.option=x)) ae (cJ hc1)]⟩,ae,(dS [(0,0)])⟩
 refine aK ?_;refine b7 ?_;rw[hr,A7 ae]
def Su (Y:Ctx):Prop:=∀(r:Rec)(x:aq),Y.pre 673 [Rec.D r,.str x]/\Y.val 673 [Rec.D r,.str x]=.bool (BC r.needs x)
def BP:aJ:=⟨2,7,[⟨2,none⟩],ct,(sq (rg [gb 9 s0,gm dj] [(4,0),(2,1)]) (sq (sq (r1 [gm bL] 3 0) (.block 0 (.loop (sq (sq (r1 [gm s3,gf 6 s4,gd l1,gl l2,a8 l0 l3] 5 4) (fY s5 0)) (sq (.block 1 (sq (r1 [gf 6 s4,gd l0,gm s3,ga 3 l1 l2,gf 0 l3,gd l4,gl l5,aO l6 ch,gm l7,mP 8 6 s4,kd 8 l9,gmt 8 s3,cu 8 (.ia 3 l10 gJ),mP 8 0 iM,kd 8 jN,cu 8 (.ia 4 ku bL),mP 8 0 lx,kd 8 n9,gmt 8 s1,cu 8 (cP pV qu),fg l8 sn] 6 20) (.cond s6 (sq (r1 [gm ou] 2 0) .ret) .skip))) (r1 [gm s3,ay l0 ch,gm l1] 3 2)))))) (sq (r1 [gm dj] 2 0) .ret)))⟩
def w674 {Y:Ctx}(hm:(Y.at 0).bz)  (r:Rec)(x:aq)   :dV Y BP (.bool (ud r.needs x)) [Rec.D r,.str x]:=by
 show bX _ _ _ [⟨_,_⟩,⟨_,_⟩,_,_,_,_,_] _;refine au ?_;refine br ?_;refine bw hm (ι:=Nat) (fun i=>[.un,⟨true,.str x⟩,.un,⟨true,.int .i64 (i:Nat)⟩,⟨true,.ptr 0 9 0 0⟩,.un,.un]) (fun i=>[(0,.buf 9 [Rec.D r])]) 3 (fun i=>i<=r.needs.length/\ud r.needs x=(r.needs.drop i).any (fun n=>decide (n.any.length=1)&&decide (n.any[0]!.name=x))) (fun i=>r.needs.length-i) 0 ⟨ae,rfl⟩ (dS [(0,0)]) ?_;rintro i ⟨hi,hr⟩;refine aK ?_;intro u0;refine aA ?_;refine cT (fun hc0=>?_) fun hc0=>?_
 ·refine aK ?_;refine cg i ?_;refine aB ?_;intro u1;refine aT ?_;refine cg i (hb:=fun _=>ae) ?_;refine aE ?_;refine cb (q:=ba.D) (xs:=r.needs) (i:=i) (hi:=fun _=>ae) (v:=(.sl 4 (r.needs[i]!.any.map bD.D))) ?_;refine cg 0 (hb:=fun h=>by simp only[fA,beq_iff_eq,bh,aS]at h;omega) ?_;refine aE ?_;refine cb (q:=bD.D) (xs:=r.needs[i]!.any) (i:=0) (hi:=fun h=>by simp only[fA,beq_iff_eq,bh,aS]at h;omega) (v:=(.str r.needs[i]!.any[0]!.name)) ?_;refine aG ?_;refine wp_cond (fun hc1=>?_) (fun hc1=>?_)
  ·rw[ed.2 (show((r.needs[i]!.any.length:Nat):Int)=1↔r.needs[i]!.any.length=1 by omega)]at hc1;have hz:=hc1;refine aK ?_;refine b7 ?_;rw[hr,A8 ae hz]
  rw[ed.2 (show((r.needs[i]!.any.length:Nat):Int)=1↔r.needs[i]!.any.length=1 by omega)]at hc1;have hz:=hc1;refine bY ?_;exact⟨i+1,⟨ae,by rw[hr,En ae hz]⟩,ae,(dS [(0,0)])⟩
 refine aK ?_;refine b7 ?_;rw[hr,A7 ae]
def Sv (Y:Ctx):Prop:=∀(r:Rec)(x:aq),Y.pre 674 [Rec.D r,.str x]/\Y.val 674 [Rec.D r,.str x]=.bool (ud r.needs x)
def DB:aJ:=⟨2,10,[⟨2,none⟩],ct,(sq (rg [gb 9 s0,gm bL] [(6,0),(2,1)]) (sq (sq (r1 [gm bL] 3 0) (.block 0 (.loop (sq (sq (r1 [gm s3,gm s1,gl l1,a8 l0 l2] 4 3) (fY s4 0)) (sq (.block 1 (sq (rg [gm s1,gm s3,ga 1 l0 l1,gd l2,gx 672 [l3] ct,gm l4,ge l5 0,ge l5 1,ge l5 2,gm l6,gm l7,gm l8] [(5,9),(7,10)]) (sq (sq (r1 [gm s5,aO l0 jE,gm l1,cu 2 (.ld 9 true s6),gmt 2 s7,cu 2 (.call 673 [l3,l4] [[.a,.a,.a,.a,.a,.a,.sl 3 [.sl 4 [.a,.a,.sl 1 [.a],.a],.a,.a],.sl 3 [.a,.a,.a],.sl 2 [.a,.sl 1 [.a]]],[.a]]),cu 2 (.un .not l5),fg l2 l6] 8 7) (.cond s8 (sq (r1 [gm (i6 14)] 2 0) .ret) .skip)) (sq (r1 [gm s5,aO l0 jL,gm l1,cu 2 (.ld 9 true s6),gmt 2 s7,cu 2 (.call 674 [l3,l4] [[.a,.a,.a,.a,.a,.a,.sl 3 [.sl 4 [.a,.a,.sl 1 [.a],.a],.a,.a],.sl 3 [.a,.a,.a],.sl 2 [.a,.sl 1 [.a]]],[.a]]),cu 2 (.un .not l5),fg l2 l6] 9 7) (.cond s9 (sq (r1 [gm (i6 16)] 2 0) .ret) .skip))))) (r1 [gm s3,ay l0 ch,gm l1] 3 2)))))) (sq (r1 [gm bL] 2 0) .ret)))⟩
def w460 {Y:Ctx}(hm:(Y.at 0).bz)(h672:Pr Y)(h673:Su Y)(h674:Sv Y)(r:Rec)(of:List aq)  (hp0:∀t∈of,t.length<=1048576):dV Y DB (.int .i64 (kf r of)) [Rec.D r,.sl 1 (of.map D.str)]:=by
 show bX _ _ _ [⟨_,_⟩,⟨_,_⟩,_,_,_,_,_,_,_,_] _;refine au ?_;refine br ?_;refine bw hm (ι:=Nat) (fun i=>[.un,⟨true,.sl 1 (of.map D.str)⟩,.un,⟨true,.int .i64 (i:Nat)⟩,.un,.un,⟨true,.ptr 0 9 0 0⟩,.un,.un,.un]) (fun i=>[(0,.buf 9 [Rec.D r])]) 3 (fun i=>i<=of.length/\kf r of=jJ (fun i=>jF r of[i]!) i of.length) (fun i=>of.length-i) 0 ⟨ae,rfl⟩ (dS [(0,0)]) ?_;rintro i ⟨hi,hr⟩;refine aT ?_;intro u0;refine aA ?_;refine cT (fun hc0=>?_) fun hc0=>?_
 ·refine br ?_;refine ar (hc:=h672 of[i]! (hp0 _ (bM ae))) ?_;refine zc ?_;refine ar (hc:=h673 r (cU of[i]!).2.1) ?_;refine aB ?_;refine aw (fun hc1=>?_) (fun hc1=>?_)
  ·try simp only[iz]at hc1
   refine br ?_;refine fC ?_;have he:jF r of[i]! =14:=by rw[jF,av hc1]
   rw[hr,nX ae (by rw[he];decide),he]
  have hn1:¬((cU of[i]!).1=2/\BC r.needs (cU of[i]!).2.1=false):=by rintro⟨g1,g2⟩;rw[g1,g2]at hc1;cases hc1
  refine br ?_;refine ar (hc:=h674 r (cU of[i]!).2.1) ?_;refine aB ?_;refine wp_cond (fun hc2=>?_) (fun hc2=>?_)
  ·try simp only[iz]at hc2
   refine aK ?_;refine fC ?_;have he:jF r of[i]! =16:=by rw[jF,aj hn1,av hc2]
   rw[hr,nX ae (by rw[he];decide),he]
  have hn2:¬((cU of[i]!).1=3/\ud r.needs (cU of[i]!).2.1=false):=by rintro⟨g1,g2⟩;rw[g1,g2]at hc2;cases hc2
  refine bY ?_;exact⟨i+1,⟨ae,by rw[hr,oX ae (by rw[jF,aj hn1,aj hn2])]⟩,ae,(dS [(0,0)])⟩
 refine aK ?_;refine fC ?_;rw[hr,oW ae]
def R8 (Y:Ctx):Prop:=∀(r:Rec)(of:List aq),(∀t∈of,t.length<=1048576)->Y.pre 460 [Rec.D r,.sl 1 (of.map D.str)]/\Y.val 460 [Rec.D r,.sl 1 (of.map D.str)]=.int .i64 (kf r of)
def DC:aJ:=⟨1,17,[⟨1,none⟩,⟨2,none⟩],iB,(sq (rg [gb 9 s0,gm bL,gm bL] [(4,0),(1,1),(2,2)]) (sq (sq (r1 [gm bL] 3 0) (.block 0 (.loop (sq (sq (r1 [gm s3,gf 6 s4,gd l1,gl l2,a8 l0 l3] 5 4) (fY s5 0)) (sq (.block 1 (sq (r2 [gk 9 true s4,gf 6 s4,gd l1,gm s3,ga 3 l2 l3,gk 3 true l4,gx 457 [l0,l5] [[.a,.a,.a,.a,.a,.a,.sl 3 [.sl 4 [.a,.a,.sl 1 [.a],.a],.a,.a],.sl 3 [.a,.a,.a],.sl 2 [.a,.sl 1 [.a]]],[.sl 4 [.a,.a,.sl 1 [.a],.a],.a,.a]],gm l6] 6 7) (sq (r1 [gm s6,cv l0 bL] 7 1) (.cond s7 (sq (rg [gm s6,gm s3,gm l0,gm l1] [(1,2),(2,3)]) .ret) .skip)))) (r1 [gm s3,ay l0 ch,gm l1] 3 2)))))) (sq (sq (r1 [gm bL] 8 0) (.block 2 (.loop (sq (sq (r1 [gm s8,gf 7 s4,gd l1,gl l2,a8 l0 l3] 9 4) (fY s9 2)) (sq (.block 3 (sq (r2 [gk 9 true s4,gf 7 s4,gd l1,gm s8,ga 3 l2 l3,gk 3 true l4,gx 458 [l0,l5] [[.a,.a,.a,.a,.a,.a,.sl 3 [.sl 4 [.a,.a,.sl 1 [.a],.a],.a,.a],.sl 3 [.a,.a,.a],.sl 2 [.a,.sl 1 [.a]]],[.a,.a,.a]],gm l6] 10 7) (sq (r1 [gm kZ,cv l0 bL] 11 1) (.cond nQ (sq (rg [gm kZ,gm s8,gm l0,gm l1] [(1,2),(2,3)]) .ret) .skip)))) (r1 [gm s8,ay l0 ch,gm l1] 8 2)))))) (sq (sq (r1 [gf 8 s4,gd l0,gx 459 [l1] [[.sl 2 [.a,.sl 1 [.a]]]],ke l2] 12 3) (.cond mQ (sq (rg [gm (i6 11),gm bL] [(1,0),(2,1)]) .ret) .skip)) (sq (sq (r1 [gm bL] 13 0) (.block 4 (.loop (sq (sq (r1 [gm rv,gf 8 s4,gd l1,gl l2,a8 l0 l3] 14 4) (fY r8 4)) (sq (.block 5 (sq (r2 [gk 9 true s4,gf 8 s4,gd l1,gm rv,ga 2 l2 l3,gf 1 l4,gd l5,gx 460 [l0,l6] [[.a,.a,.a,.a,.a,.a,.sl 3 [.sl 4 [.a,.a,.sl 1 [.a],.a],.a,.a],.sl 3 [.a,.a,.a],.sl 2 [.a,.sl 1 [.a]]],[.sl 1 [.a]]],gm l7] 15 8) (sq (r1 [gm wD,cv l0 bL] 16 1) (.cond DN (sq (rg [gm wD,gm rv,gm l0,gm l1] [(1,2),(2,3)]) .ret) .skip)))) (r1 [gm rv,ay l0 ch,gm l1] 13 2)))))) (sq (rg [gm bL,gm bL] [(1,0),(2,1)]) .ret))))))⟩
def w218 {Y:Ctx}(hm:(Y.at 0).bz)(h457:R5 Y)(h458:R6 Y)(h459:R7 Y)(h460:R8 Y)(r:Rec)  (hp0:gV r):dV Y DC (.tup [.int .i64 (ei r).1,.int .i64 (ei r).2]) [Rec.D r]:=by
 show bX _ _ _ [⟨_,_⟩,_,_,_,_,_,_,_,_,_,_,_,_,_,_,_,_] _;refine au ?_;refine bY ?_;refine bw hm (ι:=Nat) (fun i=>[.un,.un,.un,⟨true,.int .i64 (i:Nat)⟩,⟨true,.ptr 0 9 0 0⟩,.un,.un,.un,.un,.un,.un,.un,.un,.un,.un,.un,.un]) (fun i=>[(0,.buf 9 [Rec.D r])]) 4 (fun i=>i<=r.needs.length/\lS r=ij (fun i=>gU r r.needs[i]!) i r.needs.length) (fun i=>r.needs.length-i) 0 ⟨ae,rfl⟩ (dS [(0,0)]) ?_;rintro i ⟨hi,hr⟩;refine aK ?_;intro u0;refine aA ?_;refine cT (fun hc0=>?_) fun hc0=>?_
 ·refine br ?_;refine cg i ?_;first|refine cb (v:=(ba.D _)) ?_|refine fk (v:=(ba.D _)) ?_
  refine ar (hc:=h457 r r.needs[i]! (hp0.2.1 _ (bM ae))) ?_;refine aK ?_;refine gN (fun hc1=>?_) fun hc1=>?_
  ·refine dE ?_;refine b8 (aU (ak (D.int .i64) ?_) (ak (D.int .i64) ?_));all_goals
    have hq:ei r=(gU r r.needs[i]!,((i:Nat):Int)):=by
     exact Dg (by rw[hr,j8 ae hc1]) hc1
    rw[hq];first|done|rfl
  refine bY ?_;exact⟨i+1,⟨ae,by rw[hr,lN ae hc1]⟩,ae,(dS [(0,0)])⟩
 refine aG ?_;have hn0:lS r=(0,0):=by rw[hr,lM ae]
 refine aA ?_;refine bw hm (ι:=Nat) (fun i=>[.un,.un,.un,.un,⟨true,.ptr 0 9 0 0⟩,.un,.un,.un,⟨true,.int .i64 (i:Nat)⟩,.un,.un,.un,.un,.un,.un,.un,.un]) (fun i=>[(0,.buf 9 [Rec.D r])]) 10 (fun i=>i<=r.bars.length/\sB r=ij (fun i=>oH r r.bars[i]!) i r.bars.length) (fun i=>r.bars.length-i) 0 ⟨ae,rfl⟩ (dS [(0,0)]) ?_;rintro i ⟨hi,hr⟩;refine aK ?_;intro u1;refine aA ?_;refine cT (fun hc2=>?_) fun hc2=>?_
 ·refine br ?_;refine cg i ?_;first|refine cb (v:=(fh.D _)) ?_|refine fk (v:=(fh.D _)) ?_
  refine ar (hc:=h458 r r.bars[i]! (hp0.2.2.1 _ (bM ae))) ?_;refine aK ?_;refine gN (fun hc3=>?_) fun hc3=>?_
  ·refine dE ?_;refine b8 (aU (ak (D.int .i64) ?_) (ak (D.int .i64) ?_));all_goals
    have hq:ei r=(oH r r.bars[i]!,((i:Nat):Int)):=by
     exact yn hn0 (by rw[hr,j8 ae hc3]) hc3
    rw[hq];first|done|rfl
  refine bY ?_;exact⟨i+1,⟨ae,by rw[hr,lN ae hc3]⟩,ae,(dS [(0,0)])⟩
 refine aG ?_;have hb0:sB r=(0,0):=by rw[hr,lM ae]
 refine aA ?_;refine ar (hc:=h459 r.feats hp0.2.2.2) ?_;refine aA ?_;refine aw (fun hc4=>?_) (fun hc4=>?_)
 ·try simp only[iz]at hc4
  refine aK ?_;refine b8 (aU (ak (D.int .i64) ?_) (ak (D.int .i64) ?_));all_goals
   have hq:ei r=(11,0):=by
    exact Dh hn0 hb0 hc4
   rw[hq];first|done|rfl
 simp only[bP]at hc4;refine aT ?_;refine bw hm (ι:=Nat) (fun i=>[.un,.un,.un,.un,⟨true,.ptr 0 9 0 0⟩,.un,.un,.un,.un,.un,.un,.un,.un,⟨true,.int .i64 (i:Nat)⟩,.un,.un,.un]) (fun i=>[(0,.buf 9 [Rec.D r])]) 20 (fun i=>i<=r.feats.length/\sS r=ij (fun i=>kf r r.feats[i]!.of) i r.feats.length) (fun i=>r.feats.length-i) 0 ⟨ae,rfl⟩ (dS [(0,0)]) ?_;rintro i ⟨hi,hr⟩;refine aK ?_;intro u2;refine aA ?_;refine cT (fun hc5=>?_) fun hc5=>?_
 ·refine br ?_;refine cg i ?_;refine aA ?_;refine ar (hc:=h460 r r.feats[i]!.of (hp0.2.2.2 _ (bM ae)).2.2) ?_;refine aK ?_;refine gN (fun hc6=>?_) fun hc6=>?_
  ·refine dE ?_;refine b8 (aU (ak (D.int .i64) ?_) (ak (D.int .i64) ?_));all_goals
    have hq:ei r=(kf r r.feats[i]!.of,((i:Nat):Int)):=by
     exact qY hn0 hb0 hc4 (by rw[hr,j8 (f:=(fun i=>kf r r.feats[i]!.of)) ae hc6])
    rw[hq];first|done|rfl
  refine bY ?_;exact⟨i+1,⟨ae,by rw[hr,lN (f:=(fun i=>kf r r.feats[i]!.of)) ae hc6]⟩,ae,(dS [(0,0)])⟩
 refine br ?_;refine b8 (aU (ak (D.int .i64) ?_) (ak (D.int .i64) ?_));all_goals
  have hq:ei r=(0,0):=by
   exact qY hn0 hb0 hc4 (by rw[hr,lM ae])
  rw[hq];first|done|rfl
def RI (Y:Ctx):Prop:=∀(r:Rec),(gV r)->Y.pre 218 [Rec.D r]/\Y.val 218 [Rec.D r]=.tup [.int .i64 (ei r).1,.int .i64 (ei r).2]
def Dx:aJ:=⟨1,11,[⟨1,none⟩,⟨2,none⟩],iB,(sq (rg [gb 9 s0,gm bL,gm bL] [(3,0),(1,1),(2,2)]) (sq (.block 0 (sq (r1 [gf 0 s3,gd l0,gx 216 [l1] ct,ke l2,gm l3] 4 4) (.cond s4 (sq (rg [gm sj,gm bL] [(1,0),(2,1)]) .ret) (sq (r1 [gf 1 s3,gk 5 true l0,gx 217 [l1] HU,ke l2,gm l3] 5 4) (.cond s5 (sq (rg [gm zx,gm bL] [(1,0),(2,1)]) .ret) (sq (r1 [gf 6 s3,gd l0,gl l1,dn l2 EI,gm l3,jK 4 7 s3,jQ 4 l5,cE 4 (.len l6),cE 4 (eF l7 EI),fF l4 l8,gm l9] 6 10) (.cond s6 (sq (rg [gm jL,gm bL] [(1,0),(2,1)]) .ret) .skip))))))) (sq (sq (rg [gk 9 true s3,gx 218 [l0] [[.a,.a,.a,.a,.a,.a,.sl 3 [.sl 4 [.a,.a,.sl 1 [.a],.a],.a,.a],.sl 3 [.a,.a,.a],.sl 2 [.a,.sl 1 [.a]]]],gm l1,ge l2 0,ge l2 1,gm l3,gm l4] [(7,5),(9,6)]) (sq (r1 [gm s7,cv l0 bL] 8 1) (.cond s8 (sq (rg [gm s7,gm s9,gm l0,gm l1] [(1,2),(2,3)]) .ret) .skip))) (sq (sq (r1 [gk 9 true s3,gx 219 [l0] [[.a,.a,.a,.a,.a,.a,.sl 3 [.sl 4 [.a,.a,.sl 1 [.a],.a],.a,.a],.sl 3 [.a,.a,.a],.sl 2 [.a,.sl 1 [.a]]]],oQ l1,dn l2 (i6 4096)] 10 3) (.cond kZ (sq (rg [gm jL,gm bL] [(1,0),(2,1)]) .ret) .skip)) (sq (rg [gm bL,gm bL] [(1,0),(2,1)]) .ret)))))⟩
def w71 {Y:Ctx}(hm:(Y.at 0).bz)(h216:Jn Y)(h217:Jo Y)(h218:RI Y)(h219:OY Y)(r:Rec)  (hp0:gV r):dV Y Dx (.tup [.int .i64 (cH r).1,.int .i64 (cH r).2]) [Rec.D r]:=by
 show bX _ _ _ [⟨_,_⟩,_,_,_,_,_,_,_,_,_,_] _;refine au ?_;refine bY ?_;refine ar (hc:=h216 _) ?_;refine aB ?_;refine wp_cond (fun hc0=>?_) (fun hc0=>?_)
 ·try simp only[iz]at hc0
  refine aK ?_;refine b8 (aU (ak (D.int .i64) ?_) (ak (D.int .i64) ?_));all_goals (have hq:cH r=(4,0):=(by rw[cH,av hc0]);rw[hq];first|done|rfl)
 simp only[bP]at hc0;refine aA ?_;refine bA (v:=cM.D r.v) ?_;refine ar (hc:=h217 r.v hp0.1.2) ?_;refine aB ?_;refine wp_cond (fun hc1=>?_) (fun hc1=>?_)
 ·try simp only[iz]at hc1
  refine aK ?_;refine b8 (aU (ak (D.int .i64) ?_) (ak (D.int .i64) ?_));all_goals (have hq:cH r=(5,0):=(by rw[cH,aj (by simp[hc0]),av hc1]);rw[hq];first|done|rfl)
 simp only[bP]at hc1;refine aG ?_;intro u0;refine aG ?_;refine js ?_;refine aG ?_;refine gN (fun hc2=>?_) fun hc2=>?_
 ·refine aK ?_;refine b8 (aU (ak (D.int .i64) ?_) (ak (D.int .i64) ?_));all_goals (have hq:cH r=(3,0):=(by rw[cH,aj (by simp[hc0]),aj (by simp[hc1]),av ae]);rw[hq];first|done|rfl)
 refine aT ?_;refine ar (hc:=h218 r hp0) ?_;refine hE ?_;refine aw (fun hc3=>?_) (fun hc3=>?_)
 ·try simp only[iz]at hc3
  refine bY ?_;refine b8 (aU (ak (D.int .i64) ?_) (ak (D.int .i64) ?_));all_goals
   have hq:cH r=ei r:=by
    exact oU hc0 hc1 ae ae rfl hc3
   rw[hq];first|done|rfl
 simp only[bP,aS]at hc3;have hpz:ei r=(0,0):=Di hc3;have hgd:qP r:=⟨⟨hc0,hc1⟩,⟨ae,ae⟩,hpz⟩;refine aG ?_;refine ar (hc:=h219 r ⟨hgd,hp0⟩) ?_;refine aE ?_;intro u1;refine aA ?_;refine cT (fun hc4=>?_) fun hc4=>?_
 ·refine aK ?_;refine b8 (aU (ak (D.int .i64) ?_) (ak (D.int .i64) ?_));all_goals
   have hq:cH r=(3,0):=by
    rw[qB hc0 hc1 ae ae hpz,av ae]
   rw[hq];first|done|rfl
 refine aK ?_;refine b8 (aU (ak (D.int .i64) ?_) (ak (D.int .i64) ?_));all_goals
  have hq:cH r=(0,0):=by
   rw[qB hc0 hc1 ae ae hpz,aj ae]
  rw[hq];first|done|rfl
def C71 (Y:Ctx):Prop:=∀(r:Rec),(gV r)->Y.pre 71 [Rec.D r]/\Y.val 71 [Rec.D r]=.tup [.int .i64 (cH r).1,.int .i64 (cH r).2]
def Dz:aJ:=⟨1,14,[⟨1,some (9,true)⟩,⟨2,none⟩,⟨3,none⟩],[[.a,.a,.a,.a,.a,.a,.sl 3 [.sl 4 [.a,.a,.sl 1 [.a],.a],.a,.a],.sl 3 [.a,.a,.a],.sl 2 [.a,.sl 1 [.a]]],[.a],[.a]],(sq (rg [gb 9 (.c (.agg [.str [],.int .i64 0,.int .i64 0,.int .i64 0,.str [],.str [],.aC,.aC,.aC])),gm bL,gm bL] [(1,0),(2,1),(3,2)]) (sq (sq (r1 [gm s0,oQ l0,dn l1 (i6 4096)] 4 2) (.cond s4 (sq (rg [gn (.build [.str [],.int .i64 0,.int .i64 0,.int .i64 0,.str [],.str [],.aC,.aC,.aC] []),gt 9 s1 l0,gm jL,gm bL] [(2,2),(3,3)]) .ret) .skip)) (sq (rg [gm s0,gx 223 [l0] ct,gm l1,ge l2 0,ge l2 1,gm l3,gm l4] [(6,5),(8,6)]) (sq (r1 [gn (.build [.str [],.int .i64 0,.int .i64 0,.int .i64 0,.str [],.str [],.aC,.aC,.aC,.int .i64 0] []),gb 10 l0,gm l1] 9 2) (sq (sq (r1 [gm bL] 5 0) (.block 0 (.loop (sq (sq (r1 [gm s5,gm s6,gl l1,a8 l0 l2] 7 3) (fY s7 0)) (sq (.block 1 (sq (r1 [gm s8,ke l0,gm l1,gmt 2 s5,gmt 2 s6,cu 2 (.len l4),cu 2 (kq l5 ch),cu 2 (cP l3 l6),fg l2 l7,gm l8,eU 9 s9,eU 9 s6,eU 9 s5,cE 9 (.ia 1 gJ iM),jQ 9 jN,cE 9 (.callM 224 [l10,ku]),cE 9 (.un .not lx),fF l9 n9] 10 17) (.cond kZ (sq (rg [gn (.build [.str [],.int .i64 0,.int .i64 0,.int .i64 0,.str [],.str [],.aC,.aC,.aC] []),gm s5,ay l1 ch,gt 9 s1 l0,gm jE,gm l2] [(2,4),(3,5)]) .ret) .skip))) (r1 [gm s5,ay l0 ch,gm l1] 5 2)))))) (sq (sq (r1 [gm s9,gc l0,gf 9 l1,gd l2,aO l3 bL] 11 4) (.cond nQ (sq (rg [gn (.build [.str [],.int .i64 0,.int .i64 0,.int .i64 0,.str [],.str [],.aC,.aC,.aC] []),gt 9 s1 l0,gm jE,gm ch] [(2,2),(3,3)]) .ret) .skip)) (sq (sq (r1 [gm s9,gc l0,gf 0 l1,gk 9 true l2,gx 71 [l3] [[.a,.a,.a,.a,.a,.a,.sl 3 [.sl 4 [.a,.a,.sl 1 [.a],.a],.a,.a],.sl 3 [.a,.a,.a],.sl 2 [.a,.sl 1 [.a]]]],gm l4,ge l5 0,ge l5 1,gm l6,gm l7] 12 8) (sq (r1 [gm mQ,cv l0 bL] 13 1) (.cond rv (sq (rg [gn (.build [.str [],.int .i64 0,.int .i64 0,.int .i64 0,.str [],.str [],.aC,.aC,.aC] []),gm mQ,gt 9 s1 l0,gm l1,gm bL] [(2,3),(3,4)]) .ret) .skip))) (sq (rg [gm s9,gc l0,gf 0 l1,gk 9 true l2,gt 9 s1 l3,gm bL,gm bL] [(2,5),(3,6)]) .ret))))))))⟩
def w77 {Y:Ctx}(hm:(Y.at 0).bz)(h71:C71 Y)(h223:RL Y)(h224:OZ Y)(s:aq)   :dV Y Dz (.tup [Rec.D (ea s).1,.int .i64 (ea s).2.1,.int .i64 (ea s).2.2]) [.str s]:=by
 show bX _ _ _ [⟨_,_⟩,_,_,_,_,_,_,_,_,_,_,_,_,_] _;have hcase:=EU s;obtain⟨⟨ls,e⟩,hlx⟩:∃q,im s=q:=⟨_,rfl⟩
 rw[hlx]at hcase;dsimp only at hcase;refine au ?_;refine bY ?_;intro u0;refine aA ?_;refine aw (fun hc0=>?_) (fun hc0=>?_)
 ·simp only[aS]at hc0;have hrr:ea s=(jX,3,0):=by unfold ea;rw[av ae]
  rw[hrr];refine aA ?_;refine bo dh ?_;refine aR dh (he:=aZ) ?_;refine aB ?_;refine lh [(0,.buf 9 [Rec.D jX])] (.bf ah (.cons mq .nil) .nil) ?_;refine aE ?_;refine b8 (e7 ?_ (ak (D.int .i64) ?_) (ak (D.int .i64) ?_));all_goals rfl
 simp only[bj]at hc0;have h96:¬4096<s.length:=ae;have hsl:=de s 10;have hln:(mF s).length<=4097:=by rw[dq];omega
 have hll:ls.length<=(mF s).length+1:=by
  rcases hcase with⟨_,_,h⟩|⟨_,_,h⟩<;>rw[h]<;>simp
 have hlm:∀i:Nat,((mF s)[i]! :aq).length<=1048576:=fun i=>zj.get (l:=mF s) (fun t ht=>by have:=en s 10 (m8 ht);omega) i
 refine aB ?_;refine ar (v:=.tup [.sl 1 (ls.map D.str),.bool e]) (hc:=by have:=h223 s ae;rw[hlx]at this;exact this) ?_;refine aE ?_;refine fB (.sl _ _) ?_;refine aT ?_;refine bo (.agg [.str [],.int .i64 0,.int .i64 0,.int .i64 0,.str [],.str [],.aC,.aC,.aC,.int .i64 0]) ?_;refine br ?_;refine bw hm (ι:=(Nat×iX)) (fun p=>[⟨true,.str s⟩,⟨true,.ptr 0 9 0 0⟩,⟨true,.int .i64 0⟩,⟨true,.int .i64 0⟩,.un,⟨true,.int .i64 (p.1:Nat)⟩,⟨true,.sl 1 (ls.map D.str)⟩,.un,⟨true,.bool e⟩,⟨true,.ptr 1 10 0 0⟩,.un,.un,.un,.un]) (fun p=>[(0,.buf 9 [dh]),(1,.buf 10 [nP p.2.r.name p.2.r.v p.2.r.needs.length p.2.r.bars.length p.2.r.feats.length ((p.2.st:Nat):Int) 2 4 5]),(2,.buf 3 (et 3 p.2.r.needs)),(3,.buf 4 (mS p.2.r.needs)),(4,.buf 3 (p.2.r.bars.map fh.D)),(5,.buf 2 (p.2.r.feats.map bF.D))]) 50 (fun p=>p.1<=(mF s).length/\(p.2.ok/\p.2.sz<=p.1)/\mf uj (mF s)=mf p.2 ((mF s).drop p.1)) (fun p=>ls.length-p.1) (0,uj) ⟨Nat.zero_le _,⟨⟨fun _=>⟨rfl,rfl,rfl⟩,fun h=>by simp[uj]at h,fun h=>by simp[uj]at h⟩,aM _⟩,rfl⟩ (bg.to [(0,0),(14,1)] ah ah eC (by refine aY.ez ah ah ah ?_;refine aY.ni 14 ah ah (by exact⟨_,_,rfl,⟨_,rfl,⟨_,_,rfl,⟨rfl,rfl⟩,⟨_,_,rfl,⟨rfl,rfl⟩,⟨_,_,rfl,⟨rfl,rfl⟩,⟨_,_,rfl,⟨rfl,rfl⟩,⟨_,_,rfl,⟨rfl,rfl⟩,⟨_,_,rfl,⟨rfl,rfl⟩,⟨_,_,rfl,Or.inr ⟨_,_,_,rfl⟩,⟨_,_,rfl,Or.inr ⟨_,_,_,rfl⟩,⟨_,_,rfl,Or.inr ⟨_,_,_,rfl⟩,⟨_,_,rfl,⟨rfl,rfl⟩,rfl⟩⟩⟩⟩⟩⟩⟩⟩⟩⟩⟩,rfl⟩) ?_;refine aY.mt ah ah ah ah ?_;refine aY.mt ah ah ah ah ?_;refine aY.mt ah ah ah ah ?_;refine aY.mt ah ah ah ah ?_;exact aY.nil)) ?_;rintro⟨i,x⟩ ⟨hi,⟨hok,hsz⟩,hrun⟩;dsimp only at hi hok hsz hrun⊢;refine aT ?_;intro u1;refine aA ?_;refine aw (fun hc1=>?_) (fun hc1=>?_)
 ·simp only[aS]at hc1;have hil:i<ls.length:=ae;refine aB ?_;by_cases hb:(!e&&decide ((i:Nat)=((ls.length:Nat):Int) -1))=true
  ·refine aT ?_;refine js ?_;refine aA ?_;refine La ?_;rw[hb];refine aG ?_;refine cg i (hb:=fun _=>ae) ?_;refine cb (v:=.str ls[i]!) (hi:=fun _=>ae) ?_;refine BH ?_;refine Uy (.bool false) ?_;refine Uz (kb:=fun _ h=>by cases h) ?_;refine aE ?_;refine wp_cond (fun hc2=>?_) (fun hc2=>?_)
   ·have hbb:=hb;simp only[bh,bn,aS]at hbb;have hrr:ea s=(jX,2,(i:Int)+1):=by
     rcases hcase with⟨h1,_,_⟩|⟨_,h2,h⟩
     ·rw[h1]at hbb;cases hbb.1
     ·have hl':ls.length=(mF s).length+1:=by rw[h];simp
      have:i=(mF s).length:=ae;subst this;exact Dl h96 hi (by rw[hrun,List.drop_length];rfl) (.inr h2)
    rw[hrr];refine aE ?_;refine bo dh ?_;refine aA ?_;refine aR dh (he:=aZ) ?_;refine aB ?_;refine lh [(0,.buf 9 [Rec.D jX])] (.bf ah (.cons mq .nil) .nil) ?_;refine aB ?_;refine b8 (e7 ?_ (ak (D.int .i64) ?_) (ak (D.int .i64) ?_));all_goals rfl
   skip
   exact absurd hc2 aF
  ·refine aT ?_;refine js ?_;refine aA ?_;refine La ?_;rw[show(!e&&decide ((i:Nat)=((ls.length:Nat):Int) -1))=false by simpa using hb];refine aG ?_;refine cg i (hb:=fun _=>ae) ?_;refine cb (v:=.str ls[i]!) (hi:=fun _=>ae) ?_;have hin:i<(mF s).length/\ls[i]! =(mF s)[i]! :=by
    rcases hcase with⟨_,_,h⟩|⟨h1,_,h⟩
    ·rw[h]at hil⊢;exact⟨hil,rfl⟩
    ·have hb':¬((i:Nat):Int)=((ls.length:Nat):Int) -1:=by rw[h1]at hb;simpa using hb
     have hl':ls.length=(mF s).length+1:=by rw[h];simp
     have hi':i<(mF s).length:=ae;exact⟨hi',by rw[h];exact pS hi'⟩
   refine vn (ι:=Unit) (afB:=[.ptr 1 10 0 0,.str ls[i]!]) (fun _=>True) (fun _=>.bool (ec x ls[i]!).isSome) 58 (fun _=>uz (ec x ls[i]!) 1 69++[(0,.buf 9 [dh])]) (fun _ _=>?_) (hc:=fun K' hK=>h224 x ls[i]! hok ae (by rw[hin.2];exact hlm i) _ 1 2 3 4 5 _ K' ⟨aZ,aZ,aZ,aZ,aZ⟩ aF ⟨by simp only[ax,az];omega,by simp only[ax,az];omega,by simp only[ax,az];omega,by simp only[ax,az];omega,by simp only[ax,az];omega⟩ (by exact hK () trivial)) (hn:=aF);refine aB ?_;refine wp_cond (fun hc2=>?_) (fun hc2=>?_)
   ·simp only[Bool.false_or,bn]at hc2;have hso:=jT hc2;have hrr:ea s=(jX,2,(i:Int)+1):=by
     refine Dl (x:=x) h96 hi ?_ (.inl hin.1);rw[hrun,AE (x:=x) hin.1,r7 (by rw[<-hin.2];exact hso)]
    rw[hrr,hso];simp only[uz,eY];refine aE ?_;refine bo dh ?_;refine aA ?_;refine aR dh (he:=aZ) ?_;refine aB ?_;refine lh [(0,.buf 9 [Rec.D jX])] (.bf ah (.cons mq .nil) .nil) ?_;refine aB ?_;refine b8 (e7 ?_ (ak (D.int .i64) ?_) (ak (D.int .i64) ?_));all_goals rfl
   simp only[Bool.false_or,bP]at hc2;obtain⟨y,hso⟩:=jU hc2;obtain⟨hyo,hys⟩:=NZ hso hok;have hrn:mf uj (mF s)=mf y ((mF s).drop (i+1)):=by rw[hrun,AE (x:=x) hin.1,iH (by rw[<-hin.2];exact hso)]
   rw[hso];simp only[uz,PZ,fu,eY];refine bY ?_;exact⟨(i+1,y),⟨ae,⟨hyo,dP⟩,hrn⟩,dP,(bg.to [(0,0),(1,1),(69,2),(70,3),(71,4),(72,5)] ah ah eC (by refine aY.ez ah ah ah ?_;refine aY.eq 1 ah ah ah ?_;refine aY.eq 69 ah ah (va _ _ _ _ ah _) ?_;refine aY.nl 70 ah ah rfl (lH _) ?_;refine aY.nl 71 ah ah rfl (bJ (fun _=>rfl) _) ?_;refine aY.nl 72 ah ah rfl (bJ (fun _=>rfl) _) ?_;exact aY.nil))⟩
 simp only[bj]at hc1;have hlast:xY s=[]/\mf uj (mF s)=(x,[]):=by
  rcases hcase with⟨_,h2,h⟩|⟨_,_,h⟩
  ·refine⟨h2, ?_⟩;have hl':ls.length=(mF s).length:=by rw[h]
   have:i=(mF s).length:=ae;subst this;rw[hrun,List.drop_length];rfl
  ·have hl':ls.length=(mF s).length+1:=by rw[h];simp
   omega
 obtain⟨hl0,hrx⟩:=hlast;refine br ?_;refine bA (v:=.int .i64 ((x.st:Nat):Int)) ?_;refine aA ?_;refine aw (fun hc3=>?_) (fun hc3=>?_)
 ·simp only[aS]at hc3;have hrr:=Lt h96 hrx ae;rw[hrr];refine aA ?_;refine bo dh ?_;refine aR dh (he:=aZ) ?_;refine aB ?_;refine lh ((0,.buf 9 [Rec.D jX])::[]) (.bf ah (.cons mq .nil) .nil) ?_;refine aE ?_;refine b8 (e7 ?_ (ak (D.int .i64) ?_) (ak (D.int .i64) ?_));all_goals rfl
 simp only[bj]at hc3;obtain⟨hrs,hrr⟩:=NO h96 hrx ae hl0;rw[hrr];refine aA ?_;refine eR 3 (hn:=lH _) (he:=by simp only[ll,hY,iK,lO,mU,cD,Nat.reduceEqDiff,aH,aI,cr,bU,b9,cL,cN,bK,bI,aM,bR,aP,reduceCtorEq,ax,az,Nat.reduceAdd,Nat.reduceLeDiff,nP,dh];exact rfl) (hm:=by simp only[ll,hY,iK,lO,mU,cD,Nat.reduceEqDiff,aH,aI,cr,bU,b9,cL,cN,bK,bI,aM,bR,aP,reduceCtorEq,ax,az,Nat.reduceAdd,Nat.reduceLeDiff,nP,dh,Bn,sW,sX,uN];exact rfl) ?_;refine lh [(0,.buf 9 [dh]),(1,.buf 10 [nP x.r.name x.r.v x.r.needs.length x.r.bars.length x.r.feats.length ((x.st:Nat):Int) 2 4 5]),(2,.buf 3 (x.r.needs.map ba.D)),(4,.buf 3 (x.r.bars.map fh.D)),(5,.buf 2 (x.r.feats.map bF.D))] (.id ah (.id ah (.bf ah (yc 3 _) (.id ah (.id ah .nil))))) ?_;refine eR 2 (hn:=bJ (fun _=>rfl) _) (he:=by simp only[ll,hY,iK,lO,mU,cD,Nat.reduceEqDiff,aH,aI,cr,bU,b9,cL,cN,bK,bI,aM,bR,aP,reduceCtorEq,ax,az,Nat.reduceAdd,Nat.reduceLeDiff,nP,dh];exact rfl) (hm:=by simp only[ll,hY,iK,lO,mU,cD,Nat.reduceEqDiff,aH,aI,cr,bU,b9,cL,cN,bK,bI,aM,bR,aP,reduceCtorEq,ax,az,Nat.reduceAdd,Nat.reduceLeDiff,nP,dh,Bn,sW,sX,uN];exact rfl) ?_;refine eR 4 (hn:=bJ (fun _=>rfl) _) (he:=by simp only[ll,hY,iK,lO,mU,cD,Nat.reduceEqDiff,aH,aI,cr,bU,b9,cL,cN,bK,bI,aM,bR,aP,reduceCtorEq,ax,az,Nat.reduceAdd,Nat.reduceLeDiff,nP,dh];exact rfl) (hm:=by simp only[ll,hY,iK,lO,mU,cD,Nat.reduceEqDiff,aH,aI,cr,bU,b9,cL,cN,bK,bI,aM,bR,aP,reduceCtorEq,ax,az,Nat.reduceAdd,Nat.reduceLeDiff,nP,dh,Bn,sW,sX,uN];exact rfl) ?_;refine eR 5 (hn:=bJ (fun _=>rfl) _) (he:=by simp only[ll,hY,iK,lO,mU,cD,Nat.reduceEqDiff,aH,aI,cr,bU,b9,cL,cN,bK,bI,aM,bR,aP,reduceCtorEq,ax,az,Nat.reduceAdd,Nat.reduceLeDiff,nP,dh];exact rfl) (hm:=by simp only[ll,hY,iK,lO,mU,cD,Nat.reduceEqDiff,aH,aI,cr,bU,b9,cL,cN,bK,bI,aM,bR,aP,reduceCtorEq,ax,az,Nat.reduceAdd,Nat.reduceLeDiff,nP,dh,Bn,sW,sX,uN];exact rfl) ?_;refine aG ?_;refine bA (v:=Rec.D x.r) ?_;refine ar (hc:=h71 x.r hrs) ?_;refine hE ?_;refine aw (fun hc4=>?_) (fun hc4=>?_)
 ·simp only[bn,bj]at hc4;rw[av hc4];refine aA ?_;refine bo dh ?_;refine aE ?_;refine aR dh (he:=aZ) ?_;refine aB ?_;refine lh ((0,.buf 9 [Rec.D jX])::[]) (.bf ah (.cons mq .nil) .nil) ?_;refine aE ?_;refine b8 (e7 ?_ (ak (D.int .i64) ?_) (ak (D.int .i64) ?_));all_goals rfl
 simp only[bP,aS]at hc4;rw[aj (by rw[hc4];simp)];refine aT ?_;refine bA (v:=Rec.D x.r) ?_;refine aR (Rec.D x.r) (he:=aZ) ?_;refine aG ?_;refine b8 (e7 ?_ (ak (D.int .i64) ?_) (ak (D.int .i64) ?_));all_goals rfl
def C77 (Y:Ctx):Prop:=∀(s:aq),Y.pre 77 [.str s]/\Y.val 77 [.str s]=.tup [Rec.D (ea s).1,.int .i64 (ea s).2.1,.int .i64 (ea s).2.2]
section
def awT:aq:=[112,97,99,107,97,103,101,32,97,112,112,32,49,46,48,46,48,10,110,101,101,100,10,97,110,121,32,98,32,120,32,102,117,108,108,32,94,49,10,119,104,101,110,32,111,115,32,61,32,120,10,98,97,114,32,99,32,42,10,102,101,97,116,117,114,101,32,121,32,98,47,122,10]
def MG:aq:=[112,97,99,107,97,103,101,32,97,112,112,32,49,46,48,46,48,10,97,110,121,32,98,32,45,32,102,117,108,108,32,42,10]
def Ja:Rec:=⟨[97,112,112],⟨1,0,0,[],[]⟩,[⟨[⟨[98],[94,49],[[120]],false⟩],[111,115,32,61,32,120],[]⟩],[⟨[99],[42],[]⟩],[⟨[121],[[98,47,122]]⟩]⟩
set_option maxRecDepth 100000 in
theorem aw1:ea awT=(Ja,0,0):=by decide+kernel
set_option maxRecDepth 100000 in
theorem aw3:iq Ja=(awT,0):=by decide+kernel
set_option maxRecDepth 100000 in
theorem aw2:(ea MG).2=(2,2):=by decide+kernel
def P7:gV Ja:=by
 refine⟨⟨aF,aF,aF⟩,fun n hn=>?_,fun b hb=>?_,fun f hf=>?_⟩
 ·simp only[Ja,cK]at hn;subst hn;refine⟨fun w hw=>?_,aF,aF⟩;simp only[cK]at hw;subst hw;exact⟨⟨aF,aF⟩,fun t ht=>by simp only[cK]at ht;subst ht;decide⟩
 ·simp only[Ja,cK]at hb;subst hb;exact⟨aF,aF,aF⟩
 ·simp only[Ja,cK]at hf;subst hf;exact⟨aF,aF,fun t ht=>by simp only[cK]at ht;subst ht;decide⟩
end
def BN:aJ:=⟨1,6,[⟨1,none⟩,⟨2,none⟩],iB,(sq (rg [gb 9 s0,gm cse,gm bL] [(3,0),(1,1),(2,2)]) (sq (sq (r1 [gk 9 true s3,gx 70 [l0] [[.a,.a,.a,.a,.a,.a,.sl 3 [.sl 4 [.a,.a,.sl 1 [.a],.a],.a,.a],.sl 3 [.a,.a,.a],.sl 2 [.a,.sl 1 [.a]]]],gm l1,ge l2 0,ge l2 1,gm l3,gm l4] 4 5) (sq (r1 [gm s4,cv l0 bL] 5 1) (.cond s5 (sq (rg [gm s4,gm cse,gm l0] [(1,1),(2,2)]) .ret) .skip))) (sq (rg [gk 9 true s3,gx 215 [l0] [[.a,.a,.a,.a,.a,.a,.sl 3 [.sl 4 [.a,.a,.sl 1 [.a],.a],.a,.a],.sl 3 [.a,.a,.a],.sl 2 [.a,.sl 1 [.a]]]],gm l1,gm bL] [(1,2),(2,3)]) .ret)))⟩
def w72 {Y:Ctx}(hm:(Y.at 0).bz)(h70:C70 Y)(h215:OX Y)(r:Rec)  (hp0:gV r):dV Y BN (.tup [.str (iq r).1,.int .i64 (iq r).2]) [Rec.D r]:=by
 show bX _ _ _ [⟨_,_⟩,_,_,_,_,_] _;refine au ?_;refine br ?_;refine ar (hc:=h70 r hp0) ?_;refine hE ?_;refine cT (fun hc0=>?_) fun hc0=>?_
 ·refine br ?_;refine b8 (aU (ak D.str ?_) (ak (D.int .i64) ?_));all_goals
   simp[iq,hc0]
 refine aA ?_;have hgd:=vH hc0;refine aE ?_;refine ar (hc:=h215 r ⟨hgd,hp0⟩) ?_;refine aG ?_;refine b8 (aU (ak D.str ?_) (ak (D.int .i64) ?_));all_goals
  simp[iq,hc0]
def C72 (Y:Ctx):Prop:=∀(r:Rec),(gV r)->Y.pre 72 [Rec.D r]/\Y.val 72 [Rec.D r]=.tup [.str (iq r).1,.int .i64 (iq r).2]
def C0:aJ:=⟨0,8,[⟨0,none⟩],ct,(sq (r1 [gm dj] 0 0) (sq (rg [gx 76 [(cs [112,97,99,107,97,103,101,32,97,112,112,32,49,46,48,46,48,10,110,101,101,100,10,97,110,121,32,98,32,120,32,102,117,108,108,32,94,49,10,119,104,101,110,32,111,115,32,61,32,120,10,98,97,114,32,99,32,42,10,102,101,97,116,117,114,101,32,121,32,98,47,122,10])] ct,gm l0,ge l1 0,ge l1 1,ge l1 2,gb 9 (.c (.agg [.str [],.int .i64 0,.int .i64 0,.int .i64 0,.str [],.str [],.aC,.aC,.aC])),gt 9 l5 l2,gm l3,gm l4] [(1,5),(2,7),(4,8)]) (sq (rg [gk 9 true s1,gx 72 [l0] [[.a,.a,.a,.a,.a,.a,.sl 3 [.sl 4 [.a,.a,.sl 1 [.a],.a],.a,.a],.sl 3 [.a,.a,.a],.sl 2 [.a,.sl 1 [.a]]]],gm l1,ge l2 0,ge l2 1,gm l3,gm l4] [(5,5),(3,6)]) (sq (rg [gx 76 [(cs [112,97,99,107,97,103,101,32,97,112,112,32,49,46,48,46,48,10,97,110,121,32,98,32,45,32,102,117,108,108,32,42,10])] ct,gm l0,ge l1 0,ge l1 1,ge l1 2,gb 9 (.c (.agg [.str [],.int .i64 0,.int .i64 0,.int .i64 0,.str [],.str [],.aC,.aC,.aC])),gt 9 l5 l2,gm l3,gm l4] [(6,7),(7,8)]) (sq (r1 [gm s2,aO l0 bL,gm l1,gmt 2 s3,cu 2 (cP l3 bL),fg l2 l4,gm l5,gmt 6 s4,cu 6 (cP l7 bL),fg l6 l8,gm l9,mP 10 6 s1,kd 10 gJ,cu 10 (.len iM),cu 10 (cP jN ch),fg l10 ku,gm lx,mP 16 7 s1,kd 16 pV,cu 16 (.len qu),cu 16 (cP sn ch),fg n9 wv,gm zg,gmt 22 s5,cu 22 (.lenS Ee),cu 22 (cP Ef (i6 73)),fg Ak EL,gm Jc,gmt 27 s6,cu 27 (cP Np jE),fg Kn Nq,gm Qp,gmt 31 s7,cu 31 (cP Ri jE),fg Rh l33,gm l34] 0 35) .ret)))))⟩
def w69 {Y:Ctx}(hm:(Y.at 0).bz)(h72:C72 Y)(h76:C76 Y)    :dV Y C0 (.bool true) []:=by
 show bX _ _ _ [_,_,_,_,_,_,_,_] _;refine au ?_;refine aB ?_;refine ar (v:=.tup [Rec.D Ja,.int .i64 0,.int .i64 0]) (hc:=by have:=h76 awT;rw[aw1]at this;exact this) ?_;refine aE ?_;refine fB (Rec.D _) ?_;refine aB ?_;refine aR (Rec.D Ja) (he:=aZ) ?_;refine aG ?_;refine c8 (d:=Rec.D Ja) ?_;refine ar (v:=.tup [.str awT,.int .i64 0]) (hc:=by have:=h72 Ja P7;rw[aw3]at this;exact this) ?_;refine br ?_;refine ar (v:=.tup [Rec.D (ea MG).1,.int .i64 2,.int .i64 2]) (hc:=by have:=h76 MG;rw[aw2]at this;exact this) ?_;refine aE ?_;refine fB (Rec.D _) ?_;refine aB ?_;refine aR (Rec.D (ea MG).1) (he:=aZ) ?_;refine zd ?_;refine bA (v:=.sl 3 (Ja.needs.map ba.D)) ?_;refine js ?_;refine aG ?_;refine bA (v:=.sl 3 (Ja.bars.map fh.D)) ?_;refine js ?_;refine aG ?_;refine js ?_;refine mO ?_;refine b7 ?_;decide
def C69 (Y:Ctx):Prop:=Y.pre 69 []/\Y.val 69 []=.bool true
def yB:aJ:=⟨2,5,[⟨2,none⟩],ct,(sq (rg [gb 4 s0,gb 4 s1,gm dj] [(3,0),(4,1),(2,2)]) (sq (r1 [gf 0 s3,gd l0,gf 0 s4,gd l2,aO l1 l3,gm l4,mP 5 1 s3,kd 5 l6,mP 5 1 s4,kd 5 l8,cu 5 (cP l7 l9),fg l5 l10,gm gJ,mP 12 3 s3,kd 12 jN,mP 12 3 s4,kd 12 lx,cu 12 (.eqA false false [.b] ku n9),fg iM pV,gm qu,mP 19 2 s3,kd 19 wv,mP 19 2 s4,kd 19 Ak,cu 19 (.call 226 [zg,Ee] [[.sl 1 [.a]],[.sl 1 [.a]]]),fg sn Ef,gm EL] 2 26) .ret))⟩
def w477 {Y:Ctx}(hm:(Y.at 0).bz)(h226:O0 Y)(a:bD)(b:bD)   :dV Y yB (.bool (decide (a=b))) [bD.D a,bD.D b]:=by
 show bX _ _ _ [⟨_,_⟩,⟨_,_⟩,_,_,_] _;refine au ?_;refine OS ?_;refine Ur (hb:=eqBb _ _) ?_;refine aK ?_;refine ar (hc:=h226 _ _) ?_;refine aG ?_;refine b7 ?_;rw[bD.v7 a b]
def Sd (Y:Ctx):Prop:=∀(a:bD)(b:bD),Y.pre 477 [bD.D a,bD.D b]/\Y.val 477 [bD.D a,bD.D b]=.bool (decide (a=b))
def yA:aJ:=⟨2,9,[⟨2,none⟩],ct,(sq (rg [gb 3 s0,gb 3 s1,gm dj] [(3,0),(4,1),(2,2)]) (sq (sq (r1 [gf 1 s3,gd l0,gf 1 s4,gd l2,cv l1 l3,gm l4,jK 5 2 s3,jQ 5 l6,jK 5 2 s4,jQ 5 l8,cE 5 (eM l7 l9),fF l5 l10,gm gJ,jK 12 0 s3,jQ 12 jN,cE 12 (.len ku),jK 12 0 s4,jQ 12 n9,cE 12 (.len pV),cE 12 (eM lx qu),fF iM sn] 5 20) (.cond s5 (sq (r1 [gm dj] 2 0) .ret) .skip)) (sq (sq (r1 [gm bL] 6 0) (.block 0 (.loop (sq (sq (r1 [gm s6,gf 0 s3,gd l1,gl l2,a8 l0 l3] 7 4) (fY s7 0)) (sq (.block 1 (sq (r2 [gf 0 s3,gd l0,gm s6,ga 4 l1 l2,gk 4 true l3,gf 0 s4,gd l5,gm s6,ga 4 l6 l7,gk 4 true l8,gx 477 [l4,l9] [[.a,.a,.sl 1 [.a],.a],[.a,.a,.sl 1 [.a],.a]],ke l10] 8 11) (.cond s8 (sq (r1 [gm dj] 2 0) .ret) .skip))) (r1 [gm s6,ay l0 ch,gm l1] 6 2)))))) (sq (r1 [gm ou] 2 0) .ret))))⟩
def w225 {Y:Ctx}(hm:(Y.at 0).bz)(h477:Sd Y)(a:ba)(b:ba)   :dV Y yA (.bool (decide (a=b))) [ba.D a,ba.D b]:=by
 show bX _ _ _ [⟨_,_⟩,⟨_,_⟩,_,_,_,_,_,_,_] _;refine au ?_;refine Vb ?_;refine js ?_;refine aA ?_;refine js ?_;refine aB ?_;refine aw (fun hc0=>?_) (fun hc0=>?_)
 ·simp only[cR,bn,bj]at hc0;refine aT ?_;refine b7 ?_;symm;rw[bj];rintro rfl;simp at hc0
 simp only[c9,bP,aS]at hc0;refine aT ?_;have hb:=ba.UG hc0.1.1 hc0.1.2 ae;refine bw hm (ι:=Nat) (fun i=>[.un,.un,.un,⟨true,.ptr 0 3 0 0⟩,⟨true,.ptr 1 3 0 0⟩,.un,⟨true,.int .i64 (i:Nat)⟩,.un,.un]) (fun i=>[(0,.buf 3 [ba.D a]),(1,.buf 3 [ba.D b])]) 25 (fun i=>i<=a.any.length/\decide (a=b)=cO (fun i=>decide (a.any[i]! =b.any[i]!)) i a.any.length) (fun i=>a.any.length-i) 0 ⟨ae,hb⟩ (dS [(0,0),(1,1)]) ?_;rintro i ⟨hi,hr⟩;refine aK ?_;intro u0;refine aA ?_;refine cT (fun hc1=>?_) fun hc1=>?_
 ·refine br ?_;first|refine cb (v:=(bD.D _)) ?_|refine fk (v:=(bD.D _)) ?_
  refine aG ?_;first|refine cb (v:=(bD.D _)) ?_|refine fk (v:=(bD.D _)) ?_
  refine ar (hc:=h477 _ _) ?_;refine aA ?_;refine wp_cond (fun hc2=>?_) (fun hc2=>?_)
  ·simp only[bn,bj]at hc2;refine aK ?_;refine b7 ?_;rw[hr,aX ae,cJ hc2];rfl
  simp only[bP,aS]at hc2;refine bY ?_;exact⟨i+1,⟨ae,by rw[hr,aX ae,bS hc2];rfl⟩,ae,(dS [(0,0),(1,1)])⟩
 refine aK ?_;refine b7 ?_;rw[hr,cj ae]
def RM (Y:Ctx):Prop:=∀(a:ba)(b:ba),Y.pre 225 [ba.D a,ba.D b]/\Y.val 225 [ba.D a,ba.D b]=.bool (decide (a=b))
def Fi:aJ:=⟨2,15,[⟨2,none⟩],ct,(sq (rg [gb 9 s0,gb 9 s1,gm dj] [(3,0),(4,1),(2,2)]) (sq (sq (r1 [gf 0 s3,gd l0,gf 0 s4,gd l2,cv l1 l3,gm l4,jK 5 1 s3,cE 5 (.ld 5 true l6),jK 5 1 s4,cE 5 (.ld 5 true l8),cE 5 (.eqA true true [.i .i64,.i .i64,.i .i64,.s,.s] l7 l9),fF l5 l10,gm gJ,jK 12 6 s3,jQ 12 jN,cE 12 (.len ku),jK 12 6 s4,jQ 12 n9,cE 12 (.len pV),cE 12 (eM lx qu),fF iM sn,gm wv,jK 21 7 s3,jQ 21 Ak,cE 21 (.len Ee),jK 21 7 s4,jQ 21 EL,cE 21 (.len Jc),cE 21 (eM Ef Kn),fF zg Np,gm Nq,jK 30 8 s3,jQ 30 Rh,cE 30 (.len Ri),jK 30 8 s4,jQ 30 l34,cE 30 (.len l35),cE 30 (eM l33 l36),fF Qp l37] 5 38) (.cond s5 (sq (r1 [gm dj] 2 0) .ret) .skip)) (sq (sq (r1 [gm bL] 6 0) (.block 0 (.loop (sq (sq (r1 [gm s6,gf 6 s3,gd l1,gl l2,a8 l0 l3] 7 4) (fY s7 0)) (sq (.block 1 (sq (r2 [gf 6 s3,gd l0,gm s6,ga 3 l1 l2,gk 3 true l3,gf 6 s4,gd l5,gm s6,ga 3 l6 l7,gk 3 true l8,gx 225 [l4,l9] [[.sl 4 [.a,.a,.sl 1 [.a],.a],.a,.a],[.sl 4 [.a,.a,.sl 1 [.a],.a],.a,.a]],ke l10] 8 11) (.cond s8 (sq (r1 [gm dj] 2 0) .ret) .skip))) (r1 [gm s6,ay l0 ch,gm l1] 6 2)))))) (sq (sq (r1 [gm bL] 9 0) (.block 2 (.loop (sq (sq (r1 [gm s9,gf 7 s3,gd l1,gl l2,a8 l0 l3] 10 4) (fY kZ 2)) (sq (.block 3 (sq (r2 [gf 7 s3,gd l0,gm s9,ga 3 l1 l2,gk 3 true l3,gf 7 s4,gd l5,gm s9,ga 3 l6 l7,gk 3 true l8,gn (.eqA true true [.s,.s,.s] l4 l9)] 11 10) (.cond nQ (sq (r1 [gm dj] 2 0) .ret) .skip))) (r1 [gm s9,ay l0 ch,gm l1] 9 2)))))) (sq (sq (r1 [gm bL] 12 0) (.block 4 (.loop (sq (sq (r1 [gm mQ,gf 8 s3,gd l1,gl l2,a8 l0 l3] 13 4) (fY rv 4)) (sq (.block 5 (sq (r2 [gf 8 s3,gd l0,gm mQ,ga 2 l1 l2,gf 0 l3,gd l4,gf 8 s4,gd l6,gm mQ,ga 2 l7 l8,gf 0 l9,gd l10,cv l5 gJ,gm iM,jK 13 8 s3,jQ 13 ku,eU 13 mQ,cE 13 (.ia 2 lx n9),jK 13 1 pV,jQ 13 qu,jK 13 8 s4,jQ 13 wv,eU 13 mQ,cE 13 (.ia 2 zg Ak),jK 13 1 Ee,jQ 13 Ef,cE 13 (.call 226 [sn,EL] [[.sl 1 [.a]],[.sl 1 [.a]]]),cE 13 (.un .not Jc),fF jN Kn] 14 28) (.cond r8 (sq (r1 [gm dj] 2 0) .ret) .skip))) (r1 [gm mQ,ay l0 ch,gm l1] 12 2)))))) (sq (r1 [gm ou] 2 0) .ret))))))⟩
def w78 {Y:Ctx}(hm:(Y.at 0).bz)(h225:RM Y)(h226:O0 Y)(a:Rec)(b:Rec)   :dV Y Fi (.bool (decide (a=b))) [Rec.D a,Rec.D b]:=by
 show bX _ _ _ [⟨_,_⟩,⟨_,_⟩,_,_,_,_,_,_,_,_,_,_,_,_,_] _;refine au ?_;refine mO ?_;refine bA (v:=(cM.D _)) ?_;refine aE ?_;refine bA (v:=(cM.D _)) ?_;refine OM (hb:=cM.eq _ _) ?_;refine aG ?_;refine js ?_;refine aA ?_;refine js ?_;refine aT ?_;refine js ?_;refine aA ?_;refine js ?_;refine aT ?_;refine js ?_;refine aA ?_;refine js ?_;refine aB ?_;refine aw (fun hc0=>?_) (fun hc0=>?_)
 ·simp only[cR,bn,bj]at hc0;refine aT ?_;refine b7 ?_;symm;rw[bj];rintro rfl;simp at hc0
 simp only[c9,bP,aS]at hc0;refine aT ?_;have hb:=pB (show a.needs.length=b.needs.length by omega);refine bw hm (ι:=Nat) (fun i=>[.un,.un,.un,⟨true,.ptr 0 9 0 0⟩,⟨true,.ptr 1 9 0 0⟩,.un,⟨true,.int .i64 (i:Nat)⟩,.un,.un,.un,.un,.un,.un,.un,.un]) (fun i=>[(0,.buf 9 [Rec.D a]),(1,.buf 9 [Rec.D b])]) 43 (fun i=>i<=a.needs.length/\decide (a.needs=b.needs)=cO (fun i=>decide (a.needs[i]! =b.needs[i]!)) i a.needs.length) (fun i=>a.needs.length-i) 0 ⟨ae,hb⟩ (dS [(0,0),(1,1)]) ?_;rintro i ⟨hi,hr⟩;refine aK ?_;intro u0;refine aA ?_;refine cT (fun hc1=>?_) fun hc1=>?_
 ·refine br ?_;first|refine cb (v:=(ba.D _)) ?_|refine fk (v:=(ba.D _)) ?_
  refine aG ?_;first|refine cb (v:=(ba.D _)) ?_|refine fk (v:=(ba.D _)) ?_
  refine ar (hc:=h225 _ _) ?_;refine aA ?_;refine wp_cond (fun hc2=>?_) (fun hc2=>?_)
  ·simp only[bn,bj]at hc2;refine aK ?_;refine b7 ?_;have hd:decide (a.needs=b.needs)=false:=by rw[hr,aX ae,cJ hc2];rfl
   rw[Rec.v7 a b,hd];simp
  simp only[bP,aS]at hc2;refine bY ?_;exact⟨i+1,⟨ae,by rw[hr,aX ae,bS hc2];rfl⟩,ae,(dS [(0,0),(1,1)])⟩
 refine aG ?_;have hn:decide (a.needs=b.needs)=true:=by rw[hr,cj ae]
 refine aA ?_;have hb:=pB (show a.bars.length=b.bars.length by omega);refine bw hm (ι:=Nat) (fun i=>[.un,.un,.un,⟨true,.ptr 0 9 0 0⟩,⟨true,.ptr 1 9 0 0⟩,.un,.un,.un,.un,⟨true,.int .i64 (i:Nat)⟩,.un,.un,.un,.un,.un]) (fun i=>[(0,.buf 9 [Rec.D a]),(1,.buf 9 [Rec.D b])]) 49 (fun i=>i<=a.bars.length/\decide (a.bars=b.bars)=cO (fun i=>decide (a.bars[i]! =b.bars[i]!)) i a.bars.length) (fun i=>a.bars.length-i) 0 ⟨ae,hb⟩ (dS [(0,0),(1,1)]) ?_;rintro i ⟨hi,hr⟩;refine aK ?_;intro u1;refine aA ?_;refine cT (fun hc3=>?_) fun hc3=>?_
 ·refine br ?_;first|refine cb (v:=(fh.D _)) ?_|refine fk (v:=(fh.D _)) ?_
  refine aG ?_;first|refine cb (v:=(fh.D _)) ?_|refine fk (v:=(fh.D _)) ?_
  refine OM (hb:=fh.eq _ _) ?_;refine aE ?_;refine wp_cond (fun hc4=>?_) (fun hc4=>?_)
  ·simp only[bn,bj]at hc4;refine aK ?_;refine b7 ?_;have hd:decide (a.bars=b.bars)=false:=by rw[hr,aX ae,cJ hc4];rfl
   rw[Rec.v7 a b,hd];simp
  simp only[bP,aS]at hc4;refine bY ?_;exact⟨i+1,⟨ae,by rw[hr,aX ae,bS hc4];rfl⟩,ae,(dS [(0,0),(1,1)])⟩
 refine aG ?_;have hbr:decide (a.bars=b.bars)=true:=by rw[hr,cj ae]
 refine aA ?_;have hb:=pB (show a.feats.length=b.feats.length by omega);refine bw hm (ι:=Nat) (fun i=>[.un,.un,.un,⟨true,.ptr 0 9 0 0⟩,⟨true,.ptr 1 9 0 0⟩,.un,.un,.un,.un,.un,.un,.un,⟨true,.int .i64 (i:Nat)⟩,.un,.un]) (fun i=>[(0,.buf 9 [Rec.D a]),(1,.buf 9 [Rec.D b])]) 55 (fun i=>i<=a.feats.length/\decide (a.feats=b.feats)=cO (fun i=>decide (a.feats[i]! =b.feats[i]!)) i a.feats.length) (fun i=>a.feats.length-i) 0 ⟨ae,hb⟩ (dS [(0,0),(1,1)]) ?_;rintro i ⟨hi,hr⟩;refine aK ?_;intro u2;refine aA ?_;refine cT (fun hc5=>?_) fun hc5=>?_
 ·refine Ve ?_;refine ar (hc:=h226 _ _) ?_;refine aB ?_;refine wp_cond (fun hc6=>?_) (fun hc6=>?_)
  ·simp only[cR,bn,bj]at hc6;replace hc6:¬a.feats[i]! =b.feats[i]! :=fun e=>by rw[e]at hc6;simp at hc6
   refine aK ?_;refine b7 ?_;have hd:decide (a.feats=b.feats)=false:=by rw[hr,aX ae,cJ hc6];rfl
   rw[Rec.v7 a b,hd];simp
  simp only[c9,bP,aS]at hc6;replace hc6:a.feats[i]! =b.feats[i]! :=bF.eq2 hc6.1 hc6.2;refine bY ?_;exact⟨i+1,⟨ae,by rw[hr,aX ae,bS hc6];rfl⟩,ae,(dS [(0,0),(1,1)])⟩
 refine aK ?_;refine b7 ?_;have hf:decide (a.feats=b.feats)=true:=by rw[hr,cj ae]
 rw[Rec.v7 a b,hn,hbr,hf,bS hc0.1.1.1.1,bS hc0.1.1.1.2];rfl
def C78 (Y:Ctx):Prop:=∀(a:Rec)(b:Rec),Y.pre 78 [Rec.D a,Rec.D b]/\Y.val 78 [Rec.D a,Rec.D b]=.bool (decide (a=b))
end Go.Abs
