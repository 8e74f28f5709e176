/- A part of the proofs. -/
import Derived.Lib.CountLaws
import Derived.Lib.IndexMore
import Derived.Lib.ItoaNum
import Derived.Lib.Join
import Derived.Lib.Split
import Derived.Lib.SplitLaws
import Derived.Lib.Strings
import Derived.Lib.TrimByte
import Derived.Shelf.Strings.Split
import Derived.Test.YtfijeeijkndliaaGreatDoorP06
set_option linter.all false
set_option maxRecDepth 60000
set_option maxHeartbeats 2000000
namespace Go.Abs
def pre1 (b c:UInt8)(r:av):([b]:av).isPrefixOf (c::r)=(b==c):=by simp[List.isPrefixOf]
def ixO:Option Nat->Int
 |some k=>(k:Int)
 |none=>-1
theorem uE:∀(s:av) (b:UInt8),Lib.index s [b]=ixO (s.findIdx? (fun c=>c==b))
 |[],b=>rfl
 |c::r,b=>by
  unfold Lib.index;rw[pre1,List.findIdx?_cons,uE r b];by_cases h:c=b
  .subst h;simp[ixO]
  .have h1:(b==c)=false:=by simp[Ne.symm h]
   have h2:(c==b)=false:=by simp[h]
   simp only[h1,h2,gP,aZ];cases r.findIdx? (fun c=>c==b)with
   |none=>rfl
   |some k=>
    grind [ixO]
def Jl (s:av)(b:UInt8):Lib.cut s [b]=gT s b:=by
 unfold Lib.cut gT
 grind [uE,ixO]
def contains_eq (s:av)(b:UInt8):Lib.contains s [b]=s.contains b:=by
 unfold Lib.contains;rw[uE];rw[Bool.eq_iff_iff];cases h:s.findIdx? (fun c=>c==b)with
 |none=>
  grind [ixO]
 |some k=>
  grind [ixO]
def vY (s p:av):(Lib.trimPrefix s p,Lib.hasPrefix s p)=gy s p:=by
 unfold Lib.trimPrefix Lib.hasPrefix gy
 grind
def uG (b:av):∀l,aO b l=Lib.join l b
 |[]=>rfl
 |[t]=>(Lib.join_one t b).symm
 |t::u::r=>by
  rw[eK _ _ _ aI,uG b (u::r),Lib.join_cons,Lib.join_cons];simp[Lib.joinTail]
def decDigits_eq (n:Nat):Lib.decDigits n=ea n:=by
 induction n using Nat.strongRecOn with
 |_ n ih=>
  rw[Lib.decDigits];by_cases h:n<10
  .rw[dif_pos h,nS h];rfl
  .rw[dif_neg h,pL ae,ih (n/10) ae];rfl
def CW {n:Int}(h:0<=n):Lib.itoa n=ea n.toNat:=by
 unfold Lib.itoa;rw[ar ae,decDigits_eq]
def sw (b:UInt8):∀(s cur:av),s.findIdx? (fun c=>c==b)=none->cQ b.toNat s cur=[cur++s]
 |[],cur,_=>by simp[cQ]
 |c::r,cur,h=>by
  rw[List.findIdx?_cons]at h;split at h
  .cases h
  .rename_i hc;have hr:r.findIdx? (fun c=>c==b)=none:=by
    cases hq:r.findIdx? (fun c=>c==b)with
    |none=>rfl
    |some k=>rw[hq]at h;cases h
   have hne:¬((c.toNat:Int)=(b.toNat:Int)):=fun e=>hc (by
    have:c.toNat=b.toNat:=ae;simp[iY.1 this])
   simp only[cQ,ar hne];rw[sw b r (cur++[c]) hr];simp
def qM (b:UInt8):∀(s cur:av) (k:Nat),s.findIdx? (fun c=>c==b)=some k->cQ b.toNat s cur=(cur++s.take k)::cQ b.toNat (s.drop (k+1)) []
 |[],cur,k,h=>by simp at h
 |c::r,cur,k,h=>by
  rw[List.findIdx?_cons]at h;split at h
  .grind [cQ]
  .rename_i hc;have hne:¬((c.toNat:Int)=(b.toNat:Int)):=fun e=>hc (by
    have:c.toNat=b.toNat:=ae;simp[iY.1 this])
   cases hq:r.findIdx? (fun c=>c==b)with
   |none=>rw[hq]at h;cases h
   |some j=>
    rw[hq]at h;have hk:k=j+1:=by simpa using h.symm
    subst hk;simp only[cQ,ar hne];rw[qM b r (cur++[c]) j hq];simp
def lP (b:UInt8):∀(k:Nat) (s:ByteArray),Lib.countB s ⟨⟨[b]⟩⟩=k->(Lib.splitB ⟨⟨[b]⟩⟩ 0 k s).map (fun t=>t.data.toList)=ai s.data.toList b.toNat:=by
 intro k;induction k with
 |zero=>
  intro s h;rw[Lib.splitB_zero];have hi:Lib.indexB s ⟨⟨[b]⟩⟩=ixO (s.data.toList.findIdx? (fun c=>c==b)):=uE _ b;cases hq:s.data.toList.findIdx? (fun c=>c==b)with
  |none=>simp[ai,sw b _ [] hq]
  |some j=>
   rw[hq]at hi;have:=Lib.countB_hit s ⟨⟨[b]⟩⟩ j (aH 1) hi;omega
 |succ k ih=>
  intro s h;have hi:Lib.indexB s ⟨⟨[b]⟩⟩=ixO (s.data.toList.findIdx? (fun c=>c==b)):=uE _ b;cases hq:s.data.toList.findIdx? (fun c=>c==b)with
  |none=>
   rw[hq]at hi;have:=Lib.countB_miss s ⟨⟨[b]⟩⟩ hi;omega
  |some j=>
   rw[hq]at hi;have h1:1<=(⟨⟨[b]⟩⟩:ByteArray).size:=aH 1;have hc:=Lib.countB_hit s ⟨⟨[b]⟩⟩ j h1 hi;rw[Lib.splitB_hit _ _ _ _ j hi];simp only[List.map_cons];rw[ih _ ae];have e1:(s.extract 0 (j+0)).data.toList=s.data.toList.take j:=by
    rw[Lib.extract_data];simp
   have e2:(s.extract (j+(⟨⟨[b]⟩⟩:ByteArray).size) s.size).data.toList=s.data.toList.drop (j+1):=by
    rw[Lib.extract_data];exact fq (by rw[kT,Lib.size_eq];exact aH _)
   rw[e1,e2];simp only[ai];rw[qM b _ [] j hq];simp
end Go.Abs
section
namespace Go.Abs
open Go.Proofs
def Nc (sep:av)(k:Nat)(s:av)(h:Lib.index s sep=-1):Lib.splitK sep 0 k s=[s]:=by
 cases k with
 |zero=>rfl
 |succ k=>unfold Lib.splitK;rw[if_pos (beq_iff_eq.2 h)]
def Tm (sep:av)(k:Nat)(s:av)(i:Nat)(h:Lib.index s sep=i):Lib.splitK sep 0 (k+1) s=s.take i::Lib.splitK sep 0 k (s.drop (i+sep.length)):=by
 have hm:¬(Lib.index s sep==-1)=true:=fun e=>by have:=beq_iff_eq.1 e;omega
 have e:(Lib.index s sep).toNat=i:=by omega
 rw[Lib.splitK,if_neg hm,e];rfl
def jo (b:UInt8):∀(s cur:av),aO [b] (cQ b.toNat s cur)=cur++s
 |[],cur=>by simp[cQ,aO]
 |c::r,cur=>by
  unfold cQ;split
  .rename_i h;have hc:c=b:=by
    have:c.toNat=b.toNat:=by omega
    exact UInt8.toNat_inj.1 this
   have hne:cQ b.toNat r []≠[]:=p9 r b.toNat;rw[eK _ _ _ hne,jo b r [],hc];simp
  .rw[jo b r (cur++[c])];simp
def Wb (a:av){l:List av}(k:Nat)(hl:l≠[]):kL (k+2) (a::l)=a::kL (k+1) l:=by
 grind [kL]
theorem Xw:∀(k:Nat) (s:av),Lib.splitK [32] 0 k s=kL (k+1) (ai s 32):=by
 intro k;induction k with
 |zero=>
  intro s;have hj:aO [32] (ai s 32)=s:=by
   have:=jo 32 s [];simpa[ai]using this
  unfold kL;split
  .rename_i h;show [s]=_;have hne:ai s 32≠[]:=p9 _ _
   match hq:ai s 32,hne,h with
   |[t],_,_=>rw[hq]at hj;rw[<-hj];rfl
   |_::_::_,_,h=>simp at h
  .simp only[Nat.zero_add,Nat.sub_self,List.take_zero,List.drop_zero,List.nil_append,hj];rfl
 |succ k ih=>
  intro s;have hi:=uE s 32;cases hq:s.findIdx? (fun c=>c==32)with
  |none=>
   rw[hq]at hi;have hs:ai s 32=[s]:=by have:=sw 32 s [] hq;simpa[ai]using this
   rw[Nc _ _ _ hi,hs];rfl
  |some j=>
   rw[hq]at hi;have hs:ai s 32=s.take j::ai (s.drop (j+1)) 32:=by have:=qM 32 s [] j hq;simpa[ai]using this
   rw[Tm _ _ _ j hi,hs,Wb _ _ (p9 _ _),ih];rfl
def tv (n:Nat)(h:1<=n)(s:av):Lib.splitK [32] 0 (min n (s.length+1) -1) s=eZ (n:Int) s:=by
 grind [cJ,Xw,eZ,kL]
def pre2 (c d:UInt8)(r:av):([124,124]:av).isPrefixOf (c::d::r)=(decide (c=124)&&decide (d=124)):=by
 grind
theorem Ip:∀(s cur:av),Lib.index s [124,124]=-1->aT s cur=[cur++s]
 |[],cur,_=>by simp[aT]
 |[c],cur,_=>rfl
 |c::d::r,cur,h=>by
  unfold Lib.index at h;rw[pre2]at h;by_cases h2:c=124/\d=124
  .simp[h2.1,h2.2]at h
  .have h3:(decide (c=124)&&decide (d=124))=false:=by rw[<-Bool.decide_and];exact decide_eq_false h2
   rw[h3,if_neg (by simp)]at h;have h4:Lib.index (d::r) [124,124]=-1:=by
    have:=Lib.index_ge (d::r) [124,124]
    grind
   rw[aT,if_neg h2,Ip (d::r) _ h4];simp
def Io:∀(s cur:av) (i:Nat),Lib.index s [124,124]=i->aT s cur=(cur++s.take i)::aT (s.drop (i+2)) []
 |[],cur,i,h=>by simp[Lib.index]at h
 |[c],cur,i,h=>by simp[Lib.index,List.isPrefixOf]at h
 |c::d::r,cur,i,h=>by
  unfold Lib.index at h;rw[pre2]at h;by_cases h2:c=124/\d=124
  .rw[h2.1,h2.2]at h;have hi:i=0:=by simp at h;omega
   subst hi;rw[aT,if_pos h2];simp
  .have h3:(decide (c=124)&&decide (d=124))=false:=by rw[<-Bool.decide_and];exact decide_eq_false h2
   rw[h3,if_neg (by simp)]at h;split at h
   .omega
   .obtain⟨j,rfl⟩:∃j,i=j+1:=⟨i-1,by
     have:=Lib.index_ge (d::r) [124,124];rename_i h5;have:Lib.index (d::r) [124,124]≠-1:=fun e=>h5 (beq_iff_eq.2 e)
     omega⟩
    rw[aT,if_neg h2,Io (d::r) _ j (by omega)];simp
def wC:∀(k:Nat) (s:ByteArray),Lib.countB s ⟨⟨[124,124]⟩⟩=k->(Lib.splitB ⟨⟨[124,124]⟩⟩ 0 k s).map (fun t=>t.data.toList)=aT s.data.toList []:=by
 intro k;induction k with
 |zero=>
  intro s h;rcases Lib.indexB_cases s ⟨⟨[124,124]⟩⟩with hi|⟨i,hi,_⟩
  .rw[Lib.splitB_zero]
   grind [Ip]
  .have:=Lib.countB_hit s ⟨⟨[124,124]⟩⟩ i (by decide) hi;omega
 |succ k ih=>
  intro s h;rcases Lib.indexB_cases s ⟨⟨[124,124]⟩⟩with hi|⟨i,hi,_⟩
  .rw[Lib.countB_miss _ _ hi]at h;omega
  .have hc:=Lib.countB_hit s ⟨⟨[124,124]⟩⟩ i (by decide) hi;rw[Lib.splitB_hit _ _ _ _ i hi,List.map_cons,ih _ (by omega),Io _ _ i (show Lib.index s.data.toList [124,124]=i from hi),Lib.extract_from_zero,Lib.extract_to_end];rfl
def Iw {p:UInt8->Bool}:∀(l:av),∀x∈l.takeWhile p,p x=true
 |[],x,h=>by cases h
 |a::r,x,h=>by
  rw[List.takeWhile_cons]at h;split at h
  .rename_i ha;rcases List.mem_cons.1 h with rfl|h
   .exact ha
   .exact Iw r x h
  .cases h
theorem AN {p:UInt8->Bool}:∀(l:av),(∀x∈l,p x=true)->l.dropWhile p=[]
 |[],_=>rfl
 |a::r,h=>by
  rw[List.dropWhile_cons,if_pos (h a (.head _))];exact AN r fun x hx=>h x (.tail _ hx)
def EB:∀s,kF s=s.dropWhile (· ==32)
 |[]=>rfl
 |c::r=>by
  unfold kF;by_cases h:c=32
  .rw[if_pos h,EB r];simp[h]
  .rw[if_neg h,List.dropWhile_cons,if_neg (by simpa using h)]
def yM (s:av):Lib.trimB s 32=eB s:=by
 unfold Lib.trimB Lib.trimLeftB Lib.trimRightB eB;rw[EB,EB];generalize hp:(fun c:UInt8=>c==32)=p;have hs:s=s.takeWhile p++s.dropWhile p:=(List.takeWhile_append_dropWhile).symm;generalize ha:s.takeWhile p=a at hs;generalize hm:s.dropWhile p=m at hs;have hall:∀x∈a,p x=true:=by rw[<-ha];exact Iw s
 subst hs;rw[List.reverse_append,List.dropWhile_append];cases m with
 |nil=>
  grind [AN]
 |cons c r=>
  have hc:p c=false:=by
   have:=List.head_dropWhile_not p (l:=a++c::r) (by rw[hm];simp);simpa[hm]using this
  have hne:((c::r).reverse.dropWhile p)≠[]:=by
   rw[List.reverse_cons,List.dropWhile_append];split
   .simp[hc]
   .simp
  rw[if_neg (by simpa using hne),List.reverse_append,List.reverse_reverse,List.dropWhile_append,AN _ hall];simp only[List.isEmpty_nil,if_true];rw[List.reverse_cons,List.dropWhile_append];split
  .simp[hc]
  .simp[hc]
end Go.Abs
namespace Go.Proofs
open Go.Shelf Go.RowKit Go.Lib
set_option maxHeartbeats 1000000 in
theorem tq {P:Program}{J:Ren}(L:Lays.n147 P J)(hi9:(P.info? (J.t 9)).map (fun i=>(i.zero,i.size,i.bytes))=some (some (.string ByteArray.empty),1,16))(s sep:ByteArray)(m:Int)(w:World)
  (hs:s.size<4294967281) (hm:w.cell? ⟨(J.g 1),0,none⟩=some (.int .i64 m)) (h1:1<=sep.size):
  Calls P (J.f 147) #[.string s,.string sep,.int .i64 (-1)] w fun e w'=>
   e=.returned (.slice (some ⟨w.heap.size,0,none⟩) (Lib.splitB sep 0 (Lib.countB s sep) s).length (Lib.countB s sep+1))/\w'=w.alloc (.cells (Lib.cellsOf (Lib.splitB sep 0 (Lib.countB s sep) s) (Lib.countB s sep+1)) (J.t 9)):=by
 have hle:=Lib.countB_le sep h1 s.size s (Nat.le_refl _);have c:=Any.strings_genSplit {L with} hi9 s sep 0 (-1) (Lib.countB s sep+1) m w hs hm h1 (Nat.zero_le _) (by decide) (by decide) (by rw[if_pos (by decide)];omega);rw[Nat.add_sub_cancel]at c;have t3:=L.t3;have t9:=L.t9;have t31:=L.t31;have a3:=L.a3;have a9:=L.a9;have a31:=L.a31;have z3:=L.z3;have v3:=L.v3;have z9:=L.z9;have v9:=L.v9;have z31:=L.z31;have v31:=L.v31;have e221:∀args w,(callFunc (J.f 221) args).run P w=.ok (.enter (J.f 221) args) w:=enters_of L.f221 (by kernel_rfl) rfl
 go_enter L.f147,Body.n147_ntmps J
 go_wp2_with (go_at_fn (J.f 221);refine c.mono ?_;rintro e w' ⟨rfl,hw⟩;rw[hw])
 go_ret
 exact⟨rfl,rfl⟩
end Go.Proofs
end
section
namespace Go.Abs
def fR (t:av):av×Bool:=if t.getLast? =some 10 then(t.dropLast,true)else(t,false)
def kB (s:av):List av:=(qy s).map (· ++[10])++[xX s]
def k9 (s:av):List av:=if xX s=[]then(qy s).map (· ++[10])else kB s
def vi (p:Nat->Bool):Nat->Nat->Nat
 |k,0=>k
 |k,f+1=>if p k=true then k else vi p (k+1) f
def vg (p:Nat->Bool)(k n:Nat):Nat:=vi p k (n-k)
theorem Gc {p:Nat->Bool}{k n:Nat}(h:k<n)(hp:p k=true):vg p k n=k:=by
 unfold vg;rw[show n-k=(n-(k+1))+1 by omega,vi,aC hp]
theorem Kb {p:Nat->Bool}{k n:Nat}(h:k<n)(hp:p k=false):vg p k n=vg p (k+1) n:=by
 unfold vg;rw[show n-k=(n-(k+1))+1 by omega,vi,ar (by simp[hp])]
theorem Gb {p:Nat->Bool}{k n:Nat}(h:n<=k):vg p k n=k:=by
 unfold vg;rw[show n-k=0 by omega,vi]
theorem M9 (p:Nat->Bool):∀f k,k<=vi p k f/\vi p k f<=k+f
 |0,k=>⟨aH _,aH _⟩
 |f+1,k=>by
  have:=M9 p f (k+1);unfold vi;split<;>omega
def adX (p:Nat->Bool){k n:Nat}(h:k<=n):vg p k n<=n:=by
 grind [M9,vg]
def Ca {p q:Nat->Bool}:∀f k,(∀j,k<=j->j<k+f->p j=q j)->vi p k f=vi q k f
 |0,_,_=>rfl
 |f+1,k,h=>by
  unfold vi;rw[h k (aH _) ae,Ca f (k+1) fun j h1 h2=>h j ae ae]
def Th {p q:Nat->Bool}{k n:Nat}(h:∀j,k<=j->j<n->p j=q j):vg p k n=vg q k n:=Ca _ _ fun j h1 h2=>h j h1 ae
def slice {α:Type}(l:List α)(a b:Nat):List α:=(l.take b).drop a
def mP (L:List av)(en:Bool)(i:Nat):Bool:=en ||decide (i+1<L.length)
def EI (l:List av)(en:Bool):av:=if en=true then kV l else aO [10] l
def FI (s:av):(∃A,aJ s=(A,true)/\k9 s=A.map (· ++[10]))\/∃A b,aJ s=(A++[b],false)/\k9 s=A.map (· ++[10])++[b]:=by
 rcases Fg s with⟨h1,h2,h3⟩|⟨h1,h2,h3⟩
 .grind [k9]
 .exact .inr ⟨qy s,xX s,Prod.ext h3 h1,by unfold k9;rw[ar h2];rfl⟩
theorem tk (s:av):(k9 s).length=(aJ s).1.length:=by
 rcases FI s with⟨A,h1,h2⟩|⟨A,b,h1,h2⟩<;>rw[h1,h2]<;>simp
def SD {s:av}{i:Nat}(h:i<(aJ s).1.length):(k9 s)[i]! =(aJ s).1[i]! ++(if mP (aJ s).1 (aJ s).2 i=true then [10]else []):=by
 rcases FI s with⟨A,h1,h2⟩|⟨A,b,h1,h2⟩
 .grind [mP]
 grind [mP]
theorem vo:∀(s cur:av),(∀c∈cur,c≠10)->∀t∈cQ 10 s cur,∀c∈t,c≠10
 |[],cur,h,t,ht=>by
  grind [cQ]
 |a::r,cur,h,t,ht=>by
  unfold cQ at ht;split at ht
  .rcases ca.1 ht with rfl|ht
   .exact h
   .exact vo r [] aI t ht
  .rename_i hn;refine vo r (cur++[a]) (fun c hc=>?_) t ht;rcases List.mem_append.1 hc with hc|hc
   .exact h c hc
   .rw[cT.1 hc];rintro rfl;exact hn rfl
def Fh {s t:av}(h:t∈(aJ s).1):∀c∈t,c≠10:=by
 grind [ai,vo,aJ]
def IC {t:av}(h:∀c∈t,c≠10)(b:Bool):fR (t++(if b=true then [10]else []))=(t,b):=by
 grind [fR]
def ah1 (t:av):(gT t 32).1=fw t:=by
 unfold fw gT;cases hq:t.findIdx? (fun c=>c==32)with
 |none=>
  have hs:ai t 32=[t]:=by have:=sw 32 t [] hq;simpa[ai]using this
  rw[hs];rfl
 |some j=>
  have hs:ai t 32=t.take j::ai (t.drop (j+1)) 32:=by have:=qM 32 t [] j hq;simpa[ai]using this
  rw[hs];rfl
def HO:∀l:List av,aO [] l=l.flatten
 |[]=>rfl
 |[t]=>by simp[aO]
 |t::u::r=>by
  have:=HO (u::r);simp only[aO,this];simp
def HP (t:av):∀l:List av,aO [10] (l++[t])=kV l++t
 |[]=>rfl
 |[u]=>by simp[aO,kV]
 |u::v::r=>by
  have:=HP t (v::r)
  grind [aO,kV]
def Xv {α β:Type}(f:α->β)(l:List α)(a b:Nat):slice (l.map f) a b=(slice l a b).map f:=by simp[slice]
def acJ {s:av}{a b:Nat}(ha:a<=b)(hb:b<=(aJ s).1.length):aO [] (slice (k9 s) a b)=EI (slice (aJ s).1 a b) ((aJ s).2 ||decide (b<(aJ s).1.length)):=by
 rw[HO];rcases FI s with⟨A,h1,h2⟩|⟨A,d,h1,h2⟩
 .rw[h1,h2,Xv];simp only[Bool.true_or,EI,ba];rfl
 .rw[h1]at hb⊢;rw[h2];simp only[bH,aM,aX,Bool.false_or]at hb⊢;by_cases hl:b<A.length+(0+1)
  .have e1:slice (A.map (· ++[10])++[d]) a b=(slice A a b).map (· ++[10]):=by
    unfold slice;rw[List.take_append_of_le_length (by simp only[bB];omega)];simp
   have e2:slice (A++[d]) a b=slice A a b:=by
    unfold slice;rw[List.take_append_of_le_length ae]
   rw[e1,e2,EI,aC (bY hl)];rfl
  .have hq:b=A.length+1:=ae;rw[EI,ar (by simpa using hl)];by_cases h4:a=b
   .have e1:∀l:List av,l.length<=b->slice l a b=[]:=fun l hl=>nP dk
    rw[e1 _ dk,e1 _ dk];rfl
   .have ha2:a<=A.length:=ae;have e1:slice (A.map (· ++[10])++[d]) a b=(A.drop a).map (· ++[10])++[d]:=by
     unfold slice;rw[fq dk,List.drop_append_of_le_length (by simpa using ha2),List.map_drop]
    have e2:slice (A++[d]) a b=A.drop a++[d]:=by
     unfold slice;rw[fq dk,List.drop_append_of_le_length ha2]
    rw[e1,e2,HP];simp[kV]
def adr {nm:av}(h:eV nm=true):cB nm:=⟨(CX h).1,Sw (CX h).2.2⟩
end Go.Abs
namespace Go.Abs
def aaY (s:av):1<=(kB s).length:=by unfold kB;simp
def aaZ (s:av):k9 s=if(kB s)[(kB s).length-1]! =[]then(kB s).take ((kB s).length-1)else kB s:=by
 grind [kB,k9]
def qP (s:av):(fR s).1.length<=s.length:=by
 grind [fR]
end Go.Abs
namespace Go.Abs
def JN {s t:av}(h:t∈k9 s):t.length<=s.length+1:=by
 have h1:t∈kB s:=by
  grind [k9,kB]
 unfold kB at h1;rcases List.mem_append.1 h1 with h2|h2
 .obtain⟨u,hu,rfl⟩:=eG.1 h2;have:=cG s 10 (jN hu);simp;omega
 grind [eN,tp,ai]
def UD {s:av}{i:Nat}(h:i<(k9 s).length):(k9 s)[i]!.length<=s.length+1:=JN (bL h)
end Go.Abs
namespace Go.Abs
def ajf {nm:av}{es:List yA}{m:List (Nat×cr)}{l:Nat}{cs:List Sh}(hq:∀x:yA,D.agg (xL m cs x.D.cells)=x.D)(hl:look m l=some (.buf 11 (es.map yA.D))):xV m [.a,.sl 11 cs] (.agg [.str nm,.own l 11 0 es.length])=RQ.D ⟨nm,es⟩:=by
 show D.agg [.str nm,.sl 11 _]=D.agg [.str nm,.sl 11 (es.map yA.D)];simp only[bG,hl,bR,aL,List.map_map];exact ak (fun q=>D.agg [D.str nm,D.sl 11 q]) (List.map_congr_left fun x _=>hq x)
def af9 {nm:av}{es:List yA}{m:List (Nat×cr)}{l:Nat}{cs:List Sh}(hq:∀x:yA,xLO m cs x.D.cells)(hl:look m l=some (.buf 11 (es.map yA.D))):xVO m [.a,.sl 11 cs] (.agg [.str nm,.own l 11 0 es.length]):=by
 refine⟨rfl,⟨?_, ?_⟩,rfl⟩
 .simp[gX,hl]
 .simp only[bG,hl,bR,aL];intro e he;obtain⟨x,_,rfl⟩:=eG.1 he;exact hq x
def Im {α:Type}{l:List α}{a b:Nat}{x:α}(h:x∈slice l a b):x∈l:=jN (List.mem_of_mem_drop h)
end Go.Abs
namespace Go.Abs
def My (t:av):mD (cW t).1:=by
 unfold cW;split
 .exact C4
 .rename_i h;dsimp only;have hL:GO ((ai t 10).take ((ai t 10).length-1)):=fun u hu=>by
   have:=cG t 10 (jN hu);omega
  grind [C4,JW]
def Mr (s:av):(k9 s).length<=s.length+1:=by
 grind [tk,cJ,aJ]
end Go.Abs
end
namespace Go.Abs
structure dH where
 name:av
 shelf:av
 deriving Inhabited,DecidableEq
def dH.D (x:dH):D:=.agg [.str x.name,.str x.shelf]
structure bV where
 name:av
 range:av
 deriving Inhabited,DecidableEq
def bV.D (x:bV):D:=.agg [.str x.name,.str x.range]
structure fD where
 r:Rec
 ps:List dH
 hs:List bV
 deriving Inhabited,DecidableEq
def fD.D (x:fD):D:=.agg [.str x.r.name,.int .i64 x.r.v.major,.int .i64 x.r.v.minor,.int .i64 x.r.v.patch,.str x.r.v.pre,.str x.r.v.build,.sl 3 (x.r.needs.map bo.D),.sl 3 (x.r.bars.map fZ.D),.sl 2 (x.r.feats.map ct.D),.sl 2 (x.ps.map dH.D),.sl 2 (x.hs.map bV.D)]
def dH.eq (a b:dH):jm (dH.D a).cells (dH.D b).cells=decide (a=b):=by
 obtain⟨a1,a2⟩:=a;obtain⟨b1,b2⟩:=b
 grind [dH.D,D.cells,jm,sX]
def bV.eq (a b:bV):jm (bV.D a).cells (bV.D b).cells=decide (a=b):=by
 obtain⟨a1,a2⟩:=a;obtain⟨b1,b2⟩:=b
 grind [bV.D,D.cells,jm,sX]
def SE (l:List dH)(i:Nat):Int:=if(eV l[i]!.name=false\/eV l[i]!.shelf=false)\/(0<i/\Op.bytesLess l[i-1]!.name l[i]!.name=false)then 15 else 0
def xa (l:List bV)(i:Nat):Int:=if eV l[i]!.name=false\/(0<i/\Op.bytesLess l[i-1]!.name l[i]!.name=false)then 4 else if kC l[i]!.range=false then 6 else 0
def qE (l:List dH):Int×Int:=gA (SE l) 0 l.length
def nr (l:List bV):Int×Int:=gA (xa l) 0 l.length
def ey (m:fD):Int×Int:=if ¬(cE m.r).1=0 then cE m.r else if 8<m.ps.length\/8<m.hs.length then(3,0)else if ¬(qE m.ps).1=0 then qE m.ps else nr m.hs
def qO:av:=[112,105,110]
def jE:av:=[104,111,108,100]
def JO (x:dH):av:=cN [qO,x.name,x.shelf]
def BW (x:bV):av:=cN [jE,x.name,x.range]
def iE (m:fD):av:=gh m.r++((m.ps.map JO).flatten++(m.hs.map BW).flatten)
def nH (m:fD):av×Int:=if ¬(ey m).1=0 then([],(ey m).1)else(iE m,0)
def Lu {m:fD}(h:(ey m).1=0):(cE m.r).1=0:=by
 unfold ey at h;split at h
 .rename_i h1;exact absurd h h1
 .rename_i h1;exact Classical.not_not.1 h1
def recN:Rec:=⟨[],hX,[],[],[]⟩
def JD:fD:=⟨recN,[],[]⟩
def isM (w:av):Bool:=decide (w=qO) ||decide (w=jE)
def kM (L:List av):Nat:=vg (fun j=>isM (fw L[j]!)) 0 L.length
def gf (q:List dH×List bV)(t:av):Option (List dH×List bV):=
 if(ai t 32)[0]! =qO then(if(q.2.length=0/\(ai t 32).length=3)/\¬(ai t 32)[1]! =[]/\¬(ai t 32)[2]! =[]then some (q.1++[⟨(ai t 32)[1]!,(ai t 32)[2]!⟩],q.2)else none)
 else if((ai t 32)[0]! =jE/\3<=(ai t 32).length)/\¬(ai t 32)[1]! =[]/\¬aO [32] ((ai t 32).drop 2)=[]then some (q.1,q.2++[⟨(ai t 32)[1]!,aO [32] ((ai t 32).drop 2)⟩])else none
def Gm (L:List av)(en:Bool):Nat->List dH×List bV->Nat->(List dH×List bV)×Int
 |0,q,_=>(q,0)
 |f+1,q,i=>if i<L.length then(if mP L en i=false then(([],[]),(i:Int)+1)else match gf q L[i]! with
   |none=>(([],[]),(i:Int)+1)
   |some q'=>Gm L en f q' (i+1))
  else(q,0)
def je (L:List av)(en:Bool)(q:List dH×List bV)(i:Nat):(List dH×List bV)×Int:=Gm L en (L.length-i) q i
def dF (s:av):av:=EI (slice (aJ s).1 0 (kM (aJ s).1)) ((aJ s).2 ||decide (kM (aJ s).1<(aJ s).1.length))
def EW (r:Rec)(q:(List dH×List bV)×Int):fD×Int×Int:=if ¬q.2=0 then(JD,2,q.2)else if ¬(ey ⟨r,q.1.1,q.1.2⟩).1=0 then(JD,(ey ⟨r,q.1.1,q.1.2⟩).1,0)else(⟨r,q.1.1,q.1.2⟩,0,0)
def gD (s:av):fD×Int×Int:=if 8192<s.length then(JD,3,0)else if ¬(cW (dF s)).2.1=0 then(JD,(cW (dF s)).2.1,(cW (dF s)).2.2)else
 EW (cW (dF s)).1 (je (aJ s).1 (aJ s).2 ([],[]) (kM (aJ s).1))
def Bv {L:List av}{en:Bool}{q:List dH×List bV}{i:Nat}(h:L.length<=i):je L en q i=(q,0):=by
 unfold je;rw[show L.length-i=0 by omega];rfl
def Xr {L:List av}{en:Bool}{q:List dH×List bV}{i:Nat}(h:i<L.length)(hw:mP L en i=false):je L en q i=(([],[]),(i:Int)+1):=by
 unfold je;rw[show L.length-i=(L.length-(i+1))+1 by omega,Gm,aC h,aC hw]
def abC {L:List av}{en:Bool}{q:List dH×List bV}{i:Nat}(h:i<L.length)(hq:gf q L[i]! =none):je L en q i=(([],[]),(i:Int)+1):=by
 unfold je;rw[show L.length-i=(L.length-(i+1))+1 by omega,Gm,aC h,hq];split<;>rfl
def qI {L:List av}{en:Bool}{q q':List dH×List bV}{i:Nat}(h:i<L.length)(hw:mP L en i=true)(hq:gf q L[i]! =some q'):je L en q i=je L en q' (i+1):=by
 unfold je;rw[show L.length-i=(L.length-(i+1))+1 by omega,Gm,aC h,ar (by rw[hw];simp),hq]
def bO (t:av):List av:=if(ai t 32).length<3 then ai t 32 else [(ai t 32)[0]!,(ai t 32)[1]!,aO [32] ((ai t 32).drop 2)]
def Gk (b:UInt8):∀(s cur:av),(∀c∈cur,c≠b)->∀t∈cQ b.toNat s cur,∀c∈t,c≠b
 |[],cur,h,t,ht=>by
  simp only[cQ,cT]at ht;rw[ht];exact h
 |a::r,cur,h,t,ht=>by
  unfold cQ at ht;split at ht
  .rcases ca.1 ht with rfl|ht
   .exact h
   .exact Gk b r [] aI t ht
  .rename_i hn;refine Gk b r (cur++[a]) (fun c hc=>?_) t ht;rcases List.mem_append.1 hc with hc|hc
   .exact h c hc
   .rw[cT.1 hc];rintro rfl;exact hn rfl
def agJ {t:av}(h:3<=(ai t 32).length):(aO [32] ((ai t 32).drop 2)).contains 32=!decide ((ai t 32).length=3):=by
 have hn:∀u∈ai t 32,∀c∈u,c≠32:=fun u hu=>Gk 32 t [] aI u (by simpa[ai]using hu)
 match hq:ai t 32,h with
 |a::b::c::r,_=>
  rw[hq]at hn;cases r with
  |nil=>
   simp only[List.drop_succ_cons,bR,aO,aM,aX];simp only[decide_true,Bool.not_true];rw[Bool.eq_false_iff];intro h;exact hn c aI 32 (by simpa using h) rfl
  |cons d r=>
   simp only[List.drop_succ_cons,bR,aO,aM];simp
def Ge {t:av}(h:(bO t).length=3):3<=(ai t 32).length/\(bO t)[0]! =(ai t 32)[0]! /\(bO t)[1]! =(ai t 32)[1]! /\(bO t)[2]! =aO [32] ((ai t 32).drop 2):=by
 unfold bO at h⊢;split at h
 .omega
 .rename_i h3;rw[ar h3];exact⟨ae,rfl,rfl,rfl⟩
def Nk {q:List dH×List bV}{t:av}(h:(bO t).length=3)(h1:¬(bO t)[1]! =[])(h2:¬(bO t)[2]! =[])(h0:(bO t)[0]! =qO):
  gf q t=if(decide (q.2.length=0)&& !(bO t)[2]!.contains 32)=true then some (q.1++[⟨(bO t)[1]!,(bO t)[2]!⟩],q.2)else none:=by
 obtain⟨h3,e0,e1,e2⟩:=Ge h;rw[e0]at h0;rw[e1]at h1⊢;rw[e2]at h2⊢;rw[agJ h3];unfold gf;rw[aC h0];by_cases h4:(ai t 32).length=3
 .have e:aO [32] ((ai t 32).drop 2)=(ai t 32)[2]! :=by
   match hq:ai t 32,h4 with
   |[a,b,c],_=>rfl
  rw[e]at h2⊢;by_cases h5:q.2.length=0
  .rw[aC ⟨⟨h5,h4⟩,h1,h2⟩,aC (by rw[bY h5,bY h4];rfl)]
  .rw[ar (fun h=>h5 h.1.1),ar (by rw[cy h5];simp)]
 .rw[ar (fun h=>h4 h.1.2),ar (by rw[cy h4];simp)]
def Xz {q:List dH×List bV}{t:av}(h:(bO t).length=3)(h1:¬(bO t)[1]! =[])(h2:¬(bO t)[2]! =[])(h0:(bO t)[0]! =jE):
  gf q t=some (q.1,q.2++[⟨(bO t)[1]!,(bO t)[2]!⟩]):=by
 obtain⟨h3,e0,e1,e2⟩:=Ge h;rw[e0]at h0;rw[e1]at h1⊢;rw[e2]at h2⊢;unfold gf;rw[ar (by rw[h0];decide),aC ⟨⟨h0,h3⟩,h1,h2⟩]
def UU {q:List dH×List bV}{t:av}(h:¬(bO t).length=3\/(bO t).contains []=true\/(¬(bO t)[0]! =qO/\¬(bO t)[0]! =jE)):gf q t=none:=by
 by_cases h3:(ai t 32).length<3
 .unfold gf;split
  .rw[ar ae]
  .rw[ar ae]
 .have hs:bO t=[(ai t 32)[0]!,(ai t 32)[1]!,aO [32] ((ai t 32).drop 2)]:=by unfold bO;rw[ar h3]
  have hl:(bO t).length=3:=by rw[hs];rfl
  obtain⟨_,e0,e1,e2⟩:=Ge hl;rcases h with h|h|⟨h4,h5⟩
  .exact absurd hl h
  .have h':(ai t 32)[0]! =[]\/(ai t 32)[1]! =[]\/aO [32] ((ai t 32).drop 2)=[]:=by
    rw[hs]at h;generalize (ai t 32)[0]! =a at h⊢;generalize (ai t 32)[1]! =b at h⊢;generalize aO [32] ((ai t 32).drop 2)=c at h⊢;have:([]:av)∈[a,b,c]:=by simpa using h
    simp only[ca,ek,or_false]at this;exact this.imp Eq.symm (fun h=>h.imp Eq.symm Eq.symm)
   unfold gf;split
   .rename_i hp;rw[ar];rintro⟨⟨_,h5⟩,h6,h7⟩;rcases h' with h'|h'|h'
    .rw[hp]at h';cases h'
    .exact h6 h'
    .have e:aO [32] ((ai t 32).drop 2)=(ai t 32)[2]! :=by
      match hq:ai t 32,h5 with
      |[a,b,c],_=>rfl
     exact h7 (e▸h')
   .rw[ar];rintro⟨⟨h4,_⟩,h6,h7⟩;rcases h' with h'|h'|h'
    .rw[h4]at h';cases h'
    .exact h6 h'
    .exact h7 h'
  .rw[e0]at h4 h5;unfold gf;rw[ar h4,ar (fun h=>h5 h.1.1)]
def iPin (a b:dH):dH.D a=dH.D b↔a=b:=by cases a;cases b;simp[dH.D]
def agz (a b:List dH):a.map dH.D=b.map dH.D↔a=b:=xZ iPin a b
def agx (a b:bV):bV.D a=bV.D b↔a=b:=by cases a;cases b;simp[bV.D]
def Z9 (a b:List bV):a.map bV.D=b.map bV.D↔a=b:=xZ agx a b
def iMan (a b:fD):fD.D a=fD.D b↔a=b:=by
 obtain⟨⟨n,⟨v1,v2,v3,v4,v5⟩,x,y,z⟩,p,h⟩:=a;obtain⟨⟨n',⟨w1,w2,w3,w4,w5⟩,x',y',z'⟩,p',h'⟩:=b;simp[fD.D,Jw,T6,Jv,agz,Z9,and_assoc]
def pg {A:RT->Prop}(h:A (fun ds d=>A fun ds' d'=>ds'=ds->d=d'):=by
 (repeat' first|apply And.intro|intro _)
 all_goals rename_i e
 all_goals (try simp only[qR,D.str.injEq,D.int.injEq,D.bool.injEq,D.sl.injEq,D.ref.injEq,D.agg.injEq,D.fn.injEq,Wz,iInt,iByt,iVer,agA,aaa,agy,Jw,iBar,T6,agw,Jv,iRec,agv,iShf,iEtr,iPin,agz,agx,Z9,iMan,iCmp,agu,iNd,iNds,iAlt,iRng,iAlts,iMrk,iPr,iU8,iY,iNat,cb,cj,reduceCtorEq,cK,cH]at e)
 all_goals first|rfl|(simp only[e];done)|simp_all):Det (xW A):=ah2 h
end Go.Abs
section
namespace Go.Abs
structure EtrG (x:yA):Prop where
 w:RP x.r
 c:cE x.r=(0,0)
 l:(gh x.r).length<=800
 s:sumR x.r=x.sum
 m:mD x.r
def EtrG.yn {x:yA}(h:EtrG x):0<=x.sum/\x.sum<18446744073709551616:=by
 rw[<-h.s];unfold sumR;split
 .decide
 .exact Tq _
end Go.Abs
namespace Go.Abs
end Go.Abs
end
namespace Go.Abs
def join_one {l:List av}(h:l≠[]):aO [10] l++[10]=kV l:=by
 rw[<-Fc];induction l with
 |nil=>exact absurd rfl h
 |cons a r ih=>
  match r with
  |[]=>simp[aO]
  |b::q=>
   have:=ih aI;simp only[fY,aO,eh]at this⊢;rw[this]
def L8 {s:av}{i:Nat}(h:i<(aJ s).1.length):(aJ s).1[i]!.length<=s.length+1:=by
 have h1:=UD (s:=s) (i:=i) (by rw[tk];exact h);rw[SD h,bH]at h1;omega
def Ui {s:av}{a b:Nat}(h:s.length<=524288):(aO [10] (slice (aJ s).1 a b)).length<=1099511627770:=by
 have h1:=nw 10 524290 (slice (aJ s).1 a b) (fun t ht=>by
  obtain⟨i,hi,rfl⟩:=List.getElem_of_mem (Im ht);have:=L8 hi;rw[getElem!_pos _ i hi]at this;omega)
 have h2:(slice (aJ s).1 a b).length<=s.length+1:=by
  have:=Mr s;rw[tk]at this;simp only[slice,kT,eF];omega
 have:=fF (524290+1) h2;have:=fF (524290+1) (show s.length+1<=524289 by omega);omega
def zR (T:List D->D->Prop):Prop:=∀(s:av),(s.length<=1048576)->T [.str s,.str [10],.int .i64 1,.int .i64 (-1)] (.sl 1 ((kB s).map D.str))
def X8 (Y:Ctx):Prop:=zR (bU Y 331)
def zM (T:List D->D->Prop):Prop:=∀(s:av),(s.length<=1048576)->T [.str s,.str [10]] (.tup [.str (fR s).1,.bool (fR s).2])
def X4 (Y:Ctx):Prop:=zM (bU Y 244)
section
theorem uc {a b:Nat}(h:a≠b):Nat.beq a b=false:=by
 cases h2:Nat.beq a b with
 |false=>rfl
 |true=>exact absurd (Nat.eq_of_beq_eq_true h2) h
theorem xt {a b:Nat}(h:Nat.beq a b=false):Nat.beq b a=false:=by grind [uc]
section
variable [df] {P:Program} {ν:List (Nat×Nat)} {dr:List Nat} {t:List (Nat×rv)} {fid n key u k:Nat} {af:aN} {am7:List D} {nx:Nat} {m:List (Nat×cr)} {K:D->St->Prop}
def wG {a:D}{k q i:Nat}{es:List D}{m1:List (Nat×cr)}(ha:a.bN=true)(hes:bK es=true)(hmix:P.follows .mixedOrders=true)(hC:Lb P ν dr fid af)(hnp:1=af.np)
  (hl:look m1 q=some (.buf k es)) (hK:K (.own nx k 0 i) ⟨nx+1,(nx,.buf k es)::m⟩) (hw:cg ((under t key u).at 0) af.body (kJ af (One (.own q k 0 i) m1)) (gz af [a]) ⟨0,[]⟩):qU P ν dr (under t key u) fid [a] ⟨nx,m⟩ K:=by
 refine BV (σi:=[]) (m0:=[]) (cs:=[a]) (fun q=>zA t key u q) hmix hC rfl ?_ hnp rfl (fun _ _ h=>by cases h) (fun _ _ h=>by cases h) hw ?_
 .intro i hi
  match i,hi with
  |0,_=>exact .inl ⟨rfl,ha⟩
 .rintro d m2 ⟨rfl,rfl⟩;refine⟨[(q,nx)],q+1,_,.own nx k 0 i,⟨rfl, ?_,Nat.le_succ _,(fun _ _ h=>by cases h), ?_,(fun _ _ h=>by cases h), ?_⟩,.inr (.inl (by simp[wz,M3,mX])),hK⟩
  .simp[jg]
  .grind
  .intro l bb h;simp only[look]at h;split at h
   .rename_i e;subst e;obtain rfl:=bQ h;exact .inl ⟨q,_,.head _,hl,rfl,.inl ⟨rfl,hes⟩⟩
   .rename_i hn;exact .inr ⟨by simp only[ph,ar hn],(fun _ h=>by cases h),h⟩
def agH {a0 a1 a2 a3 a4 b0 b1 b2 b3 b4 c:Nat}(ha:xM a0 a1 a2 a3 a4=true)(hb:xM b0 b1 b2 b3 b4=true)(hc:b0<c/\b1<c/\b2<c/\b3<c/\b4<c):jg 0 c [(a0,b0),(a1,b1),(a2,b2),(a3,b3),(a4,b4)]=true:=by
 simp only[xM,bE,dt]at ha hb;obtain⟨⟨⟨⟨⟨⟨⟨⟨⟨x1,x2⟩,x3⟩,x4⟩,x5⟩,x6⟩,x7⟩,x8⟩,x9⟩,x10⟩:=ha;obtain⟨⟨⟨⟨⟨⟨⟨⟨⟨y1,y2⟩,y3⟩,y4⟩,y5⟩,y6⟩,y7⟩,y8⟩,y9⟩,y10⟩:=hb;obtain⟨c0,c1,c2,c3,c4⟩:=hc;have bt:∀{x:Nat},x<c->Nat.blt x c=true:=fun {x} h=>by simp[Nat.blt];omega
 have bl:∀{x:Nat},Nat.ble 0 x=true:=fun {x}=>aI
 grind [jg,xt]
def rd_rn {a0 a1 a2 a3 a4 b0 b1 b2 b3 b4:Nat}(ha:xM a0 a1 a2 a3 a4=true):mX 0 [(a0,b0),(a1,b1),(a2,b2),(a3,b3),(a4,b4)] a0=some b0/\mX 0 [(a0,b0),(a1,b1),(a2,b2),(a3,b3),(a4,b4)] a1=some b1/\mX 0 [(a0,b0),(a1,b1),(a2,b2),(a3,b3),(a4,b4)] a2=some b2/\mX 0 [(a0,b0),(a1,b1),(a2,b2),(a3,b3),(a4,b4)] a3=some b3/\mX 0 [(a0,b0),(a1,b1),(a2,b2),(a3,b3),(a4,b4)] a4=some b4:=by
 simp only[xM,bE,dt]at ha;obtain⟨⟨⟨⟨⟨⟨⟨⟨⟨x1,x2⟩,x3⟩,x4⟩,x5⟩,x6⟩,x7⟩,x8⟩,x9⟩,x10⟩:=ha;simp only[mX,x1,x2,x3,x4,x5,x6,x7,x8,x9,x10,Nat.beq_refl,cond_true,cond_false,cC]
def rd_m {σ:List (Nat×Nat)}{m:List (Nat×cr)}{x:j6}{a0 a1 a2 a3 a4 b0 b1 b2 b3 b4:Nat}(h:RdAt m x a0 a1 a2 a3 a4)(ha:xM a0 a1 a2 a3 a4=true)(hs:σ=[(a0,b0),(a1,b1),(a2,b2),(a3,b3),(a4,b4)]):
  ∀l b,look (RdM x b0 b1 b2 b3 b4) l=some b->∃i b',(i,l)∈σ/\look m i=some b'/\vP 0 σ b' b:=by
 obtain⟨r0,r1,r2,r3,r4⟩:=rd_rn (b0:=b0) (b1:=b1) (b2:=b2) (b3:=b3) (b4:=b4) ha;intro l b hl;rw[<-hs]at r0 r1 r2 r3 r4;have mem:(a0,b0)∈σ/\(a1,b1)∈σ/\(a2,b2)∈σ/\(a3,b3)∈σ/\(a4,b4)∈σ:=by subst hs;simp
 obtain⟨q0,q1,q2,q3,q4⟩:=mem;simp only[RdM,look]at hl;split at hl
 .rename_i e;subst e;obtain rfl:=bQ hl;exact⟨a0,_,q0,h.a0,rfl,.inr (.inl (by simp only[p8,sn,wz,M3,r1,r3,r4]))⟩
 .split at hl
  .rename_i e;subst e;obtain rfl:=bQ hl;exact⟨a1,_,q1,h.a1,rfl,.inr (.inl (Be _ _ _ _ r2 _))⟩
  .split at hl
   .rename_i e;subst e;obtain rfl:=bQ hl;exact⟨a2,_,q2,h.a2,rfl,.inl ⟨rfl,ng _⟩⟩
   .split at hl
    .rename_i e;subst e;obtain rfl:=bQ hl;exact⟨a3,_,q3,h.a3,rfl,.inl ⟨rfl,bA (fun _=>rfl) _⟩⟩
    .split at hl
     .rename_i e;subst e;obtain rfl:=bQ hl;exact⟨a4,_,q4,h.a4,rfl,.inl ⟨rfl,bA (fun _=>rfl) _⟩⟩
     .cases hl
def aiR {m:List (Nat×cr)}{j0 j1 j2 j3 j4 l:Nat}{b:cr}(h:look (Lj m j0 j1 j2 j3 j4) l=some b):(l≠j0/\l≠j1/\l≠j2/\l≠j3/\l≠j4)/\look m l=some b:=by
 simp only[Lj,gU]at h;split at h
 .cases h
 grind
def aaq (a b:List (Nat×cr))(l:Nat):look (a++b) l=match look a l with
 |some x=>some x
 |none=>look b l:=by
 induction a with
 |nil=>rfl
 |cons p r ih=>
  grind [look]
def SK {a0 a1 a2 a3 a4 b0 b1 b2 b3 b4 p q:Nat}(h:(p,q)∈[(a0,b0),(a1,b1),(a2,b2),(a3,b3),(a4,b4)]):p=a0/\q=b0\/p=a1/\q=b1\/p=a2/\q=b2\/p=a3/\q=b3\/p=a4/\q=b4:=by
 grind
def lg {x:j6}{out:Option j6}{j0 j1 j2 j3 j4:Nat}(has:bK am7=true)(hmix:P.follows .mixedOrders=true)(hC:Lb P ν dr fid af)(hnp:am7.length+1=af.np)
  (h1:RdAt m x j0 j1 j2 j3 j4) (h2:xM j0 j1 j2 j3 j4=true) (h3:j0<nx/\j1<nx/\j2<nx/\j3<nx/\j4<nx) (hK:K (.bool out.isSome) ⟨nx+4,AE out j0 nx++Lj m j0 j1 j2 j3 j4⟩)
  (hw:cg ((under t key u).at 5) af.body (kJ af (RdQ out)) (gz af (.ptr 0 10 0 0::am7)) ⟨5,RdM x 0 1 2 3 4⟩):qU P ν dr (under t key u) fid (.ptr j0 10 0 0::am7) ⟨nx,m⟩ K:=by
 have g3:jg 0 5 [(j0,0),(j1,1),(j2,2),(j3,3),(j4,4)]=true:=agH h2 rfl aG;have g4:∀l i,(l,i)∈[(j0,0),(j1,1),(j2,2),(j3,3),(j4,4)]->look m l≠none:=by
  intro l i h;rcases SK h with⟨rfl,_⟩|⟨rfl,_⟩|⟨rfl,_⟩|⟨rfl,_⟩|⟨rfl,_⟩
  .rw[h1.a0];simp
  .rw[h1.a1];simp
  .rw[h1.a2];simp
  .rw[h1.a3];simp
  .rw[h1.a4];simp
 have g5:=rd_m (b0:=0) (b1:=1) (b2:=2) (b3:=3) (b4:=4) h1 h2 rfl;refine BV (σi:=[(j0,0),(j1,1),(j2,2),(j3,3),(j4,4)]) (cs:=.ptr 0 10 0 0::am7) (fun q=>zA t key u q) hmix hC aI ?_ (by simpa using hnp) g3 g4 g5 hw ?_
 .intro i hi
  match i with
  |0=>exact .inr (.inl (by simp[wz,M3,mX]))
  |i+1=>exact .inl ⟨rfl,dC has i⟩
 have hoff:∀l b,look (Lj m j0 j1 j2 j3 j4) l=some b->(∀i,(l,i)∉[(j0,0),(j1,1),(j2,2),(j3,3),(j4,4)])/\look m l=some b:=by
  intro l b h;obtain⟨⟨e0,e1,e2,e3,e4⟩,hl⟩:=aiR h;refine⟨fun i hi=>?_,hl⟩;rcases SK hi with⟨h,_⟩|⟨h,_⟩|⟨h,_⟩|⟨h,_⟩|⟨h,_⟩<;>contradiction
 rintro d m1 ⟨rfl,hy⟩;cases out with
 |none=>
  refine⟨[],5,_,.bool false,⟨g3,by simp[jg],(Nat.le_add_right _ _:nx<=nx+4),g4,(fun _ _ h=>by cases h),g5, ?_⟩,.inl ⟨rfl,rfl⟩,hK⟩;intro l b h;obtain⟨k1,k2⟩:=hoff l b h;exact .inr ⟨rfl,k1,k2⟩
 |some y=>
  obtain⟨a1,a2,a3,a4,hf,hat⟩:=hy y rfl;have hg:xM j0 nx (nx+1) (nx+2) (nx+3)=true:=by
   simp only[xM,bE,dt];refine⟨⟨⟨⟨⟨⟨⟨⟨⟨?_, ?_⟩, ?_⟩, ?_⟩, ?_⟩, ?_⟩, ?_⟩, ?_⟩, ?_⟩, ?_⟩<;>exact uc ae
  refine⟨[(0,j0),(a1,nx),(a2,nx+1),(a3,nx+2),(a4,nx+3)],5+a1+a2+a3+a4,_,.bool true,⟨g3,agH hf hg dE,(Nat.le_add_right _ _:nx<=nx+4),g4, ?_,g5, ?_⟩,.inl ⟨rfl,rfl⟩,hK⟩
  .intro i l h;rcases SK h with⟨rfl,rfl⟩|⟨rfl,rfl⟩|⟨rfl,rfl⟩|⟨rfl,rfl⟩|⟨rfl,rfl⟩
   .exact .inl (.head _)
   all_goals exact .inr dE
  .intro l b h;dsimp only at h;rw[aaq]at h;cases hl:look (AE (some y) j0 nx) l with
   |some c=>
    rw[hl]at h;obtain rfl:=bQ h;exact .inl (rd_m hat hf rfl l c hl)
   |none=>
    rw[hl]at h;obtain⟨k1,k2⟩:=hoff l b h;refine .inr ⟨?_,k1,k2⟩;simp only[AE,RdM,look]at hl;split at hl
    .cases hl
    .rename_i e0;split at hl
     .cases hl
     .rename_i e1;split at hl
      .cases hl
      .rename_i e2;split at hl
       .cases hl
       .rename_i e3;split at hl
        .cases hl
        .rename_i e4;simp only[ph,ar e0,ar e1,ar e2,ar e3,ar e4,ar (Ne.symm e0),ar (Ne.symm e1),ar (Ne.symm e2),ar (Ne.symm e3),ar (Ne.symm e4)]
end
end
def gB (r:Rec)(p h:D):D:=.agg [.str r.name,.int .i64 r.v.major,.int .i64 r.v.minor,.int .i64 r.v.patch,.str r.v.pre,.str r.v.build,.sl 3 (r.needs.map bo.D),.sl 3 (r.bars.map fZ.D),.sl 2 (r.feats.map ct.D),p,h]
def Et (m:List (Nat×cr))(r:Rec)(ps:List dH)(hs:List bV):Prop:=look m 2=some (.buf 11 [gB r (.own 4 2 0 ps.length) (.own 5 2 0 hs.length)])/\look m 4=some (.buf 2 (ps.map dH.D))/\look m 5=some (.buf 2 (hs.map bV.D))
def Zo (r:Rec)(ps:List dH)(hs:List bV):List (Nat×cr):=[(0,.buf 11 [gB r (.own 1 2 0 ps.length) (.own 2 2 0 hs.length)]),(1,.buf 2 (ps.map dH.D)),(2,.buf 2 (hs.map bV.D))]
def Zp (r:Rec)(q:List dH×List bV)(b:Bool):D->List (Nat×cr)->Prop:=fun d m=>d=.bool b/\∃i j,(1<=i/\1<=j/\i≠j)/\look m 0=some (.buf 11 [gB r (.own i 2 0 q.1.length) (.own j 2 0 q.2.length)])/\look m i=some (.buf 2 (q.1.map dH.D))/\look m j=some (.buf 2 (q.2.map bV.D))
def agi (r:Rec)(ps:List dH)(hs:List bV)(t:av):D->List (Nat×cr)->Prop:=fun d m=>(gf (ps,hs) t=none/\d=.bool false)\/∃q,gf (ps,hs) t=some q/\Zp r q true d m
def A9 (m:List (Nat×cr)):List (Nat×cr):=cM (cM (cM m 2) 4) 5
def xY (m:List (Nat×cr))(nx:Nat)(r:Rec)(q:List dH×List bV):List (Nat×cr):=(nx,.buf 2 (q.1.map dH.D))::(nx+1,.buf 2 (q.2.map bV.D))::(2,.buf 11 [gB r (.own nx 2 0 q.1.length) (.own (nx+1) 2 0 q.2.length)])::A9 m
def uy (l k:Nat)(es:List D)(Z:List dH):ij l k es (Z.map dH.D)=Z.map dH.D:=qq l k es _ (bA (fun _=>rfl) _)
def ux (l k:Nat)(es:List D)(Z:List bV):ij l k es (Z.map bV.D)=Z.map bV.D:=qq l k es _ (bA (fun _=>rfl) _)
section
section
variable [df] {P:Program} {ν:List (Nat×Nat)} {dr:List Nat} {t:List (Nat×rv)} {fid n key u k:Nat} {af:aN} {nx:Nat} {m:List (Nat×cr)} {K:D->St->Prop}
def Sp {r:Rec}{ps:List dH}{hs:List bV}(h:Et m r ps hs):(∀l i,(l,i)∈[(2,0),(4,1),(5,2)]->look m l≠none)/\
  ∀i bb,look (Zo r ps hs) i=some bb->∃l b',(l,i)∈[(2,0),(4,1),(5,2)]/\look m l=some b'/\vP 0 [(2,0),(4,1),(5,2)] b' bb:=by
 obtain⟨h0,h2,h3⟩:=h;constructor
 .intro l i hi;simp only[ca,eO,ek,or_false]at hi;rcases hi with⟨rfl,_⟩|⟨rfl,_⟩|⟨rfl,_⟩
  .rw[h0];simp
  .rw[h2];simp
  .rw[h3];simp
 .intro i bb hi;simp only[Zo,look]at hi;split at hi
  .rename_i e;subst e;obtain rfl:=bQ hi;exact⟨2,_,.head _,h0,rfl,.inr (.inl rfl)⟩
  split at hi
  .rename_i e;subst e;obtain rfl:=bQ hi;exact⟨4,_,.tail _ (.head _),h2,rfl,.inl ⟨rfl,bA (fun _=>rfl) _⟩⟩
  split at hi
  .rename_i e;subst e;obtain rfl:=bQ hi;exact⟨5,_,.tail _ (.tail _ (.head _)),h3,rfl,.inl ⟨rfl,bA (fun _=>rfl) _⟩⟩
  .cases hi
def Uo {l:Nat}{b:cr}(h:look (A9 m) l=some b):(l≠2/\l≠4/\l≠5)/\look m l=some b:=by
 simp only[A9,gU]at h;split at h
 .cases h
 grind
def aas {l:Nat}(h:l≠2/\l≠4/\l≠5):∀i,(l,i)∉[(2,0),(4,1),(5,2)]:=by
 intro i hi;simp only[ca,eO,ek,or_false]at hi;omega
def Up {r:Rec}{ps:List dH}{hs:List bV}{q:List dH×List bV}{b:Bool}(hm:Et m r ps hs)(hx:6<=nx)(hK:K (.bool b) ⟨nx+2,xY m nx r q⟩){d:D}{m1:List (Nat×cr)}(h:Zp r q b d m1):
  ∃(σo:List (Nat×Nat)) (q1:Nat) (st':St) (vd':D),Fr [(2,0),(4,1),(5,2)] σo 3 q1 (Zo r ps hs) m1 ⟨nx,m⟩ st'/\Zr 0 σo d vd'/\K vd' st':=by
 obtain⟨g4,g5⟩:=Sp hm;obtain⟨rfl,i,j,⟨hi,hj,hij⟩,e0,ei,ej⟩:=h;have a1:=uc (show i≠0 by omega);have a2:=uc (show j≠0 by omega);have a3:=uc hij;have b1:=xt a1;have b2:=xt a2;have b3:=xt a3;have c1:=uc (show nx≠2 by omega);have c2:=uc (show nx+1≠2 by omega);have c3:=uc (show nx≠nx+1 by omega);have d1:=xt c1;have d2:=xt c2;have d3:=xt c3;have r0:mX 0 [(0,2),(i,nx),(j,nx+1)] 0=some 2:=rfl;have r1:mX 0 [(0,2),(i,nx),(j,nx+1)] i=some nx:=by simp only[mX,a1,b1,Nat.beq_refl,cond_true,cond_false]
 have r2:mX 0 [(0,2),(i,nx),(j,nx+1)] j=some (nx+1):=by simp only[mX,a2,b2,a3,b3,Nat.beq_refl,cond_true,cond_false]
 refine⟨[(0,2),(i,nx),(j,nx+1)],i+j+1,_,_,⟨rfl, ?_,(Nat.le_add_right _ _:nx<=nx+2),g4, ?_,g5, ?_⟩,.inl ⟨rfl,rfl⟩,hK⟩
 .have l1:Nat.blt 2 (nx+2)=true:=by simp[Nat.blt];omega
  have l2:Nat.blt nx (nx+2)=true:=by simp[Nat.blt]
  have l3:Nat.blt (nx+1) (nx+2)=true:=by simp[Nat.blt]
  simp[jg,a1,a2,a3,b1,b2,b3,c1,c2,c3,d1,d2,d3,l1,l2,l3];try omega
 .intro i' l h;simp only[ca,eO,ek,or_false]at h;rcases h with⟨rfl,rfl⟩|⟨rfl,rfl⟩|⟨rfl,rfl⟩
  .exact .inl aI
  .exact .inr (aH _)
  .exact .inr (Nat.le_add_right _ _)
 .intro l bb h;simp only[xY,look]at h;split at h
  .rename_i e;subst e;obtain rfl:=bQ h;exact .inl ⟨i,_,aI,ei,rfl,.inl ⟨rfl,bA (fun _=>rfl) _⟩⟩
  rename_i n1;split at h
  .rename_i e;subst e;obtain rfl:=bQ h;exact .inl ⟨j,_,aI,ej,rfl,.inl ⟨rfl,bA (fun _=>rfl) _⟩⟩
  rename_i n2;split at h
  .rename_i e;subst e;obtain rfl:=bQ h;exact .inl ⟨0,_,.head _,e0,rfl,.inr (.inl (by simp only[gB,sn,wz,M3,r1,r2]))⟩
  rename_i n3;obtain⟨k1,k2⟩:=Uo h;exact .inr ⟨by simp only[ph];rw[ar n3,ar n1,ar n2],aas k1,k2⟩
def oK {r:Rec}{ps:List dH}{hs:List bV}{q:List dH×List bV}{a b:av}{ans:Bool}(hmix:P.follows .mixedOrders=true)(hC:Lb P ν dr fid af)(hnp:3=af.np)(hm:Et m r ps hs)(hx:6<=nx)
  (hK:K (.bool ans) ⟨nx+2,xY m nx r q⟩) (hw:cg ((under t key u).at 3) af.body (kJ af (Zp r q ans)) (gz af [.str a,.str b,.fn 3000000 [.ptr 0 11 0 0]]) ⟨3,Zo r ps hs⟩):qU P ν dr (under t key u) fid [.str a,.str b,.fn 3000000 [.ptr 2 11 0 0]] ⟨nx,m⟩ K:=by
 obtain⟨g4,g5⟩:=Sp hm;refine BV (σi:=[(2,0),(4,1),(5,2)]) (cs:=[.str a,.str b,.fn 3000000 [.ptr 0 11 0 0]]) (fun q=>zA t key u q) hmix hC rfl ?_ hnp rfl g4 g5 hw fun d m1 h=>Up hm hx hK h
 intro i hi
 match i,hi with
 |0,_=>exact .inl ⟨rfl,rfl⟩
 |1,_=>exact .inl ⟨rfl,rfl⟩
 |2,_=>exact .inr (.inl rfl)
def Iv {r:Rec}{ps:List dH}{hs:List bV}{s:av}(hmix:P.follows .mixedOrders=true)(hC:Lb P ν dr fid af)(hnp:2=af.np)(hm:Et m r ps hs)(hx:6<=nx)
  (hK1:gf (ps,hs) s=none->K (.bool false) ⟨nx,A9 m⟩) (hK2:∀q,gf (ps,hs) s=some q->K (.bool true) ⟨nx+2,xY m nx r q⟩)
  (hw:cg ((under t key u).at 3) af.body (kJ af (agi r ps hs s)) (gz af [.ptr 0 11 0 0,.str s]) ⟨3,Zo r ps hs⟩):qU P ν dr (under t key u) fid [.ptr 2 11 0 0,.str s] ⟨nx,m⟩ K:=by
 obtain⟨g4,g5⟩:=Sp hm;refine BV (σi:=[(2,0),(4,1),(5,2)]) (cs:=[.ptr 0 11 0 0,.str s]) (fun q=>zA t key u q) hmix hC rfl ?_ hnp rfl g4 g5 hw fun d m1 h=>?_
 .intro i hi
  match i,hi with
  |0,_=>exact .inr (.inl rfl)
  |1,_=>exact .inl ⟨rfl,rfl⟩
 .rcases h with⟨h1,rfl⟩|⟨q,h1,h2⟩
  .refine⟨[],3,⟨nx,A9 m⟩,.bool false,⟨rfl,rfl,aH _,g4,(fun _ _ h=>by cases h),g5,fun l b h=>?_⟩,.inl ⟨rfl,rfl⟩,hK1 h1⟩;obtain⟨k1,k2⟩:=Uo h;exact .inr ⟨rfl,aas k1,k2⟩
  .exact Up hm hx (hK2 q h1) h2
end
end
def zZ (T:List D->D->Prop):Prop:=∀(w:bX),(w.fit)->T [bX.D w] (.str (kI w))
def Yp (Y:Ctx):Prop:=zZ (bU Y 461)
def z6 (T:List D->D->Prop):Prop:=∀(s:av),(s.length<=1048576)->T [.str s] (.str (jf s))
def Yq (Y:Ctx):Prop:=z6 (bU Y 462)
def tw (T:List D->D->Prop):Prop:=∀(r:Rec),(mD r)->T [Rec.D r] (.tup [.str (jr r).1,.int .i64 (jr r).2])
def C73 (Y:Ctx):Prop:=tw (bU Y 73)
def NH (T:List D->D->Prop):Prop:=∀(s:RQ),T [RQ.D s] (.bool (LH s))
def aga (Y:Ctx):Prop:=NH (bU Y 1201)
def C72 (Y:Ctx):Prop:=tw (bU Y 72)
def zI (T:List D->D->Prop):Prop:=∀(s:av),(s.length<=1048576)->T [.str s,.str [10]] (.sl 1 ((kB s).map D.str))
def X1 (Y:Ctx):Prop:=zI (bU Y 239)
def Bn:cB qO/\cB jE:=by unfold cB;decide
def CA (x:dH):av:=gR [qO,x.name,x.shelf]
def xb (x:bV):av:=gR [jE,x.name,x.range]
def XA {q:List dH}{x:dH}(h:cB x.name/\cB x.shelf):gf (q,[]) (CA x)=some (q++[x],[]):=by
 have hs:ai (CA x) 32=[qO,x.name,x.shelf]:=vu aI (by
  intro w hw;simp only[ca,ek,or_false]at hw;rcases hw with rfl|rfl|rfl
  .exact Bn.1
  .exact h.1
  .exact h.2)
 unfold gf;rw[hs];exact(aC rfl).trans (aC ⟨⟨rfl,rfl⟩,h.1.1,h.2.1⟩)
def Tt {q:List dH}{p:List bV}{x:bV}(h:cB x.name/\x.range≠[]):gf (q,p) (xb x)=some (q,p++[x]):=by
 have hs:ai (xb x) 32=jE::x.name::ai x.range 32:=By (p:=[jE,x.name]) (by
  intro w hw;simp only[ca,ek,or_false]at hw;rcases hw with rfl|rfl
  .exact Bn.2
  .exact h.1)
 have hj:aO [32] (ai x.range 32)=x.range:=iz (b:=32) (x:=32) rfl x.range;have h1:1<=(ai x.range 32).length:=eN 32 x.range [];unfold gf;rw[hs];refine(ar (by decide:¬jE=qO)).trans ?_;have e:(jE::x.name::ai x.range 32).drop 2=ai x.range 32:=rfl;rw[e,hj];exact aC ⟨⟨rfl,by simp only[aM];omega⟩,h.1.1,h.2⟩
def Jd {A R:List av}{t:av}:(A++t::R)[A.length]! =t:=aI
def Mt:∀(l:List dH) (A R:List av) (q:List dH),(∀x∈l,cB x.name/\cB x.shelf)->je (A++(l.map CA++R)) true (q,[]) A.length=je (A++(l.map CA++R)) true (q++l,[]) (A.length+l.length)
 |[],A,R,q,_=>aI
 |x::l,A,R,q,h=>by
  have ih:=Mt l (A++[CA x]) R (q++[x]) fun y hy=>h y (.tail _ hy)
  have e:(A++[CA x])++(l.map CA++R)=A++((x::l).map CA++R):=aI;rw[e]at ih;rw[qI (q':=(q++[x],[])) aI rfl (by simp only[List.map_cons,fY,Jd];exact XA (h x (.head _)))];simp only[bH,aM,aX,bI]at ih⊢;rw[ih];simp only[eh,fY,fS];rw[show A.length+1+l.length=A.length+(l.length+1)by omega]
def HM:∀(l:List bV) (A:List av) (q:List dH) (p:List bV),(∀x∈l,cB x.name/\x.range≠[])->je (A++l.map xb) true (q,p) A.length=((q,p++l),0)
 |[],A,q,p,_=>by rw[Bv aI];simp
 |x::l,A,q,p,h=>by
  have ih:=HM l (A++[xb x]) q (p++[x]) fun y hy=>h y (.tail _ hy)
  have e:(A++[xb x])++l.map xb=A++(x::l).map xb:=aI;rw[e]at ih;rw[qI (q':=(q,p++[x])) aI rfl (by simp only[List.map_cons,Jd];exact Tt (h x (.head _)))];simp only[bH,aM,aX,bI]at ih;rw[ih];simp
def adv {l:List bo}(h:∀n∈l,Lh n):∀t∈qC l,isM (fw t)=false:=by
 intro t ht;unfold qC at ht;obtain⟨x,hx,ht⟩:=List.mem_flatten.1 ht;obtain⟨n,hn,rfl⟩:=eG.1 hx;have hw:=h n hn;unfold Bb at ht;rcases ca.1 ht with rfl|ht
 .rw[qp sS aI];decide
 rcases List.mem_append.1 ht with ht|ht
 .unfold mQ at ht;obtain⟨w,hw2,rfl⟩:=eG.1 ht;rw[GB,uw AJ (yz (hw.a w hw2))];decide
 rcases List.mem_append.1 ht with ht|ht
 .unfold lT at ht;split at ht
  .cases ht
  .rw[cT.1 ht,show([fo,n.when']:List av)=fo::([]++[n.when'])from rfl,uw qi aI];decide
 .unfold pH at ht;split at ht
  .cases ht
  .rw[cT.1 ht,show([dh,n.option]:List av)=dh::([]++[n.option])from rfl,uw vU aI];decide
def ah0 {l:List fZ}(h:∀b∈l,XQ b):∀t∈pD l,isM (fw t)=false:=by
 intro t ht;unfold pD at ht;obtain⟨x,hx,ht⟩:=List.mem_flatten.1 ht;obtain⟨b,hb,rfl⟩:=eG.1 hx;have hw:=h b hb;unfold Hq at ht;rcases ca.1 ht with rfl|ht
 .rw[show([gG,b.name,b.range]:List av)=gG::([b.name]++[b.range])from rfl,uw vT (by intro x hx;rw[cT.1 hx];exact hw.nm)];decide
 .unfold lT at ht;split at ht
  .cases ht
  .rw[cT.1 ht,show([fo,b.when']:List av)=fo::([]++[b.when'])from rfl,uw qi aI];decide
def rec_k {r:Rec}(h:RP r):∀t∈lC r,isM (fw t)=false:=by
 intro t ht;unfold lC at ht;rcases ca.1 ht with rfl|ht
 .rw[qp xA (by
   intro x hx;simp only[ca,ek,or_false]at hx;rcases hx with rfl|rfl
   .exact h.nm
   .exact BF h.v)];decide
 unfold va at ht;rcases List.mem_append.1 ht with ht|ht
 .exact adv h.n t ht
 rcases List.mem_append.1 ht with ht|ht
 .exact ah0 h.b t ht
 .obtain⟨f,hf,rfl⟩:=eG.1 ht;have hw:=h.f f hf;rw[me,show([cw,f.name]++f.of:List av)=cw::(f.name::f.of)from rfl,qp sR (by
   intro x hx;rcases ca.1 hx with rfl|hx
   .exact hw.nm
   .exact hw.o x hx)];decide
structure ManW (m:fD):Prop where
 r:RP m.r
 c:ey m=(0,0)
 p:∀x∈m.ps,cB x.name/\cB x.shelf
 h:∀x∈m.hs,cB x.name/\x.range≠[]/\mc x.range
def pj (m:fD):List av:=lC m.r++(m.ps.map CA++m.hs.map xb)
def aiT {p:Nat->Bool}{k m n:Nat}(h1:k<=m)(h2:m<=n)(h3:∀j,k<=j->j<m->p j=false)(h4:m=n\/p m=true):vg p k n=m:=by
 obtain⟨d,rfl⟩:∃d,m=k+d:=⟨m-k,ae⟩
 induction d generalizing k with
 |zero=>
  grind [Gb,Gc]
 |succ d ih=>
  grind [Kb]
def adj {L:List av}(h:∀t∈L,mc t):aJ (kV L)=(L,true):=by
 grind [Cc,aJ]
def Nl (m:fD):iE m=kV (pj m):=by
 have h1:∀l:List dH,(l.map JO).flatten=kV (l.map CA):=by
  intro l;induction l with
  |nil=>rfl
  |cons x r ih=>rw[List.map_cons,List.flatten_cons,ih,List.map_cons,pU];rfl
 have h2:∀l:List bV,(l.map BW).flatten=kV (l.map xb):=by
  intro l;induction l with
  |nil=>rfl
  |cons x r ih=>rw[List.map_cons,List.flatten_cons,ih,List.map_cons,pU];rfl
 unfold iE pj;rw[rN,rN,yx,h1,h2]
def SL {m:fD}(h:ManW m)(hl:(iE m).length<=8192):gD (iE m)=(m,0,0):=by
 have hcr:cE m.r=(0,0):=by
  have h1:=h.c;unfold ey at h1;split at h1
  .rename_i h2;rw[h1]at h2;exact absurd rfl h2
  .rename_i h2;have h3:zf m.r:=uh (Classical.not_not.1 h2);unfold cE;obtain⟨⟨g1,g2⟩,⟨g3,g4⟩,g5⟩:=h3;have h4:=Classical.not_not.1 h2;unfold cE at h4;rw[ar (by rw[g1];simp),ar (by rw[g2];simp),ar ae,ar (by rw[g5];simp)]at h4⊢;split
   .rename_i h5;rw[aC h5]at h4;cases h4
   .rfl
 have hclean:∀t∈pj m,mc t:=by
  intro t ht;unfold pj at ht;rcases List.mem_append.1 ht with ht|ht
  .exact BY h.r t ht
  rcases List.mem_append.1 ht with ht|ht
  .obtain⟨x,hx,rfl⟩:=eG.1 ht;refine iw fun w hw=>?_
   simp only[ca,ek,or_false]at hw;rcases hw with rfl|rfl|rfl
   .exact I8 Bn.1
   .exact I8 (h.p x hx).1
   .exact I8 (h.p x hx).2
  .obtain⟨x,hx,rfl⟩:=eG.1 ht;refine iw fun w hw=>?_
   simp only[ca,ek,or_false]at hw;rcases hw with rfl|rfl|rfl
   .exact I8 Bn.2
   .exact I8 (h.h x hx).1
   .exact(h.h x hx).2.2
 have hL:aJ (iE m)=(pj m,true):=by rw[Nl,adj hclean]
 have hk:kM (pj m)=(lC m.r).length:=by
  refine aiT (Nat.zero_le _) (by simp[pj]) (fun j _ hj=>?_) ?_
  .unfold pj;rw[getElem!_pos _ j dk,List.getElem_append_left hj];exact rec_k h.r _ (List.getElem_mem _)
  .unfold pj
   match hp:m.ps,hh:m.hs with
   |[],[]=>left;simp
   |x::r,_=>
    right;simp only[List.map_cons,fY,Jd];unfold CA;rw[qp Bn.1 (by
     intro w hw;simp only[ca,ek,or_false]at hw;have:=h.p x (by rw[hp];exact .head _);rcases hw with rfl|rfl
     .exact this.1
     .exact this.2)]
    decide
   |[],x::r=>
    right;simp only[List.map_nil,fS,List.map_cons,Jd];unfold xb;rw[show([jE,x.name,x.range]:List av)=jE::([x.name]++[x.range])from rfl,uw Bn.2 (by intro w hw;rw[cT.1 hw];exact(h.h x (by rw[hh];exact .head _)).1)];decide
 have hb:dF (iE m)=gh m.r:=by
  unfold dF;rw[hL,hk];simp only[Bool.true_or,EI,ba];rw[yx];congr 1;unfold slice pj;rw[bR,List.take_left]
 have hr:=Xc h.r hcr;have hrest:je (pj m) true ([],[]) (lC m.r).length=((m.ps,m.hs),0):=by
  unfold pj;rw[Mt m.ps _ _ _ h.p];have:=HM m.hs (lC m.r++m.ps.map CA) ([]++m.ps) [] fun x hx=>⟨(h.h x hx).1,(h.h x hx).2.1⟩
  simpa using this
 unfold gD;rw[ar ae,hb,hr,hL,hk,hrest];simp only[not_true_eq_false,aZ,EW,h.c]
def Ti:List av:=[[111,110,101],[116,119,111]]
def e8 (l:List Int)(i own:Int):fD:=⟨qt l i own,
 if eA l (i+82) 6=1 then [⟨dp (1+eA l (i+83) 3),Ti[(eA l (i+84) 2).toNat]!⟩]else [],
 if eA l (i+85) 6=1 then [⟨dp (1+eA l (i+86) 4),lW l (i+87)⟩]else []⟩
def aiU:∀k,k<2->eV Ti[k]! =true/\Ti[k]!.length<=3:=aG
def Jt (l:List Int)(i own:Int):(e8 l i own).ps=[]\/∃a b,(e8 l i own).ps=[⟨dp a,b⟩]/\eV b=true/\b.length<=3:=by
 unfold e8;dsimp only;split
 .have:=dP l (i+84) 2 aG;obtain⟨h1,h2⟩:=aiU _ (show(eA l (i+84) 2).toNat<2 by omega);exact .inr ⟨_,_,rfl,h1,h2⟩
 .exact .inl rfl
def CO (l:List Int)(i own:Int):(e8 l i own).hs=[]\/∃a j,(e8 l i own).hs=[⟨dp a,lW l j⟩]:=by
 unfold e8;dsimp only;split
 .exact .inr ⟨_,_,rfl⟩
 .exact .inl rfl
def ZW {f:Nat->Int}(h:f 0=0):gA f 0 1=(0,0):=by
 rw[iq aG h,fT aG]
def Z4 (l:List Int)(i own:Int):ManW (e8 l i own):=by
 have hg:=zd l i own;refine⟨ah9 l i own, ?_,fun x hx=>?_,fun x hx=>?_⟩
 .unfold ey;rw[ar (by rw[show cE (e8 l i own).r=(0,0)from hg.check];simp)];have h1:qE (e8 l i own).ps=(0,0)/\(e8 l i own).ps.length<=1:=by
   rcases Jt l i own with e|⟨a,b,e,hb,_⟩<;>rw[e]
   .exact⟨fT aG,aI⟩
   .refine⟨ZW ?_,aI⟩;unfold SE;rw[ar];rintro((h|h)|h)
    .rw[show([(⟨dp a,b⟩:dH)])[0]!.name=dp a from rfl,(mh a).1]at h;cases h
    .rw[show([(⟨dp a,b⟩:dH)])[0]!.shelf=b from rfl,hb]at h;cases h
    .omega
  have h2:nr (e8 l i own).hs=(0,0)/\(e8 l i own).hs.length<=1:=by
   rcases CO l i own with e|⟨a,j,e⟩<;>rw[e]
   .exact⟨fT aG,aI⟩
   .refine⟨ZW ?_,aI⟩;unfold xa;rw[ar,ar]
    .rw[show([(⟨dp a,lW l j⟩:bV)])[0]!.range=lW l j from rfl,(lv l j).1];simp
    .rintro(h|h)
     .rw[show([(⟨dp a,lW l j⟩:bV)])[0]!.name=dp a from rfl,(mh a).1]at h;cases h
     .omega
  rw[ar ae,ar (by rw[h1.1];simp),h2.1]
 .rcases Jt l i own with e|⟨a,b,e,hb,_⟩<;>rw[e]at hx
  .cases hx
  .rw[cT.1 hx];exact⟨wc a,adr hb⟩
 .rcases CO l i own with e|⟨a,j,e⟩<;>rw[e]at hx
  .cases hx
  .rw[cT.1 hx];exact⟨wc a,(lv l j).2.2.1,(lv l j).2.2.2⟩
def E4 (l:List Int)(i own:Int):(iE (e8 l i own)).length<=900:=by
 have h0:=(zd l i own).len;have h1:((e8 l i own).ps.map JO).flatten.length<=20:=by
  rcases Jt l i own with e|⟨a,b,e,_,hb⟩<;>rw[e]
  .simp
  .have:=(mh a).2;simp only[List.map_cons,List.map_nil,List.flatten_cons,List.flatten_nil,gQ,JO,cN,aO,bH,qO,aM,aX];omega
 have h2:((e8 l i own).hs.map BW).flatten.length<=30:=by
  rcases CO l i own with e|⟨a,j,e⟩<;>rw[e]
  .simp
  .have:=(mh a).2;have:=(lv l j).2.1;simp only[List.map_cons,List.map_nil,List.flatten_cons,List.flatten_nil,gQ,BW,cN,aO,bH,jE,aM,aX];omega
 unfold iE;have:(gh (e8 l i own).r).length<=800:=h0;simp only[bH];omega
def HH (l:List Int)(i own:Int):gD (iE (e8 l i own))=(e8 l i own,0,0)/\nH (e8 l i own)=(iE (e8 l i own),0):=by
 have h:=Z4 l i own;have hl:=E4 l i own;refine⟨SL h ae, ?_⟩;unfold nH;rw[ar (by rw[h.c];simp)]
def cut3 (t:av):kL 3 (ai t 32)=bO t:=by
 unfold kL bO
 match ai t 32 with
 |[]=>rfl
 |[a]=>rfl
 |[a,b]=>rfl
 |[a,b,c]=>rfl
 |a::b::c::d::r=>
  rw[ar aI,ar aI];rfl
def bS:av:=[98]
def awM1:av:=[112,97,99,107,97,103,101,32,97,112,112,32,49,46,48,46,48,10,112,105,110,32,98,32,111,110,101,10,104,111,108,100,32,98,32,60,50,10]
def awM2:av:=[112,97,99,107,97,103,101,32,97,112,112,32,49,46,48,46,48,10,104,111,108,100,32,98,32,60,50,10,112,105,110,32,98,32,111,110,101,10]
def V2:fD:=⟨⟨[97,112,112],⟨1,0,0,[],[]⟩,[],[],[]⟩,[⟨bS,Ti[0]!⟩],[⟨bS,[60,50]⟩]⟩
def awm_1:gD awM1=(V2,0,0):=by decide+kernel
def agl:(gD awM2).2=(2,3):=by decide+kernel
def awm_p:nH V2=(awM1,0):=by decide+kernel
section
def Je (t:av):Bool:=isM (gT (fR t).1 32).1
def Sf (P:List av)(i:Nat):Int:=if vg (fun j=>Je P[j]!) i P.length<P.length then(vg (fun j=>Je P[j]!) i P.length:Nat)else-1
def adf {P:List av}{i:Nat}(h:i<P.length)(hb:Je P[i]! =true):Sf P i=(i:Nat):=by unfold Sf;rw[Gc h hb,aC h]
def aih {P:List av}{i:Nat}(h:i<P.length)(hb:Je P[i]! =false):Sf P i=Sf P (i+1):=by unfold Sf;rw[Kb h hb]
def ade {P:List av}{i:Nat}(h:P.length<=i):Sf P i=-1:=by unfold Sf;rw[Gb h,ar ae]
def acH {s:av}{i:Nat}(h:i<(aJ s).1.length):Je (k9 s)[i]! =isM (fw (aJ s).1[i]!):=by
 unfold Je;rw[SD h,IC (Fh (bL h))];dsimp only;rw[ah1]
def kM_at (s:av):vg (fun j=>Je (k9 s)[j]!) 0 (k9 s).length=kM (aJ s).1:=by
 unfold kM;rw[tk];exact Th fun j _ h=>acH h
def L3 (L:List av):kM L<=L.length:=adX _ (Nat.zero_le _)
def ixB_k {s:av}:(Sf (k9 s) 0<0->(k9 s).length=kM (aJ s).1)/\(¬Sf (k9 s) 0<0->Sf (k9 s) 0=(kM (aJ s).1:Nat)):=by
 have h:=kM_at s;have h2:=L3 (aJ s).1;rw[<-tk]at h2;unfold Sf;rw[h];split<;>constructor<;>intro h3<;>omega
def ZE (s:av):aO [] (slice (k9 s) 0 (kM (aJ s).1))=dF s:=acJ (Nat.zero_le _) (L3 _)
def ab1 (s:av):(fR s).2=(decide (1<=(s.length:Int))&&decide (s.drop (s.length-1)=[10])):=by
 by_cases hs:s=[]
 .subst hs;rfl
 .obtain⟨r,c,rfl⟩:∃r c,s=r++[c]:=⟨_,_,(List.dropLast_concat_getLast hs).symm⟩
  have h1:(r++[c]).length-1=r.length:=aI;have h2:decide (1<=(((r++[c]).length:Nat):Int))=true:=bY (by simp only[bH,aM,aX];omega);rw[h1,h2,List.drop_left];unfold fR;by_cases hc:c=10<;>simp[hc]
def GA {s:av}(h:(fR s).2=true):1<=s.length:=by
 cases s with
 |nil=>cases h
 |cons a r=>simp
def ab3 {s:av}(h:(fR s).2=true):(fR s).1=s.take (s.length-1):=by
 unfold fR at h⊢;split at h
 .rename_i h1;rw[aC h1,List.dropLast_eq_take]
 .cases h
def ab2 {s:av}(h:(fR s).2=false):(fR s).1=s:=by
 unfold fR at h⊢;split at h
 .cases h
 .rename_i h1;rw[ar h1]
def Lw {m:fD}(h:¬(cE m.r).1=0):ey m=cE m.r:=aC h
def Lv {m:fD}(h:¬¬(cE m.r).1=0)(h2:8<m.ps.length\/8<m.hs.length):ey m=(3,0):=by unfold ey;rw[ar h,aC h2]
def EM {m:fD}(h:¬¬(cE m.r).1=0)(h2:¬(8<m.ps.length\/8<m.hs.length)){q:Int×Int}(h3:qE m.ps=q)(h4:¬q.1=0):ey m=q:=by
 subst h3;unfold ey;rw[ar h,ar h2,aC h4]
def ug {m:fD}(h:¬¬(cE m.r).1=0)(h2:¬(8<m.ps.length\/8<m.hs.length))(h3:(qE m.ps).1=0){q:Int×Int}(h4:nr m.hs=q):ey m=q:=by
 subst h4;unfold ey;rw[ar h,ar h2,ar (fun h=>h h3)]
def Ms {l:List dH}{i:Nat}(h:(eV l[i]!.name=false\/eV l[i]!.shelf=false)\/(0<i/\Op.bytesLess l[i-1]!.name l[i]!.name=false)):SE l i=15:=aC h
def UE {l:List dH}{i:Nat}(h:¬((eV l[i]!.name=false\/eV l[i]!.shelf=false)\/(0<i/\Op.bytesLess l[i-1]!.name l[i]!.name=false))):SE l i=0:=ar h
def T3 {l:List bV}{i:Nat}(h:eV l[i]!.name=false\/(0<i/\Op.bytesLess l[i-1]!.name l[i]!.name=false)):xa l i=4:=aC h
def T4 {l:List bV}{i:Nat}(h:¬(eV l[i]!.name=false\/(0<i/\Op.bytesLess l[i-1]!.name l[i]!.name=false)))(h2:kC l[i]!.range=false):xa l i=6:=by unfold xa;rw[ar h,aC h2]
def LY {l:List bV}{i:Nat}(h:¬(eV l[i]!.name=false\/(0<i/\Op.bytesLess l[i-1]!.name l[i]!.name=false)))(h2:kC l[i]!.range=true):xa l i=0:=by unfold xa;rw[ar h,ar (by rw[h2];simp)]
def qY (m:fD):Prop:=mD m.r/\∀h∈m.hs,h.range.length<=1048576
def AI {m:fD}(h:¬¬(ey m).1=0):(¬¬(cE m.r).1=0)/\m.ps.length<=8/\m.hs.length<=8:=by
 have h':=Classical.not_not.1 h;refine⟨fun h2=>h2 (Lu h'), ?_⟩;have h1:=Lu h';unfold ey at h';rw[ar (fun h=>h h1)]at h';split at h'
 .cases h'
 .omega
def txP (m:fD)(i:Nat):av:=gh m.r++((m.ps.take i).map JO).flatten
def txH (m:fD)(i:Nat):av:=gh m.r++((m.ps.map JO).flatten++((m.hs.take i).map BW).flatten)
def TW {α:Type} [Inhabited α](f:α->av){l:List α}{i:Nat}(h:i<l.length):((l.take (i+1)).map f).flatten=((l.take i).map f).flatten++f l[i]! :=by
 rw[List.take_add_one,List.getElem?_eq_getElem h,getElem!_pos l i h,List.map_append,List.flatten_append];simp only[Option.toList_some,List.map_cons,List.map_nil,List.flatten_cons,List.flatten_nil,gQ]
def abV (m:fD):txP m 0=gh m.r:=by simp[txP]
def Gr {m:fD}{i:Nat}(h:i<m.ps.length):txP m (i+1)=txP m i++JO m.ps[i]! :=by unfold txP;rw[TW _ h,eh]
def Kl (m:fD):txP m m.ps.length=txH m 0:=by simp[txP,txH]
def Gq {m:fD}{i:Nat}(h:i<m.hs.length):txH m (i+1)=txH m i++BW m.hs[i]! :=by unfold txH;rw[TW _ h];simp only[eh]
def UY (m:fD):txH m m.hs.length=iE m:=by simp[txH,iE]
def JP (x:dH):JO x=((([112,105,110,32]++x.name)++[32])++x.shelf)++[10]:=by simp[JO,cN,aO,qO]
def Fa (x:bV):BW x=((([104,111,108,100,32]++x.name)++[32])++x.range)++[10]:=by simp[BW,cN,aO,jE]
def Sv {s:av}(h:eV s=true):s.length<=16:=by
 unfold eV at h;simp only[bM,bh]at h;omega
def rZ {m:fD}(h:¬¬(ey m).1=0)(hs:qY m):(gh m.r).length<=4096/\(∀i,i<m.ps.length->m.ps[i]!.name.length<=16/\m.ps[i]!.shelf.length<=16)/\(∀i,i<m.hs.length->m.hs[i]!.name.length<=16/\m.hs[i]!.range.length<=1048576)/\m.ps.length<=8/\m.hs.length<=8:=by
 obtain⟨h1,h2,h3⟩:=AI h;have h4:=Classical.not_not.1 h;have hp:(qE m.ps).1=0:=by
  refine Classical.byContradiction fun hn=>?_
  rw[EM h1 ae rfl hn]at h4;exact hn h4
 have hh:(nr m.hs).1=0:=by rw[ug h1 ae hp rfl]at h4;exact h4
 refine⟨?_,fun i hi=>?_,fun i hi=>?_,h2,h3⟩
 .have:=SF m.r;unfold jr at this;rw[ar h1]at this;exact this
 .have:=xJ hp i hi;unfold SE at this;split at this
  .cases this
  .rename_i hn;simp only[not_or,Bool.not_eq_false]at hn;exact⟨Sv hn.1.1,Sv hn.1.2⟩
 .have:=xJ hh i hi;unfold xa at this;split at this
  .cases this
  .rename_i hn;simp only[not_or,Bool.not_eq_false]at hn;exact⟨Sv hn.1,hs.2 _ (bL hi)⟩
def C9 {m:fD}(h:¬¬(ey m).1=0)(hs:qY m):∀{i:Nat},i<=m.ps.length->(txP m i).length<=4096+i*40
 |0,_=>by rw[abV];exact(rZ h hs).1
 |i+1,hi=>by
  have h1:=C9 h hs (i:=i) ae;have h2:=(rZ h hs).2.1 i ae;rw[Gr ae,JP];simp only[bH,aM,aX];omega
def Kk {m:fD}(h:¬¬(ey m).1=0)(hs:qY m):∀{i:Nat},i<=m.hs.length->(txH m i).length<=4416+i*1048700
 |0,_=>by
  rw[<-Kl];have h1:=C9 h hs (aH m.ps.length);have h2:=(rZ h hs).2.2.2.1;omega
 |i+1,hi=>by
  have h1:=Kk h hs (i:=i) ae;have h2:=(rZ h hs).2.2.1 i ae;rw[Gq ae,Fa];simp only[bH,aM,aX];omega
def H8 {m:fD}(h:¬(ey m).1=0):nH m=([],(ey m).1):=aC h
def H9 {m:fD}(h:¬¬(ey m).1=0):nH m=(iE m,0):=ar h
def sum2 (a b:av):Int:=IntKind.i64.wrap ((a.length:Int)+b.length)
def LG (x:dH):Bool:=!decide (100<sum2 x.name x.shelf)
def R6 (x:bV):Bool:=!decide (300<sum2 x.name x.range)
def R5 (m:fD):Bool:=(decide (m.ps.length<=12)&&decide (m.hs.length<=12))&&LH ⟨[],[⟨m.r,0,false⟩]⟩
def Wk (m:fD):Bool:=(R5 m&&c9 (fun i=>LG m.ps[i]!) 0 m.ps.length)&&c9 (fun i=>R6 m.hs[i]!) 0 m.hs.length
def acO {m:fD}(h:(12<(m.ps.length:Int)\/12<(m.hs.length:Int))\/LH ⟨[],[⟨m.r,0,false⟩]⟩=false):R5 m=false:=by
 unfold R5;rcases h with(h|h)|h
 .rw[cy (show ¬m.ps.length<=12 by omega)];rfl
 .rw[cy (show ¬m.hs.length<=12 by omega),Bool.and_false];rfl
 .rw[h,Bool.and_false]
def ZU {m:fD}(h:(¬12<(m.ps.length:Int)/\¬12<(m.hs.length:Int))/\LH ⟨[],[⟨m.r,0,false⟩]⟩=true):R5 m=true:=by
 unfold R5;rw[bY (show m.ps.length<=12 by omega),bY (show m.hs.length<=12 by omega),h.2];rfl
def ail {a b:fD}(h1:a.r=b.r)(h2:a.ps.length=b.ps.length)(h3:a.hs.length=b.hs.length)(h4:∀i,i<a.ps.length->a.ps[i]! =b.ps[i]!)(h5:∀i,i<a.hs.length->a.hs[i]! =b.hs[i]!):a=b:=by
 obtain⟨r,ps,hs⟩:=a;obtain⟨r',ps',hs'⟩:=b;dsimp only at h1 h2 h3 h4 h5;have e1:ps=ps':=List.ext_getElem h2 fun i q1 q2=>by have:=h4 i q1;rwa [getElem!_pos ps i q1,getElem!_pos ps' i q2]at this
 have e2:hs=hs':=List.ext_getElem h3 fun i q1 q2=>by have:=h5 i q1;rwa [getElem!_pos hs i q1,getElem!_pos hs' i q2]at this
 rw[h1,e1,e2]
def ab4 {s:av}{i:Nat}(h:i<(aJ s).1.length):fR (k9 s)[i]! =((aJ s).1[i]!,mP (aJ s).1 (aJ s).2 i):=by rw[SD h,IC (Fh (bL h))]
def ajd (t:av):eZ 3 t=bO t:=by unfold eZ;rw[ar aG];exact cut3 t
def A7 (t:av)(k:Nat):(aO [32] ((ai t 32).drop k)).length<=t.length:=by
 have h1:aO [32] (ai t 32)=t:=iz (b:=32) (x:=32) rfl t;have h2:∀(l:List av) (k:Nat),(aO [32] (l.drop k)).length<=(aO [32] l).length:=by
  intro l;induction l with
  |nil=>intro k;simp
  |cons a r ih=>
   intro k;cases k with
   |zero=>simp
   |succ k=>
    have:=ih k;rw[List.drop_succ_cons];cases r with
    |nil=>simp[aO]
    |cons b r=>simp only[aO,bH]at this⊢;omega
 have:=h2 (ai t 32) k;rw[h1]at this;exact this
def Tj {t u:av}(h:u∈bO t):u.length<=t.length:=by
 rw[<-cut3]at h;unfold kL at h;split at h
 .exact cG t 32 h
 .rcases List.mem_append.1 h with h|h
  .exact cG t 32 (jN h)
  .rw[cT.1 h];exact A7 t 2
def ac7 {w:av}(h:w=qO\/w=jE):isM w=true:=by unfold isM;rcases h with h|h<;>simp[h]
def aid {w:av}(h:¬w=qO/\¬w=jE):isM w=false:=by unfold isM;rw[cy h.1,cy h.2];rfl
def stP (ps:List dH)(x y:dH):((ps++[x]).map dH.D).set ps.length (Bz (((ps++[x]).map dH.D).getD ps.length .any) 2 2 0 (dH.D y))=(ps++[y]).map dH.D:=by
 rw[List.map_append,List.map_cons,List.map_nil,oR _ _ _ _ aI,sv _ _ _ _ aI,List.map_append];rfl
def tl_p0 {q:List dH×List bV}{t:av}(h0:(ai t 32)[0]! =qO)(h:((0<(q.2.length:Int)\/¬((ai t 32).length:Int)=3)\/(ai t 32)[1]! =[])\/(ai t 32)[2]! =[]):gf q t=none:=by
 unfold gf;rw[aC h0,ar];rintro⟨⟨h1,h2⟩,h3,h4⟩;rcases h with((h|h)|h)|h
 .omega
 .exact h ae
 .exact h3 h
 .exact h4 h
def tl_p1 {q:List dH×List bV}{t:av}(h0:(ai t 32)[0]! =qO)(h:((¬0<(q.2.length:Int)/\((ai t 32).length:Int)=3)/\¬(ai t 32)[1]! =[])/\¬(ai t 32)[2]! =[]):gf q t=some (q.1++[⟨(ai t 32)[1]!,(ai t 32)[2]!⟩],q.2):=by
 unfold gf;rw[aC h0,aC ⟨⟨ae,ae⟩,h.1.2,h.2⟩]
def tl_h0 {q:List dH×List bV}{t:av}(h0:¬(ai t 32)[0]! =qO)(h:(¬(ai t 32)[0]! =jE\/((ai t 32).length:Int)<3)\/(ai t 32)[1]! =[]):gf q t=none:=by
 unfold gf;rw[ar h0,ar];rintro⟨⟨h1,h2⟩,h3,h4⟩;rcases h with(h|h)|h
 .exact h h1
 .omega
 .exact h3 h
def tl_h1 {q:List dH×List bV}{t:av}(h0:¬(ai t 32)[0]! =qO)(h:((ai t 32)[0]! =jE/\¬((ai t 32).length:Int)<3)/\¬(ai t 32)[1]! =[])(hj:aO [32] ((ai t 32).drop 2)=[]):gf q t=none:=by
 unfold gf;rw[ar h0,ar (fun h=>h.2.2 hj)]
def tl_h2 {q:List dH×List bV}{t:av}(h0:¬(ai t 32)[0]! =qO)(h:((ai t 32)[0]! =jE/\¬((ai t 32).length:Int)<3)/\¬(ai t 32)[1]! =[])(hj:¬aO [32] ((ai t 32).drop 2)=[]):gf q t=some (q.1,q.2++[⟨(ai t 32)[1]!,aO [32] ((ai t 32).drop 2)⟩]):=by
 unfold gf;rw[ar h0,aC ⟨⟨h.1.1,ae⟩,h.2,hj⟩]
def IP (Y:Ctx):Prop:=∀(lm nx:Nat) (m:List (Nat×cr)) (K:D->St->Prop),K (.fn 2000000 [.str [112,105,110],.fn 490 [.fn 3000000 [.ptr lm 11 0 0]],.str [104,111,108,100],.fn 492 [.fn 3000000 [.ptr lm 11 0 0]]]) ⟨nx,m⟩->Y.tr 243 [.ptr lm 11 0 0] ⟨nx,m⟩ K
section
variable {f1 f2:D} {w:av}
def Ma (h:w=qO):G8 w [.str [112,105,110],f1,.str [104,111,108,100],f2]=f1:=by subst h;rfl
def HT (h:w=jE):G8 w [.str [112,105,110],f1,.str [104,111,108,100],f2]=f2:=by subst h;rfl
def adk (h:¬w=qO)(h2:¬w=jE):G8 w [.str [112,105,110],f1,.str [104,111,108,100],f2]=.nilf:=by
 have e1:(([112,105,110]:av)==w)=false:=by rw[beq_eq_false_iff_ne];exact fun e=>h e.symm
 have e2:(([104,111,108,100]:av)==w)=false:=by rw[beq_eq_false_iff_ne];exact fun e=>h2 e.symm
 simp only[G8,e1,e2,cond_false]
end
def adI {hs:List bV}{t:av}(h:¬hs.length=0\/t.contains 32=true):¬(decide (hs.length=0)&& !t.contains 32)=true:=by
 rcases h with h|h
 .rw[cy h];simp
 .rw[h];simp
def aa1 {hs:List bV}{t:av}(h:hs.length=0/\t.contains 32=false):(decide (hs.length=0)&& !t.contains 32)=true:=by rw[bY h.1,h.2];rfl
def adl (w:Bool)(W:List av):(((!w ||!decide ((W.length:Int)=3)) ||decide ([]∈W))=true)\/((((!w ||!decide ((W.length:Int)=3)) ||decide ([]∈W))=false)/\(¬W[0]! =qO/\¬W[0]! =jE))\/((((!w ||!decide ((W.length:Int)=3)) ||decide ([]∈W))=false)/\W[0]! =qO)\/((((!w ||!decide ((W.length:Int)=3)) ||decide ([]∈W))=false)/\W[0]! =jE):=by
 cases((!w ||!decide ((W.length:Int)=3)) ||decide ([]∈W))with
 |true=>exact .inl rfl
 |false=>
  by_cases h1:W[0]! =qO
  .exact .inr (.inr (.inl ⟨rfl,h1⟩))
  .by_cases h2:W[0]! =jE
   .exact .inr (.inr (.inr ⟨rfl,h2⟩))
   .exact .inr (.inl ⟨rfl,h1,h2⟩)
def FV {s:av}(h:8192<s.length):gD s=(JD,3,0):=aC h
def Ic {s:av}(h:¬8192<s.length)(h2:¬(cW (dF s)).2.1=0):gD s=(JD,(cW (dF s)).2.1,(cW (dF s)).2.2):=by unfold gD;rw[ar h,aC h2]
def FW {s:av}(h:¬8192<s.length)(h2:(cW (dF s)).2.1=0):gD s=EW (cW (dF s)).1 (je (aJ s).1 (aJ s).2 ([],[]) (kM (aJ s).1)):=by unfold gD;rw[ar h,ar (fun h=>h h2)]
def LI {r:Rec}{q:List dH×List bV}{e:Int}(h:¬e=0):EW r (q,e)=(JD,2,e):=aC h
def LJ {r:Rec}{q:List dH×List bV}(h:¬(ey ⟨r,q.1,q.2⟩).1=0):EW r (q,0)=(JD,(ey ⟨r,q.1,q.2⟩).1,0):=by unfold EW;rw[ar (fun h=>h rfl),aC h]
def TS {r:Rec}{q:List dH×List bV}(h:(ey ⟨r,q.1,q.2⟩).1=0):EW r (q,0)=(⟨r,q.1,q.2⟩,0,0):=by unfold EW;rw[ar (fun h=>h rfl),ar (fun h2=>h2 h)]
def vb {r:Rec}{L:List av}{en:Bool}{q:List dH×List bV}{i:Nat}(h:i<L.length)(h2:mP L en i=false\/gf q L[i]! =none):EW r (je L en q i)=(JD,2,(i:Int)+1):=by
 rcases h2 with h2|h2
 .rw[Xr h h2,LI ae]
 .rw[abC h h2,LI ae]
def Zy {q:List dH×List bV}{w:Bool}{t:av}(h:((!w ||!decide (((bO t).length:Int)=3)) ||decide ([]∈bO t))=true):w=false\/gf q t=none:=by
 cases w with
 |false=>exact .inl rfl
 |true=>
  refine .inr (UU ?_);simp only[Bool.not_true,Bool.false_or,dw,bE,bC,bh]at h;rcases h with h|h
  .exact .inl fun h2=>h ae
  .exact .inr (.inl (List.contains_iff_mem.2 h))
def AY {w:Bool}{t:av}(h:((!w ||!decide (((bO t).length:Int)=3)) ||decide ([]∈bO t))=false):w=true/\(bO t).length=3/\¬(bO t)[1]! =[]/\¬(bO t)[2]! =[]:=by
 simp only[dt,cq,bC,bh]at h;obtain⟨⟨h1,h2⟩,h3⟩:=h;have h4:(bO t).length=3:=ae;exact⟨h1,h4,fun e=>h3 (e▸bL ae),fun e=>h3 (e▸bL ae)⟩
def JC {s:av}{i:Nat}(h:i<(aJ s).1.length)(h2:¬8192<s.length):(aJ s).1[i]!.length<=8193:=by have:=L8 h;omega
def Uh {s:av}(h2:¬8192<s.length):(aJ s).1.length<=8193:=by have:=Mr s;rw[tk]at this;omega
def V4 {s:av}(h:¬8192<s.length):∀t∈slice (k9 s) 0 (kM (aJ s).1),t.length<=2097200:=fun t ht=>by have:=JN (Im ht);omega
def V5 (s:av):dF s=if(0<(kM (aJ s).1:Int)/\((aJ s).2=true\/(kM (aJ s).1:Int)<((aJ s).1.length:Int)))then aO [10] (slice (aJ s).1 0 (kM (aJ s).1))++[10]else aO [10] (slice (aJ s).1 0 (kM (aJ s).1)):=by
 unfold dF EI;have hk:=L3 (aJ s).1;have hl:(slice (aJ s).1 0 (kM (aJ s).1)).length=kM (aJ s).1:=by simp[slice];omega
 by_cases h0:kM (aJ s).1=0
 .have:slice (aJ s).1 0 (kM (aJ s).1)=[]:=nO ae;rw[this,ar (show ¬(0<(kM (aJ s).1:Int)/\((aJ s).2=true\/(kM (aJ s).1:Int)<((aJ s).1.length:Int)))by omega)];split<;>rfl
 .by_cases h1:(aJ s).2=true\/kM (aJ s).1<(aJ s).1.length
  .rw[aC (by simpa using h1),aC ⟨ae,by rcases h1 with h|h;exact .inl h;exact .inr ae⟩,join_one (by intro h;rw[h]at hl;simp at hl;omega)]
  .rw[ar (by simpa using h1),ar (by rintro⟨_,h|h⟩;exact h1 (.inl h);exact h1 (.inr ae))]
def adQ {α:Type}(w:Bool)(o:Option α):w=true\/(w=false/\o=none)\/(w=false/\∃q,o=some q):=by
 cases w with
 |true=>exact .inl rfl
 |false=>cases o with
  |none=>exact .inr (.inl ⟨rfl,rfl⟩)
  |some q=>exact .inr (.inr ⟨rfl,q,rfl⟩)
def ab5 {L:List av}{en:Bool}{i:Nat}(h:(!en&&decide ((i:Int)=(L.length:Int) -1))=true):mP L en i=false:=by
 simp only[bM,bE,bh]at h;unfold mP;rw[h.1,cy ae];rfl
def XD {L:List av}{en:Bool}{i:Nat}(h:(!en&&decide ((i:Int)=(L.length:Int) -1))=false)(hi:i<L.length:=by omega):mP L en i=true:=by
 simp only[ef,cq,bC]at h;unfold mP;rcases h with h|h
 .rw[h];rfl
 .rw[bY ae,Bool.or_true]
def ad6 {q q':List dH×List bV}{t:av}(h:gf q t=some q')(hl:t.length<=8193):q'.1.length+q'.2.length=q.1.length+q.2.length+1/\∀x∈q'.2,x∈q.2\/x.range.length<=8193:=by
 unfold gf at h;split at h
 .split at h
  .obtain rfl:=bQ h;exact⟨by simp only[bH,aM,aX];omega,fun x hx=>.inl hx⟩
  .cases h
 .split at h
  .obtain rfl:=bQ h;refine⟨by simp only[bH,aM,aX];omega,fun x hx=>?_⟩;rcases List.mem_append.1 hx with hx|hx
   .exact .inl hx
   .rw[cT.1 hx];exact .inr (c7 (A7 t 2) hl)
  .cases h
def aal {s t:av}(h:t∈(aJ s).1)(h2:¬8192<s.length):t.length<=1048576:=by
 obtain⟨i,hi,rfl⟩:=List.getElem_of_mem h;have:=JC hi h2;rw[getElem!_pos _ i hi]at this;omega
def ahZ:qY V2:=by
 refine⟨⟨⟨aG, ?_⟩,by simp[V2],by simp[V2],by simp[V2,y0]⟩,by simp[V2]⟩;unfold dz.sm;decide
def TZ (l:List Int)(i own:Int):qY (e8 l i own):=by
 refine⟨(zd l i own).sm,fun h hh=>?_⟩;rcases CO l i own with e|⟨a,j,e⟩
 .rw[e]at hh;cases hh
 .rw[e]at hh;rw[cT.1 hh];have:=(lv l j).2.1;dsimp only;omega
def Z5 (l:List Int)(i own:Int):nH ⟨(e8 l i own).r,[],[]⟩=(gh (e8 l i own).r,0)/\jr (e8 l i own).r=(gh (e8 l i own).r,0):=by
 have hc:cE (e8 l i own).r=(0,0):=(zd l i own).check;have hm:ey ⟨(e8 l i own).r,[],[]⟩=(0,0):=by
  unfold ey;rw[ar (by rw[hc];simp),ar aI,ar (by rw[show qE []=(0,0)from fT aG];simp)];exact fT (aH 0)
 constructor
 .unfold nH;rw[ar (by rw[hm];simp)];simp[iE]
 .unfold jr;rw[ar (by rw[hc];simp)]
end
def Ad (T:List D->D->Prop):Prop:=∀(s:av),T [.str s,.str [10]] (.bool (fR s).2)
def YC (Y:Ctx):Prop:=Ad (bU Y 563)
def n9 (T:List D->D->Prop):Prop:=∀(s:av),T [.str s,.str [10]] (.str (fR s).1)
def X9 (Y:Ctx):Prop:=n9 (bU Y 332)
def XR (Y:Ctx):Prop:=n9 (bU Y 125)
def zK (T:List D->D->Prop):Prop:=∀(s:av),(s.length<=1048576)->T [.str s] (.bool (Je s))
def X3 (Y:Ctx):Prop:=zK (bU Y 241)
def zJ (T:List D->D->Prop):Prop:=∀(l:List av),(∀t∈l,t.length<=1048576)->T [.sl 1 (l.map D.str),.fn 241 []] (.int .i64 (Sf l 0))
def X2 (Y:Ctx):Prop:=zJ (bU Y 240)
def pT (T:List D->D->Prop):Prop:=∀(m:fD),(qY m)->T [fD.D m] (.tup [.int .i64 (ey m).1,.int .i64 (ey m).2])
def K4 (Y:Ctx):Prop:=pT (bU Y 247)
section
section
variable {Y:Ctx} {draw:Bool} {r:List GI} {env rs:List cA} {nx:Nat} {m:List (Nat×cr)} {K:List cA->St->Prop} {g:Option (Nat×Bool)} {f:Bool}
def Mx {x y:Src}{fx fy:Bool}{es:List D}{s:List UInt8}(v:D)(h:aY Y draw r env (⟨f,v⟩::rs) nx m K)(hg:GF rs g f:=by first|exact rfl|exact⟨_,_,rfl,rfl⟩)(hx:dm env rs x=⟨fx,.fn 2000000 es⟩:=by exact rfl)(hy:dm env rs y=⟨fy,.str s⟩:=by exact rfl)(kx:f=true->fx=true:=by first|exact fun _=>rfl|exact fun h=>h|(intro h;simp_all))(ky:f=true->fy=true:=by first|exact fun _=>rfl|exact fun h=>h|(intro h;simp_all))(ho:mpOK es:=by exact trivial)(hv:f=true->G8 s es=v):aY Y draw (⟨.lkp x y,g⟩::r) env rs nx m K:=
 cF rfl hg _ (fun hf=>by simp[bd.ff,hx,hy,kx hf,ky hf,ho]) (fun hf=>by simp only[bd.val,hx,hy];rw[hv hf]) (fun _=>h)
def agG {x:Src}{fx:Bool}{n:Nat}{es:List D}(h:aY Y draw r env (⟨f,.bool false⟩::rs) nx m K)(hg:GF rs g f:=by first|exact rfl|exact⟨_,_,rfl,rfl⟩)(hx:dm env rs x=⟨fx,.fn n es⟩:=by exact rfl)(kx:f=true->fx=true:=by first|exact fun _=>rfl|exact fun h=>h|(intro h;simp_all))(hn:n<2000000:=by decide):aY Y draw (⟨.WA x,g⟩::r) env rs nx m K:=
 cF rfl hg _ (fun hf=>by simp only[bd.ff,hx];exact⟨kx hf,hn⟩) (fun hf=>by simp only[bd.val,hx]) (fun _=>h)
def r_isN {x:Src}{fx:Bool}(h:aY Y draw r env (⟨f,.bool true⟩::rs) nx m K)(hg:GF rs g f:=by first|exact rfl|exact⟨_,_,rfl,rfl⟩)(hx:dm env rs x=⟨fx,.nilf⟩:=by exact rfl)(kx:f=true->fx=true:=by first|exact fun _=>rfl|exact fun h=>h|(intro h;simp_all)):aY Y draw (⟨.WA x,g⟩::r) env rs nx m K:=
 cF rfl hg _ (fun hf=>by simp only[bd.ff,hx];exact⟨kx hf,trivial⟩) (fun hf=>by simp only[bd.val,hx]) (fun _=>h)
def abf {x:Src}{fx:Bool}{ag:Bool}{d:D}(h:aY Y draw r env (⟨f,d⟩::rs) nx m K)(hg:GF rs g f:=by first|exact rfl|exact⟨_,_,rfl,rfl⟩)(hx:dm env rs x=⟨fx,.fn 3000000 [d]⟩:=by exact rfl)(kx:f=true->fx=true:=by first|exact fun _=>rfl|exact fun h=>h|(intro h;simp_all))(hc:d.cells=[d]:=by exact rfl)(ha:d.isAgg=ag:=by exact rfl):aY Y draw (⟨.ldI 1 ag x,g⟩::r) env rs nx m K:=
 cF rfl hg _ (fun hf=>by simp only[bd.ff,hx];exact⟨kx hf,trivial,trivial,rfl,hc⟩) (fun hf=>by simp only[bd.val,hx,gL];exact Sk ha) (fun _=>h)
def SJ {x:Src}{fx:Bool}{ag:Bool}{d:D}(h:aY Y draw r env (⟨f,d⟩::rs) nx m K)(hg:GF rs g f:=by first|exact rfl|exact⟨_,_,rfl,rfl⟩)(hx:dm env rs x=⟨fx,.fn 3000000 [d]⟩:=by exact rfl)(kx:f=true->fx=true:=by first|exact fun _=>rfl|exact fun h=>h|(intro h;simp_all))(hc:d.cells=[d]:=by exact rfl)(ha:d.isAgg=ag:=by exact rfl):aY Y draw (⟨.ld 1 ag x,g⟩::r) env rs nx m K:=
 iR rfl hg _ (fun hf=>by simp only[bd.ff,hx,KP];exact⟨kx hf,trivial,trivial,rfl,hc⟩) (fun hf=>by simp only[bd.val,hx,G6,gL];exact Sk ha) m rfl (fun _=>h)
end
end
def IW (Y:Ctx):Prop:=∀(r:Rec) (ps:List dH) (hs:List bV) (a b:av),(ps.length<=100000/\b.length<=1048576)->∀(nx:Nat) (m:List (Nat×cr)) (K:D->St->Prop),Et m r ps hs->6<=nx->K (.bool (decide (hs.length=0)&& !b.contains 32)) ⟨nx+2,xY m nx r (ps++[⟨a,b⟩],hs)⟩->Y.tr 490 [.str a,.str b,.fn 3000000 [.ptr 2 11 0 0]] ⟨nx,m⟩ K
def IX (Y:Ctx):Prop:=∀(r:Rec) (ps:List dH) (hs:List bV) (a b:av),(hs.length<=100000/\b.length<=1048576)->∀(nx:Nat) (m:List (Nat×cr)) (K:D->St->Prop),Et m r ps hs->6<=nx->K (.bool (true)) ⟨nx+2,xY m nx r (ps,hs++[⟨a,b⟩])⟩->Y.tr 492 [.str a,.str b,.fn 3000000 [.ptr 2 11 0 0]] ⟨nx,m⟩ K
def vL (T:List D->D->Prop):Prop:=∀(s:av),(s.length<=1048576)->T [.str s] (.tup [fD.D (gD s).1,.int .i64 (gD s).2.1,.int .i64 (gD s).2.2])
def C82 (Y:Ctx):Prop:=vL (bU Y 82)
def rm (T:List D->D->Prop):Prop:=∀(m:fD),(qY m)->T [fD.D m] (.tup [.str (nH m).1,.int .i64 (nH m).2])
def NS (Y:Ctx):Prop:=rm (bU Y 238)
def GJ (T:List D->D->Prop):Prop:=T [] (.bool true)
def C81 (Y:Ctx):Prop:=GJ (bU Y 81)
def Dd (T:List D->D->Prop):Prop:=∀(l:List dH),T [.sl 2 (l.map dH.D)] (.tup [.int .i64 (qE l).1,.int .i64 (qE l).2])
def C344 (Y:Ctx):Prop:=Dd (bU Y 344)
def De (T:List D->D->Prop):Prop:=∀(l:List bV),(∀x∈l,x.range.length<=1048576)->T [.sl 2 (l.map bV.D)] (.tup [.int .i64 (nr l).1,.int .i64 (nr l).2])
def C345 (Y:Ctx):Prop:=De (bU Y 345)
def Vp (Y:Ctx):Prop:=pT (bU Y 136)
def C121 (Y:Ctx):Prop:=rm (bU Y 121)
def NL (T:List D->D->Prop):Prop:=∀(m:fD),T [fD.D m] (.bool (Wk m))
def agb (Y:Ctx):Prop:=NL (bU Y 1208)
def NI (T:List D->D->Prop):Prop:=∀(m:fD),(qY m)->T [fD.D m] (.bool true)
def aB {p:Prop}(h:p:=by((repeat intro _);exact G9 pg (.inl (by assumption)) fun T hT=>(by apply hT<;>assumption))):p:=h
def ax {t:List (Nat×rv)}{key u q:Nat}:((under t key u).at q).cP:=zA t key u q
def X5 (Y:Ctx):Prop:=∀(r:Rec) (ps:List dH) (hs:List bV) (t:av),(ps.length+hs.length<=100000/\t.length<=1048576)->∀(nx:Nat) (m:List (Nat×cr)) (K:D->St->Prop),Et m r ps hs->6<=nx->(gf (ps,hs) t=none->K (.bool false) ⟨nx,A9 m⟩)->(∀q,gf (ps,hs) t=some q->K (.bool true) ⟨nx+2,xY m nx r q⟩)->Y.tr 250 [.ptr 2 11 0 0,.str t] ⟨nx,m⟩ K
def Kz (T:List D->D->Prop):Prop:=∀(l:List av),(∀t∈l,t.length<=1048576)->T [.sl 1 (l.map D.str)] (.int .i64 (kM l:Nat))
def C248 (Y:Ctx):Prop:=Kz (bU Y 248)
def C83 (Y:Ctx):Prop:=vL (bU Y 83)
def Df (T:List D->D->Prop):Prop:=∀(a:bX) (b:bX),T [bX.D a,bX.D b] (.bool (decide (a=b)))
def C477 (Y:Ctx):Prop:=Df (bU Y 477)
def Db (T:List D->D->Prop):Prop:=∀(a:bo) (b:bo),T [bo.D a,bo.D b] (.bool (decide (a=b)))
def C225 (Y:Ctx):Prop:=Db (bU Y 225)
def KJ (T:List D->D->Prop):Prop:=∀(a:Rec) (b:Rec),T [Rec.D a,Rec.D b] (.bool (decide (a=b)))
def C78 (Y:Ctx):Prop:=KJ (bU Y 78)
def KK (T:List D->D->Prop):Prop:=∀(a:fD) (b:fD),T [fD.D a,fD.D b] (.bool (decide (a=b)))
def C84 (Y:Ctx):Prop:=KK (bU Y 84)
def ace (T:List D->D->Prop):Prop:=∀(s:av),T [.str s] (.bool true)
def KC (T:List D->D->Prop):Prop:=∀(v:Int) (n:Int),(0<n/\n<=9223372036854775807)->T [.int .i64 v,.int .i64 n] (.int .i64 (v%n))
def NW (Y:Ctx):Prop:=KC (bU Y 478)
def KD (T:List D->D->Prop):Prop:=∀(l:List Int) (i:Int),T [.sl 1 (l.map (D.int .i64)),.int .i64 i] (.int .i64 (lY l i))
def Yy (Y:Ctx):Prop:=KD (bU Y 479)
def Ku (T:List D->D->Prop):Prop:=∀(l:List Int) (i:Int) (n:Int),(0<n/\n<=9223372036854775807)->T [.sl 1 (l.map (D.int .i64)),.int .i64 i,.int .i64 n] (.int .i64 (eA l i n))
def IM (Y:Ctx):Prop:=Ku (bU Y 228)
def Kt (T:List D->D->Prop):Prop:=∀(n:Int),T [.int .i64 n] (.str (dp n))
def XZ (Y:Ctx):Prop:=Kt (bU Y 227)
def KF (T:List D->D->Prop):Prop:=∀(n:Int),T [.int .i64 n] (.str (oQ n))
def C481 (Y:Ctx):Prop:=KF (bU Y 481)
def Kw (T:List D->D->Prop):Prop:=∀(l:List Int) (i:Int),(0<=i/\i<=4000000)->T [.sl 1 (l.map (D.int .i64)),.int .i64 i] (.str (lW l i))
def X0 (Y:Ctx):Prop:=Kw (bU Y 230)
def Kx (T:List D->D->Prop):Prop:=∀(l:List Int) (i:Int),(0<=i/\i<=4000000)->T [.sl 1 (l.map (D.int .i64)),.int .i64 i] (.str (oO l i))
def C231 (Y:Ctx):Prop:=Kx (bU Y 231)
def KE (T:List D->D->Prop):Prop:=∀(l:List Int) (i:Int) (own:Int) (alone:Bool),(0<=i/\i<=3000000)->(0<=own/\own<=1000000)->T [.sl 1 (l.map (D.int .i64)),.int .i64 i,.int .i64 own,.bool alone] (bX.D (oP l i own alone))
def C480 (Y:Ctx):Prop:=KE (bU Y 480)
def Kv (T:List D->D->Prop):Prop:=∀(l:List Int) (i:Int) (own:Int),(0<=i/\i<=2000000)->(0<=own/\own<=1000000)->T [.sl 1 (l.map (D.int .i64)),.int .i64 i,.int .i64 own] (bo.D (jc l i own))
def C229 (Y:Ctx):Prop:=Kv (bU Y 229)
def KG (T:List D->D->Prop):Prop:=∀(l:List av) (s:av),(l.length<=1000)->T [.sl 1 (l.map D.str),.str s] (.sl 1 ((iQ l s).map D.str))
def C483 (Y:Ctx):Prop:=KG (bU Y 483)
def Ky (T:List D->D->Prop):Prop:=∀(l:List Int) (i:Int) (r:Rec),(0<=i/\i<=2000000)->(∀j:Nat,j<r.needs.length->r.needs[j]!.option.length<=100/\(r.needs[j]!.any.length=1->r.needs[j]!.any[0]!.name.length<=100))->T [.sl 1 (l.map (D.int .i64)),.int .i64 i,Rec.D r] (.sl 2 ((lA l i r).map ct.D))
def C232 (Y:Ctx):Prop:=Ky (bU Y 232)
def TC (T:List D->D->Prop):Prop:=∀(l:List Int) (i:Int) (own:Int),(0<=i/\i<=1000000)->(0<=own/\own<=100000)->T [.sl 1 (l.map (D.int .i64)),.int .i64 i,.int .i64 own] (Rec.D (qt l i own))
def C79 (Y:Ctx):Prop:=TC (bU Y 79)
def GH (T:List D->D->Prop):Prop:=∀(l:List Int) (i:Int) (own:Int),(0<=i/\i<=100000)->(0<=own/\own<=100000)->T [.sl 1 (l.map (D.int .i64)),.int .i64 i,.int .i64 own] (fD.D (e8 l i own))
def TF (Y:Ctx):Prop:=GH (bU Y 1209)
def NK (T:List D->D->Prop):Prop:=∀(l:List Int),T [.sl 1 (l.map (D.int .i64))] (.bool true)
section
section
variable {Y:Ctx} {draw:Bool} {r:List GI} {env rs:List cA} {nx:Nat} {m:List (Nat×cr)} {K:List cA->St->Prop} {g:Option (Nat×Bool)} {f:Bool}
def r_mn {x y:Src}{fx fy:Bool}{k k2:IntKind}{a b:Int}(v:Int)(h:aY Y draw r env (⟨f,.int k v⟩::rs) nx m K)(hg:GF rs g f:=by first|exact rfl|exact⟨_,_,rfl,rfl⟩)(hx:dm env rs x=⟨fx,.int k a⟩:=by exact rfl)(hy:dm env rs y=⟨fy,.int k2 b⟩:=by exact rfl)(kx:f=true->fx=true:=by first|exact fun _=>rfl|exact fun h=>h|(intro h;simp_all))(ky:f=true->fy=true:=by first|exact fun _=>rfl|exact fun h=>h|(intro h;simp_all))(hv:f=true->(if b<a then b else a)=v):aY Y draw (⟨.mn x y,g⟩::r) env rs nx m K:=
 cF rfl hg _ (fun hf=>by simp[bd.ff,hx,hy,kx hf,ky hf]) (fun hf=>by simp only[bd.val,hx,hy];rw[hv hf]) (fun _=>h)
end
end
def NJ (T:List D->D->Prop):Prop:=∀(l:List Int) (a:Int) (c:Int) (b:av),T [.sl 1 (l.map (D.int .i64)),.int .i64 a,.int .i64 c,.str b] (.bool true)
end Go.Abs
