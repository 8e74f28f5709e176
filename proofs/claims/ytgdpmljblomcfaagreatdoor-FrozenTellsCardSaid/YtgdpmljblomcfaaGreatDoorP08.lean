/- A part of the proofs. -/
import Derived.Test.YtgdpmljblomcfaaGreatDoorP04
set_option linter.all false
set_option maxRecDepth 60000
set_option maxHeartbeats 2000000
noncomputable section
namespace Go.Abs
variable {Y:Ctx}(hm:(Y.at 0).bR)
def ET:aj:=bc 10
def w93 (hA:C25 Y)(hB:C29 Y)(hC:C112 Y):P9 (cu Y ET):=fun l pa pw pb hp0=>by
 show dp _ _ _ [⟨_,_⟩,⟨_,_⟩,⟨_,_⟩,⟨_,_⟩,_,_,_,_,_,_,_,_,_,_,_,_,_,_,_,_,_,_] _;obtain⟨k,hk⟩:∃k:Nat,k=(bY pa l.lines.length).toNat:=⟨_,rfl⟩
 have hsz:=hp0.1;refine aO ?_;refine jS ?_;refine bM _ ?_;refine cH ?_;refine bS _ ?_;refine zg ?_;refine fP hm (ι:=Nat) (fun i=>[.un,⟨true,.int .i64 pa⟩,⟨true,.int .i64 pw⟩,⟨true,.int .i64 pb⟩,⟨true,.ptr 1 4 0 0⟩,⟨true,.ptr 0 4 0 0⟩,⟨true,.int .i64 (i:Nat)⟩,.un,.un,⟨true,.ptr 5 4 0 0⟩,.un,.un,.un,.un,.un,.un,.un,.un,.un,.un,.un,.un]) (fun i=>[(0,.buf 4 [jT.D l]),(1,.buf 4 [.agg [.str [],.str [],.str [],.aJ]]),(5,.buf 4 [.agg [.str l.env.e0,.str l.env.e1,.str l.env.e2,.own 2 9 0 (List.range i).length]]),(2,.buf 9 ((List.range i).map (bq 3 l.lines[k]!.feats.length l.lines k))),(3,.buf 1 (if k<i then l.lines[k]!.feats.map D.str else []))]) 8 (fun i=>i<=l.lines.length) (fun i=>l.lines.length-i) 0 aG (aV.to [(0,0),(1,1),(5,5)] ah ah OR (by(refine bo.vI ah ah rfl ?_);(refine bo.vI ah ah rfl ?_);refine bo.ni 5 ah ah (by exact⟨_,_,rfl,⟨_,rfl,⟨_,_,rfl,⟨rfl,rfl⟩,⟨_,_,rfl,⟨rfl,rfl⟩,⟨_,_,rfl,⟨rfl,rfl⟩,⟨_,_,rfl,Or.inr ⟨_,_,_,rfl⟩,rfl⟩⟩⟩⟩⟩,rfl⟩) ?_;refine bo.mt ah ah ah ah ?_;refine bo.mt ah ah ah aG ?_;exact bo.nil)) ?_;intro i hi;refine zg ?_;intro u0;refine dE ?_ ?_<;>intro hc0
 .refine dx ?_;have hx:=hp0.2.1 _ (aq (show i<l.lines.length by omega));have hxf:=hx.2.2.2.1;refine wA ?_;by_cases hik:i=k
  .refine cx ?_;refine sE (n:=l.lines[i]!.feats.length) (he:=lT.sl) (hn:=aG) ?_;refine cH ?_;refine bS (dm.F l.lines[i]!.name l.lines[i]!.v l.lines[i]!.shelf l.lines[i]!.sum (.own 22 1 0 l.lines[i]!.feats.length)) (he:=cW) ?_;refine ko ?_;refine ba [dm.F l.lines[i]!.name l.lines[i]!.v l.lines[i]!.shelf l.lines[i]!.sum (.own 22 1 0 l.lines[i]!.feats.length)] ?_;refine rv ((List.range (i+1)).map (bq 22 l.lines[k]!.feats.length l.lines k)) (n:=(List.range (i+1)).length) (ha:=aG) (he:=lT.all (es:=[dm.F l.lines[i]!.name l.lines[i]!.v l.lines[i]!.shelf l.lines[i]!.sum (.own 22 1 0 l.lines[i]!.feats.length)]) rfl rfl) (hz:=by rw[cT,eU aG];exact(by rw[hik];exact bq_eq rfl)) (hn:=aG) (hb:=dN) ?_;refine zg ?_;exact⟨i+1,ae,ae,(aV.to [(0,0),(1,1),(5,5),(29,2),(22,3)] ah ah OR (by(refine bo.vI ah ah rfl ?_);(refine bo.vI ah ah rfl ?_);refine bo.Kr ah ah ah ?_;refine bo.eq 29 ah ah (ae7 rfl _) ?_;refine bo.nl 22 ah ah (by rw[ak ae,hik]) (by exact bH (fun _=>rfl) _) ?_;exact bo.nil))⟩
  .refine cx ?_;refine sE (n:=l.lines[i]!.feats.length) (he:=lT.sl) (hn:=aG) ?_;refine cH ?_;refine bS (dm.F l.lines[i]!.name l.lines[i]!.v l.lines[i]!.shelf l.lines[i]!.sum (.own 22 1 0 l.lines[i]!.feats.length)) (he:=cW) ?_;refine cH ?_;refine bh 22 ?_ (he:=aaa) (hm:=aaa);refine ez ?_;refine ba [dm.D l.lines[i]!] ?_;refine rv ((List.range (i+1)).map (bq 3 l.lines[k]!.feats.length l.lines k)) (n:=(List.range (i+1)).length) (ha:=aG) (he:=lT.all (es:=[dm.D l.lines[i]!]) rfl rfl) (hz:=by rw[cT,eU aG];exact bq_ne hik) (hn:=aG) (hb:=dN) ?_;refine zg ?_;exact⟨i+1,ae,ae,(aV.to [(0,0),(1,1),(5,5),(29,2),(3,3)] ah ah OR (by(refine bo.vI ah ah rfl ?_);(refine bo.vI ah ah rfl ?_);refine bo.Kr ah ah ah ?_;refine bo.eq 29 ah ah (ae7 rfl _) ?_;refine bo.nl 3 ah ah (by simp only[show(k<i+1)=(k<i)from propext ae]) (by split<;>first|rfl|exact bH (fun _=>rfl) _) ?_;exact bo.nil))⟩
 refine ez ?_;obtain rfl:i=l.lines.length:=ae;simp only[List.length_range];refine zg ?_;intro u1;refine aQ (fun hc1=>?_) (fun hc1=>?_)
 .try simp only[gF]at hc1
  refine cH ?_;have hnil:l.lines=[]:=lI ae;rw[show(List.range l.lines.length).map (bq 3 l.lines[k]!.feats.length l.lines k)=l.lines.map dm.D by simp[hnil]];refine bh 2 ?_ (he:=lq) (hm:=lq);refine cx ?_;refine bS _ ?_;refine zr ?_;rw[show iR l pa pw pb=l by simp[iR,hnil]];exact rfl
 simp only[cK]at hc1;have hnil:¬l.lines=[]:=fun h=>hc1 (by rw[h];rfl)
 have hpl:=du pa l.lines.length ae;have hkp:bY pa l.lines.length=(k:Int):=ae;have hkn:k<l.lines.length:=ae;have hpw:=du pw 8 ae;rw[ak hkn];refine Bp ?_;intro u2;refine sF k (hj:=fun _=>hkp) (hb:=fun _=>by first|omega|(simp;omega)) ?_;rw[b8];refine zc ?_ ?_<;>intro hc2
 .refine bh 3 ?_ (hm:=wv);refine cH ?_;have hpb:=du pb 7 ae;refine cH ?_;refine ba (nm7.map D.str) ?_;refine cx ?_;refine sF (bY pb 7).toNat (hj:=fun _=>ae) (hb:=fun _=>ae) ?_;rw[b8];refine oS (v:=.str nm7[(bY pb 7).toNat]!) (hi:=fun _=>by simp[nm7];omega) ?_;refine cx ?_;refine kg ((l.lines.set k {l.lines[k]! with name:=nm7[(bY pb 7).toNat]!}).map dm.D) (hi:=dN) (he:=yq hkn rfl) ?_;refine cx ?_;refine bh 2 ?_ (he:=lq) (hm:=lq);refine cx ?_;refine bS _ ?_;refine zr ?_;rw[show iR l pa pw pb=⟨l.env,l.lines.set k {l.lines[k]! with name:=nm7[(bY pb 7).toNat]!}⟩by simp[iR,hnil,<-hk,hc2]];exact rfl
 refine zc ?_ ?_<;>intro hc3
 .refine bh 3 ?_ (hm:=wv);refine cH ?_;have hpb:=du pb 4 ae;refine ez ?_;refine cz (bY pb 4).toNat (hj:=fun _=>ae) (hb:=fun _=>by simp[bU];omega) ?_;refine c8 (v:=bZ.D bU[(bY pb 4).toNat]!) (hi:=fun _=>by simp[bU];omega) ?_;refine cx ?_;refine kg ((l.lines.set k {l.lines[k]! with v:=bU[(bY pb 4).toNat]!}).map dm.D) (hi:=dN) (he:=yq hkn rfl) ?_;refine cx ?_;refine bh 2 ?_ (he:=lq) (hm:=lq);refine cx ?_;refine bS _ ?_;refine zr ?_;rw[show iR l pa pw pb=⟨l.env,l.lines.set k {l.lines[k]! with v:=bU[(bY pb 4).toNat]!}⟩by simp[iR,hnil,<-hk,hc2,hc3]];exact rfl
 refine zc ?_ ?_<;>intro hc4
 .refine bh 3 ?_ (hm:=wv);refine cH ?_;have hpb:=du pb 5 ae;refine cH ?_;refine ba (sh5.map D.str) ?_;refine cx ?_;refine sF (bY pb 5).toNat (hj:=fun _=>ae) (hb:=fun _=>ae) ?_;rw[b8];refine oS (v:=.str sh5[(bY pb 5).toNat]!) (hi:=fun _=>by simp[sh5];omega) ?_;refine cx ?_;refine kg ((l.lines.set k {l.lines[k]! with shelf:=sh5[(bY pb 5).toNat]!}).map dm.D) (hi:=dN) (he:=yq hkn rfl) ?_;refine cx ?_;refine bh 2 ?_ (he:=lq) (hm:=lq);refine cx ?_;refine bS _ ?_;refine zr ?_;rw[show iR l pa pw pb=⟨l.env,l.lines.set k {l.lines[k]! with shelf:=sh5[(bY pb 5).toNat]!}⟩by simp[iR,hnil,<-hk,hc2,hc3,hc4]];exact rfl
 refine zc ?_ ?_<;>intro hc5
 .refine bh 3 ?_ (hm:=wv);refine cH ?_;have hpb:=du pb 3 ae;refine qo ?_;refine pY (bY pb 3) (hb:=fun _=>yA) ?_;refine OS _ (hb:=fun _=>rfl) ?_;refine cx ?_;refine kg ((l.lines.set k {l.lines[k]! with sum:=IntKind.u64.wrap (l.lines[k]!.sum+bY pb 3)}).map dm.D) (hi:=dN) (he:=yq hkn rfl) ?_;refine cx ?_;refine bh 2 ?_ (he:=lq) (hm:=lq);refine cx ?_;refine bS _ ?_;refine zr ?_;rw[show iR l pa pw pb=⟨l.env,l.lines.set k {l.lines[k]! with sum:=IntKind.u64.wrap (l.lines[k]!.sum+bY pb 3)}⟩by simp[iR,hnil,<-hk,hc2,hc3,hc4,hc5]];exact rfl
 refine zc ?_ ?_<;>intro hc6
 .refine cH ?_;have hpb:=du pb 3 ae;refine ez ?_;refine oS (v:=.own 3 1 0 l.lines[k]!.feats.length) (hi:=fun _=>dN) (hv:=fun _=>agX hkn) ?_;refine ba (ft3.map D.str) ?_;refine cx ?_;refine sF (bY pb 3).toNat (hj:=fun _=>ae) (hb:=fun _=>ae) ?_;rw[b8];refine oS (v:=.str ft3[(bY pb 3).toNat]!) (hi:=fun _=>by simp[ft3];omega) ?_;refine ba [(.str _)] ?_;refine cJ (xs:=l.lines[k]!.feats) (hb:=by have:=(hp0.2.1 _ (aq hkn)).2.2.2.1;omega) ?_;refine cx ?_;refine kg ((List.range l.lines.length).map (bq 51 (l.lines[k]!.feats++[ft3[(bY pb 3).toNat]!]).length l.lines k)) (hi:=dN) (he:=bq_st hkn) ?_;refine cx ?_;refine bh 51 ?_ (hm:=by simp only[uR,iA,lg,xg,A1,cQ,Nat.reduceEqDiff,aZ,aU,fS,dJ,dj,fI,fR,b8,bj,aP,cT,bw,reduceCtorEq,bE,b7,Nat.reduceAdd,Nat.reduceLeDiff,WI hkn];exact rfl);refine bh 2 ?_ (he:=lq) (hm:=lq);refine cx ?_;refine bS _ ?_;refine zr ?_;rw[show iR l pa pw pb=⟨l.env,l.lines.set k {l.lines[k]! with feats:=l.lines[k]!.feats++[ft3[(bY pb 3).toNat]!]}⟩by simp[iR,hnil,<-hk,hc2,hc3,hc4,hc5,hc6]];exact rfl
 refine zc ?_ ?_<;>intro hc7
 .refine bh 3 ?_ (hm:=wv);refine cH ?_;have hpb:=du pb 3 ae;refine cH ?_;refine ba (bu3.map D.str) ?_;refine cx ?_;refine sF (bY pb 3).toNat (hj:=fun _=>ae) (hb:=fun _=>ae) ?_;rw[b8];refine oS (v:=.str bu3[(bY pb 3).toNat]!) (hi:=fun _=>by simp[bu3];omega) ?_;refine dx ?_;refine kg ((l.lines.set k {l.lines[k]! with v:={l.lines[k]!.v with build:=bu3[(bY pb 3).toNat]!}}).map dm.D) (hi:=dN) (he:=yq hkn rfl) ?_;refine cx ?_;refine bh 2 ?_ (he:=lq) (hm:=lq);refine cx ?_;refine bS _ ?_;refine zr ?_;rw[show iR l pa pw pb=⟨l.env,l.lines.set k {l.lines[k]! with v:={l.lines[k]!.v with build:=bu3[(bY pb 3).toNat]!}}⟩by simp[iR,hnil,<-hk,hc2,hc3,hc4,hc5,hc6,hc7]];exact rfl
 refine zc ?_ ?_<;>intro hc8
 .refine bh 3 ?_ (hm:=wv);refine ko ?_;refine xW (he:=lT.own rfl dN) (hn:=dN) (n:=k) ?_;rw[cT,<-List.map_take];refine ez ?_;refine Dp (k+1) (hi:=fun _=>ae) (hb:=fun _=>ae) ?_;refine rv ((l.lines.take k++l.lines.drop (k+1)).map dm.D) (n:=(l.lines.take k++l.lines.drop (k+1)).length) (ha:=dN) (he:=lT.own rfl dN) (hz:=cut_k _ _ _ _ dN) (hn:=dN) (hb:=dN) ?_;refine cH ?_;refine bS (.agg [.str l.env.e0,.str l.env.e1,.str l.env.e2,.own 54 9 0 (l.lines.take k++l.lines.drop (k+1)).length]) (he:=cW) ?_;refine cx ?_;refine bh 54 ?_ (he:=lq) (hm:=lq);refine cx ?_;refine bS _ ?_;refine zr ?_;rw[show iR l pa pw pb=⟨l.env,l.lines.take k++l.lines.drop (k+1)⟩by simp[iR,hnil,<-hk,hc2,hc3,hc4,hc5,hc6,hc7,hc8]];exact rfl
 refine zc ?_ ?_<;>intro hc9
 .refine bh 3 ?_ (hm:=wv);refine ez ?_;refine bS (.agg [.str (ff pb).e0,.str (ff pb).e1,.str (ff pb).e2,.own 2 9 0 l.lines.length]) (he:=cW) ?_;refine cx ?_;refine bh 2 ?_ (he:=lq) (hm:=lq);refine cx ?_;refine bS _ ?_;refine zr ?_;rw[show iR l pa pw pb=⟨ff pb,l.lines⟩by simp[iR,hnil,<-hk,hc2,hc3,hc4,hc5,hc6,hc7,hc8,hc9]];exact rfl
 exfalso;omega
def K8:aj:=bc 115
def w533:ue (cu Y K8):=fun s b hp0=>by
 refine zg ?_;intro u0;refine fP hm (ι:=(Nat×Nat×List av)) (fun p:Nat×Nat×List av=>[⟨true,.str s⟩,⟨true,.int .u8 b⟩,.un,⟨true,.int .i64 (p.1:Nat)⟩,⟨true,.int .i64 (s.length:Nat)⟩,.un,.un,.un,⟨true,.own 0 1 0 p.2.2.length⟩,⟨true,.int .i64 (p.2.1:Nat)⟩]) (fun p=>[(0,.buf 1 (p.2.2.map D.str))]) 6 (fun p=>p.1<=s.length/\p.2.1<=p.1/\p.2.2.length<=p.1/\bd s b=p.2.2++fh b (s.drop p.1) ((s.take p.1).drop p.2.1)) (fun p=>s.length-p.1) (0,0,[]) ⟨aG,aG,aG,rfl⟩ (aV.to [] ah ah aar (by repeat(first|exact bo.nil|refine bo.mt ah ah ah ah ?_))) ?_;rintro⟨i,fr,acc⟩ ⟨hi,hf,ha,hr⟩;dsimp only at hi hf ha hr⊢;refine zc ?_ ?_<;>intro hc0
 .refine zg ?_;refine wp_cond (fun hc1=>?_) (fun hc1=>?_)
  .try simp only[gF]at hc1
   refine jS ?_;refine ba [(.str _)] ?_;refine zg ?_;exact⟨(i+1,i+1,acc++[(s.take i).drop fr]),⟨mw,mw,dN,by rw[hr,F9 ae hc1];simp⟩,mw,(aV.to [(20,0)] ah ah OR (by refine bo.nl 20 ah ah ah dV ?_;exact bo.nil))⟩
  simp only[cK]at hc1;refine zg ?_;exact⟨(i+1,fr,acc),⟨mw,mw,mw,by rw[hr,Ga ae ae hc1]⟩,mw,(aV.to [(0,0)] ah ah OR J3)⟩
 refine qo ?_;refine ba [(.str _)] ?_;refine dx ?_;refine bh 12 ?_;refine zr ?_;have hs:bd s b=acc++[s.drop fr]:=by rw[hr,DX ae]
 rw[hs];exact rfl
def Bl:aj:=bc 161
def w659:um (cu Y Bl):=fun t=>by
 refine zg ?_;intro u0;refine zf hm (fun i=>[.e (.str t),.u 1,.i i,.i t.length,.u 3]) (fun i=>[]) 4 (fun i=>i<=t.length/\bO (fun i=>bK (at8 t i)) 0 t.length=bO (fun i=>bK (at8 t i)) i t.length) (fun i=>t.length-i) ⟨ae,rfl⟩ [] ?_;rintro i ⟨hi,hr⟩;refine zc ?_ ?_<;>intro hc0
 .refine zc ?_ ?_<;>intro hc1
  .refine zr ?_;simp only[cP];rw[hr,ay ae];rcases hc1 with h|h<;>simp[bK]<;>omega
  refine gh (i+1) [] ?_;rw[hr,ay ae];rw[show bK (at8 t i)=true by simp only[bK,aN,bn];omega];rfl
 refine zr ?_;simp only[cP];rw[hr,bB ae];cases t<;>simp
def Il:aj:=bc 110
def w440 {Y:Ctx}(hm:(Y.at 0).bR):tY (cu Y Il):=fun n=>by
 exact mr
def Im:aj:=bc 112
def w442 (hA:U6 Y):IZ (cu Y Im):=fun s hp0=>by
 refine zg ?_;intro u0 u1;refine zf hm (fun i=>[.u 2,.m 1 (bd s 46) D.str,.i i,.i ((bd s 46).length:Nat),.u 1,.m 1 (bd s 46) D.str,.u 7,.e (.bool (decide (((bd s 46).length:Int)<=4)))]) (fun i=>[]) 11 (fun i=>i<=(bd s 46).length/\sP s false=(decide ((bd s 46).length<=4)&&bO (fun i=>ji false (bd s 46)[i]!) i (bd s 46).length)) (fun i=>(bd s 46).length-i) ⟨ae,rfl⟩ [] ?_;rintro i ⟨hi,hr⟩;refine zc ?_ ?_<;>intro hc0
 .refine wA ?_;generalize ht:(bd s 46)[i]! =t;refine zc ?_ ?_<;>intro hc1
  .refine zr ?_;first
    |(rw[hr,bB ae,gQ];exact lJ.2 ae)
    |(have hb:wo t=false:=by
       first
       |(simp only[wo];rcases hc1 with h|h
         .subst h;simp
         .rw[bI (by omega:¬t.length<=8)];simp)
       |(have hz:mX (at8 t j)=false:=by
          rcases hcw with⟨_,h,_⟩|⟨_,h⟩<;>(simp only[mX,jM,bK,gC,eo,cK];omega)
         rw[hj,ay hnx,hz];rfl)
      rw[hr,ay ae,show ji false (bd s 46)[i]! =false from(by simp only[ji,ht,hb,Bool.false_and])];simp)
  refine zg ?_;have hT:wo t=bO (fun i=>mX (at8 t i)) 0 t.length:=by
   have:=List.length_pos_iff.2 hc1.1;simp only[wo];rw[bz ae,bz ae];rfl
  refine Z0 hm (fun j=>[.u 2,.m 1 (bd s 46) D.str,.i i,.i ((bd s 46).length:Nat),.u 1,.m 1 (bd s 46) D.str,.u 2,.e (.it 23),.u 4,.e (.bool (decide (((bd s 46).length:Int)<=4)))]) (fun j=>[(23,.iter t j)]) 24 (fun j=>j<=t.length/\wo t=bO (fun i=>mX (at8 t i)) j t.length) (fun j=>t.length-j) ⟨ae,hT⟩ [(23,23)] ?_;rintro j ⟨hj0,hj⟩;refine zg ?_;by_cases hnx:j<t.length
  .obtain⟨c,w,hdec,hw,hcw⟩:=wW t j hnx;refine HF c w (hp:=hnx) (hc:=hdec) ?_;refine zg ?_;refine aQ (t:=true) (fun _=>?_) (fun h=>ca);refine fQ ?_;refine lH ?_ hm;refine aO ?_;refine kP (.int _ _) ?_;refine bF ?_;refine bp (env':=[_,_,_,_,_,_,_,_,_,_,_,_,⟨_,(.int _ _)⟩,_,_]) ?_;refine aO ?_;refine bF ?_;refine zi ?_;refine bF ?_;refine bF ?_;refine kQ ?_;refine Dn ?_;refine bF ?_;refine bF ?_;refine zi ?_;refine bF ?_;refine bF ?_;refine kQ ?_;refine Dn ?_;refine uU ?_;refine bF ?_;refine bF ?_;refine pg ?_;refine uU ?_;refine bp (env':=[_,_,_,_,_,_,_,_,_,_,_,_,_,⟨_,(.bool _)⟩,_]) ?_;refine Bw ?_ ?_<;>intro hc3
   .refine zg ?_;refine rrrb ?_;first
     |(rw[hr,bB ae,gQ];exact lJ.2 ae)
     |(have hb:wo t=false:=by
        first
        |(simp only[wo];rcases hc1 with h|h
          .subst h;simp
          .rw[bI (by omega:¬t.length<=8)];simp)
        |(have hz:mX (at8 t j)=false:=by
           rcases hcw with⟨_,h,_⟩|⟨_,h⟩<;>(simp only[mX,jM,bK,gC,eo,cK];omega)
          rw[hj,ay hnx,hz];rfl)
       rw[hr,ay ae,show ji false (bd s 46)[i]! =false from(by simp only[ji,ht,hb,Bool.false_and])];simp)
   refine dx ?_;obtain⟨rfl,hat,-⟩:w=1/\(c:Int)=at8 t j/\c<128:=by
    rcases hcw with h|h
    .exact h
    .omega
   have hz:mX (at8 t j)=true:=by
    simp only[mX,jM,bK,dI,aN,bn];omega
   refine gh (j+1) [(23,23)] ?_;rw[hj,ay hnx,hz];rfl
  .refine HE (hp:=hnx) ?_;refine zg ?_;refine aQ (t:=false) (fun h=>ca) (fun _=>?_);refine gh (i+1) [] ?_;rw[hr,ay ae];rw[show ji false (bd s 46)[i]! =true from(by simp only[ji,Bool.false_and,Bool.not_false,gQ];rw[ht,hj,bB ae])];rfl
 refine zr ?_;first
  |(rw[hr,bB ae,gQ];exact lJ.2 ae)
  |(have hb:wo t=false:=by
     first
     |(simp only[wo];rcases hc1 with h|h
       .subst h;simp
       .rw[bI (by omega:¬t.length<=8)];simp)
     |(have hz:mX (at8 t j)=false:=by
        rcases hcw with⟨_,h,_⟩|⟨_,h⟩<;>(simp only[mX,jM,bK,gC,eo,cK];omega)
       rw[hj,ay hnx,hz];rfl)
    rw[hr,ay ae,show ji false (bd s 46)[i]! =false from(by simp only[ji,ht,hb,Bool.false_and])];simp)
def HY:aj:=⟨4,19,[⟨4,none⟩,⟨5,none⟩,⟨6,none⟩],[[.sl 1 [.a]],[.a],[.a]],(sq (rg [gb 3 s1,gb 1 s2,gb 4 s3,gm (.c (.aJ)),gm rM,gm cse] [(8,0),(7,1),(10,2),(4,3),(5,4),(6,5)]) (sq (sq (r1 [gk 1 true s7,gx 169 [l0] [[.sl 3 [.a,.a,.sl 8 [.a,.a,.a,.a,.a,.a,.sl 1 [.sl 3 [.a,.a]],.sl 3 [.a,.a,.a]]]]],gno l1,gm l2,gmf 3 s0,uD 3 (.call 145 [l4] [[.sl 2 [.a,.sl 11 [.a,.a,.a,.a,.a,.a,.sl 3 [.sl 4 [.a],.a,.a],.sl 3 [.a,.a,.a],.sl 2 [.a,.sl 1 [.a]],.a,.a]]]]),uD 3 (.un .not l5),Q3 l3 l6,gm l7,uD 8 (.ld 3 true s8),uD 8 (.call 144 [l9] ha3),uD 8 (.un .not l10),Q3 l8 Xg] 9 12) (.cond s9 (sq (rg [gm (.c (.aJ)),gm Kq,gm cse] [(4,0),(5,1),(6,2)]) .ret) .skip)) (sq (sq (r1 [gk 4 true H5,gx 189 [l0] [[.a,.a,.a,.sl 9 [.a,.a,.a,.a,.a,.a,.a,.a,.sl 1 [.a]]]],gno l1,gm l2,gff 3 0 H5,uD 3 (.ld 3 true l4),uD 3 (.ld 3 true s8),uD 3 (.eqA true true [.s,.s,.s] l5 l6),Q3 l3 l7] 11 8) (.cond s11 (sq (rg [gm (.c (.aJ)),gm (i6 34),gm cse] [(4,0),(5,1),(6,2)]) .ret) .skip)) (sq (r1 [gf 0 s7,gd l0,gl l1,gn (.mks 1 (.int .i64 0) l2 l2),gm l3] 13 4) (sq (sq (r1 [gm Kq] 12 0) (.block 0 (.loop (sq (sq (r1 [gm R5,gm s13,gl l1,lz l0 l2] 14 3) (US s14 0)) (sq (.block 1 (rg [gm s13,gm R5,ga 1 l0 l1,gn (.st 1 l2 (.c (.int .i64 (-1))))] [])) (r1 [gm R5,mE l0 Kq,gm l1] 12 2)))))) (sq (sq (r1 [gm rM] 15 0) (.block 2 (.loop (sq (sq (r1 [gm s15,gf 3 H5,gd l1,gl l2,lz l0 l3] 16 4) (US s16 2)) (sq (.block 3 (sq (r2 [gm s0,gk 1 true s7,gm s13,gf 3 H5,gd l3,gm s15,ga 9 l4 l5,gk 9 true l6,gn (.callM 509 [l0,l1,l2,l7]),gm l8] 17 9) (sq (r1 [gm s17,qJ l0 rM] 18 1) (.cond s18 (sq (rt [gm s17,gf 3 H5,gd l1,gm s15,ga 9 l2 l3,gf 0 l4,gd l5,gm (.c (.aJ)),gm l0,gm l6] [(4,7),(5,8),(6,9)]) .ret) .skip)))) (r1 [gm s15,mE l0 Kq,gm l1] 15 2)))))) (sq (rg [gm s13,gm l0,gm rM,gm cse] [(4,1),(5,2),(6,3)]) .ret)))))))⟩
def w271 (hA:Nu Y)(hB:U4 Y)(hC:C169 Y)(hD:C189 Y)(hE:C509 Y):tO (cu Y HY):=fun shop e w l hp0=>by
 refine Bo ?_;refine aB (hc:=hC (w) zJ) ?_;refine dx ?_;refine bQ (hc:=fun hf=>hB (shop) zJ) ?_;refine zc ?_ ?_<;>intro hc0
 .refine zr ?_;rw[aeA hc0];rfl
 refine ez ?_;refine aB (hc:=hD (l) zJ) ?_;refine zc ?_ ?_<;>intro hc1
 .refine zr ?_;rw[aeB hc0 hc1];rfl
 refine cx ?_;have h48:=PV hc0.1.1;refine dx ?_;intro u0;refine YF w.us.length ?_;refine zg ?_;rw[c0T_1];refine zfx hm (1:Nat) (fun i=>[.m 2 shop bN.D,.u 6,.p 1 1,.p 2 3,.u 1,.p 3 4,.u 1,.i i,.o 0 1 w.us.length,.u 5]) (fun i=>[(0,.buf 1 ((rj w.us.length i).map (D.int .i64))),(1,.buf 1 [b6.D w]),(2,.buf 3 [Env.D e]),(3,.buf 4 [jT.D l])]) 34 (fun i=>1<=i) (fun i=>w.us.length-i) ae [(31,0),(1,1),(0,2),(2,3)] ?_;intro i hi;refine zg ?_;intro u1;refine dE ?_ ?_<;>intro hc2
 .refine jS ?_;refine kg ((rj w.us.length (i+1)).map (D.int .i64)) (hi:=by rw[bj,te];omega) (he:=by rw[<-abC ae ae];exact qV (by rw[te];omega) _) ?_;exact iq (i+1) [(0,0),(1,1),(2,2),(3,3)]
 refine dx ?_;rw[ag1 (show w.us.length<=i by omega)];refine zg ?_;refine zf hm (fun i=>[.m 2 shop bN.D,.u 6,.p 1 1,.p 2 3,.u 1,.p 3 4,.u 2,.o 0 1 w.us.length,.u 1,.i i,.u 3]) (fun i=>[(0,.buf 1 ((vN shop w.us l.lines (rj w.us.length w.us.length) i).map (D.int .i64))),(1,.buf 1 [b6.D w]),(2,.buf 3 [Env.D e]),(3,.buf 4 [jT.D l])]) 39 (fun i=>i<=l.lines.length/\(ja shop e w l)=yX shop w.us (l.lines.drop i) (vN shop w.us l.lines (rj w.us.length w.us.length) i)) (fun i=>l.lines.length-i) ⟨ae,aeC hc0 hc1⟩ [(0,0),(1,1),(2,2),(3,3)] ?_;rintro i ⟨hi,hr⟩;have hll:=CP (shop:=shop) (us:=w.us) (l:=l.lines) (c:=rj w.us.length w.us.length) i;rw[te]at hll;refine zg ?_;intro u2;refine dE ?_ ?_<;>intro hc3
 .refine dx ?_;have hlx:=hp0.2.2.2.1 _ (aq (show i<l.lines.length by omega));refine pA ?_;refine dC (nx':=44) (v:=.int .i64 (kN shop w.us l.lines[i]! (vN shop w.us l.lines (rj w.us.length w.us.length) i)).1) (m':=[(0,.buf 1 ((vN shop w.us l.lines (rj w.us.length w.us.length) (i+1)).map (D.int .i64))),(1,.buf 1 [b6.D w]),(2,.buf 3 [Env.D e]),(3,.buf 4 [jT.D l])]) (hc:=fun K' hK=>hE shop w l.lines[i]! (vN shop w.us l.lines (rj w.us.length w.us.length) i) ⟨⟨hp0.1,hp0.2.1,hlx.1⟩,hll⟩ _ 0 _ K' ep ah hK) (hn:=aT) ?_;refine zc ?_ ?_<;>intro hc4
  .refine zr ?_;rw[hr,BD ae,ak hc4];rfl
  refine gh (i+1) [(0,0),(1,1),(2,2),(3,3)] ?_;rw[hr,BD ae,ai (by rw[hc4];simp)];rfl
 refine cx ?_;rw[show D.own 0 1 0 w.us.length=D.own 0 1 0 (vN shop w.us l.lines (rj w.us.length w.us.length) i).length from by rw[hll]];refine bh 0 ?_;refine zr ?_;rw[hr,Lp ae];rfl
def sL:aj:=bc 51
def w362 {Y:Ctx}(hm:(Y.at 1).bR)(y:cD)(hA:C582 (Y.at 1))(hB:C583 (Y.at 1))(hp0:qp y/\kX y.e):dp (Y.at 1) sL.body (rI sL (WldQ y):Ex->List aX->St->Prop) (fq sL [cD.D y (.ptr 0 2 0 0)]) ⟨1,[(0,.buf 2 [.agg [.aJ,.aJ]])]⟩:=by
 show dp _ _ _ [⟨true,cD.D y (.ptr 0 2 0 0)⟩,.un,.un,.un,.un,.un,.un,.un,.un,.un,.un] ⟨1,[(0,.buf 2 [.agg [.aJ,.aJ]])]⟩;refine aO ?_;refine qo ?_;refine ig (aV.to [(1,3),(2,1),(4,2)] (nx':=8) rfl ah (env':=[.un,⟨true,.ptr 1 1 0 0⟩,⟨true,.bool false⟩,⟨true,.ptr 3 8 0 0⟩,.un,.un,.un,.un,.un,⟨true,.ptr 2 1 0 0⟩,.un]) (m':=[(0,.buf 2 [eF 5 6 ([]:List av).length]),(5,.buf 1 (([]:List av).map D.str)),(6,.buf 1 (dk y [])),(3,.buf 8 [cD.D y (.ptr 0 2 0 0)]),(1,.buf 1 [.agg [.aJ]]),(2,.buf 1 [.agg [.aJ]])]) eD (by refine bo.ni 0 ah ah (by exact⟨_,_,rfl,⟨_,rfl,⟨_,_,rfl,.inr ⟨_,_,_,rfl⟩,⟨_,_,rfl,.inr ⟨_,_,_,rfl⟩,rfl⟩⟩⟩,rfl⟩) ?_;refine bo.mt ah ah ah ah ?_;refine bo.mt ah ah ah ah ?_;refine bo.eq 1 ah ah ah ?_;refine bo.eq 2 ah ah ah ?_;refine bo.eq 4 ah ah ah ?_;exact bo.nil)) ?_;refine cx ?_;refine dC (nx':=10) (v:=.tup [.sl 2 ((iK y).map Key.D),.bool (okY y)]) (m':=[(9,.buf 1 ((sG y 49 oE []).map D.str)),(10,.buf 1 (dk y (sG y 49 oE []))),(0,.buf 2 [eF 9 10 (sG y 49 oE []).length]),(3,.buf 8 [cD.D y (.ptr 0 2 0 0)]),(1,.buf 1 [.agg [.aJ]]),(2,.buf 1 [.agg [.aJ]])]) (hc:=fun K' hK=>(FU y▸hA y [] hp0 aG) _ 0 5 6 _ K' ep ep ep aT ⟨rfl,rfl,rfl⟩ hK) (hn:=aT) ?_;refine qo ?_;have hal:=VA y;have hok0:okY y=XN y 0:=by unfold XN;rw[nD,gQ]
 rw[hok0];refine zg ?_;refine fP hm (ι:=Nat) (fun i=>[.un,⟨true,.ptr 1 1 0 0⟩,.un,⟨true,.ptr 3 8 0 0⟩,⟨true,.int .i64 (i:Nat)⟩,⟨true,.sl 2 (((iK y)).map Key.D)⟩,⟨true,.bool ((XN y i))⟩,.un,.un,⟨true,.ptr 2 1 0 0⟩,.un]) (fun i=>[(0,.buf 2 [eF 5 6 (XJ y i).length]),(5,.buf 1 ((XJ y i).map D.str)),(6,.buf 1 (dk y (XJ y i))),(3,.buf 8 [cD.D y (.ptr 0 2 0 0)]),(1,.buf 1 [.agg [.aJ]]),(2,.buf 1 [.agg [.own 7 3 0 (yt y i).length]]),(7,.buf 3 ((yt y i).map c9.D))]) 20 (fun i=>i<=(iK y).length) (fun i=>(iK y).length-i) 0 ae (aV.to [(1,1),(2,2),(3,3),(9,5),(10,6)] ah ah eD (by repeat(first|exact bo.nil|refine bo.vI ah ah dV ?_|refine bo.Kr ah ah ah ?_|refine bo.Nr ah ah ah ah ?_|refine bo.vI ah ah (by exact jg _ _) ?_|refine bo.nl 0 ah ah ah q9 ?_|refine bo.eq 0 ah ah ah ?_|refine bo.nl 9 ah ah ah q9 ?_|refine bo.eq 9 ah ah ah ?_|refine bo.nl 10 ah ah ah q9 ?_|refine bo.eq 10 ah ah ah ?_|refine bo.nl 3 ah ah ah q9 ?_|refine bo.eq 3 ah ah ah ?_|refine bo.nl 1 ah ah ah q9 ?_|refine bo.eq 1 ah ah ah ?_|refine bo.ni 2 ah ah (by exact⟨_,_,rfl,⟨_,rfl,⟨_,_,rfl,.inr ⟨_,_,_,rfl⟩,rfl⟩⟩,rfl⟩) ?_|refine bo.mt ah ah ah ah ?_))) ?_;intro i hi;have hnl:=ac2 y i;have hul:=M6 (y:=y) i;refine zg ?_;intro u0;refine dE ?_ ?_<;>intro hc0
 .refine wA ?_;refine dC (nx':=29) (v:=.tup [.sl 8 ((fE y (iK y) (iK y)[i]!).1.map ei.D),.bool (fE y (iK y) (iK y)[i]!).2]) (m':=[(33,.buf 1 ((jo (XJ y i) (iK y)[i]!).map D.str)),(34,.buf 1 (dk y (jo (XJ y i) (iK y)[i]!))),(0,.buf 2 [eF 33 34 (jo (XJ y i) (iK y)[i]!).length]),(3,.buf 8 [cD.D y (.ptr 0 2 0 0)]),(1,.buf 1 [.agg [.aJ]]),(2,.buf 1 [.agg [.own 7 3 0 (yt y i).length]]),(7,.buf 3 ((yt y i).map c9.D))]) (hc:=fun K' hK=>hB y (XJ y i) (iK y) (iK y)[i]! hp0 ae _ 0 5 6 _ K' ep ep ep aT ⟨rfl,rfl,rfl⟩ hK) (hn:=aT) ?_;refine fG ?_;refine uK ?_;refine bg (c9.D (sQ y (iK y) (iK y)[i]!)) ?_;refine ba [c9.D (sQ y (iK y) (iK y)[i]!)] ?_;refine cJ (q:=c9.D) (xs:=(yt y i)) (e:=(sQ y (iK y) (iK y)[i]!)) (hb:=ae) ?_;refine cH ?_;refine bS (.agg [.own 58 3 0 ((yt y i)++[(sQ y (iK y) (iK y)[i]!)]).length]) (he:=cW) ?_;refine zg ?_;rw[akJ hc0.2,okS_s hc0.2,nsS_s];exact iq (i+1) [(1,1),(2,2),(3,3),(33,5),(34,6),(58,7)]
 refine cx ?_;have hwe:=UN hi (by rcases hc0 with h|h;exact .inl h;exact .inr h);refine bh 7 ?_ (he:=Z6) (hm:=Z6);refine cH ?_;refine mc (d:=b6.D ⟨(yt y i)⟩) ?_;refine zg ?_;refine dD trivial Di (cU ah (?_)) ah (by first|(rw[WldQ,zA,hwe];done)|(rw[WldQ,zA,hwe];exact rfl));rfl
def qE:aj:=bc 20
def w266 {Y:Ctx}(hm:(Y.at 1).bR)(hA:GB (Y.at 1))(hB:C110 (Y.at 1))(hC:C111 (Y.at 1))(hD:C112 (Y.at 1))(hE:C503 (Y.at 1))(hF:C504 (Y.at 1))(g:Gs)(l:List bN)(hp0:0<=g.i/\g.i<=960000)(hp1:iP l/\1<=l.length/\l.length<=100):dp (Y.at 1) qE.body (GG qE 2 (.sl 2 ((lG g l).1.map bN.D)) (Gs.D (lG g l).2):Ex->List aX->St->Prop) (fq qE (.ptr 0 2 0 0::[.sl 2 (l.map bN.D)])) ⟨1,[(0,.buf 2 [(Gs.D g)])]⟩:=by
 show dp _ _ _ [⟨true,.ptr 0 2 0 0⟩,⟨true,.sl 2 (l.map bN.D)⟩,.un,.un,.un,.un,.un,.un,.un,.un,.un,.un,.un,.un] ⟨1,[(0,.buf 2 [(Gs.D g)])]⟩;refine aO ?_;refine dx ?_;obtain⟨hsh,hl1,hl2⟩:=hp1;have rk:=g.eI l.length ae;have r1:=g.aS.eI 4 ae;have r2:=g.aS.aS.eI 4 ae;have hk:g.val l.length=(((kG g l):Nat):Int):=by unfold kG;omega
 have hkl:(kG g l)<l.length:=by unfold kG;omega
 refine dx ?_;intro u0;refine dh (hc:=hA g l.length ae ae) ?_;refine ko ?_;refine dh (hc:=hA g.aS 4 ae iE) ?_;refine cz (g.aS.val 4).toNat (hj:=fun _=>ae) (hb:=fun _=>pz) ?_;refine Dk (v:=.str cF[(g.aS.val 4).toNat]!) (hi:=fun _=>pz) ?_;refine cx ?_;refine dh (hc:=hA g.aS.aS 4 ae iE) ?_;refine cz (g.aS.aS.val 4).toNat (hj:=fun _=>ae) (hb:=fun _=>by simp[bU];omega) ?_;refine c8 (v:=bZ.D bU[(g.aS.aS.val 4).toNat]!) (hi:=fun _=>by simp[bU];omega) ?_;refine cx ?_;refine bS (bZ.D (vrG g)) (he:=cW) ?_;refine cH ?_;refine bh 17 ?_ (he:=aac) (hm:=aac);refine cx ?_;refine sE (ys:=l.map bN.D) (n:=l.length) (he:=lT.sl) (hn:=aG) (hb:=ae) ?_;refine ko ?_;refine dh (hc:=hA g.aS.aS.aS 6 ae iE) ?_;refine zc ?_ ?_<;>intro hc0
 .refine jS ?_;refine Dk (v:=bN.D l[(kG g l)]!) (hi:=fun _=>ae) ?_;refine cH ?_;refine OW (v:=bZ.D (vrG g)) ?_;refine cH ?_;refine dh (hc:=hA g.aS.aS.aS.aS 3 ae iE) ?_;refine cH ?_;refine aB (hc:=hE l[(kG g l)]! (nmG g) (vrG g) (decide (0<g.aS.aS.aS.aS.val 3)) ⟨G0 hsh _,tA _⟩) ?_;refine ez ?_;refine bS (bN.D (UY g l).1) (he:=cW) ?_;refine zc ?_ ?_<;>intro hc1
  .refine ko ?_;refine kg ((l.set (kG g l) (UY g l).1).map bN.D) (hi:=j6) (he:=H9 ae rfl) ?_;refine cx ?_;rw[show D.own 21 2 0 l.length=D.own 21 2 0 (l.set (kG g l) (UY g l).1).length from by rw[List.length_set]];refine ez ?_;refine bh 21 ?_;refine zg ?_;refine iV trivial iF (cU ah (?_)) (by rw[Yj hc0 hc1];exact rfl) ah ah;rw[Yj hc0 hc1];rfl
  refine jS ?_;refine bh 21 ?_;refine zg ?_;refine iV trivial iF (cU ah (?_)) (by rw[Yk hc0 hc1];exact rfl) ah ah;rw[Yk hc0 hc1];rfl
 refine jS ?_;refine Dk (v:=bN.D l[(kG g l)]!) (hi:=fun _=>ae) ?_;refine dx ?_;refine dh (hc:=hB g.aS.aS.aS.aS (nmG g) (vrG g) 2 Kh aT) ?_;refine aB (hc:=hF l[(kG g l)]! (rcG g).1 ⟨G0 hsh _,YV _ (y5 _) (tA _)⟩) ?_;refine ez ?_;refine bS (bN.D (UW g l).1) (he:=cW) ?_;refine zc ?_ ?_<;>intro hc2
 .refine ko ?_;refine kg ((l.set (kG g l) (UW g l).1).map bN.D) (hi:=j6) (he:=H9 ae rfl) ?_;refine cH ?_;rw[show D.own 21 2 0 l.length=D.own 21 2 0 (l.set (kG g l) (UW g l).1).length from by rw[List.length_set]];refine ez ?_;refine bh 21 ?_;refine zg ?_;refine iV trivial iF (cU ah (?_)) (by rw[Yl hc0 hc2];exact rfl) ah ah;rw[Yl hc0 hc2];rfl
 refine ko ?_;refine bh 21 ?_;refine zg ?_;refine iV trivial iF (cU ah (?_)) (by rw[Ym hc0 hc2];exact rfl) ah ah;rw[Ym hc0 hc2];rfl
def Mi:aj:=bc 145
def w753 (hA:C672 Y)(hB:C904 Y)(hC:C905 Y)(hD:C906 Y)(hE:Va Y):JH (cu Y Mi):=fun r e ft hp0=>by
 refine cH ?_;have hof:=(xG hp0.1.1 ft).1;refine zc ?_ ?_<;>intro hc0
 .refine zr ?_;rw[show dc r e ft=qL r.needs e []from ak hc0];rfl
 refine jS ?_;refine bS _ ?_;refine ez ?_;refine bg (Key.D (⟨r.name,[]⟩)) ?_;refine cH ?_;refine bg (jv.D (⟨⟨r.name,[]⟩,er r.v⟩:jv)) ?_;refine ba [jv.D (⟨⟨r.name,[]⟩,er r.v⟩:jv)] ?_;refine ba [.own 15 4 0 1] ?_;refine dx ?_;refine bh 15 ?_ (he:=ll) (hm:=ll);refine zg ?_;intro u0;refine zf hm (fun i=>[.u 2,.e (.str ft),.u 2,.p 1 9,.p 2 3,.p 3 2,.i i,.i ((uT r.feats ft).length:Nat),.u 1,.m 1 (uT r.feats ft) D.str,.u 4,.o 0 1 ((y6 r e ft i)).length,.u 3]) (fun i=>[(0,.buf 1 (((y6 r e ft i)).map dR)),(1,.buf 9 [Rec.D r]),(2,.buf 3 [Env.D e]),(3,.buf 2 [cy.D (er r.v)])]) 24 (fun i=>i<=(uT r.feats ft).length) (fun i=>(uT r.feats ft).length-i) ae [(16,0),(0,1),(1,2),(8,3)] ?_;intro i hi;have hnl:=XD (ft:=ft) (e:=e) hp0.1.1 i;refine zc ?_ ?_<;>intro hc1
 .refine pA ?_;have hil:=(tp (e:=e) (s:=(uT r.feats ft)[i]!) hp0.1.1).1;refine cH ?_;refine aB (hc:=hA (((uT r.feats ft))[i]!) (by first|assumption|omega|exact⟨hp0.1.1,hp0.2⟩|exact ZM hp0.1.2|exact(xG hp0.1.1 ft).2 _ (aq ae))) ?_;refine zc ?_ ?_<;>intro hc2
  .refine ko ?_;refine bg (Key.D (⟨r.name,(bL (((uT r.feats ft))[i]!)).2.1⟩)) ?_;refine cH ?_;refine bg (jv.D (⟨⟨r.name,(bL (uT r.feats ft)[i]!).2.1⟩,er r.v⟩:jv)) ?_;refine ba [jv.D (⟨⟨r.name,(bL (uT r.feats ft)[i]!).2.1⟩,er r.v⟩:jv)] ?_;refine ba [.own 47 4 0 1] ?_;refine rv ((y6 r e ft i).map dR++[.own 47 4 0 1]) (n:=((y6 r e ft i)++[[(⟨⟨r.name,(bL (uT r.feats ft)[i]!).2.1⟩,er r.v⟩:jv)]]).length) (ha:=j6) (he:=lT.own rfl (by first|rfl|simp)) (hz:=yB) (hn:=Ew) (hb:=Ez) ?_;refine ez ?_;refine bh 47 ?_ (he:=ll) (hm:=ll);refine zg ?_;rw[pE,<-aiM hc2,OA ae];exact iq (i+1) [(49,0),(1,1),(2,2),(3,3)]
  refine zc ?_ ?_<;>intro hc3
  .refine jS ?_;refine pf (q:=dR) (xs:=(y6 r e ft i)) (ys:=qL r.needs e (bL (uT r.feats ft)[i]!).2.1) (he:=lT.sl) (hb:=by have:=(xM (e:=e) (o:=(bL (uT r.feats ft)[i]!).2.1) (gE hp0.1.1).2).1;have:=(gE hp0.1.1).1;omega) ?_;refine zg ?_;rw[<-aiN hc2 hc3,OA ae];exact iq (i+1) [(47,0),(1,1),(2,2),(3,3)]
  refine qo ?_;refine pf (q:=dR) (xs:=(y6 r e ft i)) (ys:=iT r.needs e (bL (uT r.feats ft)[i]!).2.1 (bL (uT r.feats ft)[i]!).2.2) (he:=lT.sl) (hb:=by have:=(zd (e:=e) (nm:=(bL (uT r.feats ft)[i]!).2.1) (ft:=(bL (uT r.feats ft)[i]!).2.2) (gE hp0.1.1).2).1;have:=(gE hp0.1.1).1;omega) ?_;refine zg ?_;rw[<-aiO hc2 hc3,OA ae];exact iq (i+1) [(48,0),(1,1),(2,2),(3,3)]
 refine cx ?_;obtain rfl:i=(uT r.feats ft).length:=ae;rw[aja hc0];refine bh 0 ?_ (he:=ll) (hm:=ll);exact mr
def Mk:aj:=bc 262
def w1080:Ep (cu Y Mk):=fun x hp0=>by
 refine zg ?_;refine qY hm (ι:=Unit) (fun _=>[.un,.un,⟨true,.ptr 1 4 0 0⟩,.un,⟨true,.own 0 2 0 (kU x).length⟩,.un,.un,.un]) (fun _=>[(0,.buf 2 ((kU x).map Key.D)),(1,.buf 4 [de.D x])]) 100 (fun _=>True) ?_ ?_
 .refine Bw ?_ ?_<;>intro hc0
  .refine ez ?_;refine bg (Key.D ⟨x.name,nM⟩) ?_;refine ba [Key.D ⟨x.name,nM⟩] ?_;refine sE (ys:=[Key.D ⟨x.name,nM⟩]) (n:=1) (he:=lT.all rfl rfl) (hn:=rfl) (hb:=ae) ?_;refine zg ?_;have hst:[(⟨x.name,nM⟩:Key)]=kU x:=(ZD hc0).symm;rw[<-hst];exact⟨(),trivial,(aV.to [(11,0),(0,1)] ah ah eD (by repeat(first|exact bo.nil|refine bo.vI ah ah dV ?_|refine bo.Kr ah ah ah ?_|refine bo.Nr ah ah ah ah ?_|refine bo.nl 11 ah ah ah dV ?_|refine bo.nl 0 ah ah ah dV ?_)))⟩
  refine zg ?_;rw[ZE hc0];exact⟨(),trivial,(aV.to [(0,1)] ah ah eD (by repeat(first|exact bo.nil|refine bo.vI ah ah dV ?_|refine bo.Kr ah ah ah ?_|refine bo.Nr ah ah ah ah ?_|refine bo.nl 0 ah ah ah dV ?_|refine bo.mt ah ah ah ah ?_)))⟩
 .rintro _-
  refine cx ?_;have hal:=PQ x;refine zg ?_;refine qY hm (ι:=Unit) (fun _=>[.un,.un,⟨true,.ptr 1 4 0 0⟩,.un,⟨true,.own 0 2 0 (oq x).length⟩,.un,.un,.un]) (fun _=>[(0,.buf 2 ((oq x).map Key.D)),(1,.buf 4 [de.D x])]) 100 (fun _=>True) ?_ ?_
  .refine Bw ?_ ?_<;>intro hc1
   .refine ez ?_;refine bg (Key.D ⟨x.name,[]⟩) ?_;refine ba [Key.D ⟨x.name,[]⟩] ?_;refine cJ (q:=Key.D) (xs:=kU x) (e:=⟨x.name,[]⟩) (hb:=ae) ?_;refine zg ?_;rw[ZG hc1];exact⟨(),trivial,(aV.to [(113,0),(1,1)] ah ah eD (by repeat(first|exact bo.nil|refine bo.vI ah ah dV ?_|refine bo.Kr ah ah ah ?_|refine bo.Nr ah ah ah ah ?_|refine bo.nl 113 ah ah ah dV ?_|refine bo.nl 1 ah ah ah dV ?_)))⟩
   refine zg ?_;rw[ZF hc1];exact⟨(),trivial,(aV.to [(0,0),(1,1)] ah ah eD Qb)⟩
  .rintro _-
   refine zg ?_;rw[ZH x];refine zf hm (fun i=>[.u 2,.p 1 4,.u 1,.o 0 2 (mI x i).length,.u 1,.i i,.u 1]) (fun i=>[(0,.buf 2 ((mI x i).map Key.D)),(1,.buf 4 [de.D x])]) 101 (fun i=>i<=x.feats.length) (fun i=>x.feats.length-i) ae [(0,0),(1,1)] ?_;intro i hi;have hul:=PS x i;refine zg ?_;intro u0;refine dE ?_ ?_<;>intro hc2
   .refine Bo ?_;refine bg (Key.D ⟨x.name,x.feats[i]!⟩) ?_;refine ba [Key.D ⟨x.name,x.feats[i]!⟩] ?_;refine cJ (q:=Key.D) (xs:=mI x i) (e:=⟨x.name,x.feats[i]!⟩) (hb:=ae) ?_;refine zg ?_;rw[ZJ ae];exact iq (i+1) [(116,0),(1,1)]
   refine cx ?_;obtain rfl:i=x.feats.length:=ae;rw[ZI];refine bh 0 ?_;exact mr
def Du:aj:=bc 144
def w752 {Y:Ctx}(hm:(Y.at 3).bR)(y:cD)(ns:List av)(k:Key)(hA:C755 (Y.at 3))(hB:C816 (Y.at 3))(hp0:pC y)(hp1:ns.length<=999):dp (Y.at 3) Du.body (rI Du (Ku y (eL ns k.n) (uG (eH y k))):Ex->List aX->St->Prop) (fq Du [cD.D y (.ptr 0 2 0 0),Key.D k]) ⟨3,[(0,.buf 2 [eF 1 2 ns.length]),(1,.buf 1 (ns.map D.str)),(2,.buf 1 (dk y ns))]⟩:=by
 show dp _ _ _ [⟨true,cD.D y (.ptr 0 2 0 0)⟩,⟨true,Key.D k⟩,.un,.un,.un,.un,.un,.un,.un,.un] ⟨3,[(0,.buf 2 [eF 1 2 ns.length]),(1,.buf 1 (ns.map D.str)),(2,.buf 1 (dk y ns))]⟩;refine aO ?_;refine Bo ?_;refine dC (nx':=9) (v:=uG (dK y k.n)) (m':=[(10,.buf 1 ((eL ns k.n).map D.str)),(11,.buf 1 (dk y (eL ns k.n))),(0,.buf 2 [eF 10 11 (eL ns k.n).length]),(3,.buf 8 [cD.D y (.ptr 0 2 0 0)]),(4,.buf 2 [Key.D k])]) (hc:=fun K' hK=>hA y ns k.n hp0 ae _ 0 1 2 _ K' ep ep ep aT ⟨rfl,rfl,rfl⟩ hK) (hn:=aT) ?_;refine cH ?_;refine bp (env':=[_,_,_,_,_,_,⟨_,(.sl _ _)⟩,_,_,_]) ?_;refine zg ?_;refine zf hm (fun i=>[.u 4,.p 4 2,.i i,.m 10 (dK y k.n) uA.D,.u 2,.o 7 10 (((dK y k.n).take i).filter (XM k.f)).length]) (fun i=>[(0,.buf 2 [eF 5 6 (eL ns k.n).length]),(5,.buf 1 ((eL ns k.n).map D.str)),(6,.buf 1 (dk y (eL ns k.n))),(4,.buf 2 [Key.D k]),(7,.buf 10 ((((dK y k.n).take i).filter (XM k.f)).map uA.D))]) 20 (fun i=>i<=(dK y k.n).length) (fun i=>(dK y k.n).length-i) ae [(10,5),(11,6),(4,4)] ?_;intro i hi;have hfl:=List.length_filter_le (XM k.f) ((dK y k.n).take i);have hl64:=(Rd hp0 k.n).1;rw[eg]at hfl;refine zg ?_;intro u0;refine dE ?_ ?_<;>intro hc0
 .refine zc ?_ ?_<;>intro hc1
  .refine jS ?_;refine ba [uA.D (dK y k.n)[i]!] ?_;refine cJ (q:=uA.D) (xs:=((dK y k.n).take i).filter (XM k.f)) (e:=(dK y k.n)[i]!) (hb:=ae) ?_;refine zg ?_;rw[ofT_y ae hc1];exact iq (i+1) [(4,4),(5,5),(6,6),(44,7)]
  refine zg ?_;rw[ofT_n ae hc1];exact iq (i+1) [(4,4),(5,5),(6,6),(7,7)]
 refine cx ?_;obtain rfl:i=(dK y k.n).length:=ae;rw[List.take_length];refine bh 7 ?_;refine zg ?_;refine dD trivial iF (cU ah (?_)) ah ⟨cW,5,6,⟨ae,ae,ae⟩,sZ⟩;rfl
def Um:aj:=bc 152
def w415 (hA:C381 Y)(hB:C627 Y):IV (cu Y Um):=fun w x hp0=>by
 refine zc ?_ ?_<;>intro hc0
 .refine zr ?_;unfold uF;rw[ak ae]
 refine ko ?_;obtain⟨j,hwj⟩:∃j:Nat,x.u=(j:Int):=⟨(x.u).toNat,ae⟩
 have hjl:j<w.us.length:=ae;have hju:=hp0.1 _ (aq hjl);have hj16:=hju.1;refine zg ?_;refine zf hm (fun i=>[.u 3,.p 0 3,.u 2,.i i,.m 8 (w.us[j]!.cands) ei.D,.u 2,.i ((qI w.us[j]!.cands x.s i))]) (fun i=>[(0,.buf 3 [Want.D x])]) 24 (fun i=>i<=w.us[j]!.cands.length) (fun i=>w.us[j]!.cands.length-i) ae [(1,0)] ?_;intro i hi;have hmr:=Oz w.us[j]!.cands x.s i;have hpb:=FN (k:=i+1) ae;have hpp:=pX (i+1);refine zg ?_;intro u0;refine dE ?_ ?_<;>intro hc1
 .refine uK ?_;refine aB (hc:=hB (x.s) ((w.us[j]!.cands)[i]!.v) (by first|assumption|omega|exact⟨hp0.2,(hju.2 _ (aq ae)).1⟩)) ?_;refine zg ?_;refine wp_cond (fun hc2=>?_) (fun hc2=>?_)
  .have hst:qI w.us[j]!.cands x.s (i+1)=qI w.us[j]!.cands x.s i+2^(i+1):=by rw[qI,ak hc2]
   refine ko ?_;refine lO (hb:=by simp only[show(((i:Nat):Int)+1).toNat=i+1 from rfl];omega) ?_;refine zg ?_;rw[show qI w.us[j]!.cands x.s i+2^(((i:Nat):Int)+1).toNat=qI w.us[j]!.cands x.s (i+1)from hst.symm];exact iq (i+1) [(0,0)]
  have hst:qI w.us[j]!.cands x.s (i+1)=qI w.us[j]!.cands x.s i:=by rw[qI,ai (by rw[hc2];exact Bool.false_ne_true)]
  refine zg ?_;rw[<-hst];exact iq (i+1) [(0,0)]
 refine zr ?_;unfold uF;rw[ai ae,show i=w.us[j]!.cands.length by omega,hwj];rfl
def HO:aj:=bc 132
def w461 {Y:Ctx}(hm:(Y.at 0).bR)(hA:C249 Y):I5 (cu Y HO):=fun w hp0=>by
 show dp _ _ _ [⟨_,_⟩,_,_,_,_,_,_] _;have q1:=Ed hp0;have q2:=hp0.1.1.1;have q3:=hp0.1.1.2.len;refine aO ?_;refine zg ?_;intro u0;refine dE ?_ ?_<;>intro hc0
 .refine dx ?_;refine aB (hc:=hA w.feats 44 ae) ?_;refine zc ?_ ?_<;>intro hc1
  .refine zr ?_;all_goals
    simp only[jR,cw,sU,cv,rK,rH,rE];first|rw[ak (show w.feats.length=0 by omega)]|rw[ai (show ¬w.feats.length=0 by omega)]
    simp[hc1]
  refine zr ?_;all_goals
   simp only[jR,cw,sU,cv,rK,rH,rE];first|rw[ak (show w.feats.length=0 by omega)]|rw[ai (show ¬w.feats.length=0 by omega)]
   simp[hc1]
 refine zc ?_ ?_<;>intro hc1
 .refine zr ?_;all_goals
   simp only[jR,cw,sU,cv,rK,rH,rE];first|rw[ak (show w.feats.length=0 by omega)]|rw[ai (show ¬w.feats.length=0 by omega)]
   simp[hc1]
 refine zr ?_;all_goals
  simp only[jR,cw,sU,cv,rK,rH,rE];first|rw[ak (show w.feats.length=0 by omega)]|rw[ai (show ¬w.feats.length=0 by omega)]
  simp[hc1]
def O3:aj:=bc 133
def w462 {Y:Ctx}(hm:(Y.at 0).bR):I6 (cu Y O3):=fun s hp0=>by
 refine zc ?_ ?_<;>intro hc0
 .refine zr ?_;rw[kn,ak hc0]
 refine zr ?_;rw[kn,ai hc0];simp[cw,cv,yw]
def HK:aj:=bc 164
def w72 {Y:Ctx}(hm:(Y.at 0).bR)(hA:C70 Y)(hB:C215 Y):zE (cu Y HK):=fun r hp0=>by
 refine zc ?_ ?_<;>intro hc0
 .refine zg ?_;refine fw (bX (aw D.str ?_) (aw (D.int .i64) ?_));all_goals
   simp[fg,hc0]
 refine cx ?_;have hgd:=lU hc0;refine zg ?_;refine fw (bX (aw D.str ?_) (aw (D.int .i64) ?_));all_goals
  simp[fg,hc0]
def OZ:aj:=bc 119
def w74 {Y:Ctx}(hm:(Y.at 0).bR)(hA:C72 Y)(hB:C220 Y):zF (cu Y OZ):=fun r hp0=>by
 refine zc ?_ ?_<;>intro hc0
 .refine zg ?_;refine fw (bX (aw (D.int .u64) ?_) (aw (D.int .i64) ?_));all_goals
   simp[wm,hc0]
 refine ez ?_;refine aB (hc:=hB (fg r).1) (ha:=fun _=>aw (fun d=>[d]) (tD (q:=fun b:UInt8=>D.int .u8 b.toNat) (fun _=>rfl) ah)) (hp:=fun _=>⟨qf (q:=fun b:UInt8=>D.int .u8 b.toNat) (fun _=>rfl) ah,trivial⟩) ?_;refine zg ?_;refine fw (bX (aw (D.int .u64) ?_) (aw (D.int .i64) ?_));all_goals
  simp[wm,hc0]
def Mv:aj:=bc 98
def w183 (hA:C415 Y):Iy (cu Y Mv):=fun w l hp0=>by
 refine zg ?_;refine zf hm (fun i=>[.u 1,.m 3 l Want.D,.u 1,.i i,.u 1,.o 0 2 (ew w.us (l.take i)).length,.p 1 1]) (fun i=>[(0,.buf 2 ((ew w.us (l.take i)).map dU.D)),(1,.buf 1 [b6.D w])]) 4 (fun i=>i<=l.length) (fun i=>l.length-i) ae [(0,1)] ?_;intro i hi;have hwl:=UL w.us l i;refine zg ?_;intro u0;refine dE ?_ ?_<;>intro hc0
 .refine fG ?_;refine cH ?_;refine bg (dU.D ⟨l[i]!.u,uF w.us l[i]!⟩) ?_;refine ba [dU.D ⟨l[i]!.u,uF w.us l[i]!⟩] ?_;refine cJ (q:=dU.D) (xs:=(ew w.us (l.take i))) (e:=⟨l[i]!.u,uF w.us l[i]!⟩) (hb:=ae) ?_;refine zg ?_;rw[UK ae];exact iq (i+1) [(22,0),(1,1)]
 refine cx ?_;obtain rfl:i=l.length:=ae;rw[List.take_length];refine bh 0 ?_;exact mr
def Xs:aj:=bc 7
def w29 {Y:Ctx}(hm:(Y.at 0).bR)(hA:C25 Y):P3 (cu Y Xs):=fun n=>by
 refine zg ?_;have hpl:=du n 3 ae;refine ba (Fm.map D.str) ?_;refine zg ?_;rw[b8];refine oS (v:=.str Fm[(bY n 3).toNat]!) (hi:=fun _=>by simp[Fm];omega) ?_;refine cH ?_;refine OV 0 ?_;refine ez ?_;refine bS _ ?_;exact mr
def Ph:aj:=bc 188
def w902 {Y:Ctx}(hm:(Y.at 0).bR):JS (cu Y Ph):=fun a b=>by
 refine zr ?_;unfold eX;simp
end Go.Abs
end
