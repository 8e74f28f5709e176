/- A part of the proofs. -/
import Derived.Test.YtdhangmdmdegpaaGreatDoorP09
set_option linter.all false
set_option maxRecDepth 60000
set_option maxHeartbeats 2000000
noncomputable section
namespace Go.Abs
variable {Y:Ctx}(hm:(Y.at 0).bU)
def D6:aj:=bd 229
def w812 (hA:WL Y)(hB:C815 Y):KZ (ct Y D6):=λl al=>by
 refine zg ?_;refine zf hm (λi=>[.m 1 l D.str,.e (.bool al),.u 1,.i i,.u 2]) (λi=>[]) 2 (λi=>i<=l.length/\nQ l al=(bK (λi=>gP l[i]!) i l.length&&((decide (l.length<=6)&&rising l)&&(al ||decide (l.length=0))))) (λi=>l.length-i) ⟨ae,(wf_2 l al).symm⟩ [] ?_;rintro i ⟨hi,hr⟩;refine zg ?_;intro u0;refine dF ?_ ?_<;>intro hc0
 .refine zg ?_;refine wp_cond (λhc1=>?_) (λhc1=>?_)
  .simp only[b8]at hc1;refine zr ?_;rw[hr,ax ae,hc1];rfl
  simp only[cF]at hc1;refine fX (i+1) [] ?_;rw[hr,ax ae,hc1];rfl
 refine zg ?_;intro u1;refine zr ?_;rw[hr,bp ae,eh,lv.2 (show((l.length:Nat):Int)<=6↔l.length<=6 by omega),lv.2 (show((l.length:Nat):Int)=0↔l.length=0 by omega)]
def Qv:aj:=bd 190
def w669 (hA:Hy Y)(hB:C572 Y)(hC:C812 Y):uA (ct Y Qv):=λr w al hp0=>by
 refine zc ?_ ?_<;>intro hc0
 .refine zr ?_;have hw:gO r w.name w.range=4:=by rw[gO,ak hc0]
  rw[lK,ak (by rw[hw];decide),hw]
 refine zc ?_ ?_<;>intro hc1
 .refine zr ?_;have hw:gO r w.name w.range=8:=by rw[gO,ah jT,ak hc1]
  rw[lK,ak (by rw[hw];decide),hw]
 refine dR ?_;refine aE (hc:=hB w.range hp0.1.2) ?_;refine zg ?_;refine wp_cond (λhc2=>?_) (λhc2=>?_)
 .try simp only[gR]at hc2
  refine zr ?_;have hw:gO r w.name w.range=6:=by rw[gO,ah jT,ah hc1,ak hc2]
  rw[lK,ak (by rw[hw];decide),hw]
 simp only[cF]at hc2;have hw0:gO r w.name w.range=0:=by rw[gO,ah jT,ah hc1,ah (by simp[hc2])]
 refine zc ?_ ?_<;>intro hc3
 .refine zr ?_;rw[lK,ah mq,ak hc3]
 refine zr ?_;rw[lK,ah mq,ah (by simp[hc3])]
def Qs:aj:=bd 142
def w457 (hA:WL Y)(hB:C669 Y)(hC:C670 Y):uk (ct Y Qs):=λr n hp0=>by
 refine zg ?_;intro u0;refine dF ?_ ?_<;>intro hc0
 .refine zr ?_;rw[jM,ak ae]
 refine zg ?_;intro u1;refine dF ?_ ?_<;>intro hc1
 .refine zr ?_;rw[jM,ah ae,ak ae]
 refine zg ?_;refine zf hm (λi=>[.u 3,.p 1 3,.u 2,.i i,.u 1,.p 0 9,.u 4]) (λi=>[(0,.buf 9 [Rec.D r]),(1,.buf 3 [bn.D n])]) 12 (λi=>i<=n.any.length/\nR r n.any=gh (λi=>lK r n.any[i]! (decide ((n.any.length:Int)=1))) i n.any.length) (λi=>n.any.length-i) ⟨ae,rfl⟩ [(0,0),(1,1)] ?_;rintro i ⟨hi,hr⟩;refine zg ?_;intro u2;refine dF ?_ ?_<;>intro hc2
 .refine F3 ?_;refine aE (hc:=hB r n.any[i]! _ (hp0.1 _ (aq ae))) ?_;refine zc ?_ ?_<;>intro hc3
  .refine zr ?_;have hw:nR r n.any=lK r n.any[i]! (decide ((n.any.length:Int)=1)):=by rw[hr,lO ae hc3]
   rw[jM,ah ae,ah ae,ak (by rw[hw];exact hc3),hw]
  refine fX (i+1) [(0,0),(1,1)] ?_;rw[hr,qf ae hc3]
 refine fA ?_;have hw0:nR r n.any=0:=by rw[hr,qe ae]
 refine c7 ?_;refine aE (hc:=hC n.when' hp0.2.1) ?_;refine zg ?_;refine aQ (λhc4=>?_) (λhc4=>?_)
 .try simp only[gR]at hc4
  refine zr ?_;rw[jM,ah ae,ah ae,ah mq,ak hc4]
 simp only[cF]at hc4;refine zg ?_;refine aQ (λhc5=>?_) (λhc5=>?_)
 .try simp only[gR]at hc5
  refine zr ?_;rw[jM,ah ae,ah ae,ah mq,ah (by simp[hc4]),ak hc5]
 simp only[eJ,cF,aT]at hc5;refine zr ?_;rw[jM,ah ae,ah ae,ah mq,ah (by simp[hc4]),ah (by rintro⟨g1,g2⟩;rcases hc5 with h|h;exact g1 h;rw[g2]at h;cases h)]
def VL:aj:=bd 143
def w458 (hA:Hy Y)(hB:C572 Y)(hC:C670 Y):Kf (ct Y VL):=λr b hp0=>by
 refine zc ?_ ?_<;>intro hc0
 .refine zr ?_;have hw:gO r b.name b.range=4:=by rw[gO,ak hc0]
  rw[sg,ak (by rw[hw];decide),hw]
 refine zc ?_ ?_<;>intro hc1
 .refine zr ?_;have hw:gO r b.name b.range=8:=by rw[gO,ah jT,ak hc1]
  rw[sg,ak (by rw[hw];decide),hw]
 refine dR ?_;refine aE (hc:=hB b.range hp0.2.1) ?_;refine zg ?_;refine wp_cond (λhc2=>?_) (λhc2=>?_)
 .try simp only[gR]at hc2
  refine zr ?_;have hw:gO r b.name b.range=6:=by rw[gO,ah jT,ah hc1,ak hc2]
  rw[sg,ak (by rw[hw];decide),hw]
 simp only[cF]at hc2;have hw0:gO r b.name b.range=0:=by rw[gO,ah jT,ah hc1,ah (by simp[hc2])]
 refine dR ?_;refine aE (hc:=hC b.when' hp0.2.2) ?_;refine zc ?_ ?_<;>intro hc3
 .refine zr ?_;rw[sg,ah mq,ak hc3]
 refine zr ?_;rw[sg,ah mq,ah (by simp[hc3])]
def IY:aj:=bd 193
def w673:KG (ct Y IY):=λr x=>by
 refine zg ?_;refine zf hm (λi=>[.u 1,.e (.str x),.u 1,.i i,.p 0 9,.u 2]) (λi=>[(0,.buf 9 [Rec.D r])]) 3 (λi=>i<=r.needs.length/\ZR r.needs x=(r.needs.drop i).any (λn=>decide (n.option=x))) (λi=>r.needs.length-i) ⟨ae,rfl⟩ [(0,0)] ?_;rintro i ⟨hi,hr⟩;refine zg ?_;intro u0;refine dF ?_ ?_<;>intro hc0
 .refine zc ?_ ?_<;>intro hc1
  .refine zr ?_;rw[hr,xg (c:=λn:bn=>decide (n.option=x)) ae (aY hc1)]
  refine fX (i+1) [(0,0)] ?_;rw[hr,CE (c:=λn:bn=>decide (n.option=x)) ae (bA hc1)]
 refine zr ?_;rw[hr,xf ae]
def IZ:aj:=bd 194
def w674:KH (ct Y IZ):=λr x=>by
 refine zg ?_;refine zf hm (λi=>[.u 1,.e (.str x),.u 1,.i i,.p 0 9,.u 2]) (λi=>[(0,.buf 9 [Rec.D r])]) 3 (λi=>i<=r.needs.length/\Nk r.needs x=(r.needs.drop i).any (λn=>decide (n.any.length=1)&&decide (n.any[0]!.name=x))) (λi=>r.needs.length-i) ⟨ae,rfl⟩ [(0,0)] ?_;rintro i ⟨hi,hr⟩;refine zg ?_;intro u0;refine dF ?_ ?_<;>intro hc0
 .refine zk18 ?_;intro u1;refine cD 0 (hb:=λh=>Lx) ?_;refine c9 ?_;refine dj (q:=cP.D) (xs:=r.needs[i]!.any) (i:=0) (hi:=λh=>Lx) (v:=(.str r.needs[i]!.any[0]!.name)) ?_;refine zg ?_;refine wp_cond (λhc1=>?_) (λhc1=>?_)
  .rw[lv.2 (show((r.needs[i]!.any.length:Nat):Int)=1↔r.needs[i]!.any.length=1 by omega)]at hc1;have hz:=hc1;refine zr ?_;rw[hr,xg ae hz]
  rw[lv.2 (show((r.needs[i]!.any.length:Nat):Int)=1↔r.needs[i]!.any.length=1 by omega)]at hc1;have hz:=hc1;refine fX (i+1) [(0,0)] ?_;rw[hr,CE ae hz]
 refine zr ?_;rw[hr,xf ae]
def NA:aj:=bd 145
def w460 (hA:C672 Y)(hB:C673 Y)(hC:C674 Y):Kg (ct Y NA):=λr of hp0=>by
 refine zg ?_;refine zf hm (λi=>[.u 1,.m 1 of D.str,.u 1,.i i,.u 2,.p 0 9,.u 3]) (λi=>[(0,.buf 9 [Rec.D r])]) 3 (λi=>i<=of.length/\mV r of=gh (λi=>oy r of[i]!) i of.length) (λi=>of.length-i) ⟨ae,rfl⟩ [(0,0)] ?_;rintro i ⟨hi,hr⟩;refine zg ?_;intro u0;refine dF ?_ ?_<;>intro hc0
 .refine zg ?_;refine aQ (λhc1=>?_) (λhc1=>?_)
  .try simp only[gR]at hc1
   refine zr ?_;have he:oy r of[i]! =14:=by rw[oy,ak hc1]
   rw[hr,lO ae (by rw[he];decide),he]
  have hn1:¬((bN of[i]!).1=2/\ZR r.needs (bN of[i]!).2.1=false):=by rintro⟨g1,g2⟩;rw[g1,g2]at hc1;cases hc1
  refine zg ?_;refine wp_cond (λhc2=>?_) (λhc2=>?_)
  .try simp only[gR]at hc2
   refine zr ?_;have he:oy r of[i]! =16:=by rw[oy,ah hn1,ak hc2]
   rw[hr,lO ae (by rw[he];decide),he]
  have hn2:¬((bN of[i]!).1=3/\Nk r.needs (bN of[i]!).2.1=false):=by rintro⟨g1,g2⟩;rw[g1,g2]at hc2;cases hc2
  refine fX (i+1) [(0,0)] ?_;rw[hr,qf ae (by rw[oy,ah hn1,ah hn2])]
 refine zr ?_;rw[hr,qe ae]
def lP:aj:=bd 46
def w502 (hm:(Y.at 2).bU)(shop:Β)(w:bP)(x:dI)(c:Δ)(kvs:Θ)(hA:C274 (Y.at 2))(hB:C689 (Y.at 2))(hp0:LinP shop w x c)(hp1:W4 w.us kvs):dD (Y.at 2) lP.body (uV lP (λd m=>d=.int .i64 (mY shop w.us x c).1/\look m 0=some (.buf 1 ((mY shop w.us x c).2.map (D.int .i64)))/\look m 1=some (.mpb kvs)):Ex->Φ->St->Prop) (fV lP [.agg [.sl 2 (shop.map bz.D),.sl 3 (w.us.map cN.D),.fn 5000000 [.it 1],.own 0 1 0 c.length],dI.D x]) ⟨2,[(0,.buf 1 (c.map (D.int .i64))),(1,.mpb kvs)]⟩:=by
 show dD _ _ _ [⟨true,.agg [.sl 2 (shop.map bz.D),.sl 3 (w.us.map cN.D),.fn 5000000 [.it 1],.own 0 1 0 c.length]⟩,⟨true,dI.D x⟩,.un,.un,.un,.un,.un,.un,.un,.un,.un,.un,.un,.un,.un,.un,.un,.un,.un,.un,.un,.un,.un,.un,.un,.un,.un,.un] ⟨2,[(0,.buf 1 (c.map (D.int .i64))),(1,.mpb kvs)]⟩;refine aS ?_;refine j7 ?_;have hcl:=hp0.2;refine c9 ?_;refine qv (v:=.fn 5000000 [.it 1]) ?_;refine c7 ?_;refine bc (Key.D (⟨x.name,[]⟩)) ?_;refine ag4 (.tup [.int .i64 (yP w.us x.name []).1,.bool (yP w.us x.name []).2]) (hb:=hp1.1) (hv:=hp1.2 _ _) ?_;refine zc ?_ ?_<;>intro hc0
 .refine zg ?_;refine eB trivial jJ (dp ai (?_)) ai ⟨by rw[To (ID (Jo hc0))],by rw[To (ID (Jo hc0))];exact rfl,dh⟩;rfl
 refine c7 ?_;obtain⟨j,hj,hj2,hj1,hjl⟩:=abE hc0;have hun:=hp0.1.2.1 _ (aq hjl);have h16:w.us[j]!.ar.length<=16:=hun.1;have hpl:=Z4 (us:=w.us) (v:=x.v) (t:=true) hj;rw[hj2];refine yZ ?_;refine bG 3 ?_ (he:=ab5) (hm:=ab5);refine c7 ?_;refine Tq [.ref 9 [dI.D x] 0 0] ?_;refine aE (hc:=hB w.us[j]!.ar true x ⟨λc hc=>(hun.2 c hc).1,hp0.1.2.2⟩) ?_;refine dR ?_;rw[<-hpl];refine zc ?_ ?_<;>intro hc1
 .refine zg ?_;refine eB trivial jJ (dp ai (?_)) ai ⟨by rw[To hc1],by rw[To hc1];exact rfl,dh⟩;rfl
 refine c9 ?_;obtain⟨k,hk,hkl⟩:=ag1 hj hc1;rw[hk];refine F1 ?_;refine rE hm (ι:=Unit) (λ_=>[.un,.un,.un,⟨true,.ptr 2 4 0 0⟩,⟨true,.ref 9 [dI.D x] 0 0⟩,.un,.un,⟨true,.int .i64 (j:Nat)⟩,.un,⟨true,.int .i64 (k:Nat)⟩,.un,.un,.un,.un,.un,.un,⟨true,.int .u64 (Rf shop w.us[j]!.ar[k]! x)⟩,.un,.un,.un,.un,.un,.un,.un,.un,.un,.un,.un]) (λ_=>[(0,.buf 1 (c.map (D.int .i64))),(1,.mpb kvs),(2,.buf 4 [.agg [.sl 2 (shop.map bz.D),.sl 3 (w.us.map cN.D),.fn 5000000 [.it 1],.own 0 1 0 c.length]])]) 60 (λ_=>Xc shop w.us[j]!.ar[k]! x) ?_ ?_
 .refine zc ?_ ?_<;>intro hc2
  .refine zg ?_;obtain⟨hsq,hsv⟩:=sum_a (shop:=shop) hc2;exact⟨(),hsq,(a8.to [(2,2)] ai ai acd aca)⟩
  refine iz ?_;refine cD w.us[j]!.ar[k]!.sh.toNat (hj:=λhf=>RE) (hb:=λhf=>RE) ?_;refine c9 ?_;refine dj (v:=.str shop[w.us[j]!.ar[k]!.sh.toNat]!.name) (hi:=λhf=>RE) ?_;refine zc ?_ ?_<;>intro hc3
  .refine zg ?_;refine eB trivial jJ (dp ai (?_)) ai ⟨by rw[GP hj hk (by rw[Rg hc2 hc3];decide),Rg hc2 hc3],by rw[GP hj hk (by rw[Rg hc2 hc3];decide)];exact rfl,dh⟩;rfl
  refine c9 ?_;have hs0:0<=w.us[j]!.ar[k]!.sh/\w.us[j]!.ar[k]!.sh<(shop.length:Int):=ae;have hss:=hp0.1.1 _ (aq (show w.us[j]!.ar[k]!.sh.toNat<shop.length by omega));have hlm:=tH (s:=shop[w.us[j]!.ar[k]!.sh.toNat]!) (nm:=x.name) (v:=x.v);refine yZ ?_;refine aE (hc:=hA shop[w.us[j]!.ar[k]!.sh.toNat]! x.name x.v ⟨hss,hp0.1.2.2⟩) ?_;refine zc ?_ ?_<;>intro hc4
  .refine zg ?_;refine eB trivial jJ (dp ai (?_)) ai ⟨by rw[GP hj hk (by rw[Rh hc3 hc4];decide),Rh hc3 hc4],by rw[GP hj hk (by rw[Rh hc3 hc4];decide)];exact rfl,dh⟩;rfl
  refine c7 ?_;have hfl:(iA shop[w.us[j]!.ar[k]!.sh.toNat]! x.name x.v).toNat<shop[w.us[j]!.ar[k]!.sh.toNat]!.es.length:=by rcases hlm with h|⟨q,h,h2⟩<;>omega
  refine zg ?_;obtain⟨hsq,hsv⟩:=sum_c hc3 hc4;exact⟨(),hsq,(a8.to [(2,2)] ai ai acd aca)⟩
 .intro _ hsp;refine zg ?_;refine aQ (λhc5=>?_) (λhc5=>?_)
  .simp only[b8,bR]at hc5;have hsh:ph shop w.us[j]!.ar[k]! x=13:=by rw[hsp,ah hc5]
   refine zg ?_;refine eB trivial jJ (dp ai (?_)) ai ⟨by rw[GP hj hk (by rw[hsh];decide),hsh],by rw[GP hj hk (by rw[hsh];decide)];exact rfl,dh⟩;rfl
  simp only[cF,aT]at hc5;have hsh:ph shop w.us[j]!.ar[k]! x=0:=by rw[hsp,ak hc5]
  have hpe:=put_c (c:=c) hj hk hsh;refine pW ?_;refine sU ((c.set j (k:Int)).map (D.int .i64)) (hi:=mb) (he:=Cq ae _) ?_;refine zg ?_;intro u0;refine gE hm (ι:=Nat) (λi=>[.un,.un,.un,⟨true,.ptr 2 4 0 0⟩,⟨true,.ref 9 [dI.D x] 0 0⟩,.un,.un,.un,.un,.un,.un,.un,.un,.un,.un,.un,.un,.un,⟨true,.int .i64 (i:Nat)⟩,⟨true,.int .i64 (x.feats.length:Nat)⟩,.un,⟨true,.sl 1 ((x.feats).map D.str)⟩,.un,.un,.un,.un,.un,.un]) (λi=>[(0,.buf 1 ((HW w.us x (c.set j (k:Int)) i).map (D.int .i64))),(1,.mpb kvs),(2,.buf 4 [.agg [.sl 2 (shop.map bz.D),.sl 3 (w.us.map cN.D),.fn 5000000 [.it 1],.own 0 1 0 c.length]])]) 74 (λi=>i<=x.feats.length/\(mY shop w.us x c)=wi w.us x (x.feats.drop i) (HW w.us x (c.set j (k:Int)) i)) (λi=>x.feats.length-i) 0 ⟨ae,hpe⟩ (a8.to [(2,2)] ai ai eQ Ag) ?_;rintro i ⟨hi,hr⟩;have hfl:=Mf (us:=w.us) (x:=x) (c:=c.set j (k:Int)) i;rw[List.length_set]at hfl;refine zc ?_ ?_<;>intro hc6
  .refine yZ ?_;refine qv (v:=.fn 5000000 [.it 1]) ?_;refine dR ?_;refine bc (Key.D (⟨x.name,(x.feats)[i]!⟩)) ?_;refine ag4 (.tup [.int .i64 (yP w.us x.name x.feats[i]!).1,.bool (yP w.us x.name x.feats[i]!).2]) (hb:=hp1.1) (hv:=hp1.2 _ _) ?_;refine zc ?_ ?_<;>intro hc7
   .refine zg ?_;refine eB trivial jJ (dp ai (?_)) ai ⟨by rw[hr,xJ ae,ak (ID (Jo hc7))],by rw[hr,xJ ae,ak (ID (Jo hc7))];exact rfl,dh⟩;rfl
   refine c9 ?_;obtain⟨p,hp,hp2,hp3,hpl2⟩:=abE hc7;have hun2:=hp0.1.2.1 _ (aq hpl2);have h162:w.us[p]!.ar.length<=16:=hun2.1;have hpp:=Z4 (us:=w.us) (v:=x.v) (t:=false) hp;rw[hp2];refine qH ?_;refine Tq [.ref 9 [dI.D x] 0 0] ?_;refine aE (hc:=hB w.us[p]!.ar false x ⟨λc hc=>(hun2.2 c hc).1,hp0.1.2.2⟩) ?_;refine dR ?_;rw[<-hpp];refine zc ?_ ?_<;>intro hc8
   .refine zg ?_;refine eB trivial jJ (dp ai (?_)) ai ⟨by rw[hr,xJ ae,ak hc8],by rw[hr,xJ ae,ak hc8];exact rfl,dh⟩;rfl
   refine c9 ?_;obtain⟨q,hq,hql⟩:=ag1 hp hc8;have hfs:(HW w.us x (c.set j (k:Int)) (i+1))=(HW w.us x (c.set j (k:Int)) i).set p (q:Int):=by rw[HW,hq,hp,Int.toNat_natCast]
   rw[hq];refine kv ?_;refine sU ((HW w.us x (c.set j (k:Int)) (i+1)).map (D.int .i64)) (hi:=mb) (he:=by rw[hfs];exact Cq ae _) ?_;refine zg ?_;exact⟨i+1,⟨ae,by rw[hr,xJ ae,ah ae];rfl⟩,ae,(a8.to [(2,2)] ai ai eQ Ag)⟩
  refine zg ?_;refine eB trivial jJ (dp ai (?_)) ai ⟨by rw[hr,Mg ae],by rw[hr,Mg ae];exact rfl,dh⟩;rfl
def HQ:aj:=bd 47
def w410 (hA:C273 Y)(hB:C623 Y)(hC:C624 Y):uy (ct Y HQ):=λw c hp0=>by
 refine qH ?_;refine aE (hc:=hA (w) (c) (by first|assumption|omega|exact hp0.1|exact hmn _ (aq ae)|exact hmb _ (aq ae))) ?_;refine zg ?_;refine aQ (λhc0=>?_) (λhc0=>?_)
 .try simp only[gR]at hc0
  refine zr ?_;rw[show iX w c=[]from ak hc0];rfl
 simp only[cF]at hc0;have hml:=DG hc0;have hwl:=E8 hp0.1 hc0;refine pW ?_;refine cD (0) (hj:=λhf=>cr) (hb:=λhf=>cr) ?_;refine zc ?_ ?_<;>intro hc1
 .exact absurd hc1 (by have:=hp0.2;omega)
 refine zg ?_;intro u0;refine zf hm (λu=>[.u 1,.m 1 c (D.int .i64),.u 1,.p 1 1,.u 2,.o 0 3 (gF w c u).length,.i u,.i c.length,.u 1,.m 1 c (D.int .i64),.u 18]) (λu=>[(0,.buf 3 ((gF w c u).map wZ.D)),(1,.buf 1 [bP.D w])]) 14 (λu=>u<=c.length) (λu=>c.length-u) ae [(0,1)] ?_;intro u hu;have hlu:=hwl u hu;refine zc ?_ ?_<;>intro hc2
 .refine zc ?_ ?_<;>intro hc3
  .refine zg ?_;rw[show gF w c u=gF w c (u+1)from(Rp hc3).symm];exact iw (u+1) [(0,0),(1,1)]
  refine c7 ?_;have hone:=SV (u:=u) hp0 hc0 ae ae;obtain⟨⟨hk,hkc⟩,⟨hl1,hl2⟩,hmn,hmb⟩:=Cj hone;have hul:u<w.us.length:=by have:=(me hone.2.1).1;omega
  refine qH ?_;refine dj (v:=eI.D (aW w c u)) (hi:=λ_=>ae) ?_;refine zg ?_;intro u1;rw[show gF w c u=(gF w c u++fT w c u (aW w c u).needs 0)from(gw _).symm];refine zf hm (λk=>[.u 1,.m 1 c (D.int .i64),.u 1,.p 1 1,.u 2,.o 0 3 (gF w c u++fT w c u (aW w c u).needs k).length,.i u,.i c.length,.u 1,.m 1 c (D.int .i64),.u 2,.i u,.p 2 8,.i k,.i ((aW w c u).needs.length:Nat),.u 1,.m 1 (aW w c u).needs jP,.u 10]) (λk=>[(0,.buf 3 ((gF w c u++fT w c u (aW w c u).needs k).map wZ.D)),(1,.buf 1 [bP.D w]),(2,.buf 8 [eI.D (aW w c u)])]) 37 (λk=>k<=(aW w c u).needs.length) (λk=>(aW w c u).needs.length-k) ae [(0,0),(1,1),(31,2)] ?_;intro k hk1;have hlk:=qo (w:=w) (c:=c) (u:=u) (l:=(aW w c u).needs) k;have hlt:(gF w c u++fT w c u (aW w c u).needs k).length<=2400:=by rw[cx];omega
  refine zc ?_ ?_<;>intro hc4
  .refine j7 ?_;refine dj (v:=.sl 3 ((((aW w c u).needs)[k]!).map Want.D)) (hi:=λhf=>cr) ?_;refine zg ?_;refine wp_cond (λhc5=>?_) (λhc5=>?_)
   .simp only[b8]at hc5;have hst:(gF w c u++fT w c u (aW w c u).needs k)++[⟨2,((u:Nat):Int),((k:Nat):Int)⟩]=(gF w c u++fT w c u (aW w c u).needs (k+1)):=by rw[P3 hc5,fL]
    refine fA ?_;refine bc (wZ.D ⟨2,((u:Nat):Int),((k:Nat):Int)⟩) ?_;refine bm [wZ.D ⟨2,((u:Nat):Int),((k:Nat):Int)⟩] ?_;refine cQ (q:=wZ.D) (xs:=(gF w c u++fT w c u (aW w c u).needs k)) (e:=⟨2,((u:Nat):Int),((k:Nat):Int)⟩) (hb:=ae) ?_;refine zg ?_;rw[hst];exact iw (k+1) [(53,0),(1,1),(2,2)]
   simp only[cF]at hc5;have hst:(gF w c u++fT w c u (aW w c u).needs k)=(gF w c u++fT w c u (aW w c u).needs (k+1)):=by rw[P4 hc5]
   refine zg ?_;rw[hst];exact iw (k+1) [(0,0),(1,1),(2,2)]
  refine c7 ?_;obtain rfl:k=(aW w c u).needs.length:=ae;refine zg ?_;intro u2;rw[show(gF w c u++fT w c u (aW w c u).needs (aW w c u).needs.length)=((gF w c u++fT w c u (aW w c u).needs (aW w c u).needs.length)++kg w c u (aW w c u).bars 0)from(gw _).symm];refine zfL hm (λq=>[.u 1,.m 1 c (D.int .i64),.u 1,.p 1 1,.u 2,.o 0 3 ((gF w c u++fT w c u (aW w c u).needs (aW w c u).needs.length)++kg w c u (aW w c u).bars q).length,.i u,.i c.length,.u 1,.m 1 c (D.int .i64),.u 2,.i u,.p 2 8,.u 7,.i q,.i ((aW w c u).bars.length:Nat),.u 1,.m 3 (aW w c u).bars Want.D,.u 3]) (λq=>[(0,.buf 3 (((gF w c u++fT w c u (aW w c u).needs (aW w c u).needs.length)++kg w c u (aW w c u).bars q).map wZ.D)),(1,.buf 1 [bP.D w]),(2,.buf 8 [eI.D (aW w c u)])]) 42 (λq=>q<=(aW w c u).bars.length) (λq=>(aW w c u).bars.length-q) ae [(0,0),(1,1),(2,2)] ?_;intro q hq;have hlq:=xh (w:=w) (c:=c) (u:=u) (b:=(aW w c u).bars) q;have hlk:=qo (w:=w) (c:=c) (u:=u) (l:=(aW w c u).needs) (aW w c u).needs.length;have hlt:((gF w c u++fT w c u (aW w c u).needs (aW w c u).needs.length)++kg w c u (aW w c u).bars q).length<=2400:=by rw[cx,cx];omega
  refine zc ?_ ?_<;>intro hc6
  .refine zg ?_;refine wp_cond (λhc7=>?_) (λhc7=>?_)
   .have hst:((gF w c u++fT w c u (aW w c u).needs (aW w c u).needs.length)++kg w c u (aW w c u).bars q)++[⟨3,((u:Nat):Int),((q:Nat):Int)⟩]=((gF w c u++fT w c u (aW w c u).needs (aW w c u).needs.length)++kg w c u (aW w c u).bars (q+1)):=by rw[Pc hc7,<-fL]
    refine fA ?_;refine bc (wZ.D ⟨3,((u:Nat):Int),((q:Nat):Int)⟩) ?_;refine bm [wZ.D ⟨3,((u:Nat):Int),((q:Nat):Int)⟩] ?_;refine cQ (q:=wZ.D) (xs:=((gF w c u++fT w c u (aW w c u).needs (aW w c u).needs.length)++kg w c u (aW w c u).bars q)) (e:=⟨3,((u:Nat):Int),((q:Nat):Int)⟩) (hb:=ae) ?_;refine zg ?_;rw[hst];exact iw (q+1) [(58,0),(1,1),(2,2)]
   have hst:((gF w c u++fT w c u (aW w c u).needs (aW w c u).needs.length)++kg w c u (aW w c u).bars q)=((gF w c u++fT w c u (aW w c u).needs (aW w c u).needs.length)++kg w c u (aW w c u).bars (q+1)):=by rw[Pb hc7]
   refine zg ?_;rw[hst];exact iw (q+1) [(0,0),(1,1),(2,2)]
  refine zg ?_;obtain rfl:q=(aW w c u).bars.length:=ae;rw[abN ae];exact iw (u+1) [(0,0),(1,1)]
 refine c7 ?_;obtain rfl:u=c.length:=ae;rw[show gF w c c.length=iX w c from(ah (by rw[hc0];simp)).symm];refine bG 0 ?_;exact lL
def xP:aj:=bd 3
def w1223 (hm:(Y.at 0).bU)(hA:C25 Y)(hB:C28 Y)(hC:C29 Y)(hD:C52 Y)(hE:C89 Y)(hF:C90 Y)(hG:C91 Y)(hH:C92 Y)(hI:C117 Y)(hJ:C147 Y)(hK:C264 Y)(hL:C265 Y)(hM:C360 Y)(hN:C594 Y)(hO:agl Y)(hP:agm Y)(hQ:agn Y):Fq (ct Y xP):=λys ss os n ms mst=>by
 refine zg ?_;intro u0;refine dF ?_ ?_<;>intro hc0
 .exact lL
 refine F3 ?_;obtain⟨sp,hsp⟩:∃q,(G3 ss 10)=q:=⟨_,rfl⟩
 obtain⟨en,hen⟩:∃q,(zh n)=q:=⟨_,rfl⟩
 obtain⟨yd,hyd⟩:∃q,qE ys=q:=⟨_,rfl⟩
 have hyG:nD (ve yd sp en):=by rw[<-hsp,<-hen,<-hyd];exact af2 ys ss 10 n
 have hei:kS en:=by rw[<-hen];exact ajZ n
 have hss:fq sp:=by rw[<-hsp];exact Om ss 10
 have hsg:Hz sp:=by rw[<-hsp];exact On ss 10
 have hs2:sp.length=2:=by rw[<-hsp];exact(IE _ _).2
 have hsn:W6 sp:=by rw[<-hsp];exact afM ss 10
 have heo:∀i,(en.at i).length<=16:=by rw[<-hen];exact ad7 n
 rw[hsp,hen,hyd];refine j7 ?_;refine aE (hc:=hG yd sp en os ⟨hyG.p,hei⟩) ?_;refine se ?_;obtain⟨sv,hsv⟩:∃q,(cM yd sp en os)=q:=⟨_,rfl⟩
 rw[hsv];refine zc ?_ ?_<;>intro hc1
 .exact lL
 refine c7 ?_;have hsd:(cM yd sp en os).2.2=true:=by rw[hsv];simpa using hc1
 obtain⟨⟨hw,hwl,hwn⟩,hc00⟩:=G5 hyG hsd;rw[hsv]at hw hwl hwn hc00;have hlk:=of_w (c:=sv.2.1) hsn hw hwl hwn heo;refine fA ?_;refine aE (hc:=hH sp en sv.1 sv.2.1 ⟨hss,hw,hc00⟩) ?_;refine pW ?_;obtain⟨lp,hlp⟩:∃q,(BE sp en sv.1 sv.2.1)=q:=⟨_,rfl⟩
 rw[hlp]at hlk⊢;have hl0:=hlk.sm aX;have hp9:=jG mst 9 aX;refine qH ?_;obtain⟨mo,hmo⟩:∃q,(Yu sp ms (jl mst 9).toNat)=q:=⟨_,rfl⟩
 have hmk:=PA ⟨ms,0⟩ hss hs2 (jl mst 9).toNat;have hmg:Hz mo:=by rw[<-hmo];exact Sz hsg _
 have hms:fq mo:=by rw[<-hmo];exact hmk.2
 have hm2:mo.length=2:=by rw[<-hmo];exact hmk.1.2
 rw[hmo];refine c7 ?_;refine aE (hc:=hM [yd] hyG.p.p.1.1) ?_;refine F1 ?_;refine oK ?_;refine dR ?_;refine cD 0 (hj:=λ_=>rfl) (hb:=λ_=>ae) ?_;refine c7 ?_;refine cD 0 (hj:=λ_=>rfl) (hb:=λ_=>ae) ?_;refine c9 ?_;refine ca (hc:=λ_=>hQ sp[0]! mo[0]! ⟨λx hx=>hss _ (aq ae) x hx,λx hx=>hms _ (aq ae) x hx⟩) ?_;refine fA ?_;refine cD 1 (hj:=λ_=>rfl) (hb:=λ_=>ae) ?_;refine c7 ?_;refine cD 1 (hj:=λ_=>rfl) (hb:=λ_=>ae) ?_;refine c9 ?_;refine ca (hc:=λ_=>hQ sp[1]! mo[1]! ⟨λx hx=>hss _ (aq ae) x hx,λx hx=>hms _ (aq ae) x hx⟩) ?_;refine pW ?_;refine ca (hc:=λ_=>hP sp mo (fm [yd]) lp.1 ⟨hss,hms⟩) ?_;refine c7 ?_;refine bg (env':=[_,_,_,_,_,_,_,_,_,_,_,_,_,_,_,_,_,_,_,_,⟨_,(.bool _)⟩,_,_,_,_,_,_,_,_]) ?_;refine zc ?_ ?_<;>intro hc2
 .refine fA ?_;refine bg (env':=[_,_,_,_,_,_,⟨_,(.bool _)⟩,_,_,_,_,_,_,_,_,_,_,_,_,_,_,_,_,_,_,_,_,_,_]) ?_;exact lL
 refine c7 ?_;have hY:=aeo hyG hmg hms hlk;refine j7 ?_;refine aE (hc:=hJ [yd] mo en (eU lp.1.lines) ⟨hY.p,hei⟩) ?_;refine kv ?_;refine bg (env':=[_,_,_,_,_,_,_,_,_,_,_,_,_,_,_,_,_,_,_,_,_,⟨_,(.int _ _)⟩,_,⟨_,_⟩,_,_,_,_,_]) ?_;refine c9 ?_;obtain⟨bx,hbx⟩:∃q,(dK [yd] mo en (eU lp.1.lines))=q:=⟨_,rfl⟩
 rw[hbx];refine dR ?_;refine bg (env':=[_,_,_,_,_,_,_,_,_,_,_,_,_,_,_,_,_,_,_,_,_,_,⟨_,(.bool _)⟩,_,_,_,_,_,_]) ?_;refine zc ?_ ?_<;>intro hc3
 .refine fA ?_;refine bg (env':=[_,_,_,_,_,_,⟨_,(.bool _)⟩,_,_,_,_,_,_,_,_,_,_,_,_,_,_,_,_,_,_,_,_,_,_]) ?_;exact lL
 refine c7 ?_;have hb0:(dK [yd] mo en (eU lp.1.lines)).2=0:=by rw[hbx];exact hc3
 obtain⟨d,⟨k1,k2⟩,⟨k3,k4⟩,k5,k6⟩:=U0 hyG hsd hmg hms (aep hs2 hm2 hc2.1.1.2 hc2.1.2) (l:=lp.1) (by rw[hsv,hlp];exact Prod.ext rfl hc2.1.1.1.1) hlk hc2.2 hb0;have hxs:=Yv hY hb0;rw[hbx]at k1 k2 k3 k4 k6 hxs;refine fA ?_;refine aE (hc:=hK mo en bx.1 lp.1 ⟨hms,hxs,hl0⟩) ?_;refine pW ?_;refine bg (env':=[_,_,_,_,_,_,_,_,_,_,_,_,_,_,_,_,_,_,_,_,_,_,_,_,⟨_,(.sl _ _)⟩,⟨_,(.int _ _)⟩,_,_,_]) ?_;rw[k1];refine j7 ?_;refine aE (hc:=hL mo en bx.1 lp.1 ⟨hms,hxs,hl0⟩) ?_;refine j7 ?_;refine bg (env':=[_,_,_,_,_,_,_,_,_,_,_,_,_,_,_,_,_,_,_,_,_,_,_,_,_,_,⟨_,(.int _ _)⟩,_,_]) ?_;refine j7 ?_;refine aE (hc:=hH mo en bx.1 d ⟨hms,hxs,k5⟩) ?_;refine kv ?_;refine bg (env':=[_,_,_,_,_,_,_,_,_,_,_,_,_,_,_,_,_,_,_,_,_,_,_,_,_,_,_,⟨_,(.bool _)⟩,⟨_,_⟩]) ?_;rw[k2,k6];refine se ?_;refine ca (hc:=λ_=>hD bx.1 d ⟨hxs,k5⟩) ?_;refine pW ?_;refine ca (hc:=λ_=>hI lp.1 lp.1) ?_;refine j7 ?_;refine bg (env':=[_,_,_,_,_,_,⟨_,(.bool _)⟩,_,_,_,_,_,_,_,_,_,_,_,_,_,_,_,_,_,_,_,_,_,_]) ?_;refine zr ?_;rw[k3,k4];simp
def QS:aj:=bd 268
def w882:K5 (ct Y QS):=λn hp0=>by
 refine j7 ?_;refine AU ((n%10:Nat):Int) (hn:=by intro _;omega) (hb:=λ_=>rfl) ?_;refine rU ((n%10:Nat):Int) (hb:=λ_=>IntWalk.u8_in _ ae) ?_;refine aaq (((dg (n%10)).toNat:Nat):Int) (hb:=λ_=>by rw[agD ae];exact IntWalk.u8_in _ ae) ?_;refine bm [.int .u8 _] ?_;refine aar [dg (n%10)] (he:=λ_=>n9.all ai rfl) (hs:=λ_=>rfl) ?_;refine zg ?_;have h0:og n=(if n<10 then []else og (n/10))++[dg (n%10)]:=by
  split
  .rename_i h;rw[B7 h,Nat.mod_eq_of_lt h];rfl
  .rw[B6 ae]
 refine zfx hm ((n,[dg (n%10)]):(Nat×aw)) (λp=>[.e (.int .u64 (p.1:Nat)),.u 2,.e (.str p.2)]) (λp=>[]) 8 (λp=>p.1<=9999/\p.2.length<=9999-p.1+1/\og n=(if p.1<10 then []else og (p.1/10))++p.2) (λp=>p.1) ⟨hp0,aJ,h0⟩ [] ?_;rintro⟨k,s⟩ ⟨hk,hs,hr⟩;dsimp only at hk hs hr⊢;refine zc ?_ ?_<;>intro hc0
 .refine fA ?_;refine r_quo ((k/10:Nat):Int) (hn:=by intro _;omega) (hb:=λ_=>by rw[show((k:Int).tdiv 10)=((k/10:Nat):Int)from rfl,IntKind.wrap_u64];omega) ?_;refine fA ?_;refine AU (((k/10)%10:Nat):Int) (hn:=by intro _;omega) (hb:=λ_=>rfl) ?_;refine rU (((k/10)%10:Nat):Int) (hb:=λ_=>IntWalk.u8_in _ ae) ?_;refine aaq (((dg ((k/10)%10)).toNat:Nat):Int) (hb:=λ_=>by rw[agD ae];exact IntWalk.u8_in _ ae) ?_;refine bm [.int .u8 _] ?_;refine aar [dg ((k/10)%10)] (he:=λ_=>n9.all ai rfl) (hs:=λ_=>rfl) ?_;refine zg ?_;have h1:og n=(if k/10<10 then []else og (k/10/10))++([dg (k/10%10)]++s):=by
   rw[hr,ah ae];split
   .rename_i h;rw[B7 h,Nat.mod_eq_of_lt h];rfl
   .rw[B6 ae,fL]
  exact⟨(k/10,[dg (k/10%10)]++s),⟨mQ,fM,h1⟩,mQ,(gtt [])⟩
 refine zr ?_;rw[hr,ak ae];rfl
def NU:aj:=bd 232
def w734 (hm:(Y.at 0).bU)(hA:C882 Y):pF (ct Y NU):=λn hp0=>by
 refine zc ?_ ?_<;>intro hc0
 .omega
 refine c7 ?_;obtain⟨k,rfl⟩:∃k:Nat,n=k:=⟨n.toNat,ae⟩
 refine c9 ?_;refine rU (k:Int) (hb:=λ_=>by rw[IntKind.wrap_u64];omega) ?_;exact lL
def QQ:aj:=bd 186
def w470:uF (ct Y QQ):=λs b hp0=>by
 refine zg ?_;refine gE hm (ι:=(Nat×Nat×Ψ)) (λp:Nat×Nat×Ψ=>[⟨true,.str s⟩,⟨true,.int .u8 b⟩,.un,⟨true,.int .i64 (p.1:Nat)⟩,.un,.un,⟨true,.own 0 1 0 p.2.2.length⟩,⟨true,.int .i64 (p.2.1:Nat)⟩]) (λp=>[(0,.buf 1 (p.2.2.map D.str))]) 4 (λp=>p.1<=s.length/\p.2.1<=p.1/\p.2.2.length<=p.1/\bh s b=p.2.2++fK b (s.drop p.1) ((s.take p.1).drop p.2.1)) (λp=>s.length-p.1) (0,0,[]) ⟨aJ,aJ,aJ,rfl⟩ (a8.to [] ai ai acn (by repeat(first|exact bB.nil|refine bB.mt ai ai ai ai ?_))) ?_;rintro⟨i,fr,acc⟩ ⟨hi,hf,ha,hr⟩;dsimp only at hi hf ha hr⊢;refine zg ?_;intro u0;refine dF ?_ ?_<;>intro hc0
 .refine zg ?_;refine wp_cond (λhc1=>?_) (λhc1=>?_)
  .try simp only[gR]at hc1
   refine kv ?_;refine bm [(.str _)] ?_;refine zg ?_;exact⟨(i+1,i+1,acc++[(s.take i).drop fr]),⟨mQ,mQ,fM,by rw[hr,G9 ae hc1];simp⟩,mQ,(a8.to [(19,0)] ai ai qqq6 (by refine bB.nl 19 ai ai ai eo ?_;exact bB.nil))⟩
  simp only[bR]at hc1;refine zg ?_;exact⟨(i+1,fr,acc),⟨mQ,mQ,mQ,by rw[hr,Ha ae ae hc1]⟩,mQ,(a8.to [(0,0)] ai ai qqq6 Lk)⟩
 refine pW ?_;refine bm [(.str _)] ?_;refine dR ?_;refine bG 13 ?_;refine zr ?_;have hs:bh s b=acc++[s.drop fr]:=by rw[hr,EG ae]
 rw[hs];exact rfl
def NO:aj:=bd 121
def w753 (hA:C672 Y)(hB:C904 Y)(hC:C905 Y)(hD:C906 Y)(hE:WR Y):KV (ct Y NO):=λr e ft hp0=>by
 refine c9 ?_;have hof:=(x8 hp0.1.1 ft).1;refine zc ?_ ?_<;>intro hc0
 .refine zr ?_;rw[show cL r e ft=rj r.needs e []from ak hc0];rfl
 refine kv ?_;refine cE _ ?_;refine fA ?_;refine bc (Key.D (⟨r.name,[]⟩)) ?_;refine c9 ?_;refine bc (jv.D (⟨⟨r.name,[]⟩,dS r.v⟩:jv)) ?_;refine bm [jv.D (⟨⟨r.name,[]⟩,dS r.v⟩:jv)] ?_;refine bm [.own 15 4 0 1] ?_;refine dR ?_;refine bG 15 ?_ (he:=lM) (hm:=lM);refine zg ?_;intro u0;refine zf hm (λi=>[.u 2,.e (.str ft),.u 2,.p 1 9,.p 2 3,.p 3 2,.i i,.i ((vy r.feats ft).length:Nat),.u 1,.m 1 (vy r.feats ft) D.str,.u 4,.o 0 1 ((zA r e ft i)).length,.u 3]) (λi=>[(0,.buf 1 (((zA r e ft i)).map ed)),(1,.buf 9 [Rec.D r]),(2,.buf 3 [Env.D e]),(3,.buf 2 [cy.D (dS r.v)])]) 24 (λi=>i<=(vy r.feats ft).length) (λi=>(vy r.feats ft).length-i) ae [(16,0),(0,1),(1,2),(8,3)] ?_;intro i hi;have hnl:=Zv (ft:=ft) (e:=e) hp0.1.1 i;refine zc ?_ ?_<;>intro hc1
 .refine qH ?_;have hil:=(tM (e:=e) (s:=(vy r.feats ft)[i]!) hp0.1.1).1;refine c9 ?_;refine aE (hc:=hA (((vy r.feats ft))[i]!) (by first|assumption|omega|exact⟨hp0.1.1,hp0.2⟩|exact abH hp0.1.2|exact(x8 hp0.1.1 ft).2 _ (aq ae))) ?_;refine zc ?_ ?_<;>intro hc2
  .refine j7 ?_;refine bc (Key.D (⟨r.name,(bN (((vy r.feats ft))[i]!)).2.1⟩)) ?_;refine c9 ?_;refine bc (jv.D (⟨⟨r.name,(bN (vy r.feats ft)[i]!).2.1⟩,dS r.v⟩:jv)) ?_;refine bm [jv.D (⟨⟨r.name,(bN (vy r.feats ft)[i]!).2.1⟩,dS r.v⟩:jv)] ?_;refine bm [.own 47 4 0 1] ?_;refine yk ((zA r e ft i).map ed++[.own 47 4 0 1]) (n:=((zA r e ft i)++[[(⟨⟨r.name,(bN (vy r.feats ft)[i]!).2.1⟩,dS r.v⟩:jv)]]).length) (ha:=mb) (he:=n9.own rfl (by first|rfl|simp)) (hz:=yU) (hn:=Fu) (hb:=Fw) ?_;refine fA ?_;refine bG 47 ?_ (he:=lM) (hm:=lM);refine zg ?_;rw[p9,<-akB hc2,P2 ae];exact iw (i+1) [(49,0),(1,1),(2,2),(3,3)]
  refine zc ?_ ?_<;>intro hc3
  .refine kv ?_;refine pO (q:=ed) (xs:=(zA r e ft i)) (ys:=rj r.needs e (bN (vy r.feats ft)[i]!).2.1) (he:=n9.sl) (hb:=by have:=(yc (e:=e) (o:=(bN (vy r.feats ft)[i]!).2.1) (gH hp0.1.1).2).1;have:=(gH hp0.1.1).1;omega) ?_;refine zg ?_;rw[<-akC hc2 hc3,P2 ae];exact iw (i+1) [(47,0),(1,1),(2,2),(3,3)]
  refine pW ?_;refine pO (q:=ed) (xs:=(zA r e ft i)) (ys:=ja r.needs e (bN (vy r.feats ft)[i]!).2.1 (bN (vy r.feats ft)[i]!).2.2) (he:=n9.sl) (hb:=by have:=(zJ (e:=e) (nm:=(bN (vy r.feats ft)[i]!).2.1) (ft:=(bN (vy r.feats ft)[i]!).2.2) (gH hp0.1.1).2).1;have:=(gH hp0.1.1).1;omega) ?_;refine zg ?_;rw[<-akD hc2 hc3,P2 ae];exact iw (i+1) [(48,0),(1,1),(2,2),(3,3)]
 refine c7 ?_;obtain rfl:i=(vy r.feats ft).length:=ae;rw[ak0 hc0];refine bG 0 ?_ (he:=lM) (hm:=lM);exact lL
def NQ:aj:=bd 247
def w1080:Fh (ct Y NQ):=λx hp0=>by
 refine zg ?_;refine rE hm (ι:=Unit) (λ_=>[.un,.un,⟨true,.ptr 1 4 0 0⟩,.un,⟨true,.own 0 2 0 (lu x).length⟩,.un,.un,.un]) (λ_=>[(0,.buf 2 ((lu x).map Key.D)),(1,.buf 4 [cP.D x])]) 100 (λ_=>True) ?_ ?_
 .refine B5 ?_ ?_<;>intro hc0
  .refine fA ?_;refine bc (Key.D ⟨x.name,lE⟩) ?_;refine bm [Key.D ⟨x.name,lE⟩] ?_;refine zL (ys:=[Key.D ⟨x.name,lE⟩]) (n:=1) (he:=n9.all rfl rfl) (hn:=rfl) (hb:=ae) ?_;refine zg ?_;have hst:[(⟨x.name,lE⟩:Key)]=lu x:=(abx hc0).symm;rw[<-hst];exact⟨(),trivial,(a8.to [(11,0),(0,1)] ai ai eQ (by repeat(first|exact bB.nil|refine bB.By ai ai eo ?_|refine bB.OW ai ai ai ?_|refine bB.OX ai ai ai ai ?_|refine bB.nl 11 ai ai ai eo ?_|refine bB.nl 0 ai ai ai eo ?_)))⟩
  refine zg ?_;rw[aby hc0];exact⟨(),trivial,(a8.to [(0,1)] ai ai eQ (by repeat(first|exact bB.nil|refine bB.By ai ai eo ?_|refine bB.OW ai ai ai ?_|refine bB.OX ai ai ai ai ?_|refine bB.nl 0 ai ai ai eo ?_|refine bB.mt ai ai ai ai ?_)))⟩
 .rintro _-
  refine c7 ?_;have hal:=Rj x;refine zg ?_;refine rE hm (ι:=Unit) (λ_=>[.un,.un,⟨true,.ptr 1 4 0 0⟩,.un,⟨true,.own 0 2 0 (oS x).length⟩,.un,.un,.un]) (λ_=>[(0,.buf 2 ((oS x).map Key.D)),(1,.buf 4 [cP.D x])]) 100 (λ_=>True) ?_ ?_
  .refine B5 ?_ ?_<;>intro hc1
   .refine fA ?_;refine bc (Key.D ⟨x.name,[]⟩) ?_;refine bm [Key.D ⟨x.name,[]⟩] ?_;refine cQ (q:=Key.D) (xs:=lu x) (e:=⟨x.name,[]⟩) (hb:=ae) ?_;refine zg ?_;rw[abA hc1];exact⟨(),trivial,(a8.to [(113,0),(1,1)] ai ai eQ (by repeat(first|exact bB.nil|refine bB.By ai ai eo ?_|refine bB.OW ai ai ai ?_|refine bB.OX ai ai ai ai ?_|refine bB.nl 113 ai ai ai eo ?_|refine bB.nl 1 ai ai ai eo ?_)))⟩
   refine zg ?_;rw[abz hc1];exact⟨(),trivial,(a8.to [(0,0),(1,1)] ai ai eQ RB)⟩
  .rintro _-
   refine zg ?_;rw[abB x];refine zf hm (λi=>[.u 2,.p 1 4,.u 1,.o 0 2 (m9 x i).length,.u 1,.i i,.u 1]) (λi=>[(0,.buf 2 ((m9 x i).map Key.D)),(1,.buf 4 [cP.D x])]) 101 (λi=>i<=x.feats.length) (λi=>x.feats.length-i) ae [(0,0),(1,1)] ?_;intro i hi;have hul:=Rl x i;refine zg ?_;intro u0;refine dF ?_ ?_<;>intro hc2
   .refine Jw ?_;refine bc (Key.D ⟨x.name,x.feats[i]!⟩) ?_;refine bm [Key.D ⟨x.name,x.feats[i]!⟩] ?_;refine cQ (q:=Key.D) (xs:=m9 x i) (e:=⟨x.name,x.feats[i]!⟩) (hb:=ae) ?_;refine zg ?_;rw[abD ae];exact iw (i+1) [(116,0),(1,1)]
   refine c7 ?_;obtain rfl:i=x.feats.length:=ae;rw[abC];refine bG 0 ?_;exact lL
def QL:aj:=bd 118
def w750 (hA:C903 Y):KU (ct Y QL):=λall l hp0=>by
 refine zg ?_;intro u0;refine zf hm (λi=>[.m 2 all Key.D,.u 2,.i i,.i l.length,.u 1,.m 1 l ed,.u 7,.o 0 1 (dr all (l.take i)).length]) (λi=>[(0,.buf 1 ((dr all (l.take i)).map jP))]) 5 (λi=>i<=l.length) (λi=>l.length-i) ae [] ?_;intro i hi;have htl:=Wl all l i;refine zc ?_ ?_<;>intro hc0
 .refine fA ?_;refine dj (v:=.sl 4 (((l)[i]!).map jv.D)) (hi:=λhf=>cr) ?_;refine dR ?_;have hrl:=hp0.2 _ (aq (show i<l.length by omega));refine zg ?_;intro u1;refine zf hm (λj=>[.m 2 all Key.D,.u 2,.i i,.i l.length,.u 1,.m 1 l ed,.u 1,.i j,.i (l[i]!.length:Nat),.u 1,.m 4 (l[i]!) jv.D,.o 1 3 (rZ all l[i]! j).length,.u 1,.o 0 1 (dr all (l.take i)).length]) (λj=>[(0,.buf 1 ((dr all (l.take i)).map jP)),(1,.buf 3 ((rZ all l[i]! j).map Want.D))]) 13 (λj=>j<=l[i]!.length) (λj=>l[i]!.length-j) ae [(0,0)] ?_;intro j hj;have htl2:=Wm all l[i]! j;refine zc ?_ ?_<;>intro hc1
  .refine kv ?_;refine cE _ ?_;refine yZ ?_;refine bc (Want.D ⟨cz all l[i]![j]!.k,l[i]![j]!.s⟩) ?_;refine bm [Want.D ⟨cz all l[i]![j]!.k,l[i]![j]!.s⟩] ?_;refine cQ (q:=Want.D) (xs:=rZ all l[i]! j) (e:=⟨cz all l[i]![j]!.k,l[i]![j]!.s⟩) (hb:=ae) ?_;refine zg ?_;rw[afW ae];exact iw (j+1) [(0,0),(27,1)]
  refine c7 ?_;obtain rfl:j=l[i]!.length:=ae;refine bG 1 ?_ (he:=Lp) (hm:=Lp);refine dR ?_;refine bm [jP (rZ all l[i]! l[i]!.length)] ?_;refine cQ (q:=jP) (xs:=dr all (l.take i)) (e:=rZ all l[i]! l[i]!.length) (hb:=ae) ?_;refine zg ?_;rw[afV ae];exact iw (i+1) [(17,0)]
 refine c7 ?_;obtain rfl:i=l.length:=ae;rw[List.take_length];refine bG 0 ?_ (he:=Lp) (hm:=Lp);exact lL
def Vl:aj:=bd 6
def w90 (hA:Hx Y)(hB:C266 Y):Ry (ct Y Vl):=λks most hp0=>by
 refine j7 ?_;refine bc (Gs.D (⟨ks,0⟩:Gs)) ?_;refine fA ?_;refine bW [.str Zj,.aO] ?_;refine bW [.str EF,.aO] ?_;refine bm [.agg [.str Zj,.aO],.agg [.str EF,.aO]] ?_;refine dR ?_;refine Bk [(3,.buf 2 [Gs.D (⟨ks,0⟩:Gs)]),(7,.buf 2 (Ol.map bz.D))] (.id ai (.bf ai (.cons (.ag (.cons (.refl _) (.cons (.nil 11) .nil))) (.cons (.ag (.cons (.refl _) (.cons (.nil 11) .nil))) .nil)) .nil)) ?_;refine bG 7 ?_ (he:=Lq) (hm:=Lq);refine c9 ?_;have rn:=((⟨ks,0⟩:Gs).TS (most+1)).1 ae;have hz:(⟨ks,0⟩:Gs).i=0:=rfl;refine dR ?_;refine dd (hc:=hA (⟨ks,0⟩:Gs) (most+1) ae ae) ?_;refine zg ?_;refine gE hm (ι:=Nat) (λi=>[.un,.un,.un,⟨true,.ptr 0 2 0 0⟩,⟨true,.int .i64 (((⟨ks,0⟩:Gs).val (most+1)) -((i:Nat):Int))⟩,.un,⟨true,.sl 2 (((pS (⟨ks,0⟩:Gs).aU i).1).map bz.D)⟩]) (λi=>[(0,.buf 2 [Gs.D (pS (⟨ks,0⟩:Gs).aU i).2])]) 14 (λi=>i<=((⟨ks,0⟩:Gs).val (most+1)).toNat) (λi=>((⟨ks,0⟩:Gs).val (most+1)).toNat-i) 0 ae (a8.to [(3,0)] ai ai Lr (by refine bB.nl 3 ai ai ai eo ?_;exact bB.nil)) ?_;intro i hi;have hps:=IE (⟨ks,0⟩:Gs).aU i;obtain⟨hq1,hq2⟩:=hps.1;rw[Gs.ZD]at hq1 hq2;refine zc ?_ ?_<;>intro hc0
 .refine j7 ?_;refine dd (hc:=hB (pS (⟨ks,0⟩:Gs).aU i).2 (pS (⟨ks,0⟩:Gs).aU i).1 ae ⟨ZY _ _,ae,ae⟩) ?_;refine zg ?_;exact⟨i+1,ae,ae,(a8.to [(0,0)] ai ai Lr Lk)⟩
 refine c7 ?_;obtain rfl:i=((⟨ks,0⟩:Gs).val (most+1)).toNat:=ae;exact lL
def Ee:aj:=bd 64
def w507:Kq (ct Y Ee):=λw c nm hp0=>by
 refine zg ?_;refine zfx hm (1:Nat) (λi=>[.u 1,.m 1 c (D.int .i64),.e (.str nm),.u 1,.i i,.p 1 1,.u 2,.o 0 1 (fI w.us c nm i).length]) (λi=>[(0,.buf 1 ((fI w.us c nm i).map D.str)),(1,.buf 1 [bP.D w])]) 4 (λi=>1<=i/\i<=w.us.length) (λi=>w.us.length-i) ⟨ae,ae⟩ [(0,1)] ?_;rintro i ⟨hi0,hi⟩;have hfl:=v8 (us:=w.us) (c:=c) nm i;refine zg ?_;intro u0;refine dF ?_ ?_<;>intro hc0
 .refine zc ?_ ?_<;>intro hc1
  .refine qH ?_;refine bm [.str w.us[i]!.feat] ?_;refine cQ (q:=D.str) (xs:=fI w.us c nm i) (e:=w.us[i]!.feat) (hb:=ae) ?_;refine zg ?_;rw[<-Yb (us:=w.us) (c:=c) (i:=i) ⟨ae,hc1⟩];refine fX (i+1) [(41,0),(1,1)] ?_;omega
  refine zg ?_;rw[<-Ya (us:=w.us) (c:=c) (i:=i) (nm:=nm) (by rintro⟨_,⟨h1,h2⟩,h3⟩;rcases hc1 with(h|h)|h;exact h h1;exact h2 h;exact h h3)];refine fX (i+1) [(0,0),(1,1)] ?_;omega
 refine c7 ?_;obtain rfl:i=w.us.length:=ae;refine bG 0 ?_;exact lL
def Nz:aj:=bd 111
def w73 (hm:(Y.at 0).bU)(hA:C71 Y)(hB:C219 Y):Ae (ct Y Nz):=λr hp0=>by
 refine zc ?_ ?_<;>intro hc0
 .refine zg ?_;refine fQ (bZ (ay D.str ?_) (ay (D.int .i64) ?_));all_goals
   simp[fJ,hc0]
 refine c7 ?_;have hgd:=mr hc0;refine zg ?_;refine fQ (bZ (ay D.str ?_) (ay (D.int .i64) ?_));all_goals
  simp[fJ,hc0]
def VK:aj:=bd 68
def w75 (hm:(Y.at 0).bU)(hA:C73 Y)(hB:C221 Y):Af (ct Y VK):=λr hp0=>by
 refine zc ?_ ?_<;>intro hc0
 .refine zg ?_;refine fQ (bZ (ay (D.int .u64) ?_) (ay (D.int .i64) ?_));all_goals
   simp[wQ,hc0]
 refine fA ?_;refine aE (hc:=hB (fJ r).1) (ha:=λ_=>ay (λd=>[d]) (ud (q:=λb:UInt8=>D.int .u8 b.toNat) (λ_=>rfl) ai)) (hp:=λ_=>⟨qD (q:=λb:UInt8=>D.int .u8 b.toNat) (λ_=>rfl) ai,trivial⟩) ?_;refine zg ?_;refine fQ (bZ (ay (D.int .u64) ?_) (ay (D.int .i64) ?_));all_goals
  simp[wQ,hc0]
def N1:aj:=bd 104
def w183 (hA:C415 Y):JE (ct Y N1):=λw l hp0=>by
 refine zg ?_;refine zf hm (λi=>[.u 1,.m 3 l Want.D,.u 1,.i i,.u 1,.o 0 2 (eN w.us (l.take i)).length,.p 1 1]) (λi=>[(0,.buf 2 ((eN w.us (l.take i)).map ek.D)),(1,.buf 1 [bP.D w])]) 4 (λi=>i<=l.length) (λi=>l.length-i) ae [(0,1)] ?_;intro i hi;have hwl:=Wp w.us l i;refine zg ?_;intro u0;refine dF ?_ ?_<;>intro hc0
 .refine iz ?_;refine c9 ?_;refine bc (ek.D ⟨l[i]!.u,uZ w.us l[i]!⟩) ?_;refine bm [ek.D ⟨l[i]!.u,uZ w.us l[i]!⟩] ?_;refine cQ (q:=ek.D) (xs:=(eN w.us (l.take i))) (e:=⟨l[i]!.u,uZ w.us l[i]!⟩) (hb:=ae) ?_;refine zg ?_;rw[Wo ae];exact iw (i+1) [(22,0),(1,1)]
 refine c7 ?_;obtain rfl:i=l.length:=ae;rw[List.take_length];refine bG 0 ?_;exact lL
def QU:aj:=bd 153
def w184 (hA:C416 Y):JF (ct Y QU):=λc l hp0=>by
 refine zg ?_;refine zf hm (λi=>[.m 1 c (D.int .i64),.m 2 l ek.D,.u 1,.i i,.u 2]) (λi=>[]) 2 (λi=>i<=l.length/\kF c l=pd (λi=>DH c l[i]!) i l.length) (λi=>l.length-i) ⟨ae,rfl⟩ [] ?_;rintro i ⟨hi,hr⟩;refine zg ?_;intro u0;refine dF ?_ ?_<;>intro hc0
 .refine zc ?_ ?_<;>intro hc1
  .refine zr ?_;rw[hr,j9 ae];simp only[hc1,Bool.true_or]
  refine fX (i+1) [] ?_;rw[hr,j9 ae];simp only[hc1,Bool.false_or]
 refine zr ?_;rw[hr,tC ae]
def Zh:aj:=bd 7
def w29 (hm:(Y.at 0).bU)(hA:C25 Y):Ru (ct Y Zh):=λn=>by
 refine zg ?_;have hpl:=jG n 3 ae;refine bm (Gj.map D.str) ?_;refine zg ?_;rw[cG];refine ym (v:=.str Gj[(jl n 3).toNat]!) (hi:=λ_=>by simp[Gj];omega) ?_;refine c9 ?_;refine Ql 0 ?_;refine fA ?_;refine cE _ ?_;exact lL
end Go.Abs
end
