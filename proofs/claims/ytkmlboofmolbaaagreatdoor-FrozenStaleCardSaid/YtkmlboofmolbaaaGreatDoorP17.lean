/- A part of the proofs. -/
import Derived.Test.YtkmlboofmolbaaaGreatDoorP09
set_option linter.all false
set_option maxRecDepth 60000
set_option maxHeartbeats 2000000
noncomputable section
namespace Go.Abs
variable {Y:Ctx}(hm:(Y.at 0).cb)
def HW:aj:=bj 203
def w70 (hA:S6 Y)(hB:AU Y)(hC:C210 Y)(hD:C211 Y)(hE:C212 Y)(hF:C213 Y)(hG:C214 Y)(hH:C215 Y):zE (cz Y HW):=λr hp0=>by
 show dx _ _ _ (⟨true,Rec.D r⟩::.un::.un::.un::.un::.un::.un::.un::.un::.un::.un::.un::.un::.un::.un::.un::.un::.un::.un::.un::.un::.un::.un::.un::.un::.un::.un::.un::.un::.un::.un::.un::.un::.un::.un::.un::.un::.un::.un::[]) ⟨0,[]⟩;refine aQ ?_;refine zg ?_;refine wp_cond (λhc0=>?_) (λhc0=>?_)
 .try simp only[gJ]at hc0
  refine zg ?_;refine fM (b7 (aw (D.int .i64) ?_) (aw (D.int .i64) ?_));all_goals (have hq:dc r=(4,0):=(by rw[dc,ak hc0]);rw[hq];first|done|rfl)
 simp only[dq]at hc0;refine dI ?_;refine aG (hc:=hB r.v hp0.1.2) ?_;refine zg ?_;refine wp_cond (λhc1=>?_) (λhc1=>?_)
 .try simp only[gJ]at hc1
  refine zg ?_;refine fM (b7 (aw (D.int .i64) ?_) (aw (D.int .i64) ?_));all_goals (have hq:dc r=(5,0):=(by rw[dc,ai jN,ak hc1]);rw[hq];first|done|rfl)
 simp only[dq]at hc1;refine zg ?_;intro u0;refine Bv ?_ ?_<;>intro hc2
 .refine zg ?_;refine fM (b7 (aw (D.int .i64) ?_) (aw (D.int .i64) ?_));all_goals (have hq:dc r=(3,0):=(by rw[dc,ai jN,ai (by simp[hc1]),ak ae]);rw[hq];first|done|rfl)
 refine zg ?_;intro u1;refine gp hm (ι:=Nat) (λi=>(.un::.un::.un::⟨true,.ptr 0 9 0 0⟩::.un::.un::.un::⟨true,.int .i64 (i:Nat)⟩::⟨true,.int .i64 (r.needs.length:Nat)⟩::.un::⟨true,.sl 3 (r.needs.map bw.D)⟩::.un::.un::.un::.un::.un::.un::.un::.un::.un::.un::.un::.un::.un::.un::.un::.un::.un::.un::.un::.un::.un::.un::.un::.un::.un::.un::.un::.un::[])) (λi=>[(0,.buf 9 [Rec.D r])]) 28 (λi=>i<=r.needs.length/\lL r=gX (λi=>jF r r.needs[i]!) i r.needs.length) (λi=>r.needs.length-i) 0 ⟨ae,rfl⟩ (gtt [(0,0)]) ?_;rintro i ⟨hi,hr⟩;refine zc ?_ ?_<;>intro hc3
 .refine Fc ?_;refine aG (hc:=hC r r.needs[i]! (hp0.2.1 _ (aq ae))) ?_;refine zc ?_ ?_<;>intro hc4
  .refine zg ?_;refine fM (b7 (aw (D.int .i64) ?_) (aw (D.int .i64) ?_));all_goals
    have hq:dc r=(jF r r.needs[i]!,((i:Nat):Int)):=by
     exact pL hc0 hc1 ae ae (Mc (by rw[hr,gY ae hc4]) hc4) hc4
    rw[hq];first|done|rfl
  refine gI (i+1) [(0,0)] ?_;rw[hr,kq ae hc4]
 refine eX ?_;have hn0:lL r=(0,0):=by rw[hr,ko ae]
 refine zg ?_;intro u2;refine gp hm (ι:=Nat) (λi=>(.un::.un::.un::⟨true,.ptr 0 9 0 0⟩::.un::.un::.un::.un::.un::.un::.un::.un::.un::.un::.un::⟨true,.int .i64 (i:Nat)⟩::⟨true,.int .i64 (r.bars.length:Nat)⟩::.un::⟨true,.sl 3 (r.bars.map mM.D)⟩::.un::.un::.un::.un::.un::.un::.un::.un::.un::.un::.un::.un::.un::.un::.un::.un::.un::.un::.un::.un::[])) (λi=>[(0,.buf 9 [Rec.D r])]) 33 (λi=>i<=r.bars.length/\uU r=gX (λi=>rY r r.bars[i]!) i r.bars.length) (λi=>r.bars.length-i) 0 ⟨ae,rfl⟩ (gtt [(0,0)]) ?_;rintro i ⟨hi,hr⟩;refine zc ?_ ?_<;>intro hc5
 .refine iw ?_;refine dI ?_;refine aG (hc:=hD r r.bars[i]!.name r.bars[i]!.range (hp0.2.2.1 _ (aq ae)).2.1) ?_;refine zg ?_;refine aR (λhc6=>?_) (λhc6=>?_)
  .simp only[cG,cy]at hc6;have hbe:rY r r.bars[i]! =gR r r.bars[i]!.name r.bars[i]!.range:=by rw[rY,ak hc6]
   refine zg ?_;refine fM (b7 (aw (D.int .i64) ?_) (aw (D.int .i64) ?_));all_goals
    have hq:dc r=(gR r r.bars[i]!.name r.bars[i]!.range,((i:Nat):Int)):=by
     exact pL hc0 hc1 ae ae (Db hn0 (by rw[hr,gY ae (by rw[hbe];exact hc6),hbe]) hc6) hc6
    rw[hq];first|done|rfl
  try simp only[gJ]at hc6
  refine eX ?_;refine aG (hc:=hE r.bars[i]!.when' (hp0.2.2.1 _ (aq ae)).2.2) ?_;refine zg ?_;refine wp_cond (λhc7=>?_) (λhc7=>?_)
  .simp only[cG]at hc7;have hbe:rY r r.bars[i]! =7:=by rw[rY,ai (λh=>h hc6),ak hc7]
   refine zg ?_;refine fM (b7 (aw (D.int .i64) ?_) (aw (D.int .i64) ?_));all_goals
    have hq:dc r=((7:Int),((i:Nat):Int)):=by
     exact pL hc0 hc1 ae ae (Db hn0 (by rw[hr,gY ae (by rw[hbe];decide),hbe]) (show(7:Int)≠0 by decide)) (show(7:Int)≠0 by decide)
    rw[hq];first|done|rfl
  simp only[dq]at hc7;have hbz:rY r r.bars[i]! =0:=by rw[rY,ai (λh=>h hc6),ai (by rw[hc7];simp)]
  refine gI (i+1) [(0,0)] ?_;rw[hr,kq ae hbz]
 refine eX ?_;have hb0:uU r=(0,0):=by rw[hr,ko ae]
 refine cC ?_;refine aG (hc:=hF r.feats hp0.2.2.2) ?_;refine zg ?_;refine aR (λhc8=>?_) (λhc8=>?_)
 .try simp only[gJ]at hc8
  refine zg ?_;refine fM (b7 (aw (D.int .i64) ?_) (aw (D.int .i64) ?_));all_goals
   have hq:dc r=(11,0):=by
    exact pL hc0 hc1 ae ae (Md hn0 hb0 hc8) aU
   rw[hq];first|done|rfl
 simp only[dq]at hc8;refine zg ?_;intro u3;refine gp hm (ι:=Nat) (λi=>(.un::.un::.un::⟨true,.ptr 0 9 0 0⟩::.un::.un::.un::.un::.un::.un::.un::.un::.un::.un::.un::.un::.un::.un::.un::.un::.un::.un::.un::.un::.un::⟨true,.int .i64 (i:Nat)⟩::⟨true,.int .i64 (r.feats.length:Nat)⟩::.un::⟨true,.sl 2 (r.feats.map cn.D)⟩::.un::.un::.un::.un::.un::.un::.un::.un::.un::.un::[])) (λi=>[(0,.buf 9 [Rec.D r])]) 42 (λi=>i<=r.feats.length/\G3 r=gX (λi=>mQ r r.feats[i]!.of) i r.feats.length) (λi=>r.feats.length-i) 0 ⟨ae,rfl⟩ (gtt [(0,0)]) ?_;rintro i ⟨hi,hr⟩;refine zc ?_ ?_<;>intro hc9
 .refine zg ?_;intro u4;refine IA hm (ι:=Nat) (λj=>(.un::.un::.un::⟨true,.ptr 0 9 0 0⟩::.un::.un::.un::.un::.un::.un::.un::.un::.un::.un::.un::.un::.un::.un::.un::.un::.un::.un::.un::.un::.un::⟨true,.int .i64 (i:Nat)⟩::⟨true,.int .i64 (r.feats.length:Nat)⟩::.un::⟨true,.sl 2 (r.feats.map cn.D)⟩::.un::⟨true,.int .i64 (j:Nat)⟩::⟨true,.int .i64 (r.feats[i]!.of.length:Nat)⟩::.un::⟨true,.sl 1 (r.feats[i]!.of.map D.str)⟩::.un::.un::.un::⟨true,.int .i64 (i:Nat)⟩::.un::[])) (λj=>[(0,.buf 9 [Rec.D r])]) 53 (λj=>j<=r.feats[i]!.of.length/\mQ r r.feats[i]!.of=fZ (λj=>oe r r.feats[i]!.of[j]!) j r.feats[i]!.of.length) (λj=>r.feats[i]!.of.length-j) 0 ⟨ae,rfl⟩ (gtt [(0,0)]) ?_;rintro j ⟨hj,hjr⟩;refine zc ?_ ?_<;>intro hc10
  .refine uQ ?_;refine aG (hc:=hG r r.feats[i]!.of[j]! (ju.it hp0.2.2.2 _ (aq ae) _ (aq ae))) ?_;refine zc ?_ ?_<;>intro hc11
   .refine zg ?_;refine fM (b7 (aw (D.int .i64) ?_) (aw (D.int .i64) ?_));all_goals
     have hq:dc r=(oe r r.feats[i]!.of[j]!,((i:Nat):Int)):=by
      have hie:mQ r r.feats[i]!.of=oe r r.feats[i]!.of[j]! :=by rw[hjr,lJ ae hc11]
      exact pL hc0 hc1 ae ae (xR hn0 hb0 hc8 (by rw[hr,gY (f:=(λi=>mQ r r.feats[i]!.of)) ae (by rw[hie];exact hc11),hie])) hc11
     rw[hq];first|done|rfl
   refine gI (j+1) [(0,0)] ?_;rw[hjr,pP ae hc11]
  refine gI (i+1) [(0,0)] ?_;rw[hr,kq (f:=(λi=>mQ r r.feats[i]!.of)) ae (by rw[hjr,pO ae])]
 refine eX ?_;have hpz:eo r=(0,0):=xR hn0 hb0 hc8 (by rw[hr,ko ae]);have hgd:Fy r:=⟨⟨hc0,hc1⟩,⟨ae,ae⟩,hpz⟩;refine mB ?_;refine aG (hc:=hH r ⟨hgd,hp0⟩) ?_;refine Dn λu5=>?_;specialize u5 rfl rfl
 refine pn ?_;refine bB (env':=(_::_::_::_::_::_::_::_::_::_::_::_::_::_::_::_::_::_::_::_::_::_::_::_::_::_::_::_::_::_::_::_::_::_::_::_::_::_::⟨_,(.bool _)⟩::[])) ?_;refine dN ?_ ?_<;>intro hc12
 .refine zg ?_;refine fM (b7 (aw (D.int .i64) ?_) (aw (D.int .i64) ?_));all_goals
   have hq:dc r=(3,0):=by
    rw[wX hc0 hc1 ae ae hpz,ak ae]
   rw[hq];first|done|rfl
 refine zg ?_;refine fM (b7 (aw (D.int .i64) ?_) (aw (D.int .i64) ?_));all_goals
  have hq:dc r=(0,0):=by
   rw[wX hc0 hc1 ae ae hpz,ai ae]
  rw[hq];first|done|rfl
def lK:aj:=bj 38
def w502 (hm:(Y.at 2).cb)(shop:List bM)(w:bR)(x:dr)(c:List Int)(kvs:List D)(hA:C274 (Y.at 2))(hB:C689 (Y.at 2))(hp0:LinP shop w x c)(hp1:VJ w.us kvs):dx (Y.at 2) lK.body (uG lK (λd m=>d=.int .i64 (mT shop w.us x c).1/\look m 0=some (.buf 1 ((mT shop w.us x c).2.map (D.int .i64)))/\look m 1=some (.mpb kvs)):Ex->List ba->St->Prop) (fU lK [.agg [.sl 2 (shop.map bM.D),.sl 3 (w.us.map cJ.D),.fn 5000000 [.it 1],.own 0 1 0 c.length],dr.D x]) ⟨2,[(0,.buf 1 (c.map (D.int .i64))),(1,.mpb kvs)]⟩:=by
 show dx _ _ _ [⟨true,.agg [.sl 2 (shop.map bM.D),.sl 3 (w.us.map cJ.D),.fn 5000000 [.it 1],.own 0 1 0 c.length]⟩,⟨true,dr.D x⟩,.un,.un,.un,.un,.un,.un,.un,.un,.un,.un,.un,.un,.un,.un,.un,.un,.un,.un,.un,.un,.un,.un,.un,.un,.un,.un] ⟨2,[(0,.buf 1 (c.map (D.int .i64))),(1,.mpb kvs)]⟩;refine aQ ?_;refine kI ?_;have hcl:=hp0.2;refine cN ?_;refine qc (v:=.fn 5000000 [.it 1]) ?_;refine cC ?_;refine bg (Key.D (⟨x.name,[]⟩)) ?_;refine afA (.tup [.int .i64 (yt w.us x.name []).1,.bool (yt w.us x.name []).2]) (hb:=hp1.1) (hv:=hp1.2 _ _) ?_;refine zc ?_ ?_<;>intro hc0
 .refine zg ?_;refine ei trivial jC (dm ah (?_)) ah ⟨by rw[R4 (HI (Iv hc0))],by rw[R4 (HI (Iv hc0))];exact rfl,cZ⟩;rfl
 refine cC ?_;obtain⟨j,hj,hj2,hj1,hjl⟩:=aag hc0;have hun:=hp0.1.2.1 _ (aq hjl);have h16:w.us[j]!.cands.length<=16:=hun.1;have hpl:=YG (us:=w.us) (v:=x.v) (t:=true) hj;rw[hj2];refine yx ?_;refine bm 3 ?_ (he:=aaI) (hm:=aaI);refine cC ?_;refine R6 [.ref 9 [dr.D x] 0 0] ?_;refine aG (hc:=hB w.us[j]!.cands true x ⟨λc hc=>(hun.2 c hc).1,hp0.1.2.2⟩) ?_;refine dI ?_;rw[<-hpl];refine zc ?_ ?_<;>intro hc1
 .refine zg ?_;refine ei trivial jC (dm ah (?_)) ah ⟨by rw[R4 hc1],by rw[R4 hc1];exact rfl,cZ⟩;rfl
 refine cN ?_;obtain⟨k,hk,hkl⟩:=afy hj hc1;rw[hk];refine ID ?_;refine rj hm (ι:=Unit) (λ_=>[.un,.un,.un,⟨true,.ptr 2 4 0 0⟩,⟨true,.ref 9 [dr.D x] 0 0⟩,.un,.un,⟨true,.int .i64 (j:Nat)⟩,.un,⟨true,.int .i64 (k:Nat)⟩,.un,.un,.un,.un,.un,.un,⟨true,.int .u64 (P5 shop w.us[j]!.cands[k]! x)⟩,.un,.un,.un,.un,.un,.un,.un,.un,.un,.un,.un]) (λ_=>[(0,.buf 1 (c.map (D.int .i64))),(1,.mpb kvs),(2,.buf 4 [.agg [.sl 2 (shop.map bM.D),.sl 3 (w.us.map cJ.D),.fn 5000000 [.it 1],.own 0 1 0 c.length]])]) 60 (λ_=>VQ shop w.us[j]!.cands[k]! x) ?_ ?_
 .refine zc ?_ ?_<;>intro hc2
  .refine zg ?_;obtain⟨hsq,hsv⟩:=sum_a (shop:=shop) hc2;exact⟨(),hsq,(aY.to [(2,2)] ah ah aaP aaN)⟩
  refine iw ?_;refine cM w.us[j]!.cands[k]!.sh.toNat (hj:=λhf=>Qs) (hb:=λhf=>Qs) ?_;refine cN ?_;refine dd (v:=.str shop[w.us[j]!.cands[k]!.sh.toNat]!.name) (hi:=λhf=>Qs) ?_;refine zc ?_ ?_<;>intro hc3
  .refine zg ?_;refine ei trivial jC (dm ah (?_)) ah ⟨by rw[FX hj hk (by rw[P6 hc2 hc3];decide),P6 hc2 hc3],by rw[FX hj hk (by rw[P6 hc2 hc3];decide)];exact rfl,cZ⟩;rfl
  refine cN ?_;have hs0:0<=w.us[j]!.cands[k]!.sh/\w.us[j]!.cands[k]!.sh<(shop.length:Int):=ae;have hss:=hp0.1.1 _ (aq (show w.us[j]!.cands[k]!.sh.toNat<shop.length by omega));have hlm:=Fw (s:=shop[w.us[j]!.cands[k]!.sh.toNat]!) (nm:=x.name) (v:=x.v);refine yx ?_;refine aG (hc:=hA shop[w.us[j]!.cands[k]!.sh.toNat]! x.name x.v ⟨hss,hp0.1.2.2⟩) ?_;refine zc ?_ ?_<;>intro hc4
  .refine zg ?_;refine ei trivial jC (dm ah (?_)) ah ⟨by rw[FX hj hk (by rw[P7 hc3 hc4];decide),P7 hc3 hc4],by rw[FX hj hk (by rw[P7 hc3 hc4];decide)];exact rfl,cZ⟩;rfl
  refine cC ?_;have hfl:(jR shop[w.us[j]!.cands[k]!.sh.toNat]! x.name x.v).toNat<shop[w.us[j]!.cands[k]!.sh.toNat]!.es.length:=by rcases hlm with h|⟨q,h,h2⟩<;>omega
  refine zg ?_;obtain⟨hsq,hsv⟩:=sum_c hc3 hc4;exact⟨(),hsq,(aY.to [(2,2)] ah ah aaP aaN)⟩
 .intro _ hsp;refine zg ?_;refine aR (λhc5=>?_) (λhc5=>?_)
  .simp only[cG,cy]at hc5;have hsh:oC shop w.us[j]!.cands[k]! x=13:=by rw[hsp,ai hc5]
   refine zg ?_;refine ei trivial jC (dm ah (?_)) ah ⟨by rw[FX hj hk (by rw[hsh];decide),hsh],by rw[FX hj hk (by rw[hsh];decide)];exact rfl,cZ⟩;rfl
  simp only[dq,aV]at hc5;have hsh:oC shop w.us[j]!.cands[k]! x=0:=by rw[hsp,ak hc5]
  have hpe:=put_c (c:=c) hj hk hsh;refine qo ?_;refine lD ((c.set j (k:Int)).map (D.int .i64)) (hi:=lj) (he:=BO ae _) ?_;refine zg ?_;intro u0;refine gp hm (ι:=Nat) (λi=>[.un,.un,.un,⟨true,.ptr 2 4 0 0⟩,⟨true,.ref 9 [dr.D x] 0 0⟩,.un,.un,.un,.un,.un,.un,.un,.un,.un,.un,.un,.un,.un,⟨true,.int .i64 (i:Nat)⟩,⟨true,.int .i64 (x.feats.length:Nat)⟩,.un,⟨true,.sl 1 ((x.feats).map D.str)⟩,.un,.un,.un,.un,.un,.un]) (λi=>[(0,.buf 1 ((G6 w.us x (c.set j (k:Int)) i).map (D.int .i64))),(1,.mpb kvs),(2,.buf 4 [.agg [.sl 2 (shop.map bM.D),.sl 3 (w.us.map cJ.D),.fn 5000000 [.it 1],.own 0 1 0 c.length]])]) 74 (λi=>i<=x.feats.length/\(mT shop w.us x c)=vN w.us x (x.feats.drop i) (G6 w.us x (c.set j (k:Int)) i)) (λi=>x.feats.length-i) 0 ⟨ae,hpe⟩ (aY.to [(2,2)] ah ah eL zI) ?_;rintro i ⟨hi,hr⟩;have hfl:=Ll (us:=w.us) (x:=x) (c:=c.set j (k:Int)) i;rw[List.length_set]at hfl;refine zc ?_ ?_<;>intro hc6
  .refine yx ?_;refine qc (v:=.fn 5000000 [.it 1]) ?_;refine dI ?_;refine bg (Key.D (⟨x.name,(x.feats)[i]!⟩)) ?_;refine afA (.tup [.int .i64 (yt w.us x.name x.feats[i]!).1,.bool (yt w.us x.name x.feats[i]!).2]) (hb:=hp1.1) (hv:=hp1.2 _ _) ?_;refine zc ?_ ?_<;>intro hc7
   .refine zg ?_;refine ei trivial jC (dm ah (?_)) ah ⟨by rw[hr,xk ae,ak (HI (Iv hc7))],by rw[hr,xk ae,ak (HI (Iv hc7))];exact rfl,cZ⟩;rfl
   refine cN ?_;obtain⟨p,hp,hp2,hp3,hpl2⟩:=aag hc7;have hun2:=hp0.1.2.1 _ (aq hpl2);have h162:w.us[p]!.cands.length<=16:=hun2.1;have hpp:=YG (us:=w.us) (v:=x.v) (t:=false) hp;rw[hp2];refine qx ?_;refine R6 [.ref 9 [dr.D x] 0 0] ?_;refine aG (hc:=hB w.us[p]!.cands false x ⟨λc hc=>(hun2.2 c hc).1,hp0.1.2.2⟩) ?_;refine dI ?_;rw[<-hpp];refine zc ?_ ?_<;>intro hc8
   .refine zg ?_;refine ei trivial jC (dm ah (?_)) ah ⟨by rw[hr,xk ae,ak hc8],by rw[hr,xk ae,ak hc8];exact rfl,cZ⟩;rfl
   refine cN ?_;obtain⟨q,hq,hql⟩:=afy hp hc8;have hfs:(G6 w.us x (c.set j (k:Int)) (i+1))=(G6 w.us x (c.set j (k:Int)) i).set p (q:Int):=by rw[G6,hq,hp,Int.toNat_natCast]
   rw[hq];refine kF ?_;refine lD ((G6 w.us x (c.set j (k:Int)) (i+1)).map (D.int .i64)) (hi:=lj) (he:=by rw[hfs];exact BO ae _) ?_;refine zg ?_;exact⟨i+1,⟨ae,by rw[hr,xk ae,ai ae];rfl⟩,ae,(aY.to [(2,2)] ah ah eL zI)⟩
  refine zg ?_;refine ei trivial jC (dm ah (?_)) ah ⟨by rw[hr,Lm ae],by rw[hr,Lm ae];exact rfl,cZ⟩;rfl
def T1:aj:=bj 7
def w28 (hA:GH Y)(hB:C110 Y)(hC:C111 Y)(hD:C112 Y)(hE:C135 Y)(hF:C136 Y):Qi (cz Y T1):=λks=>by
 refine kI ?_;refine bg (Gs.D (⟨ks,0⟩:Gs)) ?_;refine kF ?_;refine cM 0 (hj:=λ_=>rfl) (hb:=λ_=>aU) ?_;refine dd (v:=ca.D bJ[0]!) (hi:=λ_=>aU) ?_;refine dj (hc:=hB (⟨ks,0⟩:Gs) GN bJ[0]! 3 aB aU) ?_;refine bg (.agg [.str (jG ks).1.name,.int .i64 (jG ks).1.v.major,.int .i64 (jG ks).1.v.minor,.int .i64 (jG ks).1.v.patch,.str (jG ks).1.v.pre,.str (jG ks).1.v.build,.sl 3 ((jG ks).1.needs.map bw.D),.sl 3 ((jG ks).1.bars.map mM.D),.sl 2 ((jG ks).1.feats.map cn.D),.aL,.aL]) ?_;refine dI ?_;refine AQ [(3,.buf 2 [Gs.D (jG ks).2]),(11,.buf 11 [hR.D ⟨(jG ks).1,[],[]⟩])] ((.id ah (.bf ah (.cons (.ag ((.cons (.refl _) (.cons (.refl _) (.cons (.refl _) (.cons (.refl _) (.cons (.refl _) (.cons (.refl _) (.cons (.refl _) (.cons (.refl _) (.cons (.refl _) (.cons (.nil 2) (.cons (.nil 2) .nil))))))))))))) .nil) .nil))) ?_;refine cC ?_;have hst0:=ad9 (⟨ks,0⟩:Gs) GN bJ[0]!;rw[show py (⟨ks,0⟩:Gs) GN bJ[0]! 3=jG ks from rfl]at hst0;have hst1:=adS (jG ks).2;have r4:=(jG ks).2.aS.eQ 4 ae;have r5:=(kd (jG ks).2).2.aS.eQ 4 ae;have r8:=(kd (jG ks).2).2.aS.aS.eQ 8 ae;obtain⟨hq1,hq2⟩:=hst0;obtain⟨hq3,hq4⟩:=hst1;simp only at hq1 hq2;refine cN ?_;refine dj (hc:=hA (jG ks).2 4 ae iK) ?_;refine zg ?_;refine rj hm (ι:=Unit) (λ_=>[.un,.un,⟨true,.ptr 0 2 0 0⟩,.un,⟨true,.ptr 1 11 0 0⟩,.un,.un,.un]) (λ_=>[(0,.buf 2 [Gs.D (kd (jG ks).2).2]),(1,.buf 11 [hR.D ⟨(jG ks).1,(kd (jG ks).2).1,[]⟩])]) 100 (λ_=>True) ?_ ?_
 .refine Bv ?_ ?_<;>intro hc0
  .refine dI ?_;refine dj (hc:=hA (jG ks).2.aS 4 ae iK) ?_;refine cM ((jG ks).2.aS.val 4).toNat (hj:=λ_=>ae) (hb:=λ_=>pF) ?_;refine dd (v:=.str cI[((jG ks).2.aS.val 4).toNat]!) (hi:=λ_=>pF) ?_;refine bg (iN.D (⟨cI[((jG ks).2.aS.val 4).toNat]!,AP⟩:iN)) ?_;refine bc [iN.D (⟨cI[((jG ks).2.aS.val 4).toNat]!,AP⟩:iN)] ?_;refine cN ?_;refine bY (.agg [.str (jG ks).1.name,.int .i64 (jG ks).1.v.major,.int .i64 (jG ks).1.v.minor,.int .i64 (jG ks).1.v.patch,.str (jG ks).1.v.pre,.str (jG ks).1.v.build,.sl 3 ((jG ks).1.needs.map bw.D),.sl 3 ((jG ks).1.bars.map mM.D),.sl 2 ((jG ks).1.feats.map cn.D),.own 22 2 0 1,.sl 2 []]) (he:=cZ) ?_;refine zg ?_;rw[aj9 hc0];exact⟨(),trivial,(aY.fz 22 ah ec Mm Mm (aY.to [(3,0),(11,1)] ah ah eL aaM))⟩
  refine zg ?_;rw[aj8 hc0];exact⟨(),trivial,(aY.to [(3,0),(11,1)] ah ah eL aaM)⟩
 .rintro _-
  refine dI ?_;refine dj (hc:=hA (kd (jG ks).2).2 4 ae iK) ?_;refine zg ?_;refine rj hm (ι:=Unit) (λ_=>[.un,.un,.un,.un,⟨true,.ptr 0 11 0 0⟩,.un,.un,.un]) (λ_=>[(0,.buf 11 [hR.D (y5 ks)])]) 100 (λ_=>True) ?_ ?_
  .refine Bv ?_ ?_<;>intro hc1
   .refine dI ?_;refine dj (hc:=hA (kd (jG ks).2).2.aS 4 ae iK) ?_;refine cM ((kd (jG ks).2).2.aS.val 4).toNat (hj:=λ_=>ae) (hb:=λ_=>pF) ?_;refine Dm (v:=.str cI[((kd (jG ks).2).2.aS.val 4).toNat]!) (hi:=λ_=>pF) ?_;refine eX ?_;refine dj (hc:=hA (kd (jG ks).2).2.aS.aS kf.length aU (by simp only[Gs.aS];omega)) ?_;refine cM ((kd (jG ks).2).2.aS.aS.val 8).toNat (hj:=λ_=>by show(kd (jG ks).2).2.aS.aS.val 8=_;omega) (hb:=λ_=>uE) ?_;refine dd (v:=.str kf[((kd (jG ks).2).2.aS.aS.val 8).toNat]!) (hi:=λ_=>uE) ?_;refine bg (kJ.D (⟨cI[((kd (jG ks).2).2.aS.val 4).toNat]!,kf[((kd (jG ks).2).2.aS.aS.val 8).toNat]!⟩:kJ)) ?_;refine bc [kJ.D (⟨cI[((kd (jG ks).2).2.aS.val 4).toNat]!,kf[((kd (jG ks).2).2.aS.aS.val 8).toNat]!⟩:kJ)] ?_;refine cN ?_;refine bY (.agg [.str (jG ks).1.name,.int .i64 (jG ks).1.v.major,.int .i64 (jG ks).1.v.minor,.int .i64 (jG ks).1.v.patch,.str (jG ks).1.v.pre,.str (jG ks).1.v.build,.sl 3 ((jG ks).1.needs.map bw.D),.sl 3 ((jG ks).1.bars.map mM.D),.sl 2 ((jG ks).1.feats.map cn.D),.sl 2 ((kd (jG ks).2).1.map iN.D),.own 116 2 0 1]) (he:=cZ) ?_;refine zg ?_;rw[show y5 ks=⟨(jG ks).1,(kd (jG ks).2).1,[(⟨cI[((kd (jG ks).2).2.aS.val 4).toNat]!,kf[((kd (jG ks).2).2.aS.aS.val 8).toNat]!⟩:kJ)]⟩by unfold y5;rw[ac7 hc1]];exact⟨(),trivial,(aY.fz 116 ah ec Mm Mm (aY.to [(1,0)] ah ah eL aaQ))⟩
   refine zg ?_;rw[show y5 ks=⟨(jG ks).1,(kd (jG ks).2).1,[]⟩by unfold y5;rw[ac6 hc1]];exact⟨(),trivial,(aY.to [(1,0)] ah ah eL aaQ)⟩
  .rintro _-
   refine dI ?_;refine aG (hc:=hF (y5 ks) (Ry ks).1) ?_;refine zc ?_ ?_<;>intro hc2
   .refine dI ?_;refine cM 0 (hj:=λ_=>rfl) (hb:=λ_=>aU) ?_;refine dd (v:=ca.D bJ[0]!) (hi:=λ_=>aU) ?_;refine bg (.agg [.str GN,.int .i64 bJ[0]!.major,.int .i64 bJ[0]!.minor,.int .i64 bJ[0]!.patch,.str bJ[0]!.pre,.str bJ[0]!.build,.aL,.aL,.aL]) ?_;refine bg (.agg [.str GN,.int .i64 bJ[0]!.major,.int .i64 bJ[0]!.minor,.int .i64 bJ[0]!.patch,.str bJ[0]!.pre,.str bJ[0]!.build,.aL,.aL,.aL,.aL,.aL]) ?_;refine bc [.agg [.str GN,.int .i64 bJ[0]!.major,.int .i64 bJ[0]!.minor,.int .i64 bJ[0]!.patch,.str bJ[0]!.pre,.str bJ[0]!.build,.aL,.aL,.aL,.aL,.aL]] ?_;refine cC ?_;refine AQ [(114,.buf 11 [hR.D XU])] ((.bf ah (.cons (.ag ((.cons (.refl _) (.cons (.refl _) (.cons (.refl _) (.cons (.refl _) (.cons (.refl _) (.cons (.refl _) (.cons (.nil 3) (.cons (.nil 3) (.cons (.nil 2) (.cons (.nil 2) (.cons (.nil 2) .nil))))))))))))) .nil) .nil)) ?_;refine bm 114 ?_;refine zr ?_;rw[show bH ks=XU from ai hc2];rfl
   refine dI ?_;refine bc [hR.D (y5 ks)] ?_;refine cC ?_;refine bm 110 ?_;refine zr ?_;rw[show bH ks=y5 ks from ak hc2];rfl
def y3:aj:=bj 46
def w296 (hm:(Y.at 1).cb)(hB:GH (Y.at 1))(hC:C535 (Y.at 1))(g:Gs)(own:au)(hp0:0<=g.i/\g.i<=980000):dx (Y.at 1) y3.body (GL y3 2 (bw.D (mz g own).1) (Gs.D (mz g own).2):Ex->List ba->St->Prop) (fU y3 (.ptr 0 2 0 0::[.str own])) ⟨1,[(0,.buf 2 [(Gs.D g)])]⟩:=by
 show dx _ _ _ [⟨true,.ptr 0 2 0 0⟩,⟨true,.str own⟩,.un,.un,.un,.un,.un,.un,.un,.un,.un] ⟨1,[(0,.buf 2 [(Gs.D g)])]⟩;refine aQ ?_;refine dI ?_;have hw1:=BS g own;have hw2:=BS (dE g own).2.aS own;have ha:=V0 g own;refine cC ?_;refine dj (hc:=hC g own ae) ?_;refine bc [di.D (dE g own).1] ?_;refine bT [.own 5 4 0 1,.str [],.str []] ?_;refine kF ?_;refine dj (hc:=hB (dE g own).2 6 ae iK) ?_;refine cN ?_;refine rj hm (ι:=Unit) (λ_=>[⟨true,.ptr 0 2 0 0⟩,⟨true,.str own⟩,⟨true,.ptr 1 3 0 0⟩,.un,.un,⟨true,.ptr 2 3 0 0⟩,.un,.un,.un,.un,.un]) (λ_=>[(0,.buf 2 [Gs.D (ib g own).2]),(1,.buf 3 [.agg [.aL,.str [],.str []]]),(2,.buf 3 [.agg [.own 3 4 0 (ib g own).1.length,.str [],.str []]]),(3,.buf 4 ((ib g own).1.map di.D))]) 60 (λ_=>True) ?_ ?_
 .refine zc ?_ ?_<;>intro hc0
  .refine cC ?_;refine zj (v:=.own 5 4 0 1) ?_;refine cC ?_;refine dj (hc:=hC (dE g own).2.aS own Kv) ?_;refine bc [di.D (dE (dE g own).2.aS own).1] ?_;refine cL (q:=di.D) (xs:=[(dE g own).1]) (e:=(dE (dE g own).2.aS own).1) (hb:=aB) ?_;refine cN ?_;refine bY (.agg [.own 19 4 0 2,.str [],.str []]) (he:=cZ) ?_;refine zg ?_;have hA:(ib g own)=([(dE g own).1,(dE (dE g own).2.aS own).1],(dE (dE g own).2.aS own).2):=ak hc0;rw[hA];exact⟨(),trivial,(aY.to [(1,1),(7,2),(19,3)] ah ah eL (by refine bp.nl 0 ah ah ah ec ?_;refine bp.nl 1 ah ah ah ec ?_;refine bp.eq 7 ah ah ah ?_;refine bp.nl 19 ah ah ah ec ?_;exact bp.nil))⟩
  refine zc ?_ ?_<;>intro hc1
  .refine dI ?_;refine bc [.str fW] ?_;refine sI 0 (hj:=λ_=>rfl) (hb:=λ_=>aU) ?_;refine cN ?_;refine lD [.agg [.str (dE g own).1.name,.str (dE g own).1.range,.own 17 1 0 1,.bool (dE g own).1.bare]] (hi:=aB) (he:=cZ) ?_;refine zg ?_;have hA:(ib g own)=([{(dE g own).1 with feats:=[fW]}],(dE g own).2.aS):=by rw[ib,ai hc0,ak hc1]
   rw[hA];exact⟨(),trivial,(aY.fz 17 ah ec Mm Mm (aY.to [(1,1),(7,2),(5,3)] ah ah eL aaT))⟩
  refine zg ?_;have hA:(ib g own)=([(dE g own).1],(dE g own).2.aS):=by rw[ib,ai hc0,ai hc1]
  rw[hA];exact⟨(),trivial,(aY.to [(1,1),(7,2),(5,3)] ah ah eL aaT)⟩
 .rintro _-
  refine dI ?_;refine dj (hc:=hB (ib g own).2 8 ae iK) ?_;refine cN ?_;refine rj hm (ι:=Unit) (λ_=>[⟨true,.ptr 0 2 0 0⟩,⟨true,.str own⟩,⟨true,.ptr 1 3 0 0⟩,.un,.un,⟨true,.ptr 2 3 0 0⟩,.un,.un,.un,.un,.un]) (λ_=>[(0,.buf 2 [Gs.D (jH (ib g own).2).2]),(1,.buf 3 [.agg [.aL,.str [],.str []]]),(2,.buf 3 [.agg [.own 3 4 0 (ib g own).1.length,.str (jH (ib g own).2).1,.str []]]),(3,.buf 4 ((ib g own).1.map di.D))]) 80 (λ_=>True) ?_ ?_
  .refine zc ?_ ?_<;>intro hc2
   .refine cC ?_;refine bY (.agg [.own 3 4 0 (ib g own).1.length,.str osY,.str []]) (he:=cZ) ?_;refine zg ?_;have hH:(jH (ib g own).2)=(osY,(ib g own).2.aS):=by rw[jH,ak hc2]
    rw[hH];exact⟨(),trivial,(aY.to [(1,1),(2,2),(3,3)] ah ah eL Qt)⟩
   refine zc ?_ ?_<;>intro hc3
   .refine cC ?_;refine bY (.agg [.own 3 4 0 (ib g own).1.length,.str osN,.str []]) (he:=cZ) ?_;refine zg ?_;have hH:(jH (ib g own).2)=(osN,(ib g own).2.aS):=by rw[jH,ai hc2,ak hc3]
    rw[hH];exact⟨(),trivial,(aY.to [(1,1),(2,2),(3,3)] ah ah eL Qt)⟩
   refine zg ?_;have hH:(jH (ib g own).2)=([],(ib g own).2.aS):=by rw[jH,ai hc2,ai hc3]
   rw[hH];exact⟨(),trivial,(aY.to [(1,1),(2,2),(3,3)] ah ah eL Qt)⟩
  .rintro _-
   refine dI ?_;refine dj (hc:=hB (jH (ib g own).2).2 5 ae (by first|omega|(simp only[Gs.aS];omega)|(simp only[pe,jH,Gs.aS]at*;omega))) ?_;refine zc ?_ ?_<;>intro hc4
   .refine cN ?_;have hO:(HE (jH (ib g own).2).2)=([111],(jH (ib g own).2).2.aS):=by rw[HE,ak hc4]
    refine cN ?_;refine bY (.agg [.own 3 4 0 (ib g own).1.length,.str (jH (ib g own).2).1,.str [111]]) (he:=cZ) ?_;refine kI ?_;refine bm 3 ?_;refine zg ?_;refine ja trivial Dk (dm ah (?_)) (by rw[mz,hO];exact rfl) ah ah;rw[mz,hO];rfl
   refine cN ?_;have hO:(HE (jH (ib g own).2).2)=([],(jH (ib g own).2).2.aS):=by rw[HE,ai hc4]
   refine eX ?_;refine bm 3 ?_;refine zg ?_;refine ja trivial Dk (dm ah (?_)) (by rw[mz,hO];exact rfl) ah ah;rw[mz,hO];rfl
def UH:aj:=bj 88
def w630:uj (cz Y UH):=λa b=>by
 refine zc ?_ ?_<;>intro hc0
 .refine zr ?_;unfold dt;rw[ak hc0]
 refine zc ?_ ?_<;>intro hc1
 .refine zr ?_;unfold dt;rw[ai hc0,ak hc1]
 refine zr ?_;unfold dt;rw[ai hc0,ai hc1]
def PQ:aj:=bj 173
def w927:ui (cz Y PQ):=λa b=>by
 refine zc ?_ ?_<;>intro hc0
 .refine zr ?_;simp[pM,hc0]
 refine zc ?_ ?_<;>intro hc1
 .refine zr ?_;simp_all[pM]
 refine zr ?_;simp_all[pM]
def Zu:aj:=bj 135
def w783 (hA:Vt Y)(hB:C667 Y)(hC:C668 Y)(hD:C927 Y):um (cz Y Zu):=λa b=>by
 refine zc ?_ ?_<;>intro hc0
 .refine zr ?_;unfold yq;rw[ak hc0]
 refine zc ?_ ?_<;>intro hc1
 .refine zr ?_;have hn:¬(cU a=true/\cU b=true):=by rintro⟨h1,h2⟩;simp[h1,h2]at hc0
  unfold yq;rw[ai hn];rw[ak hc1]
 refine zc ?_ ?_<;>intro hc2
 .refine zr ?_;have hn:¬(cU a=true/\cU b=true):=by rintro⟨h1,h2⟩;simp[h1,h2]at hc0
  unfold yq;rw[ai hn];rw[ai (by simp[hc1]),ak hc2]
 refine zr ?_;have hn:¬(cU a=true/\cU b=true):=by rintro⟨h1,h2⟩;simp[h1,h2]at hc0
 unfold yq;rw[ai hn];rw[ai (by simp[hc1]),ai (by simp[hc2])]
def UI:aj:=bj 89
def w631 (hA:C470 Y)(hB:Vt Y)(hC:C783 Y):JE (cz Y UI):=λa b hp0=>by
 refine zc ?_ ?_<;>intro hc0
 .refine zr ?_;unfold Bb;rw[ak hc0]
 refine zc ?_ ?_<;>intro hc1
 .refine zr ?_;unfold Bb;rw[ai hc0,ak hc1]
 refine zc ?_ ?_<;>intro hc2
 .refine zr ?_;unfold Bb;rw[ai hc0,ai hc1,ak hc2]
 refine zg ?_;refine zf hm (λi=>[.u 6,.i i,.m 1 (bd a 46) D.str,.m 1 (bd b 46) D.str,.u 3]) (λi=>[]) 18 (λi=>(i<=(bd a 46).length/\i<=(bd b 46).length)/\Bb a b=vy (bd a 46) (bd b 46) i) (λi=>(bd a 46).length-i) ⟨⟨ae,ae⟩,by unfold Bb;rw[ai hc0,ai hc1,ai hc2]⟩ [] ?_;rintro i ⟨hi,hr⟩;refine zg ?_;intro u0;refine dN ?_ ?_<;>intro hc3
 .refine zc ?_ ?_<;>intro hc4
  .refine zr ?_;rw[hr,Gl ae hc4]
  refine zl (i+1) [] ?_;exact⟨⟨ae,ae⟩,by rw[hr,Nj ae hc4]⟩
 refine zg ?_;intro u1 u2;refine zr ?_;rw[hr,Gk ae]
def H9:aj:=⟨2,12,[⟨2,none⟩],ha1,(sq (rg [gb 5 s0,gb 5 s1,gm yE] [(3,0),(4,1),(2,2)]) (sq (sq (r1 [gk 5 true s3,gx 217 [l0] ha5,gno l1,gm l2,BA 3 (.ld 5 true s4),BA 3 (.call 217 [l4] ha5),BA 3 (.un .not l5),go1 l3 l6] 5 7) (.cond s5 (sq (r1 [gm yE] 2 0) .ret) .skip)) (sq (sq (r1 [gf 0 s3,gd l0,gf 0 s4,gd l2,gx 630 [l1,l3] rT,gm l4] 6 5) (sq (r1 [gm s6,sC l0 yE] 7 1) (.cond s7 (sq (r1 [gm s6,gm l0] 2 1) .ret) .skip))) (sq (sq (r1 [gf 1 s3,gd l0,gf 1 s4,gd l2,gx 630 [l1,l3] rT,gm l4] 8 5) (sq (r1 [gm s8,sC l0 yE] 9 1) (.cond s9 (sq (r1 [gm s8,gm l0] 2 1) .ret) .skip))) (sq (sq (r1 [gf 2 s3,gd l0,gf 2 s4,gd l2,gx 630 [l1,l3] rT,gm l4] 10 5) (sq (r1 [gm UQ,sC l0 yE] 11 1) (.cond s11 (sq (r1 [gm UQ,gm l0] 2 1) .ret) .skip))) (sq (r1 [gf 3 s3,gd l0,gf 3 s4,gd l2,gx 631 [l1,l3] rT,gm l4] 2 5) .ret))))))⟩
def w424 (hm:(Y.at 0).cb)(hA:BW Y)(hB:Vt Y)(hC:C631 Y):tZ (cz Y H9):=λa b hp0=>by
 refine zg ?_;refine aR (λhc0=>?_) (λhc0=>?_)
 .simp only[dF,cG]at hc0;refine zr ?_;unfold iL;rw[ak hc0]
 simp only[eF,dq]at hc0;have hv:¬(gQ a=false\/gQ b=false):=by simp only[not_or,Bool.not_eq_false];first|exact hc0|exact hc0.1
 refine zc ?_ ?_<;>intro hc1
 .refine zr ?_;unfold iL;rw[ai hv,ak hc1]
 refine zc ?_ ?_<;>intro hc2
 .refine zr ?_;unfold iL;rw[ai hv,ai lV,ak hc2]
 refine zc ?_ ?_<;>intro hc3
 .refine zr ?_;unfold iL;rw[ai hv,ai lV,ai (by simpa using hc2),ak hc3]
 refine kF ?_;refine aG (hc:=hC a.pre b.pre ⟨hp0.1.1,hp0.2.1⟩) ?_;refine zr ?_;unfold iL;rw[ai hv,ai lV,ai (by simpa using hc2),ai yD]
def MT:aj:=bj 154
def w830:J2 (cz Y MT):=λod u n hp0=>by
 refine cN ?_;obtain⟨⟨⟨hu0,hu1⟩,hn⟩,hol⟩:=hp0;refine zg ?_;intro u0;refine rj hm (ι:=Unit) (λ_=>[⟨true,.sl 1 ((od).map jS)⟩,⟨true,.int .i64 u⟩,⟨true,.int .i64 (n:Nat)⟩,.un,.un,⟨true,.own 0 1 0 (cV od u).length⟩,.un,.un,.un,.un,.un,.un]) (λ_=>[(0,.buf 1 ((cV od u).map (D.int .i64)))]) 100 (λ_=>True) ?_ ?_
 .refine Bv ?_ ?_<;>intro hc0
  .refine cN ?_;have hou:=aj2 (od:=od) (u:=u) ae;rw[hou]at hol;refine kI ?_;refine qU (he:=lW.sl) (n:=od[u.toNat]!.length) (hn:=aB) (hb:=ae) ?_;refine zg ?_;rw[hou];exact⟨(),trivial,(aY.to [(11,0)] ah ah eL (by repeat(first|exact bp.nil|refine bp.vO ah ah ec ?_|refine bp.KD ah ah ah ?_|refine bp.NN ah ah ah ah ?_|refine bp.nl 11 ah ah ah ec ?_)))⟩
  refine zg ?_;rw[aj1 (od:=od) (u:=u) ae];exact⟨(),trivial,(aY.to [] ah ah eL (by repeat(first|exact bp.nil|refine bp.vO ah ah ec ?_|refine bp.KD ah ah ah ?_|refine bp.NN ah ah ah ah ?_|refine bp.mt ah ah ah ah ?_)))⟩
 .rintro _-
  refine zg ?_;rw[show((n:Nat):Int) -1=((n:Nat):Int) -1-((0:Nat):Int)by omega];refine zf hm (λt=>[.m 1 od jS,.i u,.i n,.u 2,.o 0 1 (cK (cV od u) n t).length,.i (((n:Nat):Int) -1-((t:Nat):Int)),.u 5]) (λt=>[(0,.buf 1 ((cK (cV od u) n t).map (D.int .i64)))]) 103 (λt=>t<=n) (λt=>n-t) ae [(0,0)] ?_;intro t ht;have htl:=Np (cV od u) n t;refine zc ?_ ?_<;>intro hc1
  .refine zg ?_;refine zf hm (λk=>[.m 1 od jS,.i u,.i n,.u 2,.o 0 1 (cK (cV od u) n t).length,.i (((n:Nat):Int) -1-((t:Nat):Int)),.u 1,.i k,.u 1,.e (.bool (oK (λk=>decide ((cK (cV od u) n t)[k]! =(((n:Nat):Int) -1-((t:Nat):Int)))) 0 k)),.u 1]) (λk=>[(0,.buf 1 ((cK (cV od u) n t).map (D.int .i64)))]) 107 (λk=>k<=(cK (cV od u) n t).length) (λk=>(cK (cV od u) n t).length-k) ae [(0,0)] ?_;intro k hk;refine zg ?_;intro _;refine dN ?_ ?_<;>intro hc2
   .refine qx ?_;refine oX (q:=D.int .i64) (xs:=(cK (cV od u) n t)) (v:=.int .i64 (cK (cV od u) n t)[k]!) (hi:=λ_=>ae) (hv:=λ_=>uD) ?_;refine zg ?_;rw[Xa ae];exact iC (k+1) [(0,0)]
   refine cC ?_;obtain rfl:k=(cK (cV od u) n t).length:=ae;refine zc ?_ ?_<;>intro hc3
   .refine dI ?_;refine bc [.int .i64 (((n:Nat):Int) -1-((t:Nat):Int))] ?_;refine cL (q:=D.int .i64) (xs:=(cK (cV od u) n t)) (e:=(((n:Nat):Int) -1-((t:Nat):Int))) (hb:=ae) ?_;refine zg ?_;rw[ak8 hc3,show(((n:Nat):Int) -1-((t:Nat):Int)) -1=((n:Nat):Int) -1-((t+1:Nat):Int)by omega];exact iC (t+1) [(116,0)]
   refine zg ?_;rw[ak7 hc3,show(((n:Nat):Int) -1-((t:Nat):Int)) -1=((n:Nat):Int) -1-((t+1:Nat):Int)by omega];exact iC (t+1) [(0,0)]
  refine cC ?_;obtain rfl:t=n:=ae;refine bm 0 ?_;exact mK
def ON:aj:=bj 24
def w111 (hm:(Y.at 0).cb)     :wkk Y ON (.sl 1 (cI.map D.str)) []:=by
 refine eX ?_;refine bc (cI.map D.str) ?_;refine cC ?_;refine bm 1 ?_;exact mK
def LO:aj:=bj 25
def w135 (hm:(Y.at 0).cb)     :wkk Y LO (.sl 1 (kf.map D.str)) []:=by
 refine eX ?_;refine bc (kf.map D.str) ?_;refine cC ?_;refine bm 1 ?_;exact mK
def OR:aj:=bj 91
def w536:Jw (cz Y OR):=λl s=>by
 refine zg ?_;refine zf hm (λi=>[.m 1 l D.str,.e (.str s),.u 1,.i i,.u 2]) (λi=>[]) 2 (λi=>i<=l.length/\gM (λt=>decide (t=s)) l 0=gM (λt=>decide (t=s)) (l.drop i) i) (λi=>l.length-i) ⟨ae,rfl⟩ [] ?_;rintro i ⟨hi,hr⟩;refine zg ?_;intro u0;refine dN ?_ ?_<;>intro hc0
 .refine zc ?_ ?_<;>intro hc1
  .refine zr ?_;unfold ET;rw[hr,kR ae lV,ai ae]
  refine gI (i+1) [] ?_;rw[hr,jx ae lV]
 refine zr ?_;unfold ET;rw[hr,ml ae];rfl
def vV:aj:=bj 47
def w297 (hm:(Y.at 1).cb)(hA:GH (Y.at 1))(hB:C111 (Y.at 1))(hC:C536 (Y.at 1))(g:Gs)(own:au)(hp0:0<=g.i/\g.i<=990000):dx (Y.at 1) vV.body (GL vV 2 (.str (cW g own).1) (Gs.D (cW g own).2):Ex->List ba->St->Prop) (fU vV (.ptr 0 2 0 0::[.str own])) ⟨1,[(0,.buf 2 [(Gs.D g)])]⟩:=by
 show dx _ _ _ [⟨true,.ptr 0 2 0 0⟩,⟨true,.str own⟩,.un,.un,.un,.un] ⟨1,[(0,.buf 2 [(Gs.D g)])]⟩;refine aQ ?_;refine dI ?_;have r4:=g.eQ 4 ae;have r3:=g.aS.eQ 3 ae;have rz:=Xt cI own;simp only[cI,bE,b8]at rz;refine qx ?_;intro u0;refine dj (hc:=hA g 4 ae iK) ?_;refine cM (g.val 4).toNat (hj:=λ_=>ae) (hb:=λ_=>pF) ?_;refine dd (v:=.str cI[(g.val 4).toNat]!) (hi:=λ_=>pF) ?_;refine zc ?_ ?_<;>intro hc0
 .refine eX ?_;refine dj (hc:=hA g.aS 3 ae iK) ?_;refine eX ?_;refine lZ (hb:=by first|omega|(simp only[cI]at rz⊢;omega)) ?_;refine cC ?_;intro u1;refine Aq ((g.aS.val 3+1+ET cI own)%4) (hn:=by intro _;decide) (hb:=λ_=>Int.tmod_eq_emod_of_nonneg (by first|omega|(simp only[cI]at rz⊢;omega))) ?_;refine cM ((g.aS.val 3+1+ET cI own)%4).toNat (hj:=λ_=>ae) (hb:=λ_=>pF) ?_;refine dd (v:=.str cI[((g.aS.val 3+1+ET cI own)%4).toNat]!) (hi:=λ_=>pF) ?_;refine zg ?_;refine ja trivial jC (dm ah (aw D.str ?_)) (by unfold cW;rw[ak hc0];exact rfl) ah ah;unfold cW;rw[ak hc0]
 refine zg ?_;refine ja trivial jC (dm ah (aw D.str ?_)) (by unfold cW;rw[ai hc0];exact rfl) ah ah;unfold cW;rw[ai hc0]
def Uy:aj:=⟨2,7,[⟨2,none⟩],[[.sl 2 [.a,.a]]],(sq (rg [gb 2 s1,gm (.c (.aL))] [(4,0),(2,1)]) (sq (r1 [gm yE] 3 0) (sq (.block 0 (.loop (sq (sq (r2 [gm s3,gm s0,gl l1,ou l0 l2,gm l3,gmt 4 s0,gmt 4 s3,A2 4 (.ia 2 l5 l6),A2 4 (.ld 2 true l7),A2 4 (.ld 2 true s4),A2 4 (.call 902 [l8,l9] [[.a,.a],[.a,.a]]),ga1 l4 l10] 5 11) (gce s5 0)) (.block 1 (r1 [gm s3,qP l0 TN,gm l1] 3 2))))) (sq (sq (r2 [gm s3,gm s0,gl l1,ou l0 l2,gm l3,gmt 4 s0,gmt 4 s3,A2 4 (.ia 2 l5 l6),A2 4 (.ld 2 true l7),A2 4 (.ld 2 true s4),A2 4 (.eqA false true [.s,.s] l8 l9),ga1 l4 l10] 6 11) (.cond s6 (sq (r1 [gm s0,gm l0] 2 1) .ret) .skip)) (sq (r2 [gm s0,gm s3,gn (.slA 2 l0 none (some l1)),gn (.appN 2 l2),gk 2 true s4,gn (.bsl 2 (.agg [.str [],.str []]) 1 [(0,l4)]),gn (.app 2 l3 l5),gm s0,gm s3,gn (.slA 2 l7 (some l8) none),gn (.app 2 l6 l9),gm l10] 2 11) .ret)))))⟩
def w749 (hA:C902 Y):JS (cz Y Uy):=λl k hp0=>by
 refine zg ?_;refine zf hm (λi=>[.m 2 l Key.D,.u 2,.i i,.p 0 2,.u 2]) (λi=>[(0,.buf 2 [Key.D k])]) 3 (λi=>i<=l.length/\EU l k 0=EU l k i) (λi=>l.length-i) ⟨ae,rfl⟩ [(0,0)] ?_;rintro i ⟨hi,hr⟩;refine zc ?_ ?_<;>intro hc0
 .refine gI (i+1) [(0,0)] ?_;rw[hr,Xy ae hc0.2]
 refine eX ?_;have hk:EU l k 0=i:=by rw[hr];exact Xz (λh=>by rcases hc0 with h1|h1;omega;exact h1)
 refine zc ?_ ?_<;>intro hc1
 .refine zr ?_;rw[<-adZ hk ⟨ae,hc1.2⟩];rfl
 refine kI ?_;refine xU (he:=lW.sl) (n:=(l.take i).length) (hn:=aB) (hb:=zM) ?_;refine cN ?_;refine bc [Key.D k] ?_;refine cL (q:=Key.D) (xs:=l.take i) (e:=k) (hb:=zM) ?_;refine dI ?_;refine pk (xs:=l.take i++[k]) (ys:=l.drop i) (he:=lW.sl) (hb:=Qx) ?_;refine cC ?_;refine bm 37 ?_;refine zr ?_;rw[<-ad1 hk S3];rfl
def sL:aj:=bj 240
def w450 (hm:(Y.at 3).cb)(ws:List au)(t:au)(m0:List (Nat×bn))(hA:C242 (Y.at 3))(hB:C489 (Y.at 3))(hC:C664 (Y.at 3))(hp0:uR m0 0 t)(hp1:look m0 1=some (.buf 1 (ws.map D.str)))(hp2:GK ws t):dx (Y.at 3) sL.body (uG sL (λd m=>d=.tup []/\look m 0=some (.bld (some 9) (t++cx ws).length true)/\look m 9=some (.row (t++cx ws))):Ex->List ba->St->Prop) (fU sL [.ptr 0 2 0 0,.own 1 1 0 ws.length]) ⟨3,m0⟩:=by
 show dx _ _ _ [⟨true,.ptr 0 2 0 0⟩,⟨true,.own 1 1 0 ws.length⟩] ⟨3,m0⟩;obtain⟨⟨q1,q2⟩,q3,q4⟩:=hp2;have hlt:t++cx ws=t++cw [32] ws++[10]:=by unfold cx;simp
 refine aQ ?_;refine cC ?_;refine aG (hc:=hA ws [32] q2 aU q3) (ha:=λ_=>aw (λd=>[d,D.str [32]]) (tM (q:=D.str) (λ_=>rfl) hp1)) (hp:=λ_=>⟨qk (q:=D.str) (λ_=>rfl) hp1,rfl,trivial⟩) ?_;refine dK (nx':=4) (v:=.any) (m':=r7 m0 0 6 (t++cw [32] ws)) (hc:=λK' hK=>hB _ _ K' ⟨_,0,t,rfl,hp0,jo (by decide:0<3) (Nat.le_add_right _ _),q1,ae,hK⟩) (hn:=aU) ?_;refine dI ?_;refine dK (nx':=9) (v:=.any) (m':=r7 (r7 m0 0 6 (t++cw [32] ws)) 0 9 (t++cw [32] ws++[10])) (hc:=λK' hK=>hC _ _ K' ⟨10,0,t++cw [32] ws,rfl,abZ aU,jo (by decide:0<8) (Nat.le_add_right _ _),aB,by rw[cu];exact q4,hK⟩) (hn:=aU) ?_;refine zg ?_

 refine ei trivial jC (dm ah (?_)) ah ⟨rfl,by rw[hlt];exact(y1 aU).1,by rw[hlt];exact(y1 aU).2⟩;rfl
def vL:aj:=⟨2,4,[⟨2,none⟩],ha1,(sq (rg [gb 8 s0,gm cbF] [(3,0),(2,1)]) (sq (r1 [gf 0 s3,gk 5 true l0,gf 1 s1,gk 5 true l2,gn (.eqA false true [.i .i64,.i .i64,.i .i64,.s,.s] l1 l3),gm l4] 2 5) .ret))⟩
def w690 (hm:(Y.at 0).cb):JJ (cz Y vL):=λc x hp0=>by
 exact mK
def vM:aj:=bj 79
def w691 (hm:(Y.at 0).cb)(hA:S7 Y):JK (cz Y vM):=λc x hp0=>by
 exact mK
def zw:aj:=bj 76
def w689 (hA:C690 Y)(hB:C691 Y):JI (cz Y zw):=λl b x hp0=>by
 refine zg ?_;intro u0;refine zf hm (λi=>[.m 8 l eA.D,.e (.fn (bif b then 690 else 691) [.ref 9 [dr.D x] 0 0]),.u 1,.i i,.i l.length,.u 3]) (λi=>[]) 4 (λi=>i<=l.length/\gM (Vf x.v b) l 0=gM (Vf x.v b) (l.drop i) i) (λi=>l.length-i) ⟨ae,rfl⟩ [] ?_;rintro i ⟨hi,hr⟩;refine zc ?_ ?_<;>intro hc0
 .refine qo ?_;cases b
  .refine kI ?_;refine BM (hc:=λ_=>hB l[i]! x ⟨hp0.1 _ (aq ae),hp0.2⟩) ?_;refine zc ?_ ?_<;>intro hc1
   .refine zr ?_;rw[hr,kR ae hc1]
   refine gI (i+1) [] ?_;rw[hr,jx ae hc1]
  .refine kI ?_;refine BM (hc:=λ_=>hA l[i]! x ⟨hp0.1 _ (aq ae),hp0.2⟩) ?_;refine zc ?_ ?_<;>intro hc1
   .refine zr ?_;rw[hr,kR ae hc1]
   refine gI (i+1) [] ?_;rw[hr,jx ae hc1]
 refine zr ?_;rw[hr,ml ae]
def E5:aj:=bj 152
def w829 (hm:(Y.at 0).cb):J1 (cz Y E5):=λal u p hp0=>by
 refine cN ?_;subst hp0;refine iw ?_;intro u0;refine cM 0 (hj:=λhf=>Bool.noConfusion hf) (hb:=λhf=>Bool.noConfusion hf) ?_;refine dd (v:=.int .i64 0) (hi:=λhf=>Bool.noConfusion hf) (hv:=λhf=>Bool.noConfusion hf) ?_;refine cN ?_;refine lZ (hb:=λhf=>Bool.noConfusion hf) ?_;refine qb 0 (hb:=λhf=>Bool.noConfusion hf) ?_;refine FY 0 (hn:=λhf=>Bool.noConfusion hf) (hb:=λhf=>Bool.noConfusion hf) ?_;refine Dl 0 (hb:=λhf=>Bool.noConfusion hf) ?_;refine eX ?_;refine bB (env':=[_,_,_,⟨_,(.bool _)⟩]) ?_;exact mK
def PA:aj:=bj 229
def w1015 (hA:C501 Y):Et (cz Y PA):=λy ns r hp0=>by
 refine zg ?_;refine zf hm (λi=>[.u 3,.i i,.p 0 8,.u 1,.p 1 9,.u 1]) (λi=>[(0,.buf 8 [cF.D y (fdR y ns)]),(1,.buf 9 [Rec.D r])]) 4 (λi=>i<=y.keeps.length/\LA y.keeps r=(y.keeps.drop i).any λk=>decide (k.name=r.name)&&L6 k.v r.v) (λi=>y.keeps.length-i) ⟨ae,rfl⟩ [(0,0),(1,1)] ?_;rintro i ⟨hi,hr⟩;refine zg ?_;intro u0;refine dN ?_ ?_<;>intro hc0
 .refine zc ?_ ?_<;>intro hc1
  .refine zr ?_;rw[hr,wP ae lV]
  refine gI (i+1) [(0,0),(1,1)] ?_;rw[hr,B2 ae (by rcases hc1 with h|h<;>simp_all)]
 refine zr ?_;rw[hr,wO ae]
def Zp:aj:=bj 189
def w816 (hm:(Y.at 0).cb)(hA:C955 Y):J0 (cz Y Zp):=λl nm=>by
 exact mK
end Go.Abs
end
