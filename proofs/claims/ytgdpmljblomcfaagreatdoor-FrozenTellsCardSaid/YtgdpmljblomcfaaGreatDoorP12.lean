/- A part of the proofs. -/
import Derived.Test.YtgdpmljblomcfaaGreatDoorP04
set_option linter.all false
set_option maxRecDepth 60000
set_option maxHeartbeats 2000000
noncomputable section
namespace Go.Abs
variable {Y:Ctx}(hm:(Y.at 0).bR)
def HJ:aj:=bc 207
def w70 (hA:SK Y)(hB:AR Y)(hC:C210 Y)(hD:C211 Y)(hE:C212 Y)(hF:C213 Y)(hG:C214 Y)(hH:C215 Y):zD (cu Y HJ):=fun r hp0=>by
 show dp _ _ _ (⟨true,Rec.D r⟩::.un::.un::.un::.un::.un::.un::.un::.un::.un::.un::.un::.un::.un::.un::.un::.un::.un::.un::.un::.un::.un::.un::.un::.un::.un::.un::.un::.un::.un::.un::.un::.un::.un::.un::.un::.un::.un::.un::[]) ⟨0,[]⟩;refine aO ?_;refine zg ?_;refine wp_cond (fun hc0=>?_) (fun hc0=>?_)
 .try simp only[gF]at hc0
  refine zg ?_;refine fw (bX (aw (D.int .i64) ?_) (aw (D.int .i64) ?_));all_goals (have hq:c7 r=(4,0):=(by rw[c7,ak hc0]);rw[hq];first|done|rfl)
 simp only[dH]at hc0;refine dx ?_;refine aB (hc:=hB r.v hp0.1.2) ?_;refine zg ?_;refine wp_cond (fun hc1=>?_) (fun hc1=>?_)
 .try simp only[gF]at hc1
  refine zg ?_;refine fw (bX (aw (D.int .i64) ?_) (aw (D.int .i64) ?_));all_goals (have hq:c7 r=(5,0):=(by rw[c7,ai jF,ak hc1]);rw[hq];first|done|rfl)
 simp only[dH]at hc1;refine zg ?_;intro u0;refine Bw ?_ ?_<;>intro hc2
 .refine zg ?_;refine fw (bX (aw (D.int .i64) ?_) (aw (D.int .i64) ?_));all_goals (have hq:c7 r=(3,0):=(by rw[c7,ai jF,ai (by simp[hc1]),ak ae]);rw[hq];first|done|rfl)
 refine zg ?_;intro u1;refine fP hm (ι:=Nat) (fun i=>(.un::.un::.un::⟨true,.ptr 0 9 0 0⟩::.un::.un::.un::⟨true,.int .i64 (i:Nat)⟩::⟨true,.int .i64 (r.needs.length:Nat)⟩::.un::⟨true,.sl 3 (r.needs.map br.D)⟩::.un::.un::.un::.un::.un::.un::.un::.un::.un::.un::.un::.un::.un::.un::.un::.un::.un::.un::.un::.un::.un::.un::.un::.un::.un::.un::.un::.un::[])) (fun i=>[(0,.buf 9 [Rec.D r])]) 28 (fun i=>i<=r.needs.length/\lA r=gO (fun i=>jz r r.needs[i]!) i r.needs.length) (fun i=>r.needs.length-i) 0 ⟨ae,rfl⟩ (gtt [(0,0)]) ?_;rintro i ⟨hi,hr⟩;refine zc ?_ ?_<;>intro hc3
 .refine Bp ?_;refine aB (hc:=hC r r.needs[i]! (hp0.2.1 _ (aq ae))) ?_;refine zc ?_ ?_<;>intro hc4
  .refine zg ?_;refine fw (bX (aw (D.int .i64) ?_) (aw (D.int .i64) ?_));all_goals
    have hq:c7 r=(jz r r.needs[i]!,((i:Nat):Int)):=by
     exact pG hc0 hc1 ae ae (LO (by rw[hr,gP ae hc4]) hc4) hc4
    rw[hq];first|done|rfl
  refine gh (i+1) [(0,0)] ?_;rw[hr,j9 ae hc4]
 refine ez ?_;have hn0:lA r=(0,0):=by rw[hr,j8 ae]
 refine zg ?_;intro u2;refine fP hm (ι:=Nat) (fun i=>(.un::.un::.un::⟨true,.ptr 0 9 0 0⟩::.un::.un::.un::.un::.un::.un::.un::.un::.un::.un::.un::⟨true,.int .i64 (i:Nat)⟩::⟨true,.int .i64 (r.bars.length:Nat)⟩::.un::⟨true,.sl 3 (r.bars.map my.D)⟩::.un::.un::.un::.un::.un::.un::.un::.un::.un::.un::.un::.un::.un::.un::.un::.un::.un::.un::.un::.un::[])) (fun i=>[(0,.buf 9 [Rec.D r])]) 33 (fun i=>i<=r.bars.length/\uN r=gO (fun i=>rR r r.bars[i]!) i r.bars.length) (fun i=>r.bars.length-i) 0 ⟨ae,rfl⟩ (gtt [(0,0)]) ?_;rintro i ⟨hi,hr⟩;refine zc ?_ ?_<;>intro hc5
 .refine fG ?_;refine dx ?_;refine aB (hc:=hD r r.bars[i]!.name r.bars[i]!.range (hp0.2.2.1 _ (aq ae)).2.1) ?_;refine zg ?_;refine aQ (fun hc6=>?_) (fun hc6=>?_)
  .simp only[cG,cK]at hc6;have hbe:rR r r.bars[i]! =gM r r.bars[i]!.name r.bars[i]!.range:=by rw[rR,ak hc6]
   refine zg ?_;refine fw (bX (aw (D.int .i64) ?_) (aw (D.int .i64) ?_));all_goals
    have hq:c7 r=(gM r r.bars[i]!.name r.bars[i]!.range,((i:Nat):Int)):=by
     exact pG hc0 hc1 ae ae (Da hn0 (by rw[hr,gP ae (by rw[hbe];exact hc6),hbe]) hc6) hc6
    rw[hq];first|done|rfl
  try simp only[gF]at hc6
  refine ez ?_;refine aB (hc:=hE r.bars[i]!.when' (hp0.2.2.1 _ (aq ae)).2.2) ?_;refine zg ?_;refine wp_cond (fun hc7=>?_) (fun hc7=>?_)
  .simp only[cG]at hc7;have hbe:rR r r.bars[i]! =7:=by rw[rR,ai (fun h=>h hc6),ak hc7]
   refine zg ?_;refine fw (bX (aw (D.int .i64) ?_) (aw (D.int .i64) ?_));all_goals
    have hq:c7 r=((7:Int),((i:Nat):Int)):=by
     exact pG hc0 hc1 ae ae (Da hn0 (by rw[hr,gP ae (by rw[hbe];decide),hbe]) (show(7:Int)≠0 by decide)) (show(7:Int)≠0 by decide)
    rw[hq];first|done|rfl
  simp only[dH]at hc7;have hbz:rR r r.bars[i]! =0:=by rw[rR,ai (fun h=>h hc6),ai (by rw[hc7];simp)]
  refine gh (i+1) [(0,0)] ?_;rw[hr,j9 ae hbz]
 refine ez ?_;have hb0:uN r=(0,0):=by rw[hr,j8 ae]
 refine cx ?_;refine aB (hc:=hF r.feats hp0.2.2.2) ?_;refine zg ?_;refine aQ (fun hc8=>?_) (fun hc8=>?_)
 .try simp only[gF]at hc8
  refine zg ?_;refine fw (bX (aw (D.int .i64) ?_) (aw (D.int .i64) ?_));all_goals
   have hq:c7 r=(11,0):=by
    exact pG hc0 hc1 ae ae (LP hn0 hb0 hc8) aT
   rw[hq];first|done|rfl
 simp only[dH]at hc8;refine zg ?_;intro u3;refine fP hm (ι:=Nat) (fun i=>(.un::.un::.un::⟨true,.ptr 0 9 0 0⟩::.un::.un::.un::.un::.un::.un::.un::.un::.un::.un::.un::.un::.un::.un::.un::.un::.un::.un::.un::.un::.un::⟨true,.int .i64 (i:Nat)⟩::⟨true,.int .i64 (r.feats.length:Nat)⟩::.un::⟨true,.sl 2 (r.feats.map ch.D)⟩::.un::.un::.un::.un::.un::.un::.un::.un::.un::.un::[])) (fun i=>[(0,.buf 9 [Rec.D r])]) 42 (fun i=>i<=r.feats.length/\GX r=gO (fun i=>mC r r.feats[i]!.of) i r.feats.length) (fun i=>r.feats.length-i) 0 ⟨ae,rfl⟩ (gtt [(0,0)]) ?_;rintro i ⟨hi,hr⟩;refine zc ?_ ?_<;>intro hc9
 .refine zg ?_;intro u4;refine Ip hm (ι:=Nat) (fun j=>(.un::.un::.un::⟨true,.ptr 0 9 0 0⟩::.un::.un::.un::.un::.un::.un::.un::.un::.un::.un::.un::.un::.un::.un::.un::.un::.un::.un::.un::.un::.un::⟨true,.int .i64 (i:Nat)⟩::⟨true,.int .i64 (r.feats.length:Nat)⟩::.un::⟨true,.sl 2 (r.feats.map ch.D)⟩::.un::⟨true,.int .i64 (j:Nat)⟩::⟨true,.int .i64 (r.feats[i]!.of.length:Nat)⟩::.un::⟨true,.sl 1 (r.feats[i]!.of.map D.str)⟩::.un::.un::.un::⟨true,.int .i64 (i:Nat)⟩::.un::[])) (fun j=>[(0,.buf 9 [Rec.D r])]) 53 (fun j=>j<=r.feats[i]!.of.length/\mC r r.feats[i]!.of=fM (fun j=>nU r r.feats[i]!.of[j]!) j r.feats[i]!.of.length) (fun j=>r.feats[i]!.of.length-j) 0 ⟨ae,rfl⟩ (gtt [(0,0)]) ?_;rintro j ⟨hj,hjr⟩;refine zc ?_ ?_<;>intro hc10
  .refine uK ?_;refine aB (hc:=hG r r.feats[i]!.of[j]! (jm.it hp0.2.2.2 _ (aq ae) _ (aq ae))) ?_;refine zc ?_ ?_<;>intro hc11
   .refine zg ?_;refine fw (bX (aw (D.int .i64) ?_) (aw (D.int .i64) ?_));all_goals
     have hq:c7 r=(nU r r.feats[i]!.of[j]!,((i:Nat):Int)):=by
      have hie:mC r r.feats[i]!.of=nU r r.feats[i]!.of[j]! :=by rw[hjr,lu ae hc11]
      exact pG hc0 hc1 ae ae (xR hn0 hb0 hc8 (by rw[hr,gP (f:=(fun i=>mC r r.feats[i]!.of)) ae (by rw[hie];exact hc11),hie])) hc11
     rw[hq];first|done|rfl
   refine gh (j+1) [(0,0)] ?_;rw[hjr,pK ae hc11]
  refine gh (i+1) [(0,0)] ?_;rw[hr,j9 (f:=(fun i=>mC r r.feats[i]!.of)) ae (by rw[hjr,pJ ae])]
 refine ez ?_;have hpz:ef r=(0,0):=xR hn0 hb0 hc8 (by rw[hr,j8 ae]);have hgd:Fv r:=⟨⟨hc0,hc1⟩,⟨ae,ae⟩,hpz⟩;refine mc ?_;refine aB (hc:=hH r ⟨hgd,hp0⟩) ?_;refine Dm fun u5=>?_;specialize u5 rfl rfl
 refine kQ ?_;refine bp (env':=(_::_::_::_::_::_::_::_::_::_::_::_::_::_::_::_::_::_::_::_::_::_::_::_::_::_::_::_::_::_::_::_::_::_::_::_::_::_::⟨_,(.bool _)⟩::[])) ?_;refine dE ?_ ?_<;>intro hc12
 .refine zg ?_;refine fw (bX (aw (D.int .i64) ?_) (aw (D.int .i64) ?_));all_goals
   have hq:c7 r=(3,0):=by
    rw[wT hc0 hc1 ae ae hpz,ak ae]
   rw[hq];first|done|rfl
 refine zg ?_;refine fw (bX (aw (D.int .i64) ?_) (aw (D.int .i64) ?_));all_goals
  have hq:c7 r=(0,0):=by
   rw[wT hc0 hc1 ae ae hpz,ai ae]
  rw[hq];first|done|rfl
def lv:aj:=bc 35
def w502 {Y:Ctx}(hm:(Y.at 2).bR)(shop:List bN)(w:b6)(x:dm)(c:List Int)(kvs:List D)(hA:C274 (Y.at 2))(hB:C689 (Y.at 2))(hp0:LinP shop w x c)(hp1:Vo w.us kvs):dp (Y.at 2) lv.body (rI lv (fun d m=>d=.int .i64 (kN shop w.us x c).1/\look m 0=some (.buf 1 ((kN shop w.us x c).2.map (D.int .i64)))/\look m 1=some (.mpb kvs)):Ex->List aX->St->Prop) (fq lv [.agg [.sl 2 (shop.map bN.D),.sl 3 (w.us.map c9.D),.fn 5000000 [.it 1],.own 0 1 0 c.length],dm.D x]) ⟨2,[(0,.buf 1 (c.map (D.int .i64))),(1,.mpb kvs)]⟩:=by
 show dp _ _ _ [⟨true,.agg [.sl 2 (shop.map bN.D),.sl 3 (w.us.map c9.D),.fn 5000000 [.it 1],.own 0 1 0 c.length]⟩,⟨true,dm.D x⟩,.un,.un,.un,.un,.un,.un,.un,.un,.un,.un,.un,.un,.un,.un,.un,.un,.un,.un,.un,.un,.un,.un,.un,.un,.un,.un] ⟨2,[(0,.buf 1 (c.map (D.int .i64))),(1,.mpb kvs)]⟩;refine aO ?_;refine ko ?_;have hcl:=hp0.2;refine cH ?_;refine pZ (v:=.fn 5000000 [.it 1]) ?_;refine cx ?_;refine bg (Key.D (⟨x.name,[]⟩)) ?_;refine ae4 (.tup [.int .i64 (yv w.us x.name []).1,.bool (yv w.us x.name []).2]) (hb:=hp1.1) (hv:=hp1.2 _ _) ?_;refine zc ?_ ?_<;>intro hc0
 .refine zg ?_;refine dD trivial iF (cU ah (?_)) ah ⟨by rw[FQ (Hx (Ij hc0))],by rw[FQ (Hx (Ij hc0))];exact rfl,cW⟩;rfl
 refine cx ?_;obtain⟨j,hj,hj2,hj1,hjl⟩:=ZK hc0;have hun:=hp0.1.2.1 _ (aq hjl);have h16:w.us[j]!.cands.length<=16:=hun.1;have hpl:=Yd (us:=w.us) (v:=x.v) (t:=true) hj;rw[hj2];refine wA ?_;refine bh 3 ?_ (he:=aab) (hm:=aab);refine cx ?_;refine RL [.ref 9 [dm.D x] 0 0] ?_;refine aB (hc:=hB w.us[j]!.cands true x ⟨fun c hc=>(hun.2 c hc).1,hp0.1.2.2⟩) ?_;refine dx ?_;rw[<-hpl];refine zc ?_ ?_<;>intro hc1
 .refine zg ?_;refine dD trivial iF (cU ah (?_)) ah ⟨by rw[FQ hc1],by rw[FQ hc1];exact rfl,cW⟩;rfl
 refine cH ?_;obtain⟨k,hk,hkl⟩:=ae1 hj hc1;rw[hk];refine Fa ?_;refine qY hm (ι:=Unit) (fun _=>[.un,.un,.un,⟨true,.ptr 2 4 0 0⟩,⟨true,.ref 9 [dm.D x] 0 0⟩,.un,.un,⟨true,.int .i64 (j:Nat)⟩,.un,⟨true,.int .i64 (k:Nat)⟩,.un,.un,.un,.un,.un,.un,⟨true,.int .u64 (PM shop w.us[j]!.cands[k]! x)⟩,.un,.un,.un,.un,.un,.un,.un,.un,.un,.un,.un]) (fun _=>[(0,.buf 1 (c.map (D.int .i64))),(1,.mpb kvs),(2,.buf 4 [.agg [.sl 2 (shop.map bN.D),.sl 3 (w.us.map c9.D),.fn 5000000 [.it 1],.own 0 1 0 c.length]])]) 60 (fun _=>Vt shop w.us[j]!.cands[k]! x) ?_ ?_
 .refine zc ?_ ?_<;>intro hc2
  .refine zg ?_;obtain⟨hsq,hsv⟩:=sum_a (shop:=shop) hc2;exact⟨(),hsq,(aV.to [(2,2)] ah ah aai aag)⟩
  refine fG ?_;refine cz w.us[j]!.cands[k]!.sh.toNat (hj:=fun hf=>Qd) (hb:=fun hf=>Qd) ?_;refine cH ?_;refine c8 (v:=.str shop[w.us[j]!.cands[k]!.sh.toNat]!.name) (hi:=fun hf=>Qd) ?_;refine zc ?_ ?_<;>intro hc3
  .refine zg ?_;refine dD trivial iF (cU ah (?_)) ah ⟨by rw[Al hj hk (by rw[PN hc2 hc3];decide),PN hc2 hc3],by rw[Al hj hk (by rw[PN hc2 hc3];decide)];exact rfl,cW⟩;rfl
  refine cH ?_;have hs0:0<=w.us[j]!.cands[k]!.sh/\w.us[j]!.cands[k]!.sh<(shop.length:Int):=ae;have hss:=hp0.1.1 _ (aq (show w.us[j]!.cands[k]!.sh.toNat<shop.length by omega));have hlm:=yR (s:=shop[w.us[j]!.cands[k]!.sh.toNat]!) (nm:=x.name) (v:=x.v);refine wA ?_;refine aB (hc:=hA shop[w.us[j]!.cands[k]!.sh.toNat]! x.name x.v ⟨hss,hp0.1.2.2⟩) ?_;refine zc ?_ ?_<;>intro hc4
  .refine zg ?_;refine dD trivial iF (cU ah (?_)) ah ⟨by rw[Al hj hk (by rw[PO hc3 hc4];decide),PO hc3 hc4],by rw[Al hj hk (by rw[PO hc3 hc4];decide)];exact rfl,cW⟩;rfl
  refine cx ?_;have hfl:(jI shop[w.us[j]!.cands[k]!.sh.toNat]! x.name x.v).toNat<shop[w.us[j]!.cands[k]!.sh.toNat]!.es.length:=by rcases hlm with h|⟨q,h,h2⟩<;>omega
  refine zg ?_;obtain⟨hsq,hsv⟩:=sum_c hc3 hc4;exact⟨(),hsq,(aV.to [(2,2)] ah ah aai aag)⟩
 .intro _ hsp;refine zg ?_;refine aQ (fun hc5=>?_) (fun hc5=>?_)
  .simp only[cG,cK]at hc5;have hsh:ny shop w.us[j]!.cands[k]! x=13:=by rw[hsp,ai hc5]
   refine zg ?_;refine dD trivial iF (cU ah (?_)) ah ⟨by rw[Al hj hk (by rw[hsh];decide),hsh],by rw[Al hj hk (by rw[hsh];decide)];exact rfl,cW⟩;rfl
  simp only[dH,bn]at hc5;have hsh:ny shop w.us[j]!.cands[k]! x=0:=by rw[hsp,ak hc5]
  have hpe:=ae2 (c:=c) hj hk hsh;refine qo ?_;refine kg ((c.set j (k:Int)).map (D.int .i64)) (hi:=j6) (he:=qV ae _) ?_;refine zg ?_;intro u0;refine fP hm (ι:=Nat) (fun i=>[.un,.un,.un,⟨true,.ptr 2 4 0 0⟩,⟨true,.ref 9 [dm.D x] 0 0⟩,.un,.un,.un,.un,.un,.un,.un,.un,.un,.un,.un,.un,.un,⟨true,.int .i64 (i:Nat)⟩,⟨true,.int .i64 (x.feats.length:Nat)⟩,.un,⟨true,.sl 1 ((x.feats).map D.str)⟩,.un,.un,.un,.un,.un,.un]) (fun i=>[(0,.buf 1 ((vH w.us x (c.set j (k:Int)) i).map (D.int .i64))),(1,.mpb kvs),(2,.buf 4 [.agg [.sl 2 (shop.map bN.D),.sl 3 (w.us.map c9.D),.fn 5000000 [.it 1],.own 0 1 0 c.length]])]) 74 (fun i=>i<=x.feats.length/\(kN shop w.us x c)=xe w.us x (x.feats.drop i) (vH w.us x (c.set j (k:Int)) i)) (fun i=>x.feats.length-i) 0 ⟨ae,hpe⟩ (aV.to [(2,2)] ah ah eD zH) ?_;rintro i ⟨hi,hr⟩;have hfl:=Cs (us:=w.us) (x:=x) (c:=c.set j (k:Int)) i;rw[List.length_set]at hfl;refine zc ?_ ?_<;>intro hc6
  .refine wA ?_;refine pZ (v:=.fn 5000000 [.it 1]) ?_;refine dx ?_;refine bg (Key.D (⟨x.name,(x.feats)[i]!⟩)) ?_;refine ae4 (.tup [.int .i64 (yv w.us x.name x.feats[i]!).1,.bool (yv w.us x.name x.feats[i]!).2]) (hb:=hp1.1) (hv:=hp1.2 _ _) ?_;refine zc ?_ ?_<;>intro hc7
   .refine zg ?_;refine dD trivial iF (cU ah (?_)) ah ⟨by rw[hr,oK ae,ak (Hx (Ij hc7))],by rw[hr,oK ae,ak (Hx (Ij hc7))];exact rfl,cW⟩;rfl
   refine cH ?_;obtain⟨p,hp,hp2,hp3,hpl2⟩:=ZK hc7;have hun2:=hp0.1.2.1 _ (aq hpl2);have h162:w.us[p]!.cands.length<=16:=hun2.1;have hpp:=Yd (us:=w.us) (v:=x.v) (t:=false) hp;rw[hp2];refine pA ?_;refine RL [.ref 9 [dm.D x] 0 0] ?_;refine aB (hc:=hB w.us[p]!.cands false x ⟨fun c hc=>(hun2.2 c hc).1,hp0.1.2.2⟩) ?_;refine dx ?_;rw[<-hpp];refine zc ?_ ?_<;>intro hc8
   .refine zg ?_;refine dD trivial iF (cU ah (?_)) ah ⟨by rw[hr,oK ae,ak hc8],by rw[hr,oK ae,ak hc8];exact rfl,cW⟩;rfl
   refine cH ?_;obtain⟨q,hq,hql⟩:=ae1 hp hc8;have hfs:(vH w.us x (c.set j (k:Int)) (i+1))=(vH w.us x (c.set j (k:Int)) i).set p (q:Int):=by rw[vH,hq,hp,Int.toNat_natCast]
   rw[hq];refine jS ?_;refine kg ((vH w.us x (c.set j (k:Int)) (i+1)).map (D.int .i64)) (hi:=j6) (he:=by rw[hfs];exact qV ae _) ?_;refine zg ?_;exact⟨i+1,⟨ae,by rw[hr,oK ae,ai ae];rfl⟩,ae,(aV.to [(2,2)] ah ah eD zH)⟩
  refine zg ?_;refine dD trivial iF (cU ah (?_)) ah ⟨by rw[hr,xf ae],by rw[hr,xf ae];exact rfl,cW⟩;rfl
def Ui:aj:=bc 107
def w417 (hA:C628 Y)(hB:C629 Y):IX (cu Y Ui):=fun w c u hp0=>by
 refine ko ?_;obtain⟨⟨hk,hkc⟩,⟨hl1,hl2⟩,hmn,hmb⟩:=BK hp0;have huc:u<c.length:=hp0.2.2.1;have hul:u<w.us.length:=by have:=(qC hp0.2.1).1;omega
 refine fG ?_;refine c8 (v:=ei.D (aY w c u)) (hi:=fun _=>ae) ?_;refine zg ?_;refine zf hm (fun k=>[.u 1,.m 1 c (D.int .i64),.i u,.u 1,.p 1 1,.i k,.p 2 8,.u 2,.o 0 3 (fF w c u (aY w c u).needs k).length,.u 3]) (fun k=>[(0,.buf 3 ((fF w c u (aY w c u).needs k).map wC.D)),(1,.buf 1 [b6.D w]),(2,.buf 8 [ei.D (aY w c u)])]) 18 (fun k=>k<=(aY w c u).needs.length) (fun k=>(aY w c u).needs.length-k) ae [(0,1),(15,2)] ?_;intro k hk1;have hlk:=pV (w:=w) (c:=c) (u:=u) (l:=(aY w c u).needs) k;refine zg ?_;intro u0;refine dE ?_ ?_<;>intro hc0
 .refine wA ?_;refine c8 (v:=.sl 3 ((((aY w c u).needs)[k]!).map Want.D)) (hi:=fun hf=>cr) ?_;refine zg ?_;refine wp_cond (fun hc1=>?_) (fun hc1=>?_)
  .simp only[cG]at hc1;have hst:(fF w c u (aY w c u).needs k)++[⟨2,((u:Nat):Int),((k:Nat):Int)⟩]=(fF w c u (aY w c u).needs (k+1)):=by rw[OB hc1]
   refine ez ?_;refine bg (wC.D ⟨2,((u:Nat):Int),((k:Nat):Int)⟩) ?_;refine ba [wC.D ⟨2,((u:Nat):Int),((k:Nat):Int)⟩] ?_;refine cJ (q:=wC.D) (xs:=(fF w c u (aY w c u).needs k)) (e:=⟨2,((u:Nat):Int),((k:Nat):Int)⟩) (hb:=ae) ?_;refine zg ?_;rw[hst];exact iq (k+1) [(37,0),(1,1),(2,2)]
  simp only[dH]at hc1;have hst:(fF w c u (aY w c u).needs k)=(fF w c u (aY w c u).needs (k+1)):=by rw[OC hc1]
  refine zg ?_;rw[hst];exact iq (k+1) [(0,0),(1,1),(2,2)]
 refine dx ?_;obtain rfl:k=(aY w c u).needs.length:=ae;refine zg ?_;rw[show(fF w c u (aY w c u).needs (aY w c u).needs.length)=((fF w c u (aY w c u).needs (aY w c u).needs.length)++jY w c u (aY w c u).bars 0)from(gD _).symm];refine zf hm (fun q=>[.u 1,.m 1 c (D.int .i64),.i u,.u 1,.p 1 1,.u 1,.p 2 8,.u 2,.o 0 3 ((fF w c u (aY w c u).needs (aY w c u).needs.length)++jY w c u (aY w c u).bars q).length,.i q,.u 2]) (fun q=>[(0,.buf 3 (((fF w c u (aY w c u).needs (aY w c u).needs.length)++jY w c u (aY w c u).bars q).map wC.D)),(1,.buf 1 [b6.D w]),(2,.buf 8 [ei.D (aY w c u)])]) 24 (fun q=>q<=(aY w c u).bars.length) (fun q=>(aY w c u).bars.length-q) ae [(0,0),(1,1),(2,2)] ?_;intro q hq;have hlq:=wM (w:=w) (c:=c) (u:=u) (b:=(aY w c u).bars) q;have hlk:=pV (w:=w) (c:=c) (u:=u) (l:=(aY w c u).needs) (aY w c u).needs.length;have hlt:((fF w c u (aY w c u).needs (aY w c u).needs.length)++jY w c u (aY w c u).bars q).length<=48:=by rw[ct];omega
 refine zg ?_;intro u1;refine dE ?_ ?_<;>intro hc2
 .refine zg ?_;refine wp_cond (fun hc3=>?_) (fun hc3=>?_)
  .have hst:((fF w c u (aY w c u).needs (aY w c u).needs.length)++jY w c u (aY w c u).bars q)++[⟨3,((u:Nat):Int),((q:Nat):Int)⟩]=((fF w c u (aY w c u).needs (aY w c u).needs.length)++jY w c u (aY w c u).bars (q+1)):=by rw[NK hc3,<-fj]
   refine ez ?_;refine bg (wC.D ⟨3,((u:Nat):Int),((q:Nat):Int)⟩) ?_;refine ba [wC.D ⟨3,((u:Nat):Int),((q:Nat):Int)⟩] ?_;refine cJ (q:=wC.D) (xs:=((fF w c u (aY w c u).needs (aY w c u).needs.length)++jY w c u (aY w c u).bars q)) (e:=⟨3,((u:Nat):Int),((q:Nat):Int)⟩) (hb:=ae) ?_;refine zg ?_;rw[hst];exact iq (q+1) [(42,0),(1,1),(2,2)]
  have hst:((fF w c u (aY w c u).needs (aY w c u).needs.length)++jY w c u (aY w c u).bars q)=((fF w c u (aY w c u).needs (aY w c u).needs.length)++jY w c u (aY w c u).bars (q+1)):=by rw[NJ hc3]
  refine zg ?_;rw[hst];exact iq (q+1) [(0,0),(1,1),(2,2)]
 refine cx ?_;obtain rfl:q=(aY w c u).bars.length:=ae;rw[show((fF w c u (aY w c u).needs (aY w c u).needs.length)++jY w c u (aY w c u).bars (aY w c u).bars.length)=A9 w c u from rfl];refine bh 0 ?_;exact mr
def Mn:aj:=bc 62
def w186 (hA:U5 Y)(hB:C417 Y):tX (cu Y Mn):=fun w c hp0=>by
 refine Bo ?_;refine aB (hc:=hA (w) (c) (by first|assumption|omega|exact hp0.1)) ?_;refine zg ?_;refine aQ (fun hc0=>?_) (fun hc0=>?_)
 .try simp only[gF]at hc0
  refine zr ?_;rw[show mq w c=[]from ak hc0];rfl
 simp only[dH]at hc0;have hml:=Oy hc0;have hwl:=Ei hp0.1 hc0;refine ez ?_;refine cz (0) (hj:=fun hf=>cr) (hb:=fun hf=>cr) ?_;refine zc ?_ ?_<;>intro hc1
 .exact absurd hc1 (by have:=hp0.2;omega)
 refine zg ?_;refine zf hm (fun u=>[.u 1,.m 1 c (D.int .i64),.u 1,.p 1 1,.u 2,.o 0 3 (gB w c u).length,.i u,.u 2]) (fun u=>[(0,.buf 3 ((gB w c u).map wC.D)),(1,.buf 1 [b6.D w])]) 12 (fun u=>u<=c.length) (fun u=>c.length-u) ae [(0,1)] ?_;intro u hu;have hlu:=hwl u hu;refine zg ?_;intro u0;refine dE ?_ ?_<;>intro hc2
 .refine zc ?_ ?_<;>intro hc3
  .refine cH ?_;have hone:=Rh (u:=u) hp0 hc0 ae ae;have hol:=LH hone;have hst:gB w c u++A9 w c u=gB w c (u+1):=(PY ae).symm;refine ko ?_;refine pf (q:=wC.D) (xs:=gB w c u) (ys:=A9 w c u) (he:=lT.sl) (hb:=ae) ?_;refine zg ?_;rw[hst];exact iq (u+1) [(26,0),(1,1)]
  refine zg ?_;rw[show gB w c u=gB w c (u+1)from(PX ae).symm];exact iq (u+1) [(0,0),(1,1)]
 refine cx ?_;obtain rfl:u=c.length:=ae;rw[show gB w c c.length=mq w c from(ai (by rw[hc0];simp)).symm];refine bh 0 ?_;exact mr
def Mm:aj:=bc 57
def w52 {Y:Ctx}(hm:(Y.at 0).bR)(hA:U5 Y)(hB:C186 Y):P5 (cu Y Mm):=fun w c hp0=>by
 refine qo ?_;refine aB (hc:=hA (w) (c) (by first|assumption|exact hp0.1)) ?_;refine zr ?_;simp
def HQ:aj:=bc 54
def w506 (hA:U5 Y)(hB:C629 Y):Jb (cu Y HQ):=fun w c hp0=>by
 refine zc ?_ ?_<;>intro hc0
 .refine zr ?_;rw[ajf hc0];rfl
 refine cx ?_;obtain⟨hcl,⟨hc1,hc48⟩,hcw⟩:=CY hc0;refine cx ?_;intro u0;refine YF c.length ?_;refine ko ?_;refine cz 0 (hj:=fun _=>rfl) (hb:=fun _=>ae) ?_;refine cx ?_;refine sF 0 (hj:=fun _=>rfl) (hb:=fun _=>ae) ?_;refine kg ((nu c).map D.bool) (hi:=by rw[List.length_replicate];omega) (he:=acY ae) ?_;refine zg ?_;refine zf hm (fun i=>[.u 1,.m 1 c (D.int .i64),.u 1,.p 1 1,.u 1,.o 0 1 c.length,.i i,.u 14]) (fun i=>[(0,.buf 1 ((sz w c i (nu c)).map D.bool)),(1,.buf 1 [b6.D w])]) 18 (fun i=>i<=c.length) (fun i=>c.length-i) ae [(8,0),(0,1)] ?_;intro i hi;have hI0:=Rn (w:=w) i (acX (c:=c));refine zg ?_;intro u1;refine dE ?_ ?_<;>intro hc1
 .refine zg ?_;refine Z0 hm (fun j=>[.u 1,.m 1 c (D.int .i64),.u 1,.p 1 1,.u 1,.o 0 1 c.length,.i i,.u 1,.i j,.u 12]) (fun j=>[(0,.buf 1 ((oD w c j (sz w c i (nu c))).map D.bool)),(1,.buf 1 [b6.D w])]) 23 (fun j=>j<=c.length) (fun j=>c.length-j) ae [(0,0),(1,1)] ?_;intro j hj;have hI1:=BG (w:=w) j hI0;have hl1:=hI1.1;refine zg ?_;intro u2;refine dE ?_ ?_<;>intro hc2
  .refine qo ?_;refine oS (q:=D.bool) (xs:=(oD w c j (sz w c i (nu c)))) (v:=.bool (oD w c j (sz w c i (nu c)))[j]!) (hi:=fun _=>ae) (hv:=fun _=>uy) ?_;refine zc ?_ ?_<;>intro hc3
   .refine zg ?_;rw[<-ajb (w:=w) (c:=c) (is:=(sz w c i (nu c))) (j:=j) (by rw[hc3];simp)];exact iq (j+1) [(0,0),(1,1)]
   refine cx ?_;have hcj:=hI1.2 j hc3;have hml:fN w=true/\xb w c=true:=by unfold ik at hc0;simpa using hc0
   obtain⟨⟨hcj2,hcje⟩,⟨hn24,_⟩,hmw,_⟩:=BK (w:=w) (c:=c) (u:=j) ⟨⟨hp0,hml.1⟩,hml.2,ae,hcj⟩;refine Fa ?_;refine c8 (v:=.sl 1 ((aY w c j).needs.map jC)) (hi:=fun _=>ae) ?_;refine zg ?_;refine Z0 hm (fun k=>[.u 1,.m 1 c (D.int .i64),.u 1,.p 1 1,.u 1,.o 0 1 c.length,.i i,.u 1,.i j,.u 2,.i k,.i ((aY w c j).needs.length:Nat),.u 1,.m 1 (aY w c j).needs jC,.u 6]) (fun k=>[(0,.buf 1 ((A7 w c (oD w c j (sz w c i (nu c))) ((aY w c j).needs.take k)).map D.bool)),(1,.buf 1 [b6.D w])]) 47 (fun k=>k<=(aY w c j).needs.length) (fun k=>(aY w c j).needs.length-k) ae [(0,0),(1,1)] ?_;intro k hk;have hI2:=Hj (w:=w) ((aY w c j).needs.take k) hI1;refine zc ?_ ?_<;>intro hc4
   .refine ez ?_;refine c8 (v:=.sl 3 ((aY w c j).needs[k]!.map Want.D)) (hi:=fun _=>ae) ?_;refine zg ?_;intro u3;refine Z0 hm (fun q=>[.u 1,.m 1 c (D.int .i64),.u 1,.p 1 1,.u 1,.o 0 1 c.length,.i i,.u 1,.i j,.u 2,.i k,.i ((aY w c j).needs.length:Nat),.u 1,.m 1 (aY w c j).needs jC,.u 1,.i q,.i ((aY w c j).needs[k]!.length:Nat),.u 1,.m 3 (aY w c j).needs[k]! Want.D,.u 1]) (fun q=>[(0,.buf 1 ((C1 w c (A7 w c (oD w c j (sz w c i (nu c))) ((aY w c j).needs.take k)) ((aY w c j).needs[k]!.take q)).map D.bool)),(1,.buf 1 [b6.D w])]) 54 (fun q=>q<=(aY w c j).needs[k]!.length) (fun q=>(aY w c j).needs[k]!.length-q) ae [(0,0),(1,1)] ?_;intro q hq;have hI3:=Hl (w:=w) ((aY w c j).needs[k]!.take q) hI2;have hl3:=hI3.1;refine zc ?_ ?_<;>intro hc5
    .refine dx ?_;have hmx:=hmw _ (aq (show k<(aY w c j).needs.length by omega)) _ (aq (show q<(aY w c j).needs[k]!.length by omega));have hxu:=hmx.2.1;refine dx ?_;refine bS _ ?_;refine wA ?_;refine oS (q:=D.bool) (xs:=(C1 w c (A7 w c (oD w c j (sz w c i (nu c))) ((aY w c j).needs.take k)) ((aY w c j).needs[k]!.take q))) (v:=.bool (C1 w c (A7 w c (oD w c j (sz w c i (nu c))) ((aY w c j).needs.take k)) ((aY w c j).needs[k]!.take q))[(aY w c j).needs[k]![q]!.u.toNat]!) (hi:=fun _=>ae) (hv:=fun _=>uy) ?_;refine qo ?_;refine kg ((XE w c (C1 w c (A7 w c (oD w c j (sz w c i (nu c))) ((aY w c j).needs.take k)) ((aY w c j).needs[k]!.take q)) (aY w c j).needs[k]![q]!).map D.bool) (hi:=j6) (he:=by rw[b8];exact aeT ae _) ?_;refine zg ?_;rw[<-aje ae];exact iq (q+1) [(0,0),(1,1)]
    refine zg ?_;rw[eU (show(aY w c j).needs[k]!.length<=q by omega),<-ajd ae];exact iq (k+1) [(0,0),(1,1)]
   refine zg ?_;rw[eU (show(aY w c j).needs.length<=k by omega),<-ajc hc3];exact iq (j+1) [(0,0),(1,1)]
  refine zg ?_;obtain rfl:j=c.length:=ae;rw[show oD w c c.length (sz w c i (nu c))=sz w c (i+1) (nu c)from rfl];exact iq (i+1) [(0,0),(1,1)]
 refine cx ?_;obtain rfl:i=c.length:=ae;have hl0:=hI0.1;rw[<-Rp hc0]at hl0⊢;rw[<-hl0];refine bh 0 ?_;exact mr
def Bk:aj:=⟨2,16,[⟨2,none⟩],ha1,(sq (rg [gb 5 s0,gb 5 s1,gm rM] [(3,0),(4,1),(2,2)]) (sq (sq (r2 [gk 5 true s3,gx 209 [l0] ha5,gno l1,gm l2,uD 3 (.ld 5 true s4),uD 3 (.call 209 [l4] ha5),uD 3 (.un .not l5),Q3 l3 l6,gm l7,uD 8 (.ld 5 true s3),uD 8 (.call 530 [l9] ha5),uD 8 (.ld 5 true s4),uD 8 (.call 530 [Xg] ha5),uD 8 (.eqA false true [.i .i64,.i .i64,.i .i64,.s,.s] l10 l12),Q3 l8 l13] 5 14) (.cond s5 (sq (r1 [gm rM] 2 0) .ret) .skip)) (sq (sq (r2 [gf 0 s3,gd l0,gf 0 s4,gd l2,gx 532 [l1,l3] si,gf 1 s3,gd l5,gf 1 s4,gd l7,gx 532 [l6,l8] si,gf 2 s3,gd l10,gf 2 s4,gd l12,gx 532 [Xg,l13] si,gn (.bsl 1 (.int .i64 0) 3 [(0,l4),(1,l9),(2,l14)]),gx 531 [l15] [[.sl 1 [.a]]],gm l16] 6 17) (sq (r1 [gm s6,qJ l0 rM] 7 1) (.cond s7 (sq (r1 [gm s6,gm l0] 2 1) .ret) .skip))) (sq (sq (r1 [gf 3 s3,gd l0,Hh l1 cse] 8 2) (.cond s8 (sq (r1 [gm Kq] 2 0) .ret) .skip)) (sq (sq (r1 [gf 3 s4,gd l0,Hh l1 cse] 9 2) (.cond s9 (sq (r1 [gn (.mv (.c (.int .i64 (-1))))] 2 0) .ret) .skip)) (sq (rt [gf 3 s3,gd l0,gx 533 [l1,(i8 46)] si,gf 3 s4,gd l3,gx 533 [l4,(i8 46)] si,gm l2,gm l5] [(11,6),(12,7)]) (sq (sq (r1 [gm rM] 10 0) (.block 0 (.loop (sq (sq (r1 [gm H5,gm s11,gl l1,lz l0 l2,gm l3,gmt 4 H5,gmt 4 R5,sg 4 (.len l6),sg 4 (VF l5 l7),UR l4 l8] 13 9) (US s13 0)) (sq (.block 1 (sq (r2 [gm s11,gm H5,ga 1 l0 l1,gd l2,gm R5,gm H5,ga 1 l4 l5,gd l6,gx 534 [l3,l7] si,gm l8] 14 9) (sq (r1 [gm s14,qJ l0 rM] 15 1) (.cond s15 (sq (r1 [gm s14,gm l0] 2 1) .ret) .skip)))) (r1 [gm H5,mE l0 Kq,gm l1] 10 2)))))) (sq (r1 [gm s11,gl l0,gm R5,gl l2,gx 532 [l1,l3] si,gm l4] 2 5) .ret))))))))⟩
def w295 (hA:AR Y)(hB:C530 Y)(hC:C531 Y)(hD:C532 Y)(hE:U6 Y)(hF:C534 Y):tR (cu Y Bk):=fun a b hp0=>by
 refine zg ?_;refine aQ (fun hc0=>?_) (fun hc0=>?_)
 .simp only[dI,cG,bn]at hc0;refine zr ?_;rcases hc0 with hc0|hc0
  .unfold iL;rw[ak hc0]
  .exact(Fk hc0).symm
 simp only[gC,dH,cK]at hc0;have hv:¬(gy a=false\/gy b=false):=by simp only[not_or,Bool.not_eq_false];first|exact hc0|exact hc0.1
 refine fG ?_;refine ez ?_;refine ba ([dq a.major b.major,dq a.minor b.minor,dq a.patch b.patch].map (D.int .i64)) ?_;refine aB (hc:=hC [dq a.major b.major,dq a.minor b.minor,dq a.patch b.patch]) (ha:=fun _=>aw (fun d=>[d]) (tD (q:=D.int .i64) (xs:=[dq a.major b.major,dq a.minor b.minor,dq a.patch b.patch]) (fun _=>rfl) ah)) (hp:=fun _=>⟨qf (q:=D.int .i64) (xs:=[dq a.major b.major,dq a.minor b.minor,dq a.patch b.patch]) (fun _=>rfl) ah,trivial⟩) ?_;refine zg ?_;refine aQ (fun hc1=>?_) (fun hc1=>?_)
 .simp only[cG,cK]at hc1;refine zr ?_;exact Wy hv hc1
 simp only[dH,bn]at hc1;obtain⟨z1,z2,z3⟩:=Wz hc1;refine dx ?_;have hcp:=VZ hv z1 z2 z3;have hpn:¬a.pre=b.pre:=fun e=>hc0.2 (abK z1 z2 z3 e)
 refine zc ?_ ?_<;>intro hc2
 .refine zr ?_;rw[hcp];unfold Bc;rw[ai hpn,ak hc2]
 refine zc ?_ ?_<;>intro hc3
 .refine zr ?_;rw[hcp];unfold Bc;rw[ai hpn,ai hc2,ak hc3]
 refine ez ?_;refine aB (hc:=hE a.pre 46 hp0.1.1) ?_;refine cx ?_;refine aB (hc:=hE b.pre 46 hp0.2.1) ?_;refine zg ?_;refine zf hm (fun i=>[.u 3,.p 0 5,.p 1 5,.u 5,.i i,.m 1 (bd a.pre 46) D.str,.m 1 (bd b.pre 46) D.str,.u 3]) (fun i=>[(0,.buf 5 [bZ.D a]),(1,.buf 5 [bZ.D b])]) 53 (fun i=>(i<=(bd a.pre 46).length/\i<=(bd b.pre 46).length)/\iL a b=vr (bd a.pre 46) (bd b.pre 46) i) (fun i=>(bd a.pre 46).length-i) ⟨⟨ae,ae⟩,by rw[hcp];unfold Bc;rw[ai hpn,ai hc2,ai hc3]⟩ [(0,0),(1,1)] ?_;rintro i ⟨hi,hr⟩;refine zg ?_;intro u0;refine dE ?_ ?_<;>intro hc4
 .refine zc ?_ ?_<;>intro hc5
  .refine zr ?_;rw[hr,Gf ae hc5]
  refine zl (i+1) [(0,0),(1,1)] ?_;exact⟨⟨ae,ae⟩,by rw[hr,MX ae hc5]⟩
 refine zg ?_;intro u1 u2;refine zr ?_;rw[hr,Ge ae]
def Mg:aj:=bc 22
def w147 (hA:U3 Y)(hB:Nu Y)(hC:U4 Y)(hD:C360 Y)(hE:C361 Y)(hF:C362 Y):Iu (cu Y Mg):=fun l shop e ks hp0=>by
 refine cH ?_;have hyp:=(tE hp0.1.p.1.1 (i:=0) (by have:=(yy hp0.1.p.1.1).1;omega)).2.2.1;refine xX ?_;refine xX ?_;refine bF ?_;refine bp (env':=[_,_,_,_,⟨_,_⟩,⟨_,(.int _ _)⟩,_,_,⟨_,_⟩,_,_,_,_,_,_,_,_,_,_]) ?_;refine fC ?_;refine aO ?_;refine bF ?_;refine aB (hc:=hA (l) Ql) ?_;refine bF ?_;refine kP (.int _ _) ?_;refine kP (.int _ _) ?_;refine bF ?_;refine bF ?_;refine bp (env':=[_,_,_,_,_,_,⟨_,(.int _ _)⟩,_,_,_,_,_,_,_,_,_,_,_,_]) ?_;refine fC ?_;refine aO ?_;refine bF ?_;refine pg ?_;refine bp (env':=[_,_,_,_,_,_,_,⟨_,(.bool _)⟩,_,_,_,_,_,_,_,_,_,_,_]) ?_;refine dE ?_ ?_<;>intro hc0
 .exact absurd trivial hc0
 refine ez ?_;refine aB (hc:=hC (shop) Ql) ?_;refine jS ?_;refine bp (env':=[_,_,_,_,_,_,_,_,_,⟨_,(.bool _)⟩,_,_,_,_,_,_,_,_,_]) ?_;refine zc ?_ ?_<;>intro hc1
 .refine cx ?_;refine bM _ ?_;refine bS _ ?_;refine cH ?_;refine bp (env':=[_,_,_,_,_,⟨_,(.int _ _)⟩,_,_,_,_,_,_,_,_,_,_,_,_,_]) ?_;refine zr ?_;rw[abv hc1];rfl
 refine fQ ?_;refine aO ?_;refine bF ?_;refine aB (hc:=hD (l) Ql) ?_;refine bF ?_;refine kP (.sl _ _) ?_;refine kP (.int _ _) ?_;refine bF ?_;refine bF ?_;refine bp (env':=[_,_,_,_,_,_,_,_,_,_,⟨_,(.int _ _)⟩,_,_,⟨_,(.sl _ _)⟩,_,_,_,_,_]) ?_;refine fC ?_;refine aO ?_;refine bF ?_;refine pg ?_;refine bp (env':=[_,_,_,_,_,_,_,_,_,_,_,⟨_,(.bool _)⟩,_,_,_,_,_,_,_]) ?_;refine dE ?_ ?_<;>intro hc2
 .exact absurd trivial hc2
 refine ez ?_;refine bp (env':=[_,_,_,_,_,_,_,_,_,_,_,_,⟨_,(.int _ _)⟩,_,_,_,_,_,_]) ?_;refine zf hm (fun i=>[.m 11 l gV.D,.m 2 shop bN.D,.u 1,.m 6 ks Kp.D,.p 1 1,.u 3,.p 0 3,.u 3,.i i,.m 2 (gK l) iH.D,.u 5]) (fun i=>[(0,.buf 3 [Env.D e]),(1,.buf 1 [.agg [.aJ]])]) 30 (fun i=>i<=(gK l).length/\∀j,j<i->0<=mg shop (gK l)[j]!.shelf) (fun i=>(gK l).length-i) ⟨ae,fun j h=>ae⟩ [(0,0),(1,1)] ?_;rintro i ⟨hi,hr⟩;refine zg ?_;intro u0;refine dE ?_ ?_<;>intro hc3
 .refine zc ?_ ?_<;>intro hc4
  .refine cH ?_;refine bM _ ?_;refine bS _ ?_;refine zr ?_;rw[abw hc1 (i:=i) ae ae];rfl
  refine gh (i+1) [(0,0),(1,1)] ?_;exact fun j h=>by rcases Nat.lt_succ_iff_lt_or_eq.1 h with h|rfl;exact hr j h;omega
 refine dx ?_;have hpa:=X8 (l:=l) (shop:=shop) (i:=i) ae hr;refine ko ?_;refine bM _ ?_;refine cH ?_;refine bg (cD.D (yx l shop e ks) (.ptr 40 2 0 0)) ?_;refine dC (nx':=34) (v:=.tup [b6.D (fO (yx l shop e ks)).1,.bool (fO (yx l shop e ks)).2]) (m':=[(0,.buf 3 [Env.D e]),(1,.buf 1 [.agg [.aJ]])]) (hc:=fun K' hK=>hF (yx l shop e ks) hp0 _ 40 _ K' ep ah hK) (hn:=aT) ?_;refine zc ?_ ?_<;>intro hc5
 .refine cx ?_;refine bM _ ?_;refine bS _ ?_;refine zr ?_;rw[abx hc1 hpa oW];rfl
 refine dx ?_;refine bS _ ?_;refine zr ?_;rw[aby hc1 hpa oW];rfl
def Uz:aj:=bc 168
def w701 {Y:Ctx}(hm:(Y.at 0).bR)(hA:AR Y)(hB:SL Y):uo (cu Y Uz):=fun a b hp0=>by
 exact mr
def E5:aj:=bc 167
def w700 {Y:Ctx}(hm:(Y.at 0).bR)(hA:C701 Y):JC (cu Y E5):=fun x nm v hp0=>by
 exact mr
def qU:aj:=bc 166
def w699 (hA:C700 Y):JB (cu Y qU):=fun l nm v hp0=>by
 refine zg ?_;intro u0;refine zf hm (fun i=>[.m 11 l kr.D,.e (.fn 700 [.ref 1 [.str nm] 0 0,.ref 5 [bZ.D v] 0 0]),.u 1,.i i,.i l.length,.u 3]) (fun i=>[]) 4 (fun i=>i<=l.length/\sC l nm v 0=sC l nm v i) (fun i=>l.length-i) ⟨ae,rfl⟩ [] ?_;rintro i ⟨hi,hr⟩;refine zc ?_ ?_<;>intro hc0
 .refine Fa ?_;refine BM (hc:=fun _=>hA l[i]! nm v ⟨hp0.1 _ (aq ae),hp0.2⟩) ?_;refine zc ?_ ?_<;>intro hc1
  .refine zr ?_;rw[hr,Ya ae hc1]
  refine gh (i+1) [] ?_;rw[hr,Yc ae hc1]
 refine zr ?_;rw[hr,RF ae]
def MQ:aj:=bc 120
def w511 {Y:Ctx}(hm:(Y.at 0).bR)(hA:C699 Y):ub (cu Y MQ):=fun l nm v hp0=>by
 refine ko ?_;refine bh 0 ?_;refine bh 1 ?_;refine cx ?_;refine RL [.ref 1 [.str nm] 0 0,.ref 5 [bZ.D v] 0 0] ?_;exact mr
def Uy:aj:=bc 67
def w353 (hA:C74 Y)(hB:SK Y)(hC:C511 Y):tV (cu Y Uy):=fun s hp0=>by
 refine zg ?_;refine aQ (fun hc0=>?_) (fun hc0=>?_)
 .simp only[dI,cG,bn]at hc0;have hf:ie s=false:=by
   unfold ie;rcases hc0 with h|h
   .rw[h];rfl
   .rw[show decide (s.es.length<=64)=false from bI ae];simp
  refine zr ?_;exact hf.symm
 simp only[gC,dH,cK]at hc0;have hq:ie s=bO (rZ s.es) 0 s.es.length:=by unfold ie;rw[hc0.1,bz (show s.es.length<=64 by omega)];simp
 refine zg ?_;intro u0;refine zf hm (fun i=>[.u 2,.p 0 2,.u 1,.i i,.i s.es.length,.u 1,.m 11 s.es kr.D,.u 5]) (fun i=>[(0,.buf 2 [bN.D s])]) 16 (fun i=>i<=s.es.length/\ie s=bO (rZ s.es) i s.es.length) (fun i=>s.es.length-i) ⟨ae,hq⟩ [(0,0)] ?_;rintro i ⟨hi,hr⟩;refine zc ?_ ?_<;>intro hc1
 .refine dx ?_;have hsm:=hp0 _ (aq (show i<s.es.length by omega));refine fG ?_;refine fG ?_;refine dx ?_;refine akf (q:=kr.D) i (hj:=fun _=>rfl) (hb:=fun _=>ae) ?_;refine jS ?_;refine bQ (hc:=fun hf=>hC (s.es.take i) s.es[i]!.r.name s.es[i]!.r.v ⟨fun x hx=>(hp0 x (zG hx)).1.2,hsm.1.2⟩) ?_;refine zg ?_;refine wp_cond (fun hc2=>?_) (fun hc2=>?_)
  .have hen:rZ s.es i=false:=by
    unfold rZ;simp only[dI,cG,bn,cK]at hc2;simp only[eo,cK];rcases hc2 with(h|h)|h
    .exact .inl (.inl h)
    .exact .inl (.inr h)
    .exact .inr ae
   refine zr ?_;rw[hr,ay ae,hen];rfl
  have hen:rZ s.es i=true:=by
   unfold rZ;simp only[gC,dH,bn,cK]at hc2;simp only[aN,bn];exact⟨hc2.1,ae⟩
  refine gh (i+1) [(0,0)] ?_;rw[hr,ay ae,hen];rfl
 refine zr ?_;rw[hr,bB ae]
def Ud:aj:=⟨2,8,[⟨2,none⟩,⟨3,none⟩],[[.sl 2 [.a,.a]],[.a]],(sq (rg [gb 2 s1,gm (.c (.aJ)),gm cbF] [(5,0),(2,1),(3,2)]) (sq (r1 [gm rM] 4 0) (sq (.block 0 (.loop (sq (sq (r2 [gm s4,gm s0,gl l1,lz l0 l2,gm l3,gmt 4 s0,gmt 4 s4,sg 4 (.ia 2 l5 l6),Nq 4 0 l7,WJ 4 l8,Nq 4 0 s5,WJ 4 l10,sg 4 (VF l9 Xg),UR l4 l12] 6 13) (US s6 0)) (.block 1 (r1 [gm s4,mE l0 Kq,gm l1] 4 2))))) (sq (sq (r2 [gm s4,gm s0,gl l1,lz l0 l2,gm l3,gmt 4 s0,gmt 4 s4,sg 4 (.ia 2 l5 l6),Nq 4 0 l7,WJ 4 l8,Nq 4 0 s5,WJ 4 l10,sg 4 (wL l9 Xg),UR l4 l12] 7 13) (.cond s7 (sq (rt [gm s0,gm s0,gm s4,ga 2 l1 l2,gk 2 true l3,gk 2 true s5,gn (.eqA false true [.s,.s] l4 l5),gm l0,gm l6] [(2,7),(3,8)]) .ret) .skip)) (sq (rt [gm s0,gm s4,gn (.slA 2 l0 none (some l1)),gn (.appN 2 l2),gk 2 true s5,gn (.bsl 2 (.agg [.str [],.str []]) 1 [(0,l4)]),gn (.app 2 l3 l5),gm s0,gm s4,gn (.slA 2 l7 (some l8) none),gn (.app 2 l6 l9),gm l10,gm cbT] [(2,11),(3,12)]) .ret)))))⟩
def w581:Jj (cu Y Ud):=fun l p hp0=>by
 refine zg ?_;refine zf hm (fun i=>[.m 2 l iH.D,.u 3,.i i,.p 0 2,.u 2]) (fun i=>[(0,.buf 2 [iH.D p])]) 4 (fun i=>i<=l.length/\lE.kPin l p 0=lE.kPin l p i) (fun i=>l.length-i) ⟨ae,rfl⟩ [(0,0)] ?_;rintro i ⟨hi,hr⟩;refine zc ?_ ?_<;>intro hc0
 .refine gh (i+1) [(0,0)] ?_;rw[hr,TA ae hc0.2]
 refine ez ?_;have hk:lE.kPin l p 0=i:=by rw[hr];exact TB (fun h=>by rcases hc0 with h1|h1;omega;exact h1)
 refine zc ?_ ?_<;>intro hc1
 .refine zr ?_;unfold lE;rw[hk,ak ⟨ae,hc1.2⟩];rfl
 refine ko ?_;refine xW (he:=lT.sl) (n:=(l.take i).length) (hn:=aG) (hb:=zM) ?_;refine cH ?_;refine ba [iH.D p] ?_;refine cJ (q:=iH.D) (xs:=l.take i) (e:=p) (hb:=zM) ?_;refine dx ?_;refine pf (xs:=l.take i++[p]) (ys:=l.drop i) (he:=lT.sl) (hb:=Qi) ?_;refine dx ?_;refine bh 42 ?_;refine zr ?_;unfold lE;rw[hk,ai SI];rfl
def Lv:aj:=bc 8
def w91 {Y:Ctx}(hm:(Y.at 0).bR)(hA:C114 Y)(hB:C147 Y)(hC:C267 Y)(hD:C268 Y)(hE:C269 Y):P7 (cu Y Lv):=fun m shop e os hp0=>by
 refine cH ?_;refine xX ?_;refine xX ?_;refine bF ?_;refine bF ?_;refine bp (env':=[_,_,_,_,⟨_,_⟩,⟨_,.aJ⟩,⟨_,(.bool _)⟩,⟨_,_⟩,_,_,_,_,_]) ?_;refine aO ?_;refine bF ?_;refine bF ?_;refine mc (d:=Env.D e) ?_;refine aB (hc:=hB [m] shop e [] hp0) ?_;refine bF ?_;refine kP (b6.D _) ?_;refine kP (.int _ _) ?_;refine xX ?_;refine bS (b6.D (fo m shop e).1) (he:=cW) ?_;refine bF ?_;refine bp (env':=[_,_,_,_,_,_,_,_,⟨_,(.int _ _)⟩,⟨_,_⟩,_,_,_]) ?_;refine fC ?_;refine aO ?_;refine bF ?_;refine pg ?_;refine bF ?_;refine mc (d:=b6.D ((fo m shop e).1)) ?_;refine bQ (hc:=fun hf=>hA (fo m shop e).1 (rU hp0.1 (by simpa using hf)).1.sm) ?_;refine kQ ?_;refine Dn ?_;refine bp (env':=[_,_,_,_,_,_,_,_,_,_,⟨_,(.bool _)⟩,_,_]) ?_;refine dE ?_ ?_<;>intro hc0
 .refine zg ?_;refine zr ?_;rw[MT (by rcases hc0 with h|h;exact .inl h;exact .inr ae)];rfl
 refine fQ ?_;refine aO ?_;have hB0:=hc0.1;have hc0n:(fo m shop e).2=0/\¬5000<Hy (fo m shop e).1.us:=⟨hc0.1,ae⟩;have hfp:=Tj hp0.1 hB0 os;refine ez ?_;refine bM _ ?_;refine aB (hc:=hC (fo m shop e).1 (jd (fo m shop e).1.us os) hfp) ?_;refine ko ?_;refine YB (fun bq hbq=>?_) (hs:=Rx _);refine zg ?_;refine aQ (fun hc1=>?_) (fun hc1=>?_)
 .have hbt:bq=true:=hc1;have hn:=(KY hp0.1 hB0 hbq).1 hbt;refine zr ?_;rw[MU hc0n hn];rfl
 have hbf:bq=false:=hc1;obtain⟨d,hd⟩:=(KY hp0.1 hB0 hbq).2 hbf;have hdl:=Ti hp0.1 hB0 hd;rw[hd];refine zr ?_;rw[MV hc0n hd];rfl
def Xm:aj:=bc 34
def w315 (hA:C138 Y)(hB:C553 Y):tS (cu Y Xm):=fun l hp0=>by
 refine zg ?_;intro u0;refine zf hm (fun i=>[.u 2,.p 0 4,.i i,.i l.lines.length,.u 1,.m 9 l.lines dm.D,.u 3]) (fun i=>[(0,.buf 4 [jT.D l])]) 6 (fun i=>i<=l.lines.length/\bO (pR l.lines) 0 l.lines.length=bO (pR l.lines) i l.lines.length) (fun i=>l.lines.length-i) ⟨ae,rfl⟩ [(0,0)] ?_;rintro i ⟨hi,hr⟩;refine zc ?_ ?_<;>intro hc0
 .refine pA ?_;refine bS _ ?_;refine dx ?_;refine bg (dm.D l.lines[i]!) ?_;refine aB (hc:=hB l.lines[i]! (hp0.2.1 _ (aq ae))) ?_;refine wA ?_;refine cz (i-1) ?_;refine zc ?_ ?_<;>intro hc1
  .refine zr ?_;have hz:pR l.lines i=false:=by
    simp only[pR];revert hc1;generalize A6 l.lines[i]! =z0;generalize Op.bytesLess l.lines[i-1]!.name l.lines[i]!.name=z1;by_cases e0:0<i<;>cases z0<;>cases z1<;>simp_all
   simp only[EO];rw[hr,ay ae,hz];simp
  refine zg ?_;have hz:pR l.lines i=true:=by
   simp only[pR];revert hc1;generalize A6 l.lines[i]! =z0;generalize Op.bytesLess l.lines[i-1]!.name l.lines[i]!.name=z1;by_cases e0:0<i<;>cases z0<;>cases z1<;>simp_all
  refine gh (i+1) [(0,0)] ?_;rw[hr,ay ae,hz];rfl
 refine zr ?_;simp only[EO];rw[hr,bB ae,gQ];have h9:decide ((l.lines.length:Int)<=48)=decide (l.lines.length<=48):=lJ.2 ae;rw[h9]
def Dx:aj:=bc 58
def w507:Jc (cu Y Dx):=fun w c nm hp0=>by
 refine zg ?_;refine zfx hm (1:Nat) (fun i=>[.u 1,.m 1 c (D.int .i64),.e (.str nm),.u 1,.i i,.p 1 1,.u 2,.o 0 1 (jb w.us c nm i).length]) (fun i=>[(0,.buf 1 ((jb w.us c nm i).map D.str)),(1,.buf 1 [b6.D w])]) 4 (fun i=>1<=i/\i<=w.us.length) (fun i=>w.us.length-i) ⟨ae,ae⟩ [(0,1)] ?_;rintro i ⟨hi0,hi⟩;have hfl:=vD (us:=w.us) (c:=c) nm i;refine zg ?_;intro u0;refine dE ?_ ?_<;>intro hc0
 .refine zc ?_ ?_<;>intro hc1
  .refine pA ?_;refine ba [.str w.us[i]!.feat] ?_;refine cJ (q:=D.str) (xs:=jb w.us c nm i) (e:=w.us[i]!.feat) (hb:=ae) ?_;refine zg ?_;rw[<-Ws (us:=w.us) (c:=c) (i:=i) ⟨ae,hc1⟩];refine gh (i+1) [(41,0),(1,1)] ?_;omega
  refine zg ?_;rw[<-Wr (us:=w.us) (c:=c) (i:=i) (nm:=nm) (by rintro⟨_,⟨h1,h2⟩,h3⟩;rcases hc1 with(h|h)|h;exact h h1;exact h2 h;exact h h3)];refine gh (i+1) [(0,0),(1,1)] ?_;omega
 refine cx ?_;obtain rfl:i=w.us.length:=ae;refine bh 0 ?_;exact mr
def HP:aj:=bc 230
def w1012 {Y:Ctx}(hm:(Y.at 0).bR)(hA:U3 Y)(hB:C356 Y):El (cu Y HP):=fun l nm hp0=>by
 refine cH ?_;refine bF ?_;refine bp (env':=[_,_,⟨_,(.int _ _)⟩,_,_]) ?_;refine fC ?_;refine aO ?_;refine bF ?_;refine aB (hc:=hA (l) (by first|assumption|omega)) ?_;refine bF ?_;refine kP (.int _ _) ?_;refine kP (.int _ _) ?_;refine bF ?_;refine bF ?_;refine bp (env':=[_,_,_,⟨_,(.int _ _)⟩,_]) ?_;refine fC ?_;refine aO ?_;refine bF ?_;refine pg ?_;refine bp (env':=[_,_,_,_,⟨_,(.bool _)⟩]) ?_;refine dE ?_ ?_<;>intro hc0
 .exact absurd trivial hc0
 refine jS ?_;refine bp (env':=[_,_,⟨_,(.int _ _)⟩,_,_]) ?_;exact mr
def O0:aj:=bc 226
def w955:JZ (cu Y O0):=fun l nm=>by
 refine zg ?_;refine zf hm (fun i=>[.m 2 l ch.D,.e (.str nm),.u 1,.i i,.u 2]) (fun i=>[]) 2 (fun i=>i<=l.length/\findF l nm 0=findF l nm i) (fun i=>l.length-i) ⟨ae,rfl⟩ [] ?_;rintro i ⟨hi,hr⟩;refine zg ?_;intro u0;refine dE ?_ ?_<;>intro hc0
 .refine zc ?_ ?_<;>intro hc1
  .refine zr ?_;rw[hr,Wu ae hc1]
  refine gh (i+1) [] ?_;rw[hr,Wv ae hc1]
 refine zr ?_;rw[hr,Tg ae]
def Ma:aj:=bc 50
def w361 {Y:Ctx}(hm:(Y.at 0).bR)(hA:C359 Y):tW (cu Y Ma):=fun l nm=>by
 exact mr
end Go.Abs
end
