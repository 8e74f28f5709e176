/- A part of the proofs. -/
import Derived.Lib.CountLaws
import Derived.Lib.IndexMore
import Derived.Lib.ItoaNum
import Derived.Lib.Join
import Derived.Lib.Split
import Derived.Lib.SplitLaws
import Derived.Lib.Strings
import Derived.Lib.TrimByte
import Derived.Shelf.Strings.Split
import Derived.Test.YtgnjlompgjhaaaaGreatDoorP08
set_option linter.all false
set_option maxRecDepth 4000
namespace Go.Abs
variable {Y:Ctx}(hm:(Y.at 0).cd)
def F2:aF:=⟨3,8,[⟨3,none⟩],bQ,(sq (rg [gb 9 s0,gm bp] [(5,0),(3,1)]) (sq (.block 0 (sq (r1 [gm s1,gx 208 [l0] bQ,jJ l1,gm l2] 4 3) (.cond s4 (sq (r1 [gm sE] 3 0) .ret) (sq (r1 [gm s1,gf 0 s5,gd l1,aL l0 l2,gm l3] 6 4) (.cond s6 (sq (r1 [gm Eu] 3 0) .ret) (sq (r1 [gm s2,gx 444 [l0] bQ,jJ l1,gm l2] 7 3) (.cond s7 (sq (r1 [gm vI] 3 0) .ret) .skip))))))) (sq (r1 [gm bp] 3 0) .ret)))⟩
def w211 {Y:Ctx}(hm:(Y.at 0).cd)(h208:L6 Y)(h444:Yl Y)(r:Rec)(name:au)(tO:au)  (hp0:tO.length<=1048576):de Y F2 (.int .i64 (fK r name tO)) [Rec.D r,.str name,.str tO]:=by
 show bG _ _ _ [⟨_,_⟩,⟨_,_⟩,⟨_,_⟩,_,_,_,_,_] _;refine aq ?_;refine aG ?_;refine ai (hc:=h208 _) ?_;refine aA ?_;refine fH (fun hc0=>?_) fun hc0=>?_
 .refine aI ?_;refine cS ?_;rw[fK,ax hc0]
 refine aY ?_;refine fH (fun hc1=>?_) fun hc1=>?_
 .refine aI ?_;refine cS ?_;rw[fK,aj (by simp[hc0]),ax hc1]
 refine ay ?_;refine ai (hc:=h444 tO hp0) ?_;refine aA ?_;refine fH (fun hc2=>?_) fun hc2=>?_
 .refine aI ?_;refine cS ?_;rw[fK,aj (by simp[hc0]),aj hc1,ax hc2]
 refine aG ?_;refine cS ?_;rw[fK,aj (by simp[hc0]),aj hc1,aj (by simp[hc2])]
def KJ (T:List D->D->Prop):Prop:=∀(r:Rec) (name:au) (tO:au),(tO.length<=1048576)->T [Rec.D r,.str name,.str tO] (.int .i64 (fK r name tO))
def U8 (Y:Ctx):Prop:=KJ (br Y 211)
def F3:aF:=⟨3,16,[⟨3,none⟩],bQ,(sq (rg [gb 9 s0,gb 4 s1,gm bp] [(4,0),(5,1),(3,2)]) (sq (sq (r1 [gk 9 true s4,gf 0 s5,gd l1,gf 1 s5,gd l3,gx 211 [l0,l2,l4] [[.a,.a,.a,.a,.a,.a,.sl 3 [.sl 4 [.a,.a,.sl 1 [.a],.a],.a,.a],.sl 3 [.a,.a,.a],.sl 2 [.a,.sl 1 [.a]]],[.a],[.a]],gm l5] 6 6) (sq (r1 [gm s6,bO l0 bp] 7 1) (.cond s7 (sq (r1 [gm s6,gm l0] 3 1) .ret) .skip))) (sq (sq (r1 [gf 2 s5,gd l0,gl l1,dd l2 vI,gm l3,gJ 4 2 s5,iD 4 l5,cl 4 (.len l6),cl 4 (ew l7 bp),eO 4 l8,gmt 9 s2,bZ 9 (.un .not l10),Et 4 l9 gh,eW l4 iE] 8 13) (.cond s8 (sq (r1 [gm (i6 11)] 3 0) .ret) .skip)) (sq (sq (rg [gf 2 s5,gd l0,gl l1,gm bp] [(12,1),(10,2),(9,3)]) (.block 0 (.loop (sq (r1 [aO s9 jh] 11 0) (sq (fh lf 0) (sq (.block 1 (sq (rg [gm s9,ga 1 j8 s9,gd l1,gm l0,gm l2] [(14,3),(13,4)]) (sq (r1 [gm qG,gx 349 [l0] bQ,jJ l1,gm l2,eO 3 qv,cl 3 (ew l4 bp),eO 3 l5,k9 6 2 s5,kn 6 l7,gmt 6 qv,bZ 6 (kA l9 bV),bZ 6 (.ia 1 l8 l10),kn 6 gh,gmt 6 qG,bZ 6 (sP iE jr),Et 3 l6 j5,eW l3 lr] 15 16) (.cond xc (sq (r1 [gm (i6 11)] 3 0) .ret) .skip)))) (r1 [aw s9 bV,gm l0] 9 1))))))) (sq (r1 [gm bp] 3 0) .ret)))))⟩
def w443 (h211:U8 Y)(h349:Hm Y)(r:Rec)(w:b6)(al:Bool)  (hp0:w.sm):de Y F3 (.int .i64 (jy r w al)) [Rec.D r,b6.D w,.bool al]:=by
 show bG _ _ _ [⟨_,_⟩,⟨_,_⟩,⟨_,_⟩,_,_,_,_,_,_,_,_,_,_,_,_,_] _;refine aq ?_;refine fT ?_;refine ai (hc:=h211 r w.name w.range hp0.1.2) ?_;refine aY ?_;refine cC (fun hc0=>?_) fun hc0=>?_
 .refine aG ?_;refine cS ?_;rw[jy,ax hc0]
 refine aG ?_;intro u0;refine aE ?_;refine jI ?_;refine aY ?_;refine av (fun hc1=>?_) (fun hc1=>?_)
 .have hq:(decide (w.feats.length<=6)&&(al ||decide (w.feats.length=0)))=false:=by rw[<-bz,<-RU];exact hc1
  refine aI ?_;refine cS ?_;rw[jy,aj (by simp[hc0]),ax (by unfold ju;rw[hq];rfl)]
 have hq:(decide (w.feats.length<=6)&&(al ||decide (w.feats.length=0)))=true:=by rw[<-bP,<-RU];exact hc1
 refine aG ?_;intro u1;refine ay ?_;refine a7 hm (ι:=Nat) (fun i=>[.un,.un,⟨true,.bool al⟩,.un,⟨true,.ptr 0 9 0 0⟩,⟨true,.ptr 1 4 0 0⟩,.un,.un,.un,⟨true,.int .i64 (i:Nat)⟩,⟨true,.int .i64 (w.feats.length:Nat)⟩,.un,⟨true,.sl 1 (w.feats.map D.str)⟩,.un,.un,.un]) (fun i=>[(0,.buf 9 [Rec.D r]),(1,.buf 4 [b6.D w])]) 30 (fun i=>i<=w.feats.length/\ju w.feats al=cP (U1 w.feats) i w.feats.length) (fun i=>w.feats.length-i) 0 ⟨ae,by unfold ju;rw[hq,gu]⟩ (dp [(0,0),(1,1)]) ?_;rintro i ⟨hi,hr⟩;refine aA ?_;refine cC (fun hc2=>?_) fun hc2=>?_
 .refine fT ?_;refine ai (hc:=h349 _) ?_;refine c7 ?_;refine cb (i-1) ?_;refine aG ?_;refine wp_cond (fun hc3=>?_) (fun hc3=>?_)
  .have hz:U1 w.feats i=false:=by rw[<-bz,<-wf_c];exact hc3
   refine aG ?_;refine cS ?_;rw[jy,aj (by simp[hc0]),ax (by rw[hr,aR ae,hz];rfl)]
  have hz:U1 w.feats i=true:=by rw[<-bP,<-wf_c];exact hc3
  refine aY ?_;exact⟨i+1,⟨ae,by rw[hr,aR ae,hz];rfl⟩,ae,(dp [(0,0),(1,1)])⟩
 refine aG ?_;refine cS ?_;rw[jy,aj (by simp[hc0]),aj (by rw[hr,ca ae];simp)]
def yA (T:List D->D->Prop):Prop:=∀(r:Rec) (w:b6) (al:Bool),(w.sm)->T [Rec.D r,b6.D w,.bool al] (.int .i64 (jy r w al))
def Yk (Y:Ctx):Prop:=yA (br Y 443)
def F0:aF:=⟨2,16,[⟨2,none⟩],bQ,(sq (rg [gb 9 s0,gb 3 s1,gm bp] [(10,0),(3,1),(2,2)]) (sq (sq (r1 [gf 0 s3,gd l0,gl l1,aL l2 bp] 4 3) (.cond s4 (sq (r1 [gm Ev] 2 0) .ret) .skip)) (sq (sq (r1 [gf 0 s3,gd l0,gl l1,dd l2 ko] 5 3) (.cond s5 (sq (r1 [gm ko] 2 0) .ret) .skip)) (sq (sq (rg [gf 0 s3,gd l0,gl l1,gm bp] [(9,1),(7,2),(6,3)]) (.block 0 (.loop (sq (r1 [aO s6 s7] 8 0) (sq (fh s8 0) (sq (.block 1 (sq (r1 [ga 4 s9 s6,gk 4 true l0,gb 4 (.c (.agg [.str [],.str [],.aD,.bool false])),gt 4 l2 l1] 11 2) (sq (r1 [gk 9 true jh,gk 4 true lf,gf 0 s3,gd l2,gl l3,aL l4 bV,gx 443 [l0,l1,l5] [[.a,.a,.a,.a,.a,.a,.sl 3 [.sl 4 [.a,.a,.sl 1 [.a],.a],.a,.a],.sl 3 [.a,.a,.a],.sl 2 [.a,.sl 1 [.a]]],[.a,.a,.sl 1 [.a],.a],[.a]],gm l6] 12 7) (sq (r1 [gm j8,bO l0 bp] 13 1) (.cond qG (sq (r1 [gm j8,gm l0] 2 1) .ret) .skip))))) (r1 [aw s6 bV,gm l0] 6 1))))))) (sq (sq (r1 [gf 1 s3,gd l0,gx 212 [l1] bQ,jJ l2] 14 3) (.cond qv (sq (r1 [gm OG] 2 0) .ret) .skip)) (sq (sq (r1 [gf 2 s3,gd l0,bO l1 cse,gm l2,k9 3 2 s3,kn 3 l4,bZ 3 (.call 349 [l5] bQ),bZ 3 (.un .not l6),eG l3 l7] 15 8) (.cond xc (sq (r1 [gm (i6 14)] 2 0) .ret) .skip)) (sq (r1 [gm bp] 2 0) .ret)))))))⟩
def w210 (h212:U9 Y)(h349:Hm Y)(h443:Yk Y)(r:Rec)(n:bN)  (hp0:n.sm):de Y F0 (.int .i64 (iT r n)) [Rec.D r,bN.D n]:=by
 show bG _ _ _ [⟨_,_⟩,⟨_,_⟩,_,_,_,_,_,_,_,_,_,_,_,_,_,_] _;refine aq ?_;refine c7 ?_;intro u0;refine ay ?_;refine cC (fun hc0=>?_) fun hc0=>?_
 .refine aI ?_;refine cS ?_;rw[iT,ax ae]
 refine aG ?_;intro u1;refine ay ?_;refine cC (fun hc1=>?_) fun hc1=>?_
 .refine aI ?_;refine cS ?_;rw[iT,aj ae,ax ae]
 refine aG ?_;intro u2;refine ay ?_;refine a7 hm (ι:=Nat) (fun i=>[.un,.un,.un,⟨true,.ptr 1 3 0 0⟩,.un,.un,⟨true,.int .i64 (i:Nat)⟩,⟨true,.int .i64 (n.any.length:Nat)⟩,.un,⟨true,.sl 4 (n.any.map b6.D)⟩,⟨true,.ptr 0 9 0 0⟩,.un,.un,.un,.un,.un]) (fun i=>[(0,.buf 9 [Rec.D r]),(1,.buf 3 [bN.D n])]) 15 (fun i=>i<=n.any.length/\mb r n.any=fA (fun i=>jy r n.any[i]! (decide ((n.any.length:Int)=1))) i n.any.length) (fun i=>n.any.length-i) 0 ⟨ae,rfl⟩ (dp [(0,0),(1,1)]) ?_;rintro i ⟨hi,hr⟩;refine aA ?_;refine cC (fun hc2=>?_) fun hc2=>?_
 .refine aE ?_;first|refine bS (v:=(b6.D _)) ?_|refine eK (v:=(b6.D _)) ?_
  refine aC ?_;refine aU (b6.D n.any[i]!) (he:=bd) ?_;refine aY ?_;intro u3;refine aC ?_;refine ai (hc:=h443 r n.any[i]! _ (hp0.1 _ (bB ae))) ?_;refine aG ?_;refine fH (fun hc3=>?_) fun hc3=>?_
  .refine aY ?_;refine cS ?_;have hw:mb r n.any=jy r n.any[i]! (decide ((n.any.length:Int)=1)):=by rw[hr,lE ae hc3]
   rw[iT,aj ae,aj ae,ax (by rw[hw];exact hc3),hw]
  refine aY ?_;exact⟨i+1,⟨ae,by rw[hr,nv ae hc3]⟩,ae,(dp [(0,0),(1,1)])⟩
 refine aE ?_;have hw0:mb r n.any=0:=by rw[hr,nu ae]
 refine ay ?_;refine ai (hc:=h212 _) ?_;refine ay ?_;refine av (fun hc4=>?_) (fun hc4=>?_)
 .try simp only[er]at hc4
  refine aI ?_;refine cS ?_;rw[iT,aj ae,aj ae,aj (by simp[hw0]),ax hc4]
 simp only[bP]at hc4;refine c7 ?_;refine ai (hc:=h349 _) ?_;refine aA ?_;refine av (fun hc5=>?_) (fun hc5=>?_)
 .try simp only[er]at hc5
  refine aI ?_;refine cS ?_;rw[iT,aj ae,aj ae,aj (by simp[hw0]),aj (by simp[hc4]),ax hc5]
 simp only[dT,bP,aV]at hc5;refine aI ?_;refine cS ?_;rw[iT,aj ae,aj ae,aj (by simp[hw0]),aj (by simp[hc4]),aj (by rintro⟨g1,g2⟩;rcases hc5 with h|h;exact g1 h;rw[g2]at h;cases h)]
def yr (T:List D->D->Prop):Prop:=∀(r:Rec) (n:bN),(n.sm)->T [Rec.D r,bN.D n] (.int .i64 (iT r n))
def XT (Y:Ctx):Prop:=yr (br Y 210)
def FZ:aF:=⟨2,15,[⟨2,none⟩],bQ,(sq (rg [gb 9 s0,gm bp] [(3,0),(2,1)]) (sq (rg [gm s1,gx 448 [l0] bQ,gm l1,ge l2 0,ge l2 1,ge l2 2,gm l3,gm l4,gm l5] [(8,6),(10,7)]) (sq (sq (rg [gf 6 s3,gd l0,gl l1,gm bp] [(7,1),(5,2),(4,3)]) (.block 0 (.loop (sq (r1 [aO s4 s5] 6 0) (sq (fh s6 0) (sq (.block 1 (sq (r1 [ga 3 s7 s4,gk 3 true l0,gb 3 (.c (.agg [.aD,.str [],.str []])),gt 3 l2 l1] 9 2) (sq (r1 [gm s8,aL l0 kr,gm l1,k9 2 2 s9,kn 2 l3,gmt 2 jh,bZ 2 (cO l4 l5),eG l2 l6,gm l7,eO 8 s8,cl 8 (cO l9 ko),eO 8 l10,k9 11 0 s9,kn 11 iE,bZ 11 (.len jr),bZ 11 (cO j5 bV),Et 8 gh lr,eO 8 mK,k9 17 0 s9,kn 17 qC,bZ 17 (.ia 4 rm bp),k9 17 0 va,kn 17 xB,gmt 17 jh,bZ 17 (cO A5 Ew),Et 8 pM Fz,eW l8 Hg] 11 26) (.cond lf (sq (r1 [gm bp] 2 0) .ret) .skip)))) (r1 [aw s4 bV,gm l0] 4 1))))))) (sq (sq (r1 [gm s8] 12 0) (.block 2 (sq (r1 [aL j8 kr,gm l0] 13 1) (.cond qG (sq (r1 [gm (i6 14)] 2 0) .ret) (sq (r1 [aL j8 ko,gm l0] 14 1) (.cond qv (sq (r1 [gm (i6 16)] 2 0) .ret) .skip)))))) (sq (r1 [gm bp] 2 0) .ret)))))⟩
def w214 (h448:Vl Y)(r:Rec)(s:au)  (hp0:s.length<=1048576):de Y FZ (.int .i64 (jL r s)) [Rec.D r,.str s]:=by
 show bG _ _ _ [⟨_,_⟩,⟨_,_⟩,_,_,_,_,_,_,_,_,_,_,_,_,_] _;refine aq ?_;refine aI ?_;refine ai (hc:=h448 s hp0) ?_;refine lz ?_;intro u0;refine ay ?_;refine a7 hm (ι:=Nat) (fun i=>[.un,.un,.un,⟨true,.ptr 0 9 0 0⟩,⟨true,.int .i64 (i:Nat)⟩,⟨true,.int .i64 (r.needs.length:Nat)⟩,.un,⟨true,.sl 3 (r.needs.map bN.D)⟩,⟨true,.int .i64 (dt s).1⟩,.un,⟨true,.str (dt s).2.1⟩,.un,.un,.un,.un]) (fun i=>[(0,.buf 9 [Rec.D r])]) 15 (fun i=>i<=r.needs.length/\jL r s=(if(r.needs.drop i).any (itC (dt s).1 (dt s).2.1)=true then 0 else WE (dt s).1)) (fun i=>r.needs.length-i) 0 ⟨ae,P7 r s⟩ (dp [(0,0)]) ?_;rintro i ⟨hi,hr⟩;refine aA ?_;refine cC (fun hc0=>?_) fun hc0=>?_
 .refine aE ?_;first|refine bS (v:=(bN.D _)) ?_|refine eK (v:=(bN.D _)) ?_
  refine aC ?_;refine aU (bN.D r.needs[i]!) (he:=bd) ?_;refine xm ?_;refine jI ?_;refine aI ?_;refine cb 0 (hb:=fun h=>by simp only[gu,beq_iff_eq,bx,aV]at h;omega) ?_;refine aC ?_;refine bS (q:=b6.D) (xs:=r.needs[i]!.any) (i:=0) (hi:=fun h=>by simp only[gu,beq_iff_eq,bx,aV]at h;omega) (v:=(.str r.needs[i]!.any[0]!.name)) ?_;refine aI ?_;refine wp_cond (fun hc1=>?_) (fun hc1=>?_)
  .have hz:itC (dt s).1 (dt s).2.1 r.needs[i]! =true:=hc1;refine aG ?_;refine cS ?_;rw[hr,xT ae hz];rfl
  have hz:itC (dt s).1 (dt s).2.1 r.needs[i]! =false:=hc1;refine aY ?_;exact⟨i+1,⟨ae,by rw[hr,C5 ae hz]⟩,ae,(dp [(0,0)])⟩
 refine aE ?_;have he:jL r s=WE (dt s).1:=by rw[hr,xS ae];rfl
 refine aY ?_;refine fH (fun hc2=>?_) fun hc2=>?_
 .refine aI ?_;refine cS ?_;rw[he,WE,ax hc2]
 refine aE ?_;refine fH (fun hc3=>?_) fun hc3=>?_
 .refine aI ?_;refine cS ?_;rw[he,WE,aj hc2,ax hc3]
 refine aG ?_;refine cS ?_;rw[he,WE,aj hc2,aj hc3]
def KK (T:List D->D->Prop):Prop:=∀(r:Rec) (s:au),(s.length<=1048576)->T [Rec.D r,.str s] (.int .i64 (jL r s))
def XV (Y:Ctx):Prop:=KK (br Y 214)
def DV:aF:=⟨1,39,[⟨1,none⟩,⟨2,none⟩],fQ,(sq (rg [gb 9 s0,gm bp,gm bp] [(3,0),(1,1),(2,2)]) (sq (.block 0 (sq (r1 [gf 0 s3,gd l0,gx 208 [l1] bQ,jJ l2,gm l3] 4 4) (.cond s4 (sq (rg [gm sE,gm bp] [(1,0),(2,1)]) .ret) (sq (r1 [gf 1 s3,gk 5 true l0,gx 209 [l1] zH,jJ l2,gm l3] 5 4) (.cond s5 (sq (rg [gm Hf,gm bp] [(1,0),(2,1)]) .ret) (sq (r1 [gf 6 s3,gd l0,gl l1,dd l2 Eu,gm l3,gJ 4 7 s3,iD 4 l5,cl 4 (.len l6),cl 4 (ew l7 Eu),eW l4 l8,gm l9] 6 10) (.cond s6 (sq (rg [gm ko,gm bp] [(1,0),(2,1)]) .ret) .skip))))))) (sq (sq (rg [gf 6 s3,gd l0,gl l1,gm bp] [(10,1),(8,2),(7,3)]) (.block 1 (.loop (sq (r1 [aO s7 s8] 9 0) (sq (fh s9 1) (sq (.block 2 (sq (rg [gm s7,ga 3 jh s7,gk 3 true l1,gb 3 (.c (.agg [.aD,.str [],.str []])),gm l0,gt 3 l3 l2] [(11,3),(14,4)]) (sq (r1 [gk 9 true s3,gk 3 true lf,gx 210 [l0,l1] [[.a,.a,.a,.a,.a,.a,.sl 3 [.sl 4 [.a,.a,.sl 1 [.a],.a],.a,.a],.sl 3 [.a,.a,.a],.sl 2 [.a,.sl 1 [.a]]],[.sl 4 [.a,.a,.sl 1 [.a],.a],.a,.a]],gm l2] 12 3) (sq (r1 [gm j8,bO l0 bp] 13 1) (.cond qG (sq (rg [gm j8,gm qv,gm l0,gm l1] [(1,2),(2,3)]) .ret) .skip))))) (r1 [aw s7 bV,gm l0] 7 1))))))) (sq (sq (rg [gf 7 s3,gd l0,gl l1,gm bp] [(18,1),(16,2),(15,3)]) (.block 3 (.loop (sq (r1 [aO xc A7] 17 0) (sq (fh Cw 3) (sq (.block 4 (sq (rg [gm xc,ga 3 Hh xc,gk 3 true l1,gb 3 (.c (.agg [.str [],.str [],.str []])),gm l0,gt 3 l3 l2] [(19,3),(22,4)]) (sq (sq (r1 [gk 9 true s3,gf 0 UX,gd l1,gf 1 UX,gd l3,gx 211 [l0,l2,l4] [[.a,.a,.a,.a,.a,.a,.sl 3 [.sl 4 [.a,.a,.sl 1 [.a],.a],.a,.a],.sl 3 [.a,.a,.a],.sl 2 [.a,.sl 1 [.a]]],[.a],[.a]],gm l5] 20 6) (sq (r1 [gm Kq,bO l0 bp] 21 1) (.cond XK (sq (rg [gm Kq,gm XL,gm l0,gm l1] [(1,2),(2,3)]) .ret) .skip))) (sq (r1 [gf 2 UX,gd l0,gx 212 [l1] bQ,jJ l2] 23 3) (.cond s23 (sq (rg [gm XL,gm OG,gm l0] [(1,1),(2,2)]) .ret) .skip))))) (r1 [aw xc bV,gm l0] 15 1))))))) (sq (sq (r1 [gf 8 s3,gd l0,gx 213 [l1] [[.sl 2 [.a,.sl 1 [.a]]]],jJ l2] 24 3) (.cond Xm (sq (rg [gm (i6 11),gm bp] [(1,0),(2,1)]) .ret) .skip)) (sq (sq (rg [gf 8 s3,gd l0,gl l1,gm bp] [(28,1),(26,2),(25,3)]) (.block 5 (.loop (sq (r1 [aO XM s26] 27 0) (sq (fh s27 5) (sq (.block 6 (sq (rg [gm XM,ga 2 s28 XM,gk 2 true l1,gb 2 (.c (.agg [.str [],.aD])),gm l0,gt 2 l3 l2] [(29,3),(37,4)]) (sq (rg [gf 1 s29,gd l0,gl l1,gm bp] [(33,1),(31,2),(30,3)]) (.block 7 (.loop (sq (r1 [aO UY s31] 32 0) (sq (fh s32 7) (sq (.block 8 (sq (r1 [ga 1 s33 UY,gd l0,gm l1] 34 2) (sq (r1 [gk 9 true s3,gm s34,gx 214 [l0,l1] [[.a,.a,.a,.a,.a,.a,.sl 3 [.sl 4 [.a,.a,.sl 1 [.a],.a],.a,.a],.sl 3 [.a,.a,.a],.sl 2 [.a,.sl 1 [.a]]],[.a]],gm l2] 35 3) (sq (r1 [gm s35,bO l0 bp] 36 1) (.cond s36 (sq (rg [gm s35,gm s37,gm l0,gm l1] [(1,2),(2,3)]) .ret) .skip))))) (r1 [aw UY bV,gm l0] 30 1))))))))) (r1 [aw XM bV,gm l0] 25 1))))))) (sq (sq (r1 [gk 9 true s3,gx 215 [l0] [[.a,.a,.a,.a,.a,.a,.sl 3 [.sl 4 [.a,.a,.sl 1 [.a],.a],.a,.a],.sl 3 [.a,.a,.a],.sl 2 [.a,.sl 1 [.a]]]],pg l1,dd l2 (i6 4096)] 38 3) (.cond s38 (sq (rg [gm ko,gm bp] [(1,0),(2,1)]) .ret) .skip)) (sq (rg [gm bp,gm bp] [(1,0),(2,1)]) .ret))))))))⟩
def w70 (h208:L6 Y)(h209:Hk Y)(h210:XT Y)(h211:U8 Y)(h212:U9 Y)(h213:XU Y)(h214:XV Y)(h215:Vb Y)(r:Rec)  (hp0:fF r):de Y DV (.tup [.int .i64 (cJ r).1,.int .i64 (cJ r).2]) [Rec.D r]:=by
 show bG _ _ _ (⟨true,Rec.D r⟩::.un::.un::.un::.un::.un::.un::.un::.un::.un::.un::.un::.un::.un::.un::.un::.un::.un::.un::.un::.un::.un::.un::.un::.un::.un::.un::.un::.un::.un::.un::.un::.un::.un::.un::.un::.un::.un::.un::[]) ⟨0,[]⟩;refine aq ?_;refine bJ ?_;refine ai (hc:=h208 _) ?_;refine aA ?_;refine wp_cond (fun hc0=>?_) (fun hc0=>?_)
 .try simp only[er]at hc0
  refine aG ?_;refine bM (aM (ar (D.int .i64) ?_) (ar (D.int .i64) ?_));all_goals (have hq:cJ r=(4,0):=(by rw[cJ,ax hc0]);rw[hq];first|done|rfl)
 simp only[bP]at hc0;refine ay ?_;refine bD (v:=cZ.D r.v) ?_;refine ai (hc:=h209 r.v hp0.1.2) ?_;refine aA ?_;refine wp_cond (fun hc1=>?_) (fun hc1=>?_)
 .try simp only[er]at hc1
  refine aG ?_;refine bM (aM (ar (D.int .i64) ?_) (ar (D.int .i64) ?_));all_goals (have hq:cJ r=(5,0):=(by rw[cJ,aj (by simp[hc0]),ax hc1]);rw[hq];first|done|rfl)
 simp only[bP]at hc1;refine aE ?_;intro u0;refine aE ?_;refine jI ?_;refine aE ?_;refine fH (fun hc2=>?_) fun hc2=>?_
 .refine aG ?_;refine bM (aM (ar (D.int .i64) ?_) (ar (D.int .i64) ?_));all_goals (have hq:cJ r=(3,0):=(by rw[cJ,aj (by simp[hc0]),aj (by simp[hc1]),ax ae]);rw[hq];first|done|rfl)
 refine aY ?_;intro u1;refine ay ?_;refine a7 hm (ι:=Nat) (fun i=>(.un::.un::.un::⟨true,.ptr 0 9 0 0⟩::.un::.un::.un::⟨true,.int .i64 (i:Nat)⟩::⟨true,.int .i64 (r.needs.length:Nat)⟩::.un::⟨true,.sl 3 (r.needs.map bN.D)⟩::.un::.un::.un::.un::.un::.un::.un::.un::.un::.un::.un::.un::.un::.un::.un::.un::.un::.un::.un::.un::.un::.un::.un::.un::.un::.un::.un::.un::[])) (fun i=>[(0,.buf 9 [Rec.D r])]) 28 (fun i=>i<=r.needs.length/\lI r=ij (fun i=>iT r r.needs[i]!) i r.needs.length) (fun i=>r.needs.length-i) 0 ⟨ae,rfl⟩ (dp [(0,0)]) ?_;rintro i ⟨hi,hr⟩;refine aA ?_;refine cC (fun hc3=>?_) fun hc3=>?_
 .refine aI ?_;first|refine bS (v:=(bN.D _)) ?_|refine eK (v:=(bN.D _)) ?_
  refine ay ?_;refine aU (bN.D r.needs[i]!) (he:=bd) ?_;refine aE ?_;refine ai (hc:=h210 r r.needs[i]! (hp0.2.1 _ (bB ae))) ?_;refine aG ?_;refine fH (fun hc4=>?_) fun hc4=>?_
  .refine c7 ?_;refine bM (aM (ar (D.int .i64) ?_) (ar (D.int .i64) ?_));all_goals
    have hq:cJ r=(iT r r.needs[i]!,((i:Nat):Int)):=by
     exact oU hc0 hc1 ae ae (FU (by rw[hr,jU ae hc4]) hc4) hc4
    rw[hq];first|done|rfl
  refine aY ?_;exact⟨i+1,⟨ae,by rw[hr,lD ae hc4]⟩,ae,(dp [(0,0)])⟩
 refine aE ?_;have hn0:lI r=(0,0):=by rw[hr,lC ae]
 refine aA ?_;intro u2;refine ay ?_;refine a7 hm (ι:=Nat) (fun i=>(.un::.un::.un::⟨true,.ptr 0 9 0 0⟩::.un::.un::.un::.un::.un::.un::.un::.un::.un::.un::.un::⟨true,.int .i64 (i:Nat)⟩::⟨true,.int .i64 (r.bars.length:Nat)⟩::.un::⟨true,.sl 3 (r.bars.map jm.D)⟩::.un::.un::.un::.un::.un::.un::.un::.un::.un::.un::.un::.un::.un::.un::.un::.un::.un::.un::.un::.un::[])) (fun i=>[(0,.buf 9 [Rec.D r])]) 33 (fun i=>i<=r.bars.length/\sQ r=ij (fun i=>oP r r.bars[i]!) i r.bars.length) (fun i=>r.bars.length-i) 0 ⟨ae,rfl⟩ (dp [(0,0)]) ?_;rintro i ⟨hi,hr⟩;refine aA ?_;refine cC (fun hc5=>?_) fun hc5=>?_
 .refine aI ?_;first|refine bS (v:=(jm.D _)) ?_|refine eK (v:=(jm.D _)) ?_
  refine ay ?_;refine aU (jm.D r.bars[i]!) (he:=bd) ?_;refine bJ ?_;refine ai (hc:=h211 r r.bars[i]!.name r.bars[i]!.range (hp0.2.2.1 _ (bB ae)).2.1) ?_;refine aY ?_;refine av (fun hc6=>?_) (fun hc6=>?_)
  .simp only[bz,bt]at hc6;have hbe:oP r r.bars[i]! =fK r r.bars[i]!.name r.bars[i]!.range:=by rw[oP,ax hc6]
   refine hY ?_;refine bM (aM (ar (D.int .i64) ?_) (ar (D.int .i64) ?_));all_goals
    have hq:cJ r=(fK r r.bars[i]!.name r.bars[i]!.range,((i:Nat):Int)):=by
     exact oU hc0 hc1 ae ae (Ad hn0 (by rw[hr,jU ae (by rw[hbe];exact hc6),hbe]) hc6) hc6
    rw[hq];first|done|rfl
  try simp only[er]at hc6
  refine aE ?_;refine ai (hc:=h212 _) ?_;refine ay ?_;refine wp_cond (fun hc7=>?_) (fun hc7=>?_)
  .simp only[bz]at hc7;have hbe:oP r r.bars[i]! =7:=by rw[oP,aj (fun h=>h hc6),ax hc7]
   refine bJ ?_;refine bM (aM (ar (D.int .i64) ?_) (ar (D.int .i64) ?_));all_goals
    have hq:cJ r=((7:Int),((i:Nat):Int)):=by
     exact oU hc0 hc1 ae ae (Ad hn0 (by rw[hr,jU ae (by rw[hbe];decide),hbe]) (show(7:Int)≠0 by decide)) (show(7:Int)≠0 by decide)
    rw[hq];first|done|rfl
  simp only[bP]at hc7;have hbz:oP r r.bars[i]! =0:=by rw[oP,aj (fun h=>h hc6),aj (by rw[hc7];simp)]
  refine aY ?_;exact⟨i+1,⟨ae,by rw[hr,lD ae hbz]⟩,ae,(dp [(0,0)])⟩
 refine aE ?_;have hb0:sQ r=(0,0):=by rw[hr,lC ae]
 refine ay ?_;refine ai (hc:=h213 r.feats hp0.2.2.2) ?_;refine ay ?_;refine av (fun hc8=>?_) (fun hc8=>?_)
 .try simp only[er]at hc8
  refine aG ?_;refine bM (aM (ar (D.int .i64) ?_) (ar (D.int .i64) ?_));all_goals
   have hq:cJ r=(11,0):=by
    exact oU hc0 hc1 ae ae (FV hn0 hb0 hc8) aH
   rw[hq];first|done|rfl
 simp only[bP]at hc8;refine aG ?_;intro u3;refine ay ?_;refine a7 hm (ι:=Nat) (fun i=>(.un::.un::.un::⟨true,.ptr 0 9 0 0⟩::.un::.un::.un::.un::.un::.un::.un::.un::.un::.un::.un::.un::.un::.un::.un::.un::.un::.un::.un::.un::.un::⟨true,.int .i64 (i:Nat)⟩::⟨true,.int .i64 (r.feats.length:Nat)⟩::.un::⟨true,.sl 2 (r.feats.map cu.D)⟩::.un::.un::.un::.un::.un::.un::.un::.un::.un::.un::[])) (fun i=>[(0,.buf 9 [Rec.D r])]) 42 (fun i=>i<=r.feats.length/\tl r=ij (fun i=>kK r r.feats[i]!.of) i r.feats.length) (fun i=>r.feats.length-i) 0 ⟨ae,rfl⟩ (dp [(0,0)]) ?_;rintro i ⟨hi,hr⟩;refine aA ?_;refine cC (fun hc9=>?_) fun hc9=>?_
 .refine aI ?_;first|refine bS (v:=(cu.D _)) ?_|refine eK (v:=(cu.D _)) ?_
  refine ay ?_;refine aU (cu.D r.feats[i]!) (he:=bd) ?_;refine aI ?_;intro u4;refine ay ?_;refine qm hm (ι:=Nat) (fun j=>(.un::.un::.un::⟨true,.ptr 0 9 0 0⟩::.un::.un::.un::.un::.un::.un::.un::.un::.un::.un::.un::.un::.un::.un::.un::.un::.un::.un::.un::.un::.un::⟨true,.int .i64 (i:Nat)⟩::⟨true,.int .i64 (r.feats.length:Nat)⟩::.un::⟨true,.sl 2 (r.feats.map cu.D)⟩::.un::⟨true,.int .i64 (j:Nat)⟩::⟨true,.int .i64 (r.feats[i]!.of.length:Nat)⟩::.un::⟨true,.sl 1 (r.feats[i]!.of.map D.str)⟩::.un::.un::.un::⟨true,.int .i64 (i:Nat)⟩::.un::[])) (fun j=>[(0,.buf 9 [Rec.D r])]) 53 (fun j=>j<=r.feats[i]!.of.length/\kK r r.feats[i]!.of=fA (fun j=>jL r r.feats[i]!.of[j]!) j r.feats[i]!.of.length) (fun j=>r.feats[i]!.of.length-j) 0 ⟨ae,rfl⟩ (dp [(0,0)]) ?_;rintro j ⟨hj,hjr⟩;refine aA ?_;refine cC (fun hc10=>?_) fun hc10=>?_
  .refine hY ?_;refine ai (hc:=h214 r r.feats[i]!.of[j]! ((hp0.2.2.2 _ (bB ae)).2.2 _ (bB ae))) ?_;refine aG ?_;refine fH (fun hc11=>?_) fun hc11=>?_
   .refine fT ?_;refine bM (aM (ar (D.int .i64) ?_) (ar (D.int .i64) ?_));all_goals
     have hq:cJ r=(jL r r.feats[i]!.of[j]!,((i:Nat):Int)):=by
      have hie:kK r r.feats[i]!.of=jL r r.feats[i]!.of[j]! :=by rw[hjr,lE ae hc11]
      exact oU hc0 hc1 ae ae (ru hn0 hb0 hc8 (by rw[hr,jU (f:=(fun i=>kK r r.feats[i]!.of)) ae (by rw[hie];exact hc11),hie])) hc11
     rw[hq];first|done|rfl
   refine aY ?_;exact⟨j+1,⟨ae,by rw[hjr,nv ae hc11]⟩,ae,(dp [(0,0)])⟩
  refine bJ ?_;exact⟨i+1,⟨ae,by rw[hr,lD (f:=(fun i=>kK r r.feats[i]!.of)) ae (by rw[hjr,nu ae])]⟩,ae,(dp [(0,0)])⟩
 refine aE ?_;have hpz:eH r=(0,0):=ru hn0 hb0 hc8 (by rw[hr,lC ae]);have hgd:wP r:=⟨⟨hc0,hc1⟩,⟨ae,ae⟩,hpz⟩;refine aC ?_;refine ai (hc:=h215 r ⟨hgd,hp0⟩) ?_;refine aC ?_;intro u5;refine ay ?_;refine cC (fun hc12=>?_) fun hc12=>?_
 .refine aG ?_;refine bM (aM (ar (D.int .i64) ?_) (ar (D.int .i64) ?_));all_goals
   have hq:cJ r=(3,0):=by
    rw[qQ hc0 hc1 ae ae hpz,ax ae]
   rw[hq];first|done|rfl
 refine aG ?_;refine bM (aM (ar (D.int .i64) ?_) (ar (D.int .i64) ?_));all_goals
  have hq:cJ r=(0,0):=by
   rw[qQ hc0 hc1 ae ae hpz,aj ae]
  rw[hq];first|done|rfl
def Em (T:List D->D->Prop):Prop:=∀(r:Rec),(fF r)->T [Rec.D r] (.tup [.int .i64 (cJ r).1,.int .i64 (cJ r).2])
def C70 (Y:Ctx):Prop:=Em (br Y 70)
def DW:aF:=⟨1,12,[⟨1,some (9,true)⟩,⟨2,none⟩,⟨3,none⟩],[[.a,.a,.a,.a,.a,.a,.sl 3 [.sl 4 [.a,.a,.sl 1 [.a],.a],.a,.a],.sl 3 [.a,.a,.a],.sl 2 [.a,.sl 1 [.a]]],[.a],[.a]],(sq (rg [gb 9 (.c (.agg [.str [],.int .i64 0,.int .i64 0,.int .i64 0,.str [],.str [],.aD,.aD,.aD])),gm bp,gm bp] [(1,0),(2,1),(3,2)]) (sq (sq (r1 [gm s0,pg l0,dd l1 (i6 4096)] 4 2) (.cond s4 (sq (rg [gn (.build [.str [],.int .i64 0,.int .i64 0,.int .i64 0,.str [],.str [],.aD,.aD,.aD] []),gt 9 s1 l0,gm ko,gm bp] [(2,2),(3,3)]) .ret) .skip)) (sq (r1 [gm s0,gx 124 [l0,(cs [10])] fQ,gm l1] 5 2) (sq (r1 [gm s5,gm s5,gl l1,ee l2 bV,gn (.slA 1 l0 none (some l3)),gn (.build [.aD,.int .i64 0] [(0,1,l4)]),gb 2 l5,gm l6] 6 7) (sq (rg [gm s6,gn (.callF 222 l0 [] []),gm l1,ge l2 0,ge l2 1,gb 9 (.c (.agg [.str [],.int .i64 0,.int .i64 0,.int .i64 0,.str [],.str [],.aD,.aD,.aD])),gt 9 l5 l3,gm l4] [(9,5),(7,7)]) (sq (sq (r2 [gm s7,jJ l0,gm l1,eO 2 s6,cl 2 (.nilck l3),gJ 2 1 l4,iD 2 l5,eO 2 s6,cl 2 (.nilck l7),gJ 2 0 l8,iD 2 l9,cl 2 (.len l10),cl 2 (nL l6 gh),eW l2 iE,gm jr,eO 14 s5,eO 14 s5,cl 14 (.len mK),cl 14 (kA pM bV),cl 14 (.ia 1 lr qC),iD 14 rm,cl 14 (ei va cse),eW j5 xB] 8 22) (.cond s8 (sq (rt [gn (.build [.str [],.int .i64 0,.int .i64 0,.int .i64 0,.str [],.str [],.aD,.aD,.aD] []),gm s6,gc l1,gf 1 l2,gn (.ldI 1 false l3),aw l4 bV,gt 9 s1 l0,gm kr,gm l5] [(2,7),(3,8)]) .ret) .skip)) (sq (sq (r1 [gk 9 true s9,gx 70 [l0] [[.a,.a,.a,.a,.a,.a,.sl 3 [.sl 4 [.a,.a,.sl 1 [.a],.a],.a,.a],.sl 3 [.a,.a,.a],.sl 2 [.a,.sl 1 [.a]]]],gm l1,ge l2 0,ge l2 1,gm l3,gm l4] 10 5) (sq (r1 [gm jh,bO l0 bp] 11 1) (.cond lf (sq (rg [gn (.build [.str [],.int .i64 0,.int .i64 0,.int .i64 0,.str [],.str [],.aD,.aD,.aD] []),gm jh,gt 9 s1 l0,gm l1,gm bp] [(2,3),(3,4)]) .ret) .skip))) (sq (rg [gk 9 true s9,gt 9 s1 l0,gm bp,gm bp] [(2,2),(3,3)]) .ret))))))))⟩
def w76 (hm:(Y.at 0).cd)(h70:C70 Y)(h124:L5 Y)(h222:XZ Y)(s:au)   :de Y DW (.tup [Rec.D (eI s).1,.int .i64 (eI s).2.1,.int .i64 (eI s).2.2]) [.str s]:=by
 show bG _ _ _ [⟨_,_⟩,_,_,_,_,_,_,_,_,_,_,_] _;refine aq ?_;refine bJ ?_;intro u0;refine ay ?_;refine av (fun hc0=>?_) (fun hc0=>?_)
 .simp only[aV]at hc0;have hrr:eI s=(sH,3,0):=by unfold eI;rw[ax ae]
  rw[hrr];refine ay ?_;refine bA fG ?_;refine aU fG (he:=bd) ?_;refine aA ?_;refine pK [(0,.buf 9 [Rec.D sH])] (.bf ah (.cons uO .nil) .nil) ?_;refine aC ?_;refine bM (eZ ?_ (ar (D.int .i64) ?_) (ar (D.int .i64) ?_));all_goals rfl
 simp only[bt]at hc0;have hsp:=eU 10 s [];have hsp:1<=(ak s 10).length:=hsp;have hsl:=dG s 10;refine aA ?_;refine ai (v:=.sl 1 ((ak s 10).map D.str)) (hc:=h124 s 10 ae) ?_;refine aG ?_;intro u1;refine aC ?_;refine pB ((ak s 10).length-1) (hj:=fun _=>ae) (hb:=fun _=>ae) ?_;refine bA (Ld.D ⟨((ak s 10).take ((ak s 10).length-1)),0⟩) ?_;refine aE ?_;generalize hLS:((ak s 10).take ((ak s 10).length-1))=LS;have hLl:LS.length=(ak s 10).length-1:=by rw[<-hLS,ff];omega
 have hLm:Bw LS:=fun t ht=>by
  rw[<-hLS]at ht;have:=eJ s 10 (lW ht);omega
 have hsm0:(⟨LS,0⟩:Ld).sm:=⟨⟨Nat.zero_le _,by simp only;omega⟩,hLm⟩;obtain⟨hrs,hsf⟩:=Kk hLm;have hsfl:=hsf.length_le;refine aC ?_;refine nr (v:=.tup [Rec.D (iP LS).1,.bool (tN LS).isSome]) (e:=Ld.D ((⟨LS,0⟩:Ld).to (iP LS).2)) (hc:=h222 ⟨LS,0⟩ hsm0) ?_;refine aC ?_;refine fX (Rec.D _) ?_;refine ay ?_;refine aU (Rec.D (iP LS).1) (he:=bd) ?_;refine hY ?_;refine bD (v:=.int .i64 ((LS.length-(iP LS).2.length:Nat):Int)) ?_;refine aA ?_;refine bD (v:=.sl 1 (LS.map D.str)) ?_;refine jI ?_;refine aI ?_;refine jI ?_;refine aC ?_;refine cb ((ak s 10).length-1) (hj:=fun _=>ae) (hb:=fun _=>ae) ?_;refine bS (v:=.str (ak s 10)[(ak s 10).length-1]!) (hi:=fun _=>ae) ?_;refine aA ?_;refine av (fun hc1=>?_) (fun hc1=>?_)
 .simp only[cX,bz,aV,bt]at hc1;have hrr:eI s=(sH,2,((LS.length-(iP LS).2.length:Nat):Int)+1):=by
   unfold eI;rw[aj ae];simp only[hLS];rw[ax];rcases hc1 with(h|h)|h
   .exact .inl h
   .refine .inr (.inl fun e=>?_);rw[e]at h;simp only[aB]at h;omega
   .exact .inr (.inr h)
  rw[hrr];refine aC ?_;refine fu 15 (he:=by simp only[n9,kl,mY,oH,pW,c8,Nat.reduceEqDiff,ba,bc,dL,cK,cL,dJ,dK,b9,bU,aP,ct,aZ,reduceCtorEq,az,aB,Nat.reduceAdd,Nat.reduceLeDiff,Ld.D,fG,px];exact rfl) (hm:=by simp only[n9,kl,mY,oH,pW,c8,Nat.reduceEqDiff,ba,bc,dL,cK,cL,dJ,dK,b9,bU,aP,ct,aZ,reduceCtorEq,az,aB,Nat.reduceAdd,Nat.reduceLeDiff,Ld.D,fG,Rec.D];exact rfl) ?_;refine aC ?_;refine bA fG ?_;refine aA ?_;refine DS (v:=.int .i64 ((LS.length-(iP LS).2.length:Nat):Int)) ?_;refine aC ?_;refine aU fG (he:=bd) ?_;refine aA ?_;refine pK [(0,.buf 9 [Rec.D sH]),(22,.buf 9 [Rec.D (iP LS).1])] (.bf ah (.cons uO .nil) (.id ah .nil)) ?_;refine aC ?_;refine bM (eZ ?_ (ar (D.int .i64) ?_) (ar (D.int .i64) ?_));all_goals rfl
 simp only[dH,bP,aV,bt]at hc1;have hrr:eI s=if(cJ (iP LS).1).1≠0 then(sH,(cJ (iP LS).1).1,0)else((iP LS).1,0,0):=by
  unfold eI;rw[aj ae];simp only[hLS];rw[aj];rintro(h|h|h)
  .rw[hc1.1.1]at h;cases h
  .exact h (mS (by have:=hc1.1.2;omega))
  .exact h hc1.2
 rw[hrr];refine aA ?_;refine cy (d:=Rec.D (iP LS).1) ?_;refine ai (hc:=h70 (iP LS).1 hrs) ?_;refine fT ?_;refine av (fun hc2=>?_) (fun hc2=>?_)
 .simp only[bz,bt]at hc2;rw[ax hc2];refine ay ?_;refine bA fG ?_;refine aC ?_;refine aU fG (he:=bd) ?_;refine aA ?_;refine pK [(0,.buf 9 [Rec.D sH]),(15,.buf 2 [Ld.D ((⟨LS,0⟩:Ld).to (iP LS).2)]),(22,.buf 9 [Rec.D (iP LS).1])] (.bf ah (.cons uO .nil) (.id ah (.id ah .nil))) ?_;refine aC ?_;refine bM (eZ ?_ (ar (D.int .i64) ?_) (ar (D.int .i64) ?_));all_goals rfl
 simp only[bP,aV]at hc2;rw[aj (by rw[hc2];simp)];refine ay ?_;refine cy (d:=Rec.D (iP LS).1) ?_;refine aU (Rec.D (iP LS).1) (he:=bd) ?_;refine aE ?_;refine bM (eZ ?_ (ar (D.int .i64) ?_) (ar (D.int .i64) ?_));all_goals rfl
def R3 (T:List D->D->Prop):Prop:=∀(s:au),T [.str s] (.tup [Rec.D (eI s).1,.int .i64 (eI s).2.1,.int .i64 (eI s).2.2])
def C76 (Y:Ctx):Prop:=R3 (br Y 76)
def cv (s:au):List au×Bool:=if(ak s 10)[(ak s 10).length-1]! =[]then((ak s 10).take ((ak s 10).length-1),true)else(ak s 10,false)
end Go.Abs
section
namespace Go.Abs
variable {Y:Ctx}(hm:(Y.at 0).cd)
def PX {α:Type}(l:List α)(a d:α)(n:Nat)(h:n=l.length):(l++[a]).getD n d=a:=by subst h;simp[List.getD]
def RC {α:Type}(l:List α)(a b:α)(n:Nat)(h:n=l.length):(l++[a]).set n b=l++[b]:=by subst h;simp
def RdS.ok (x:RdS):Prop:=(x.st=0->x.r.needs=[]/\x.r.bars=[]/\x.r.feats=[])/\((x.st=2\/x.st=3)->x.r.needs≠[])/\(x.st=5->x.r.bars≠[])
end Go.Abs
namespace Go.Abs
variable {Y:Ctx}(hm:(Y.at 0).cd)
end Go.Abs
end
namespace Go.Abs
variable {Y:Ctx}(hm:(Y.at 0).cd)
section
def O5 (ob:EC):Prop:=∀(σ:List (Nat×Nat)) (l l':Nat) (w:List au) (n:Nat) (b:Bool),oy 0 σ l=some l'->vb 0 σ (ob w (.own l 5 0 n) b)=some (ob w (.own l' 5 0 n) b)
def ry:O5 iF:=fun σ l l' w n b h=>by simp only[iF,vb,sI,Km,h]
def tL (W:List au):O5 (iX W):=fun σ l l' w n b h=>by simp only[iX,vb,sI,Km,h]
def Ry:D->Nat
 | .agg [.sl _ ws,_,_]=>ws.length
 | .agg [.sl _ ws,.int _ i,_,_]=>ws.length-i.toNat
 |_=>0
def DE (c:List D->Nat)(ds:List D)(st:St):Nat:=match ds with
 | .ptr l _ _ _::alI=>(match look st.m l with
  |some (.buf _ [o])=>6*Ry o+c alI
  |_=>0)
 |_=>0
def TS (w:List au)(X:D)(b:Bool):Ry (iF w X b)=w.length:=by simp[Ry,iF]
def TU {W w:List au}(h:w<:+W)(X:D)(b:Bool):Ry (iX W w X b)=w.length:=by
 grind [Ry,iX]
def nT {c:List D->Nat}{l k nx:Nat}{alI:List D}{m:List (Nat×bR)}{w:List au}{X:D}{b:Bool}(h:look m l=some (.buf k [iF w X b])):DE c (.ptr l k 0 0::alI) ⟨nx,m⟩=6*w.length+c alI:=by
 simp only[DE,h,TS]
def tE {c:List D->Nat}{l k nx:Nat}{alI:List D}{m:List (Nat×bR)}{W w:List au}{X:D}{b:Bool}(hw:w<:+W)(h:look m l=some (.buf k [iX W w X b])):DE c (.ptr l k 0 0::alI) ⟨nx,m⟩=6*w.length+c alI:=by
 simp only[DE,h,TU hw]
def Ih (nd:List Nd):bC (nd.map Nd.D)=true:=cg (fun _=>rfl) _
section
variable [dD] {P:Program} {ν:List (Nat×Nat)} {cQ:List Nat} {t:List (Nat×qx)} {fid n key u k:Nat} {af:aF} {ob:EC} {alI:List D} {w:List au} {nd:List Nd} {b:Bool} {lp ln nx:Nat} {m:List (Nat×bR)} {K:D->St->Prop} {Pp:PO->Prop} {V:PO->D}
def QV (hob:O5 ob)(hk5:k≠5)(has:bC alI=true)(h1:look m lp=some (.buf k [ob w (.own ln 5 0 nd.length) b]))(h2:look m ln=some (.buf 5 (nd.map Nd.D))):
  lp≠ln/\(∀i,i<(D.ptr lp k 0 0::alI).length->Sc 0 [(lp,0),(ln,1)] ((D.ptr lp k 0 0::alI).getD i .any) ((D.ptr 0 k 0 0::alI).getD i .any))/\iY 0 2 [(lp,0),(ln,1)]=true/\(∀l i,(l,i)∈[(lp,0),(ln,1)]->look m l≠none)/\
   ∀i bb,look [(0,.buf k [ob w (.own 1 5 0 nd.length) b]),(1,.buf 5 (nd.map Nd.D))] i=some bb->∃l b',(l,i)∈[(lp,0),(ln,1)]/\look m l=some b'/\sN 0 [(lp,0),(ln,1)] b' bb:=by
 have hne:lp≠ln:=by
  rintro rfl;rw[h1]at h2;exact hk5 (bR.buf.inj (ch h2)).1
 have hb:Nat.beq lp ln=false:=by cases h:Nat.beq lp ln with
  |false=>rfl
  |true=>exact absurd (Nat.eq_of_beq_eq_true h) hne
 have hb':Nat.beq ln lp=false:=by cases h:Nat.beq ln lp with
  |false=>rfl
  |true=>exact absurd (Nat.eq_of_beq_eq_true h).symm hne
 refine⟨hne,fun i hi=>?_, ?_,fun l i h=>?_,fun i bb h=>?_⟩
 .match i with
  |0=>exact .inr (.inl (by simp[vb,Km,oy]))
  |i+1=>exact .inl ⟨rfl,dz has i⟩
 .simp[iY,hb,hb'];rfl
 .grind
 .simp only[look]at h;split at h
  .rename_i e;subst e;obtain rfl:=ch h;exact⟨lp,_,.head _,h1,rfl,.inr (.inl (by simp only[sI,hob _ ln 1 w nd.length b (show oy 0 [(lp,0),(ln,1)] ln=some 1 by simp[oy,hb])]))⟩
  .split at h
   .rename_i e;subst e;obtain rfl:=ch h;exact⟨ln,_,.tail _ (.head _),h2,rfl,.inl ⟨rfl,Ih nd⟩⟩
   .cases h
def gv (hob:O5 ob)(hk5:k≠5)(has:bC alI=true)(hV:∀o,(V o).bE=true)(hmix:P.follows .mixedOrders=true)(hC:OD P ν cQ fid af)(hnp:alI.length+1=af.np)
  (h1:look m lp=some (.buf k [ob w (.own ln 5 0 nd.length) b])) (h2:look m ln=some (.buf 5 (nd.map Nd.D))) (h3:lp<nx) (h4:ln<nx)
  (hK:∀o,Pp o->K (V o) ⟨nx+1,(nx,.buf 5 (o.nd.map Nd.D))::dx (c8 m ln) lp (.buf k [ob o.w (.own nx 5 0 o.nd.length) o.bad])⟩)
  (hw:bG ((under t key u).at 2) af.body (m8 af (xo k ob Pp V)) (gy af (.ptr 0 k 0 0::alI)) ⟨2,[(0,.buf k [ob w (.own 1 5 0 nd.length) b]),(1,.buf 5 (nd.map Nd.D))]⟩):qn P ν cQ (under t key u) fid (.ptr lp k 0 0::alI) ⟨nx,m⟩ K:=by
 obtain⟨hne,g2,g3,g4,g5⟩:=QV hob hk5 has h1 h2;refine BZ (σi:=[(lp,0),(ln,1)]) (cs:=.ptr 0 k 0 0::alI) (fun q=>AP t key u q) hmix hC aT g2 (by simpa using hnp) g3 g4 g5 hw ?_;rintro d m1 ⟨o,j,hj,hP,rfl,e0,ej⟩;have hb0:Nat.beq 0 j=false:=by cases j<;>first|omega|rfl
 have hbj:Nat.beq j 0=false:=by cases j<;>first|omega|rfl
 have hbl:Nat.beq lp nx=false:=by cases h:Nat.beq lp nx with
  |false=>rfl
  |true=>have:=Nat.eq_of_beq_eq_true h;omega
 have hbl':Nat.beq nx lp=false:=by cases h:Nat.beq nx lp with
  |false=>rfl
  |true=>have:=Nat.eq_of_beq_eq_true h;omega
 refine⟨[(0,lp),(j,nx)],j+1,_,V o,⟨g3, ?_,Nat.le_succ _,g4, ?_,g5, ?_⟩,.inl ⟨rfl,hV o⟩,hK o hP⟩
 .simp[iY,hbj,hb0,hbl,hbl'];omega
 .intro i l h;rcases bY.1 h with h|h
  .obtain⟨rfl,rfl⟩:=Prod.mk.inj h;exact .inl (.head _)
  .obtain⟨rfl,rfl⟩:=Prod.mk.inj (cN.1 h);exact .inr (aP _)
 .intro l bb h;simp only[look]at h;split at h
  .rename_i e;subst e;obtain rfl:=ch h;exact .inl ⟨j,_,.tail _ (.head _),ej,rfl,.inl ⟨rfl,Ih _⟩⟩
  .rename_i hln;rw[cD]at h;split at h
   .rename_i e;subst e;obtain rfl:=ch h;exact .inl ⟨0,_,.head _,e0,rfl,.inr (.inl (by simp only[sI,hob _ j nx o.w o.nd.length o.bad (show oy 0 [(0,l),(j,nx)] j=some nx by simp[oy,hb0])]))⟩
   .rename_i hlp;rw[gO]at h;split at h
    .cases h
    .rename_i hl2;refine .inr ⟨by simp only[nk,aj (fun e=>hlp (Eq.symm e)),aj hln],fun i hi=>?_,h⟩;rcases bY.1 hi with hi|hi
     .exact hlp (Prod.mk.inj hi).1
     .exact hl2 (Prod.mk.inj (cN.1 hi)).1
def v7 (hob:O5 ob)(hk5:k≠5)(has:bC alI=true)(hV:∀o,(V o).bE=true)(hmix:P.follows .mixedOrders=true)(hC:OD P ν cQ fid af)(hnp:alI.length+1=af.np)
  (h1:look m lp=some (.buf k [ob w (.own ln 5 0 nd.length) b])) (h2:look m ln=some (.buf 5 (nd.map Nd.D))) (h3:lp<nx) (h4:ln<nx)
  (hK:∀o,Pp o->K (V o) ⟨nx,dx m lp (.buf k [ob o.w (.own ln 5 0 nd.length) o.bad])⟩)
  (hw:bG ((under t key u).at 2) af.body (m8 af (Jj k ob nd Pp V)) (gy af (.ptr 0 k 0 0::alI)) ⟨2,[(0,.buf k [ob w (.own 1 5 0 nd.length) b]),(1,.buf 5 (nd.map Nd.D))]⟩):qn P ν cQ (under t key u) fid (.ptr lp k 0 0::alI) ⟨nx,m⟩ K:=by
 obtain⟨hne,g2,g3,g4,g5⟩:=QV hob hk5 has h1 h2;refine BZ (σi:=[(lp,0),(ln,1)]) (cs:=.ptr 0 k 0 0::alI) (fun q=>AP t key u q) hmix hC aT g2 (by simpa using hnp) g3 g4 g5 hw ?_;rintro d m1 ⟨o,hP,rfl,e0,ej⟩;have hbl:Nat.beq lp ln=false:=by cases h:Nat.beq lp ln with
  |false=>rfl
  |true=>exact absurd (Nat.eq_of_beq_eq_true h) hne
 have hbl':Nat.beq ln lp=false:=by cases h:Nat.beq ln lp with
  |false=>rfl
  |true=>exact absurd (Nat.eq_of_beq_eq_true h).symm hne
 refine⟨[(0,lp),(1,ln)],2,⟨nx,dx m lp (.buf k [ob o.w (.own ln 5 0 nd.length) o.bad])⟩,V o,⟨g3, ?_,aP _,g4, ?_,g5, ?_⟩,.inl ⟨rfl,hV o⟩,hK o hP⟩
 .simp[iY,hbl,hbl'];exact⟨h3,rfl,h4⟩
 .intro i l h;rcases bY.1 h with h|h
  .obtain⟨rfl,rfl⟩:=Prod.mk.inj h;exact .inl (.head _)
  .obtain⟨rfl,rfl⟩:=Prod.mk.inj (cN.1 h);exact .inl (.tail _ (.head _))
 .intro l bb h;simp only at h;rw[cD]at h;split at h
  .rename_i e;subst e;obtain rfl:=ch h;exact .inl ⟨0,_,.head _,e0,rfl,.inr (.inl (by simp only[sI,hob _ 1 ln o.w nd.length o.bad (show oy 0 [(0,l),(1,ln)] 1=some ln from rfl)]))⟩
  .rename_i hlp;by_cases hl2:l=ln
   .subst hl2;rw[h2]at h;obtain rfl:=ch h;exact .inl ⟨1,_,.tail _ (.head _),ej,rfl,.inl ⟨rfl,Ih _⟩⟩
   .refine .inr ⟨by simp only[nk,aj (fun e=>hlp (Eq.symm e)),aj (fun e=>hl2 (Eq.symm e))],fun i hi=>?_,h⟩;rcases bY.1 hi with hi|hi
    .exact hlp (Prod.mk.inj hi).1
    .exact hl2 (Prod.mk.inj (cN.1 hi)).1
def qM {a b:Nat}(h:a≠b):Nat.beq a b=false:=by
 cases h2:Nat.beq a b with
 |false=>rfl
 |true=>exact absurd (Nat.eq_of_beq_eq_true h2) h
def AE {m:List (Nat×bR)}{l lw:Nat}(h:l≠lw):gr (c8 m lw) l=match look m l with
 |some (.bld (some l2) _ _)=>c8 (c8 m lw) l2
 |_=>c8 m lw:=by
 grind [gr,gO,look]
def M7 {ws:List au}{s:au}{l lw:Nat}(hmix:P.follows .mixedOrders=true)(hC:OD P ν cQ fid af)(hnp:2=af.np)
  (h1:sM m l s) (h2:look m lw=some (.buf 1 (ws.map D.str))) (h3:l<nx) (h4:lw<nx) (hK:K (.tup []) ⟨nx+1,qN (c8 m lw) l nx (s++b7 ws)⟩)
  (hw:∀m0,sM m0 0 s->look m0 1=some (.buf 1 (ws.map D.str))->bG ((under t key u).at 3) af.body (m8 af (fun d m=>d=.tup []/\look m 0=some (.bld (some 9) (s++b7 ws).length true)/\look m 9=some (.row (s++b7 ws)))) (gy af [.ptr 0 2 0 0,.own 1 1 0 ws.length]) ⟨3,m0⟩):
  qn P ν cQ (under t key u) fid [.ptr l 2 0 0,.own lw 1 0 ws.length] ⟨nx,m⟩ K:=by
 have hlw:l≠lw:=by
  rintro rfl;rcases h1 with⟨u,h,_⟩|⟨l2,u,h,_⟩<;>rw[h2]at h<;>cases h
 have hnl:bC (ws.map D.str)=true:=cg (fun _=>rfl) _;have b1:=qM hlw;have b2:=qM (Ne.symm hlw);have b3:=qM (show l≠nx by omega);have b4:=qM (show nx≠l by omega)

 have fin:∀(σi:List (Nat×Nat)) (m0:List (Nat×bR)),iY 0 3 σi=true->(l,0)∈σi->(∀l i,(l,i)∈σi->look m l≠none)->(∀i b,look m0 i=some b->∃l b',(l,i)∈σi/\look m l=some b'/\sN 0 σi b' b)->
   (∀l' b,look (gr (c8 m lw) l) l'=some b->l'≠l->look m l'=some b/\∀i,(l',i)∉σi)->∀d m1,(d=.tup []/\look m1 0=some (.bld (some 9) (s++b7 ws).length true)/\look m1 9=some (.row (s++b7 ws)))->
   ∃(σo:List (Nat×Nat)) (q1:Nat) (st':St) (vd':D),Fr σi σo 3 q1 m0 m1 ⟨nx,m⟩ st'/\Sc 0 σo d vd'/\K vd' st':=by
  rintro σi m0 oki hm hlt hm0 hoff d m1 ⟨rfl,e0,e9⟩;refine⟨[(0,l),(9,nx)],10,⟨nx+1,qN (c8 m lw) l nx (s++b7 ws)⟩,.tup [],⟨oki, ?_,Nat.le_succ _,hlt, ?_,hm0, ?_⟩,.inl ⟨rfl,rfl⟩,hK⟩
  .simp[iY,b3,b4];exact⟨ae,rfl⟩
  .intro i l' h;rcases bY.1 h with h|h
   .obtain⟨rfl,rfl⟩:=Prod.mk.inj h;exact .inl hm
   .obtain⟨rfl,rfl⟩:=Prod.mk.inj (cN.1 h);exact .inr (aP _)
  .intro l' bb h;simp only[qN,look]at h;split at h
   .rename_i e;subst e;obtain rfl:=ch h;exact .inl ⟨9,_,.tail _ (.head _),e9,rfl⟩
   .rename_i hln;rw[cD]at h;split at h
    .rename_i e;subst e;obtain rfl:=ch h;exact .inl ⟨0,_,.head _,e0,⟨nx,rfl,rfl⟩,rfl,rfl⟩
    .rename_i hl;obtain⟨g1,g2⟩:=hoff l' bb h hl;exact .inr ⟨by simp only[nk,aj (fun e=>hl (Eq.symm e)),aj hln],g2,g1⟩
 rcases h1 with⟨u,h1,rfl⟩|⟨l2,u,h1,h5⟩
 .have g4:∀l' i,(l',i)∈[(l,0),(lw,1)]->look m l'≠none:=by
   intro l' i h;rcases bY.1 h with h|h
   .obtain⟨rfl,rfl⟩:=Prod.mk.inj h;rw[h1];simp
   .obtain⟨rfl,rfl⟩:=Prod.mk.inj (cN.1 h);rw[h2];simp
  have g3:iY 0 3 [(l,0),(lw,1)]=true:=by simp[iY,b1,b2];rfl
  have g5:∀i b,look [(0,bR.bld none 0 u),(1,.buf 1 (ws.map D.str))] i=some b->∃l' b',(l',i)∈[(l,0),(lw,1)]/\look m l'=some b'/\sN 0 [(l,0),(lw,1)] b' b:=by
   intro i b h;simp only[look]at h;split at h
   .rename_i e;subst e;obtain rfl:=ch h;exact⟨l,_,.head _,h1,rfl,rfl,rfl⟩
   .split at h
    .rename_i e;subst e;obtain rfl:=ch h;exact⟨lw,_,.tail _ (.head _),h2,rfl,.inl ⟨rfl,hnl⟩⟩
    .cases h
  refine BZ (σi:=[(l,0),(lw,1)]) (cs:=[.ptr 0 2 0 0,.own 1 1 0 ws.length]) (fun q=>AP t key _ q) hmix hC rfl ?_ hnp g3 g4 g5 (hw _ (.inl ⟨u,rfl,rfl⟩) rfl) (fin _ _ g3 (.head _) g4 g5 ?_)
  .intro i hi
   match i,hi with
   |0,_=>exact .inr (.inl (by simp[vb,Km,oy]))
   |1,_=>exact .inr (.inl (by simp[vb,Km,oy,b1]))
  .intro l' b h hl;rw[AE hlw]at h;simp only[h1]at h;rw[gO]at h;split at h
   .cases h
   .rename_i hw';refine⟨h,fun i hi=>?_⟩;rcases bY.1 hi with hi|hi
    .exact hl (Prod.mk.inj hi).1
    .exact hw' (Prod.mk.inj (cN.1 hi)).1
 .have c1:l2≠l:=by rintro rfl;rw[h1]at h5;cases h5
  have c2:l2≠lw:=by rintro rfl;rw[h2]at h5;cases h5
  have d1:=qM c1;have d2:=qM c2;have d3:=qM (Ne.symm c1);have d4:=qM (Ne.symm c2);have g4:∀l' i,(l',i)∈[(l,0),(lw,1),(l2,2)]->look m l'≠none:=by
   intro l' i h;rcases bY.1 h with h|h
   .obtain⟨rfl,rfl⟩:=Prod.mk.inj h;rw[h1];simp
   .rcases bY.1 h with h|h
    .obtain⟨rfl,rfl⟩:=Prod.mk.inj h;rw[h2];simp
    .obtain⟨rfl,rfl⟩:=Prod.mk.inj (cN.1 h);rw[h5];simp
  have g3:iY 0 3 [(l,0),(lw,1),(l2,2)]=true:=by simp[iY,b1,b2,d1,d2,d3,d4];exact⟨⟨rfl,rfl⟩,rfl⟩
  have g5:∀i b,look [(0,bR.bld (some 2) s.length u),(1,.buf 1 (ws.map D.str)),(2,.row s)] i=some b->∃l' b',(l',i)∈[(l,0),(lw,1),(l2,2)]/\look m l'=some b'/\sN 0 [(l,0),(lw,1),(l2,2)] b' b:=by
   intro i b h;simp only[look]at h;split at h
   .rename_i e;subst e;obtain rfl:=ch h;exact⟨l,_,.head _,h1,⟨2,by simp[oy,d3,d4],rfl⟩,rfl,rfl⟩
   .split at h
    .rename_i e;subst e;obtain rfl:=ch h;exact⟨lw,_,.tail _ (.head _),h2,rfl,.inl ⟨rfl,hnl⟩⟩
    .split at h
     .rename_i e;subst e;obtain rfl:=ch h;exact⟨l2,_,.tail _ (.tail _ (.head _)),h5,rfl⟩
     .cases h
  refine BZ (σi:=[(l,0),(lw,1),(l2,2)]) (cs:=[.ptr 0 2 0 0,.own 1 1 0 ws.length]) (fun q=>AP t key _ q) hmix hC rfl ?_ hnp g3 g4 g5 (hw _ (.inr ⟨2,u,rfl,rfl⟩) rfl) (fin _ _ g3 (.head _) g4 g5 ?_)
  .intro i hi
   match i,hi with
   |0,_=>exact .inr (.inl (by simp[vb,Km,oy]))
   |1,_=>exact .inr (.inl (by simp[vb,Km,oy,b1]))
  .intro l' b h hl;rw[AE hlw]at h;simp only[h1]at h;rw[gO]at h;split at h
   .cases h
   .rename_i hw2;rw[gO]at h;split at h
    .cases h
    .rename_i hw';refine⟨h,fun i hi=>?_⟩;rcases bY.1 hi with hi|hi
     .exact hl (Prod.mk.inj hi).1
     .rcases bY.1 hi with hi|hi
      .exact hw' (Prod.mk.inj hi).1
      .exact hw2 (Prod.mk.inj (cN.1 hi)).1
end
end
theorem vR {α:Type}{f:α->D}(hf:∀x y,f x=f y↔x=y):∀a b:List α,a.map f=b.map f↔a=b
 |[],[]=>aT
 |[],_::_=>aT
 |_::_,[]=>aT
 |x::a,y::b=>by simp only[List.map_cons,ub,hf,vR hf a b]
def Tj (a b:Nat):((a:Nat):Int)=(b:Nat)↔a=b:=ae
theorem iU8 (x y:UInt8):((x.toNat:Nat):Int)=(y.toNat:Nat)↔x=y:=(Tj _ _).trans iR
def MW (a b:List au):a.map D.str=b.map D.str↔a=b:=vR (fun _ _=>aT) a b
def iInt (a b:List Int):a.map (D.int .i64)=b.map (D.int .i64)↔a=b:=vR (fun _ _=>aT) a b
def iByt (a b:au):(a.map fun c=>D.int .u8 c.toNat)=(b.map fun c=>D.int .u8 c.toNat)↔a=b:=by grind [vR,iU8]
def iVer (a b:cZ):cZ.D a=cZ.D b↔a=b:=by cases a;cases b;simp[cZ.D]
def UK (a b:b6):b6.D a=b6.D b↔a=b:=by cases a;cases b;simp[b6.D,MW]
def P2 (a b:List b6):a.map b6.D=b.map b6.D↔a=b:=vR UK a b
def UJ (a b:bN):bN.D a=bN.D b↔a=b:=by cases a;cases b;simp[bN.D,P2]
def HV (a b:List bN):a.map bN.D=b.map bN.D↔a=b:=vR UJ a b
def iBar (a b:jm):jm.D a=jm.D b↔a=b:=by cases a;cases b;simp[jm.D]
def P1 (a b:List jm):a.map jm.D=b.map jm.D↔a=b:=vR iBar a b
def UI (a b:cu):cu.D a=cu.D b↔a=b:=by cases a;cases b;simp[cu.D,MW]
def HU (a b:List cu):a.map cu.D=b.map cu.D↔a=b:=vR UI a b
def iRec (a b:Rec):Rec.D a=Rec.D b↔a=b:=by
 obtain⟨n,⟨v1,v2,v3,v4,v5⟩,x,y,z⟩:=a;obtain⟨n',⟨w1,w2,w3,w4,w5⟩,x',y',z'⟩:=b;simp[Rec.D,HV,P1,HU,and_assoc]
def iCmp (a b:dr):dr.D a=dr.D b↔a=b:=by
 obtain⟨n,p,v1,v2,v3,v4,v5⟩:=a;obtain⟨n',p',w1,w2,w3,w4,w5⟩:=b;simp[dr.D]
def UG (a b:List dr):a.map dr.D=b.map dr.D↔a=b:=vR iCmp a b
def iNd (a b:Nd):Nd.D a=Nd.D b↔a=b:=by cases a;cases b;simp[Nd.D]
def iNds (a b:List Nd):a.map Nd.D=b.map Nd.D↔a=b:=vR iNd a b
def WA (a b:Alt):qK a=qK b↔a=b:=by simp[qK,UG]
def iRng (a b:y7):iq a=iq b↔a=b:=by simp[iq,vR WA]
def iAlts (a b:List Alt):a.map qK=b.map qK↔a=b:=vR WA a b
def iMrk (a b:Uv):lh a=lh b↔a=b:=by simp[lh,iNds]
def iLd (a b:Ld):Ld.D a=Ld.D b↔a=b:=by cases a;cases b;simp[Ld.D,MW,Tj]
def iPr (w w':List au)(x x':D)(b b':Bool):iF w x b=iF w' x' b'↔w=w'/\x=x'/\b=b':=by simp[iF,MW]
def SO {A:FT->Prop}(h:A (fun d ds v s=>A fun d' ds' v' s'=>d'=d->ds'=ds->v=v'/\s=s'):=by
 (repeat' first|apply And.intro|intro _)
 all_goals rename_i e' e
 all_goals (try simp only[ub,D.str.injEq,D.int.injEq,D.bool.injEq,D.sl.injEq,iLd,MW,iU8,iR,Tj,cL,cK]at e e')
 all_goals first|rfl|(simp only[e,e'];done)|simp_all):y5 (oL A):=SP h
def kq (l:List Int)(i:Int):Int:=if i<0\/(l.length:Int)<=i then 0 else l[i.toNat]!
def TL {v n:Int}(h:0<n)(h2:¬v.tmod n<0):v.tmod n=v%n:=by
 rw[Int.tmod_eq_emod];rw[Int.tmod_eq_emod]at h2;have h3:=Int.emod_nonneg v (show n≠0 by omega);have h4:=Int.emod_lt_of_pos v h
 grind
def TK {v n:Int}(h:0<n)(h2:v.tmod n<0):v.tmod n+n=v%n:=by
 rw[Int.tmod_eq_emod]at h2⊢;have h3:=Int.emod_nonneg v (show n≠0 by omega)
 grind
def fL (l:List Int)(i n:Int):Int:=kq l i%n
def dw (l:List Int)(i n:Int)(h:0<n):0<=fL l i n/\fL l i n<n:=⟨Int.emod_nonneg _ ae,Int.emod_lt_of_pos _ h⟩
def nC (v n:Int)(h:0<n):0<=v%n/\v%n<n:=⟨Int.emod_nonneg _ ae,Int.emod_lt_of_pos _ h⟩
theorem um {α:Type} [Inhabited α]{q:α->D}(xs:List α){j:Nat}(h:j<xs.length):cut (xs.map q) (j*1) 1 false=q xs[j]! :=by
 show(xs.map q).getD (j*1) .any=_;rw[Nat.mul_one];exact getD_map h
def H5 {α:Type} [Inhabited α]{q:α->D}(xs:List α){j n:Nat}(h:j<xs.length)(hn:(1==n)=false):oc (.agg (xs.map q)) n 1 (0+j*1) false=q xs[j]! :=by
 have hc:(D.agg (xs.map q)).cells=xs.map q:=by
  rfl
 grind [oc,um]
def Qp:List au:=[[97,112,112],[98],[99],[100],[101,45,50]]
def eN (n:Int):au:=Qp[(n%5).toNat]!
def T5:List au:=[[120],[121],[122],[119,95,49]]
def mi (n:Int):au:=T5[(n%4).toNat]!
def Io:List Int:=[9,7,6,3,1,2]
def xu (l:List Int)(i:Int):dr:=⟨Io[(fL l i 6).toNat]!,3,⟨fL l (i+1) 3,fL l (i+2) 2,0,[],[]⟩⟩
def tu (l:List Int)(i:Int):au:=if(xu l i).op=9 then [42]else dV (xu l i)
def B8:List au:=[[111,115],[97,114,99,104],[97,98,105]]
def MB:List au:=[[32,61,32],[32,33,61,32]]
def mg (l:List Int)(i:Int):au:=if 2<fL l i 6 then []else B8[(fL l i 6).toNat]! ++MB[(fL l (i+1) 2).toNat]! ++mi (1+fL l (i+1) 3)
def A0:List au:=[[120],[121]]
def oI (l:List Int)(i:Int)(alone:Bool):List au:=if alone=true/\2<fL l (i+5) 5 then A0.take (fL l (i+5) 5-2).toNat else []
def mh (l:List Int)(i own:Int)(alone:Bool):b6:=⟨eN (own+1+fL l i 4),tu l (i+1),oI l i alone,decide (fL l (i+4) 3=0)⟩
def fP (l:List Int)(i:Int):Nat:=if fL l i 5=1 then 2 else 1
def tt (l:List Int)(i own:Int)(k:Nat):List b6:=(List.range k).map fun(k:Nat)=>mh l (i+1+6*(k:Nat)) own (decide ((fP l i:Int)=1))
def gZ (l:List Int)(i own:Int):bN:=⟨tt l i own (fP l i),mg l (i+14),if fL l (i+16) 4=1 then mi (kq l (i+17))else []⟩
def MN (l:List Int)(i own:Int)(k:Nat):tt l i own (k+1)=tt l i own k++[mh l (i+1+6*(k:Nat)) own (decide ((fP l i:Int)=1))]:=by
 unfold tt;rw[List.range_succ,List.map_append];rfl
def zF (l:List Int)(i:Int):fP l i<=2:=by
 unfold fP;split<;>omega
def lO (s:au):List au->Nat
 |[]=>0
 |a::r=>if Op.bytesLess a s=true then lO s r+1 else 0
def gP (l:List au)(s:au):List au:=if lO s l<l.length/\l[lO s l]! =s then l else l.take (lO s l)++[s]++l.drop (lO s l)
def DP (s:au):∀l:List au,lO s l<=l.length
 |[]=>aP _
 |a::r=>by
  have:=DP s r
  grind [lO]
def DQ (s:au):∀(l:List au) (i:Nat),i<lO s l->Op.bytesLess l[i]! s=true
 |[],i,h=>by simp[lO]at h
 |a::r,i,h=>by
  simp only[lO]at h;split at h
  .rename_i ha;cases i with
   |zero=>simpa using ha
   |succ i=>simpa using DQ s r i ae
  .omega
def wc (s:au):∀l:List au,lO s l<l.length->Op.bytesLess l[lO s l]! s=false
 |[],h=>by simp at h
 |a::r,h=>by
  simp only[lO]at h⊢;split
  .rename_i ha;rw[ax ha]at h;simpa using wc s r (by simpa using h)
  .rename_i ha;simpa using ha
def Hy (n b:Int):Int:=IntKind.wrap .i64 (((BitVec.ofInt 64 (n.fdiv (2^(min b.toNat 64))))&&&(BitVec.ofInt 64 1)).toNat)
def nq:List au:=[UB,[120],[121],[122]]
def PM (r:Rec)(n:Int)(of:List au)(j:Nat):List au:=if ¬r.needs[j]!.option=[]/\Hy n (3+(j:Nat))=1 then gP of ([63]++r.needs[j]!.option)else of
def UD (r:Rec)(n:Int)(of:List au)(j:Nat):List au:=if r.needs[j]!.any.length=1/\Hy n (5+(j:Nat))=1 then gP of (r.needs[j]!.any[0]!.name++[47]++[120])else of
def UE (r:Rec)(n:Int)(of:List au)(j:Nat):List au:=UD r n (PM r n of j) j
def qB (r:Rec)(n:Int)(j:Nat):List au:=(List.range j).foldl (UE r n) []
def S4 (l:List Int)(i:Int)(n:Int)(k:Nat)(of:List au):List au:=if(k<3/\Hy n 7=1)/\¬kq l (i+(k:Nat)+1)%3=0 then gP of nq[k+1]! else of
def XE (l:List Int)(i:Int)(r:Rec)(k:Nat):Option cu:=if kq l (i+(k:Nat))%3=0 then none else some ⟨nq[k]!,S4 l i (kq l (i+(k:Nat))) k (qB r (kq l (i+(k:Nat))) (min r.needs.length 2))⟩
def PN (l:List Int)(i:Int)(r:Rec)(k:Nat):List cu:=(List.range k).filterMap (XE l i r)
def jV (l:List Int)(i:Int)(r:Rec):List cu:=PN l i r 4
theorem oZ (r:Rec)(n:Int)(j:Nat):qB r n (j+1)=UE r n (qB r n j) j:=by
 unfold qB;rw[List.range_succ,List.foldl_append];rfl
def Wt {l:List Int}{i:Int}{r:Rec}{k:Nat}(h:kq l (i+(k:Nat))%3=0):PN l i r (k+1)=PN l i r k:=by
 unfold PN;rw[List.range_succ,List.filterMap_append];simp[XE,h]
def Jy {l:List Int}{i:Int}{r:Rec}{k:Nat}{of:List au}(h:¬kq l (i+(k:Nat))%3=0)(ho:S4 l i (kq l (i+(k:Nat))) k (qB r (kq l (i+(k:Nat))) (min r.needs.length 2))=of):PN l i r (k+1)=PN l i r k++[⟨nq[k]!,of⟩]:=by
 unfold PN;rw[List.range_succ,List.filterMap_append];simp[XE,h,ho]
theorem rz (l:List au)(s:au):(gP l s).length<=l.length+1:=by
 grind [gP]
theorem S2 (r:Rec)(n:Int)(of:List au)(j:Nat):(PM r n of j).length<=of.length+1:=by
 grind [PM,rz]
theorem S3 (r:Rec)(n:Int)(of:List au)(j:Nat):(UD r n of j).length<=of.length+1:=by
 grind [UD,rz]
def Dk (r:Rec)(n:Int):∀j,(qB r n j).length<=2*j
 |0=>by simp[qB]
 |j+1=>by
  have h1:=Dk r n j
  grind [S2,qB,S3,PM,oZ,UE]
def nw (n:Int):(eN n).length<=3:=by
 obtain⟨h1,h2⟩:=nC n 5 aH;unfold eN;have:(n%5).toNat<5:=ae;revert this;generalize (n%5).toNat=k;revert k;decide
def vG (n:Int):(mi n).length<=3:=by
 obtain⟨h1,h2⟩:=nC n 4 aH;unfold mi;have:(n%4).toNat<4:=ae;revert this;generalize (n%4).toNat=k;revert k;decide
def MZ (k:Nat)(h:k<3):(B8[k]!).length<=4:=by
 revert k;decide
def PC (k:Nat)(h:k<2):(MB[k]!).length<=4:=by
 revert k;decide
def SV (l:List Int)(i:Int):(xu l i).v.sm:=⟨by simp[xu],by simp[xu]⟩
def Rj:au:=[114,99,46,49]
def tv (l:List Int)(i:Int):au:=if fL l (i+2) 9=1 then Rj else []
def zD (l:List Int)(i:Int):au:=if fL l (i+2) 9=2 then [55]else []
def MS (l:List Int)(i:Int):cZ:=⟨fL l i 3,fL l (i+1) 2,0,tv l i,zD l i⟩
def gK (l:List Int)(i:Int):Nat:=(fL l (i+3) 4%3).toNat
def gK_eq (l:List Int)(i:Int):(fL l (i+3) 4).tmod 3=(gK l i:Int):=by
 have h:=dw l (i+3) 4 aH;rw[Int.tmod_eq_emod_of_nonneg h.1];unfold gK;omega
def UF (l:List Int)(i:Int):gK l i<=2:=by unfold gK;omega
def Ff (l:List Int)(i own:Int)(n:Nat):List bN:=(List.range n).map fun(q:Nat)=>gZ l (i+4+20*((gK l i-q:Nat):Int) -20) own
def PU {l:List Int}{i own:Int}{k:Nat}(hk:k<=gK l i)(h0:0<k):Ff l i own (gK l i-(k-1))=Ff l i own (gK l i-k)++[gZ l (i+4+20*(k:Int) -20) own]:=by
 rw[show gK l i-(k-1)=(gK l i-k)+1 by omega];unfold Ff;rw[List.range_succ,List.map_append,List.map_singleton,show gK l i-(gK l i-k)=k by omega]
def ra (l:List Int)(i own:Int):List bN:=Ff l i own (gK l i)
def zC (l:List Int)(i own:Int):jm:=⟨eN (own+1+fL l (i+46) 4),tu l (i+47),mg l (i+50)⟩
def qZ (l:List Int)(i own:Int):List jm:=if fL l (i+45) 5=1 then [zC l i own]else []
def pe (l:List Int)(i own:Int):Rec:=⟨eN own,MS l i,ra l i own,qZ l i own,[]⟩
def Bf (l:List Int)(i own:Int):Rec:={pe l i own with feats:=jV l (i+52) (pe l i own)}
def MM {l:List Int}{i own:Int}{k:Nat}{w:b6}(h:w∈tt l i own k):w.name.length<=3:=by
 obtain⟨q,_,rfl⟩:=dZ.1 h;exact nw _
def vD (l:List Int)(i own:Int):(gZ l i own).option.length<=3:=by
 show(if _ then _ else _:au).length<=3;split
 .exact vG _
 .simp
def MR (l:List Int)(i own:Int):∀j:Nat,j<(pe l i own).needs.length->(pe l i own).needs[j]!.option.length<=100/\((pe l i own).needs[j]!.any.length=1->(pe l i own).needs[j]!.any[0]!.name.length<=100):=by
 intro j hj;have hm:=bB hj;obtain⟨q,_,hq⟩:=dZ.1 hm;rw[<-hq];generalize i+4+20*((gK l i-q:Nat):Int) -20=x;refine⟨dc (vD _ _ _) aH,fun h=>?_⟩;have h2:=bB (l:=(gZ l x own).any) (i:=0) ae;exact dc (MM (k:=fP l x) h2) aH
def FD:∀a b:au,Op.bytesLess a b=false->a≠b->Op.bytesLess b a=true
 |[],[],_,h=>absurd rfl h
 |[],_::_,h,_=>by simp[Op.bytesLess]at h
 |_::_,[],_,_=>by simp[Op.bytesLess]
 |x::a,y::b,h,hn=>by
  simp only[Op.bytesLess,dH,bt,dT,beq_eq_false_iff_ne]at h;simp only[Op.bytesLess,cX,aV,bx,beq_iff_eq];obtain⟨h1,h2⟩:=h;by_cases e:x=y
  .subst e;refine .inr ⟨rfl,FD a b (h2.resolve_left fun h=>h rfl) fun e=>hn (by rw[e])⟩
  grind
def An {l:List au}{s t:au}(h:t∈gP l s):t∈l\/t=s:=by
 grind [gP]
def IZ (l:List au):rising l=true↔∀i,1<=i->i<l.length->Op.bytesLess l[i-1]! l[i]! =true:=by
 unfold rising;rw[eF]
def rA {l:List au}{s:au}(h:rising l=true):rising (gP l s)=true:=by
 unfold gP;split
 .exact h
 .rename_i hn;rw[IZ]at h⊢;have hl:=DP s l;have hlt:=DQ s l;have hst:=wc s l;generalize lO s l=k at hn hl hlt hst⊢;have hlen:(l.take k++[s]++l.drop k).length=l.length+1:=by
   simp only[bF,ff,lV,az,aB];omega
  have g1:∀j,j<k->(l.take k++[s]++l.drop k)[j]! =l[j]! :=fun j hj=>by
   have a:j<(l.take k).length:=by rw[ff];omega
   have b:j<l.length:=ae;rw[dY,getElem!_pos _ _ (by rw[bF];omega),List.getElem_append_left a,List.getElem_take,getElem!_pos l j b]
  have g2:(l.take k++[s]++l.drop k)[k]! =s:=by
   have a:(l.take k).length=k:=by rw[ff];omega
   rw[dY,getElem!_pos _ _ (by simp only[bF,a,az];omega),List.getElem_append_right ae];simp[a]
  have g3:∀j,k<j->j<l.length+1->(l.take k++[s]++l.drop k)[j]! =l[j-1]! :=fun j hj hj2=>by
   have a:(l.take k).length=k:=by rw[ff];omega
   have b:(l.take k++[s]).length=k+1:=by rw[bF,a];rfl
   rw[getElem!_pos _ _ (by rw[hlen];omega),List.getElem_append_right ae,List.getElem_drop,getElem!_pos l (j-1) ae];congr 1;omega
  intro i h1 h2;rw[hlen]at h2;rcases Nat.lt_trichotomy i k with hik|hik|hik
  .rw[g1 i hik,g1 (i-1) ae];exact h i h1 ae
  .subst hik;rw[g2,g1 (i-1) ae];exact hlt _ ae
  .rw[g3 i hik h2];by_cases he:i=k+1
   .subst he;rw[show k+1-1=k from rfl,g2];exact FD _ _ (hst ae) fun e=>hn ⟨ae,e⟩
   .rw[g3 (i-1) ae ae];exact h (i-1) ae ae
def Ij:∀k,k<5->dN Qp[k]! =true/\Qp[k]!.length<=3/\dt (Qp[k]! ++[47]++[120])=((3:Int),Qp[k]!,([120]:au)):=by decide+kernel
theorem WQ:∀a,a<5->∀b,b<5->a≠b->Qp[a]! ≠Qp[b]! :=by decide+kernel
def Xx:∀k,k<4->cI T5[k]! =true/\dt (([63]:au)++T5[k]!)=((2:Int),T5[k]!,([]:au)):=by decide+kernel
def fewT (k a b:Nat):au:=if Io[k]! =9 then [42]else dV ⟨Io[k]!,3,⟨(a:Nat),(b:Nat),0,[],[]⟩⟩
def TW (s:au):Prop:=sr s=true/\s.length<=8/\s≠[]/\(∀c∈s,c≠10)
instance (s:au):Decidable (TW s):=by unfold TW;infer_instance
def FH (s:au):Prop:=qa s=true/\s.length<=16/\(∀c∈s,c≠10)
instance (s:au):Decidable (FH s):=by unfold FH;infer_instance
def SW:∀k,k<6->∀a,a<3->∀b,b<2->TW (fewT k a b):=by decide+kernel
theorem RV:∀k,k<3->∀a,a<2->∀b,b<4->FH (B8[k]! ++MB[a]! ++T5[b]!):=by decide+kernel
def pd (n:Int):(n%5).toNat<5/\eN n=Qp[(n%5).toNat]! :=by
 have:=nC n 5 aH;exact⟨ae,rfl⟩
def q9 (n:Int):dN (eN n)=true/\(eN n).length<=3:=⟨(Ij _ (pd n).1).1,(Ij _ (pd n).1).2.1⟩
def Fe (own d:Int)(h0:0<=d)(h1:d<4):eN (own+1+d)≠eN own:=by
 have a:=pd (own+1+d);have b:=pd own
 grind [WQ]
def Fg (n:Int):(n%4).toNat<4/\mi n=T5[(n%4).toNat]! :=by
 have:=nC n 4 aH;exact⟨ae,rfl⟩
theorem rb (n:Int):cI (mi n)=true/\dt (([63]:au)++mi n)=((2:Int),mi n,([]:au)):=Xx _ (Fg n).1
def pY (l:List Int)(i:Int):TW (tu l i):=by
 have a:=dw l i 6 aH;have b:=dw l (i+1) 3 aH;have c:=dw l (i+2) 2 aH;have:=SW (fL l i 6).toNat ae (fL l (i+1) 3).toNat ae (fL l (i+2) 2).toNat ae
 grind [fewT,fL,tu,xu]
def Nh:FH []:=by decide+kernel
def nQ (l:List Int)(i:Int):FH (mg l i):=by
 unfold mg;split
 .exact Nh
 .rename_i h;have a:=dw l i 6 aH;have b:=dw l (i+1) 2 aH;have c:=Fg (1+fL l (i+1) 3)
  grind [RV]
def wN {f:Nat->Int}{n:Nat}(h:∀j,j<n->f j=0):fA f 0 n=0:=by
 have:∀k i,i+k=n->fA f i n=0:=by
  intro k;induction k with
  |zero=>intro i e;exact nu ae
  |succ k ih=>intro i e;rw[nv ae (h i ae)];exact ih (i+1) ae
 exact this n 0 ae
def qX {f:Nat->Int}{n:Nat}(h:∀j,j<n->f j=0):ij f 0 n=(0,0):=by
 have:∀k i,i+k=n->ij f i n=(0,0):=by
  intro k;induction k with
  |zero=>intro i e;exact lC ae
  |succ k ih=>intro i e;rw[lD ae (h i ae)];exact ih (i+1) ae
 exact this n 0 ae
def CV {r:Rec}{nm rg:au}(h1:dN nm=true)(h2:nm≠r.name)(h3:sr rg=true):fK r nm rg=0:=by
 grind [fK]
def R2:∀n,ju (A0.take n) true=true
 |0=>aH
 |1=>aH
 |n+2=>by
  have:A0.take (n+2)=A0:=ek (by simp[A0]);rw[this];decide
theorem MT (l:List Int)(i:Int)(al:Bool):ju (oI l i al) al=true:=by
 unfold oI;split
 .rename_i h;rw[h.1];exact R2 _
 .cases al<;>decide
def Ot {r:Rec}{own:Int}(hr:r.name=eN own)(l:List Int)(i:Int)(al:Bool):jy r (mh l i own al) al=0:=by
 have h:=dw l i 4 aH;have h1:=CV (r:=r) (q9 (own+1+fL l i 4)).1 (by rw[hr];exact Fe own _ h.1 h.2) (pY l (i+1)).1;unfold jy;show(if fK r (eN (own+1+fL l i 4)) (tu l (i+1))≠0 then _ else if ju (oI l i al) al=false then _ else _)=_
 grind [MT]
def Fc (l:List Int)(i own:Int)(k:Nat):(tt l i own k).length=k:=by simp[tt]
def Fb {l:List Int}{i own:Int}{k j:Nat}(h:j<k):(tt l i own k)[j]! =mh l (i+1+6*(j:Nat)) own (decide ((fP l i:Int)=1)):=by
 grind [tt]
def BX (l:List Int)(i:Int):1<=fP l i:=by unfold fP;split<;>omega
def Dn (l:List Int)(i own:Int):(gZ l i own).option=[]\/∃n,(gZ l i own).option=mi n:=by
 show(if _ then _ else _:au)=[]\/_;split
 .rename_i h;exact .inr ⟨kq l (i+17),ax h⟩
 .exact .inl rfl
def Nj {r:Rec}{own:Int}(hr:r.name=eN own)(l:List Int)(i:Int):iT r (gZ l i own)=0:=by
 have hl:(gZ l i own).any.length=fP l i:=Fc _ _ _ _;have h1:=BX l i;have h2:=zF l i;unfold iT;rw[aj (by rw[hl];omega),aj (by rw[hl];omega)];have hw:mb r (gZ l i own).any=0:=by
  unfold mb;refine wN fun j hj=>?_
  rw[hl]at hj⊢;show jy r (tt l i own (fP l i))[j]! _=0;rw[Fb hj];exact Ot hr l _ _
 rw[hw,aj aT,aj (by rw[show(gZ l i own).when'=mg l (i+14)from rfl,(nQ l (i+14)).1];simp)];rcases Dn l i own with h|⟨n,h⟩
 .rw[aj (by rw[h];simp)]
 grind [rb]
def S6 (l:List Int)(i own:Int)(n:Nat):(Ff l i own n).length=n:=by simp[Ff]
def uE {l:List Int}{i own:Int}{n:Nat}{x:bN}(h:x∈Ff l i own n):∃k:Int,x=gZ l k own:=by
 obtain⟨q,_,rfl⟩:=dZ.1 h;exact⟨_,rfl⟩
def Ii {r:Rec}{l:List Int}{i own:Int}(hr:r.name=eN own)(hn:r.needs=ra l i own):lI r=(0,0):=by
 unfold lI;refine qX fun j hj=>?_
 obtain⟨k,hk⟩:=uE (show r.needs[j]! ∈Ff l i own (gK l i)by rw[show Ff l i own (gK l i)=r.needs from hn.symm];exact bB hj);rw[hk];exact Nj hr l k
def Pg {r:Rec}{own:Int}(hr:r.name=eN own)(l:List Int)(i:Int):oP r (zC l i own)=0:=by
 have h:=dw l (i+46) 4 aH;have h1:=CV (r:=r) (q9 (own+1+fL l (i+46) 4)).1 (by rw[hr];exact Fe own _ h.1 h.2) (pY l (i+47)).1;unfold oP;show(if fK r (eN (own+1+fL l (i+46) 4)) (tu l (i+47))≠0 then _ else if qa (mg l (i+50))=false then _ else _)=_;rw[h1,aj aT,(nQ l (i+50)).1,aj aT]
def BW {l:List Int}{i own:Int}{b:jm}(h:b∈qZ l i own):b=zC l i own:=by
 grind [qZ]
def XA (l:List Int)(i:Int)(r:Rec)(t:au):Prop:=(∃m∈r.needs,m.option≠[]/\t=[63]++m.option)\/(∃m∈r.needs,m.any.length=1/\t=m.any[0]!.name++[47]++[120])\/∃k,k<3/\¬kq l (i+(k:Nat)+1)%3=0/\t=nq[k+1]!
def PQ (l:List Int)(i:Int)(r:Rec)(n:Int):∀j,j<=r.needs.length->rising (qB r n j)=true/\∀t∈qB r n j,XA l i r t
 |0,_=>⟨rfl,fun t ht=>by simp[qB]at ht⟩
 |j+1,hj=>by
  obtain⟨h1,h2⟩:=PQ l i r n j ae;have hm:r.needs[j]! ∈r.needs:=bB ae;have hA:rising (PM r n (qB r n j) j)=true/\∀t∈PM r n (qB r n j) j,XA l i r t:=by
   unfold PM;split
   .rename_i h;refine⟨rA h1,fun t ht=>?_⟩;rcases An ht with ht|rfl
    .exact h2 t ht
    .exact .inl ⟨_,hm,h.1,rfl⟩
   .exact⟨h1,h2⟩
  obtain⟨h3,h4⟩:=hA;rw[oZ,UE];unfold UD;split
  .rename_i h;refine⟨rA h3,fun t ht=>?_⟩;rcases An ht with ht|rfl
   .exact h4 t ht
   .exact .inr (.inl ⟨_,hm,h.1,rfl⟩)
  .exact⟨h3,h4⟩
theorem Ws (l:List Int)(i:Int)(r:Rec)(n:Int)(k j:Nat)(hj:j<=r.needs.length):rising (S4 l i n k (qB r n j))=true/\(∀t∈S4 l i n k (qB r n j),XA l i r t)/\(S4 l i n k (qB r n j)).length<=2*j+1:=by
 obtain⟨h1,h2⟩:=PQ l i r n j hj;have h3:=Dk r n j;unfold S4;split
 .rename_i h;refine⟨rA h1,fun t ht=>?_,dc (rz _ _) ae⟩;rcases An ht with ht|rfl
  .exact h2 t ht
  .exact .inr (.inr ⟨k,h.1.1,h.2,rfl⟩)
 .exact⟨h1,h2,ae⟩
def pX {l:List Int}{i:Int}{r:Rec}{f:cu}(h:f∈jV l i r):∃k,k<4/\f.name=nq[k]! /\¬kq l (i+(k:Nat))%3=0/\rising f.of=true/\(∀t∈f.of,XA l i r t)/\f.of.length<=5:=by
 obtain⟨k,hk,he⟩:=List.mem_filterMap.1 h
 grind [XE,Ws,kq]
def HO {l:List Int}{i:Int}{r:Rec}{k:Nat}(hk:k<4)(h:¬kq l (i+(k:Nat))%3=0):∃f∈jV l i r,f.name=nq[k]! :=by
 have e:XE l i r k=some ⟨nq[k]!,S4 l i (kq l (i+(k:Nat))) k (qB r (kq l (i+(k:Nat))) (min r.needs.length 2))⟩:=aj h;exact⟨_,List.mem_filterMap.2 ⟨k,List.mem_range.2 hk,e⟩,rfl⟩
def MH {fs:List cu}{nm:au}(h:∃f∈fs,f.name=nm):0<=findF fs nm 0:=by
 grind [findF]
theorem FK:∀k,k<4->dt nq[k]! =((1:Int),nq[k]!,([]:au))/\cI nq[k]! =true:=by decide+kernel
theorem Qq:∀a,a<4->∀b,b<4->a<b->Op.bytesLess nq[a]! nq[b]! =true:=by decide+kernel
theorem MP (l:List Int)(i:Int)(r:Rec):(jV l i r).Pairwise fun a b=>Op.bytesLess a.name b.name=true:=by
 unfold jV PN;refine List.Pairwise.filterMap _ (R:=fun a b=>a<b/\b<4) ?_ aH
 grind [XE,nq,Qq]
def zE (l:List Int)(i:Int)(r:Rec):(jV l i r).length<=4:=by
 grind [jV,PN]
def NdG (r:Rec):Prop:=∀m∈r.needs,(m.option=[]\/∃n,m.option=mi n)/\(m.any.length=1->∃n,m.any[0]!.name=eN n)
def Fv {l:List Int}{i:Int}{r r2:Rec}{t:au}(h:XA l i r t)(hr:NdG r)(hn:r2.needs=r.needs)(hf:r2.feats=jV l i r):iM r2.feats t=true/\jL r2 t=0/\t.length<=7:=by
 rcases h with⟨m,hm,h1,rfl⟩|⟨m,hm,h1,rfl⟩|⟨k,hk,h1,rfl⟩
 .obtain⟨n,e⟩:=(hr m hm).1.resolve_left h1;have hx:=(rb n).2;have hl:=vG n;rw[e];refine⟨by unfold iM;rw[hx];rfl, ?_,by simp only[bF,az,aB];omega⟩;unfold jL;rw[hx];have:FQ r2.needs (mi n)=true:=by
   unfold FQ;rw[List.any_eq_true];exact⟨m,by rw[hn];exact hm,by simp[e]⟩
  simp[this]
 .obtain⟨n,e⟩:=(hr m hm).2 h1;have hx:=(Ij _ (pd n).1).2.2;have hl:=nw n;rw[<-(pd n).2]at hx;rw[e];generalize eN n=w at e hx hl;refine⟨by unfold iM;rw[hx];rfl, ?_,by simp only[bF,az,aB];omega⟩;have:wZ r2.needs w=true:=by
   unfold wZ;rw[List.any_eq_true];exact⟨m,by rw[hn];exact hm,by rw[e,h1];simp⟩
  unfold jL;rw[hx,aj aT,aj (by rw[this];simp)]
 .have hx:=(FK (k+1) ae).1;have hl:∀k,k<4->nq[k]!.length<=7:=aH
  refine⟨?_,by unfold jL;rw[hx];simp,hl _ ae⟩;have:XG r2.feats nq[k+1]! =true:=by
   unfold XG;rw[hf,cX];right;rw[aV];exact MH (HO (k:=k+1) ae (by rw[show i+((k+1:Nat):Int)=i+(k:Nat)+1 by omega];exact h1))
  unfold iM;rw[hx];dsimp only;rw[this];rfl
theorem W2 {α:Type} [Inhabited α]{R:α->α->Prop}{l:List α}(h:l.Pairwise R){i:Nat}(h0:0<i)(hi:i<l.length):R l[i-1]! l[i]! :=by
 rw[getElem!_pos l _ ae,getElem!_pos l _ hi];exact List.pairwise_iff_getElem.1 h _ _ ae hi ae
def MG {l:List Int}{i:Int}{r r2:Rec}(hr:NdG r)(hn:r2.needs=r.needs)(hf:r2.feats=jV l i r):ig r2.feats=true/\tl r2=(0,0):=by
 have hit:∀f∈r2.feats,∀t∈f.of,iM r2.feats t=true/\jL r2 t=0/\t.length<=7:=fun f hf' t ht=>by
  obtain⟨k,_,_,_,_,h,_⟩:=pX (show f∈jV l i r by rw[<-hf];exact hf');exact Fv (h t ht) hr hn hf
 constructor
 .have hlen:=zE l i r;unfold ig;rw[bx,aV,eF];refine⟨by rw[hf];omega,fun j _ hj=>?_⟩;have hm:r2.feats[j]! ∈r2.feats:=bB hj;obtain⟨k,hk,e1,e2,e3,e4,e5⟩:=pX (show r2.feats[j]! ∈jV l i r by rw[<-hf];exact hm)
  grind [jC,FK,W2,MP,lF,eF,bB]
 .unfold tl;refine qX fun j hj=>?_
  unfold kK;exact wN fun q hq=>(hit _ (bB hj) _ (bB hq)).2.1
def oY {α:Type}{f:α->au}{B:Nat}:∀{l:List α},(∀x∈l,(f x).length<=B)->((l.map f).flatten).length<=l.length*B
 |[],_=>aT
 |a::r,h=>by
  have h1:=h a (.head _);have h2:=oY (l:=r) fun x hx=>h x (.tail _ hx)
  simp only[List.map_cons,List.flatten_cons,bF,az,Nat.succ_mul];omega
def nB {l:List au}{B n:Nat}(h:∀t∈l,t.length<=B)(hn:l.length<=n):(b7 l).length<=n*(B+1)+1:=by
 have h1:=ny 32 B l h;have h2:=fD (B+1) hn
 grind [b7]
def KD (w:b6):Prop:=w.name.length<=3/\w.range.length<=8/\(w.feats=[]\/w.feats=A0.take 1\/w.feats=A0)
theorem OC (n:Nat):A0.take n=[]\/A0.take n=A0.take 1\/A0.take n=A0:=by
 match n with
 |0=>exact .inl rfl
 |1=>exact .inr (.inl rfl)
 |n+2=>exact .inr (.inr (ek (by simp[A0])))
def vF (l:List Int)(i own:Int)(al:Bool):KD (mh l i own al):=by
 refine⟨nw _,(pY l (i+1)).2.1, ?_⟩;show oI l i al=[]\/oI l i al=A0.take 1\/oI l i al=A0
 grind [oI,OC]
def Ou {w:b6}(h:KD w):(b7 (iU w)).length<=46:=by
 refine nB (B:=8) (n:=5) (fun t ht=>?_) (by simp[iU]);simp only[iU,bY,eu,or_false]at ht;rcases ht with rfl|rfl|rfl|rfl|rfl
 .decide
 .have:=h.1;omega
 .rcases h.2.2 with e|e|e<;>rw[e]<;>decide
 .split<;>decide
 .exact h.2.1
theorem CS {s:au}(h:s.length<=16):(hX s).length<=35:=by
 unfold hX;split
 .simp
 .exact nB (B:=16) (n:=2) (fun t ht=>by
   simp only[bY,eu,or_false]at ht;rcases ht with rfl|rfl
   .decide
   .exact h) aT
def QE {s:au}(h:s.length<=6):(qD s).length<=15:=by
 unfold qD;split
 .simp
 .exact nB (B:=6) (n:=2) (fun t ht=>by
   simp only[bY,eu,or_false]at ht;rcases ht with rfl|rfl
   .decide
   .exact h) aT
def MQ (l:List Int)(i own:Int):(po (gZ l i own)).length<=160:=by
 have h1:=oY (f:=fun w=>b7 (iU w)) (B:=46) (l:=(gZ l i own).any) fun w hw=>by
  obtain⟨q,_,rfl⟩:=dZ.1 (show w∈tt l i own (fP l i)from hw);exact Ou (vF _ _ _ _)
 have h2:(gZ l i own).any.length<=2:=by rw[show(gZ l i own).any.length=fP l i from Fc _ _ _ _];exact zF l i
 have h3:=CS (nQ l (i+14)).2.1;have h4:=QE (s:=(gZ l i own).option) (dc (vD l i own) aH);have h5:(b7 [hH]).length<=6:=aH;unfold po;simp only[bF];show _+(((gZ l i own).any.map fun w=>b7 (iU w)).flatten).length+(hX (mg l (i+14))).length+_<=_;omega
def Ph {b:jm}(h:b.name.length<=3/\b.range.length<=8/\b.when'.length<=16):(ug b).length<=63:=by
 have h1:=nB (B:=8) (n:=3) (l:=[iQ,b.name,b.range]) (fun t ht=>by
  simp only[bY,eu,or_false]at ht;rcases ht with rfl|rfl|rfl
  .decide
  .omega
  .exact h.2.1) aT
 grind [CS,ug]
def PS (l:List Int)(i own:Int):(zC l i own).name.length<=3/\(zC l i own).range.length<=8/\(zC l i own).when'.length<=16:=⟨nw _,(pY l (i+47)).2.1,(nQ l (i+50)).2.1⟩
def ME {f:cu}(h:f.name.length<=7/\f.of.length<=5/\∀t∈f.of,t.length<=7):(qq f).length<=57:=by
 refine nB (B:=7) (n:=7) (fun t ht=>?_) cM;simp only[List.mem_append,bY,eu,or_false]at ht;rcases ht with(rfl|rfl)|ht
 .decide
 .exact h.1
 .exact h.2.2 t ht
structure y6 (l:List Int)(i own:Int)(r:Rec):Prop where
 nm:r.name=eN own
 ns:r.needs=ra l i own
 v:fe r.v=true/\r.v.pre.length<=4/\r.v.build.length<=1
 bl:r.bars.length<=2
 b:∀b∈r.bars,oP r b=0/\b.name.length<=3/\b.range.length<=8/\b.when'.length<=16
 fs:ig r.feats=true/\tl r=(0,0)
 fl:r.feats.length<=4
 f:∀f∈r.feats,f.name.length<=7/\f.of.length<=5/\∀t∈f.of,t.length<=7
def zG (l:List Int)(i own:Int):(ra l i own).length<=2:=by rw[ra,S6];exact UF l i
def y6.good {l:List Int}{i own:Int}{r:Rec}(h:y6 l i own r):wP r:=by
 have h1:=zG l i own;have h2:=h.bl;refine⟨⟨by rw[h.nm];exact(q9 own).1,h.v.1⟩,⟨by rw[h.ns];omega,ae⟩,ru (Ii h.nm h.ns) ?_ h.fs.1 h.fs.2⟩;unfold sQ;exact qX fun j hj=>(h.b _ (bB hj)).1
def y6.sm {l:List Int}{i own:Int}{r:Rec}(h:y6 l i own r):fF r:=by
 refine⟨⟨by rw[h.nm];exact dc (nw own) aH,dc h.v.2.1 aH,dc h.v.2.2 aH⟩,fun n hn=>?_,fun b hb=>?_,fun f hf=>?_⟩
 .obtain⟨k,rfl⟩:=uE (show n∈Ff l i own (gK l i)by rw[show Ff l i own (gK l i)=r.needs from h.ns.symm];exact hn);refine⟨fun w hw=>?_,dc (nQ l (k+14)).2.1 aH,dc (vD l k own) aH⟩;obtain⟨q,_,rfl⟩:=dZ.1 (show w∈tt l k own (fP l k)from hw);obtain⟨a,b,c⟩:=vF l (k+1+6*(q:Nat)) own (decide ((fP l k:Int)=1));refine⟨⟨dc a aH,dc b aH⟩,fun t ht=>?_⟩
  grind [A0]
 .obtain⟨_,a,b,c⟩:=h.b b hb;exact⟨dc a aH,dc b aH,dc c aH⟩
 .obtain⟨a,b,c⟩:=h.f f hf;exact⟨dc a aH,dc b aH,fun t ht=>dc (c t ht) aH⟩
def RS {v:cZ}(h:fe v=true/\v.pre.length<=4/\v.build.length<=1):(j3 v).length<=30:=by
 obtain⟨h1,h2,h3⟩:=h;have hv:=h1;simp only[fe,pV,bx,aV]at h1;have a:=ep 4 v.major.toNat ae ae;have b:=ep 4 v.minor.toNat ae ae;have c:=ep 4 v.patch.toNat ae ae
 grind [j3,wy,coreS]
def y6.len {l:List Int}{i own:Int}{r:Rec}(h:y6 l i own r):(fY r).length<=800:=by
 have h1:(qt r).length<=94:=nB (B:=30) (n:=3) (fun t ht=>by
  simp only[bY,eu,or_false]at ht;rcases ht with rfl|rfl|rfl
  .decide
  .rw[h.nm];exact dc (nw own) aH
  .exact RS h.v) aT
 have h2:=oY (f:=po) (B:=160) (l:=r.needs) fun n hn=>by
  obtain⟨k,rfl⟩:=uE (show n∈Ff l i own (gK l i)by rw[show Ff l i own (gK l i)=r.needs from h.ns.symm];exact hn);exact MQ l k own
 have h3:=oY (f:=ug) (B:=63) (l:=r.bars) fun b hb=>Ph (h.b b hb).2
 have h4:=oY (f:=qq) (B:=57) (l:=r.feats) fun f hf=>ME (h.f f hf)
 have h5:=zG l i own;have h6:=h.bl;have h7:=h.fl;rw[h.ns]at h2;unfold fY;rw[h.ns];simp only[bF];omega
def y6.check {l:List Int}{i own:Int}{r:Rec}(h:y6 l i own r):cJ r=(0,0):=by
 obtain⟨⟨a,b⟩,⟨c,d⟩,e⟩:=h.good;rw[qQ a b ae ae e,aj (by have:=h.len;omega)]
def y6.print {l:List Int}{i own:Int}{r:Rec}(h:y6 l i own r):df r=(fY r,0):=by
 unfold df;rw[h.check,aj aT]
def JB (l:List Int)(i:Int):fe (MS l i)=true/\(MS l i).pre.length<=4/\(MS l i).build.length<=1:=by
 have a:=dw l i 3 aH;have b:=dw l (i+1) 2 aH;have key:∀x,x<3->∀y,y<2->∀p∈[([]:au),Rj],∀q∈[([]:au),[55]],fe ⟨(x:Nat),(y:Nat),0,p,q⟩=true:=by decide+kernel
 have hp:tv l i∈[([]:au),Rj]:=by unfold tv;split<;>simp
 have hq:zD l i∈[([]:au),[55]]:=by unfold zD;split<;>simp
 have h:=key (fL l i 3).toNat ae (fL l (i+1) 2).toNat ae _ hp _ hq;have e:(⟨((fL l i 3).toNat:Int),((fL l (i+1) 2).toNat:Int),0,tv l i,zD l i⟩:cZ)=MS l i:=by
  grind [MS,fL]
 rw[e]at h;refine⟨h, ?_, ?_⟩
 .show(tv l i).length<=4;unfold tv;split<;>decide
 grind
def vE (l:List Int)(i own:Int):NdG (pe l i own):=by
 intro m hm;obtain⟨k,rfl⟩:=uE (show m∈Ff l i own (gK l i)from hm);refine⟨Dn l k own,fun h=>?_⟩;have h1:0<fP l k:=by have:=BX l k;omega
 have:=Fb (l:=l) (i:=k) (own:=own) h1;exact⟨_,ar b6.name this⟩
def MO (l:List Int)(i own:Int):(qZ l i own).length<=1:=by unfold qZ;split<;>simp
def Tz:∀k,k<4->nq[k]!.length<=7:=aH
def PV (l:List Int)(i own:Int):y6 l i own (Bf l i own):=by
 have hf:=MG (r:=pe l i own) (r2:=Bf l i own) (l:=l) (i:=i+52) (vE l i own) rfl rfl;refine⟨rfl,rfl,JB l i,dc (MO l i own) aH,fun b hb=>?_,hf,zE _ _ _,fun f hf2=>?_⟩
 .obtain rfl:=BW (show b∈qZ l i own from hb);exact⟨Pg rfl l i,PS l i own⟩
 .obtain⟨k,hk,e,_,_,hi,hl⟩:=pX (show f∈jV l (i+52) (pe l i own)from hf2);refine⟨by rw[e];exact Tz k hk,hl,fun t ht=>?_⟩;exact(Fv (r2:=Bf l i own) (hi t ht) (vE l i own) rfl rfl).2.2
end Go.Abs
section
namespace Go.Abs
variable {Y:Ctx}(hm:(Y.at 0).cd)
def bX (w:au):Prop:=w≠[]/\∀c∈w,c≠32/\c≠10
def iJ (w:au):Prop:=∀c∈w,c≠10
def eP (l:List au):au:=aS [32] l
def n32 {w:au}(h:bX w):∀c∈w,(c.toNat:Int)≠32:=fun c hc e=>(h.2 c hc).1 (iR.1 (by have:(32:UInt8).toNat=32:=rfl;omega))
theorem kd {l:List au}(hl:l≠[])(h:∀w∈l,bX w):ak (eP l) 32=l:=
 j9 (x:=32) rfl hl fun w hw=>n32 (h w hw)
theorem CG {p:List au}{t:au}(h:∀w∈p,bX w):ak (eP (p++[t])) 32=p++ak t 32:=by
 induction p with
 |nil=>rfl
 |cons a r ih=>
  have ha:=n32 (h a (.head _));have hr:=ih fun w hw=>h w (.tail _ hw)
  have e:eP (a::(r++[t]))=a++32::eP (r++[t]):=by
   unfold eP;rw[gE [32] a (r++[t]) aT];simp
  grind [tS,eP,ak]
def fw (t:au):au:=(ak t 32)[0]!
theorem o9 {w:au}{l:List au}(hw:bX w)(hl:∀x∈l,bX x):fw (eP (w::l))=w:=by
 unfold fw
 grind [kd]
def tq {w:au}{p:List au}{t:au}(hw:bX w)(hp:∀x∈p,bX x):fw (eP (w::(p++[t])))=w:=by
 unfold fw
 grind [CG]
def T8 {n:Nat}{op:Bool}{t:au}(h:2<=n\/op=false):(eg n op t)[0]! =fw t:=by
 unfold eg fw
 grind [qR,ak]
def hd (R:List au):Option au:=R.head?.map fw
theorem rp {w:au}{n:Nat}{op:Bool}{R:List au}(h:2<=n\/op=false)(hn:hd R≠some w):cr w n op R=none:=by
 match R,hn with
 |[],_=>rfl
 |t::r,hn=>
  have:jv w n op t=none:=by
   unfold jv;rw[aj];rintro⟨h1,_⟩;rw[T8 h]at h1;exact hn (by simp[hd,h1])
  simp only[cr,this]
theorem qc {w:au}{l:List au}{n:Nat}{R:List au}(hw:bX w)(hl:∀x∈l,bX x)(hn:n=0\/l.length+1=n):cr w n false (eP (w::l)::R)=some (w::l,R):=by
 grind [bX,eg,eP,kd,jv,cr]
def vV {w:au}{p:List au}{t:au}{n:Nat}{R:List au}(hw:bX w)(hp:∀x∈p,bX x)(ht:t≠[])(hn:p.length+2=n):cr w n true (eP (w::(p++[t]))::R)=some (w::(p++[t]),R):=by
 have hc:∀x∈w::p,bX x:=fun x hx=>by rcases bY.1 hx with rfl|hx;exact hw;exact hp x hx
 have hs:=CG (t:=t) hc;have hj:=mr (b:=32) (x:=32) rfl t;have h1:1<=(ak t 32).length:=eU 32 t [];have e:eg n true (eP (w::(p++[t])))=w::(p++[t]):=by
  unfold eg;rw[ax rfl,<-fg,hs];unfold qR;have hl:(w::p++ak t 32).length=p.length+1+(ak t 32).length:=cM;split
  .have:(ak t 32).length=1:=ae;obtain⟨x,hx⟩:=List.length_eq_one_iff.1 this;rw[hx]at hj⊢;simp only[aS]at hj;rw[hj]
  .have a:n-1=(w::p).length:=cM;rw[a,List.take_left,List.drop_left,hj]
 have:jv w n true (eP (w::(p++[t])))=some (w::(p++[t])):=by
  unfold jv;rw[e,ax ⟨rfl,.inr cM,fun h=>by
   rw[<-fg,List.mem_append,cN]at h;rcases h with h|h
   .exact(hc _ h).1 rfl
   .exact ht h.symm⟩]
 simp only[cr,this]
def kg (s:au):List au:=if s=[]then []else [eP [gS,s]]
def m4 (s:au):List au:=if s=[]then []else [eP [eh,s]]
def kY (l:List b6):List au:=l.map fun w=>eP (iU w)
def vT (n:bN):List au:=eP [hH]::(kY n.any++(kg n.when'++m4 n.option))
def BA (b:jm):List au:=eP [iQ,b.name,b.range]::kg b.when'
def kF (f:cu):au:=eP ([cH,f.name]++f.of)
structure EI (w:b6):Prop where
 nm:bX w.name
 rg:w.range≠[]/\iJ w.range
 fs:∀t∈w.feats,bX t/\∀c∈t,c≠44
 ne:aS [44] w.feats≠[45]
def nN:bX gS:=by unfold bX;decide
theorem r6:bX eh:=by unfold bX;decide
theorem pS:bX hH:=by unfold bX;decide
def r5:bX iQ:=by unfold bX;decide
def pR:bX cH:=by unfold bX;decide
def vr:bX jN:=by unfold bX;decide
def te:bX eR:=by unfold bX;decide
def QG {s:au}{R:List au}(hs:s=[]\/bX s)(hR:s=[]->hd R≠some eh):tG (m4 s++R)=(s,R):=by
 grind [m4,tG,rp,qc,r6]
def CT {s:au}{R:List au}(hR:s=[]->hd R≠some gS):cz (kg s++R)=(s,R):=by
 unfold kg cz;by_cases h:s=[]
 .grind [rp]
 .rw[aj h,List.singleton_append];have:=vV (n:=2) (w:=gS) (p:=[]) (t:=s) (R:=R) nN (fun x hx=>by cases hx) h rfl
  grind
def P8 {l:List au}(h:∀t∈l,bX t/\∀c∈t,c≠44)(hl:l≠[]):bX (aS [44] l)/\ak (aS [44] l) 44=l:=by
 refine⟨⟨?_,fun c hc=>?_⟩,j9 (x:=44) rfl hl fun w hw c hc e=>(h w hw).2 c hc (iR.1 (by have:(44:UInt8).toNat=44:=rfl;omega))⟩
 .match l,hl with
  |[a],_=>exact(h a (.head _)).1.1
  |a::b::r,_=>simp[aS]
 .rcases nA 44 l c hc with rfl|⟨w,hw,hc⟩
  .decide
  .exact(h w hw).1.2 c hc
def tZ {w:b6}(h:EI w):∀x∈[w.name,if w.feats.length=0 then [45]else aS [44] w.feats,if w.bare=true then gC else jx],bX x:=by
 intro x hx;simp only[bY,eu,or_false]at hx;rcases hx with rfl|rfl|rfl
 .exact h.nm
 .split
  .unfold bX;decide
  .rename_i hn;exact(P8 h.fs (fun e=>hn (by rw[e];rfl))).1
 .split<;>(unfold bX;decide)
def AW (w:b6):iU w=jN::([w.name,if w.feats.length=0 then [45]else aS [44] w.feats,if w.bare=true then gC else jx]++[w.range]):=rfl
theorem T6 {w:b6}(h:EI w):jl (iU w)=w/\uF (iU w)=true:=by
 obtain⟨nm,rg,fs,b⟩:=w;have hb:gC≠jx:=aH;constructor
 .show(⟨nm,rg,(if(if fs.length=0 then [45]else aS [44] fs)=[45]then []else ak (if fs.length=0 then [45]else aS [44] fs) 44),decide ((if b=true then gC else jx)=gC)⟩:b6)=_;have h1:(if(if fs.length=0 then [45]else aS [44] fs)=[45]then []else ak (if fs.length=0 then [45]else aS [44] fs) 44)=fs:=by
   by_cases hn:fs.length=0
   .grind
   .rw[aj hn,aj h.ne];exact(P8 h.fs (fun e=>hn (by rw[show fs=[]from e];rfl))).2
  rw[h1];cases b<;>simp[hb,Ne.symm hb]
 .show(decide ((if b=true then gC else jx)=gC) ||decide ((if b=true then gC else jx)=jx))=true;cases b<;>simp
def xk {R:List au}(hR:hd R≠some jN):∀{l:List b6},(∀w∈l,EI w)->dq (kY l++R)=(l,R)
 |[],_=>uW (rp (.inl ae) hR)
 |w::r,h=>by
  have ih:=xk hR (l:=r) fun x hx=>h x (.tail _ hx)
  have hw:=h w (.head _);have hn:cr jN 5 true (eP (iU w)::(kY r++R))=some (iU w,kY r++R):=by
   have:=vV (n:=5) (w:=jN) (t:=w.range) (R:=kY r++R) vr (tZ hw) hw.rg.1 rfl;rw[AW];exact this
  grind [T6,xj,dq,eP,iU,kY]
structure EB (n:bN):Prop where
 a:∀w∈n.any,EI w
 w:iJ n.when'
 o:n.option=[]\/bX n.option
def Td {s:au}{R:List au}:hd (kg s++R)=if s=[]then hd R else some gS:=by
 unfold kg;split
 .rfl
 .show some (fw (eP (gS::([]++[s]))))=_;rw[tq nN (fun x hx=>by cases hx)]
def Wz {s:au}{R:List au}(hs:s=[]\/bX s):hd (m4 s++R)=if s=[]then hd R else some eh:=by
 unfold m4;split
 .rfl
 .rename_i h;show some (fw (eP (eh::[s])))=_
  grind [o9,r6]
def Qu (R:List au):Prop:=hd R≠some jN/\hd R≠some gS/\hd R≠some eh
def Nl {n:bN}{R:List au}(h:EB n)(hR:Qu R):fo ((kY n.any++(kg n.when'++m4 n.option))++R)=(n,R):=by
 have e1:(kY n.any++(kg n.when'++m4 n.option))++R=kY n.any++(kg n.when'++(m4 n.option++R)):=by simp only[dY]
 have ho:=QG (s:=n.option) (R:=R) h.o fun _=>hR.2.2
 have hh:=Wz (R:=R) h.o;have hw:=CT (s:=n.when') (R:=m4 n.option++R) fun _=>by
  rw[hh];split
  .exact hR.2.1
  .decide
 have ha:=xk (R:=kg n.when'++(m4 n.option++R)) (l:=n.any) (by
  rw[Td];split
  .rw[hh];split
   .exact hR.1
   .decide
  .decide) h.a
 unfold fo;rw[e1,ha,hw,ho]
def nV (l:List bN):List au:=(l.map vT).flatten
def zU {R:List au}(hR:Qu R)(hN:hd R≠some hH):∀{l:List bN},(∀n∈l,EB n)->iO (nV l++R)=(l,R)
 |[],_=>wS (rp (.inr rfl) hN)
 |n::r,h=>by
  have ih:=zU hR hN (l:=r) fun x hx=>h x (.tail _ hx)
  have hok:Qu (nV r++R):=by
   match r with
   |[]=>exact hR
   |m::q=>
    have:hd (nV (m::q)++R)=some hH:=by
     show some (fw (eP (hH::[])))=_;rw[o9 pS (fun x hx=>by cases hx)]
    unfold Qu;rw[this];decide
  have hr:=Nl (h n (.head _)) hok;have hn:cr hH 1 false (nV (n::r)++R)=some ([hH],(kY n.any++(kg n.when'++m4 n.option))++(nV r++R)):=by
   grind [qc,hH,kY,kg,m4,nV,pS,vT]
  rw[wT hn,hr,ih]
structure OJ (b:jm):Prop where
 nm:bX b.name
 rg:b.range≠[]/\iJ b.range
 w:iJ b.when'
def mV (l:List jm):List au:=(l.map BA).flatten
def Jo {R:List au}{l:List jm}(h:∀b∈l,OJ b):hd (mV l++R)=if l=[]then hd R else some iQ:=by
 match l with
 |[]=>rfl
 |b::r=>
  rw[aj aT];show some (fw (eP (iQ::([b.name]++[b.range]))))=_;rw[tq r5 (fun x hx=>by rw[cN.1 hx];exact(h b (.head _)).nm)]
def BC {R:List au}(hR:hd R≠some gS/\hd R≠some iQ):∀{l:List jm},(∀b∈l,OJ b)->nM (mV l++R)=(l,R)
 |[],_=>zf (rp (.inl ae) hR.2)
 |b::r,h=>by
  have ih:=BC hR (l:=r) fun x hx=>h x (.tail _ hx)
  have hb:=h b (.head _);have hw:=CT (s:=b.when') (R:=mV r++R) fun _=>by
   rw[Jo fun x hx=>h x (.tail _ hx)];split
   .exact hR.1
   .decide
  have hn:cr iQ 3 true (mV (b::r)++R)=some ([iQ,b.name,b.range],kg b.when'++(mV r++R)):=by
   have:=vV (n:=3) (w:=iQ) (p:=[b.name]) (t:=b.range) (R:=kg b.when'++(mV r++R)) r5 (fun x hx=>by rw[cN.1 hx];exact hb.nm) hb.rg.1 rfl
   grind [iQ,mV,BA]
  rw[zg hn,hw,ih];rfl
structure OW (f:cu):Prop where
 nm:bX f.name
 o:∀t∈f.of,bX t
def zu:∀{l:List cu},(∀f∈l,OW f)->fO (l.map kF)=(l,[])
 |[],_=>rfl
 |f::r,h=>by
  have ih:=zu (l:=r) fun x hx=>h x (.tail _ hx)
  have hf:=h f (.head _);have hn:=qc (n:=0) (w:=cH) (l:=f.name::f.of) (R:=r.map kF) pR (fun x hx=>by
   rcases bY.1 hx with rfl|hx
   .exact hf.nm
   .exact hf.o x hx) (.inl rfl)
  have hl:jv cH 0 false (kF f)=some (cH::f.name::f.of):=by
   simp only[cr]at hn;show jv cH 0 false (eP (cH::f.name::f.of))=_
   grind
  simp only[List.map_cons,fO,hl];rw[ax aT,ih];rfl
end Go.Abs
namespace Go.Abs
variable {Y:Ctx}(hm:(Y.at 0).cd)
structure ED (r:Rec):Prop where
 nm:bX r.name
 v:fe r.v=true
 n:∀n∈r.needs,EB n
 b:∀b∈r.bars,OJ b
 f:∀f∈r.feats,OW f
def rL (r:Rec):List au:=nV r.needs++(mV r.bars++r.feats.map kF)
def iN (r:Rec):List au:=eP [eR,r.name,j3 r.v]::rL r
def jc (l:List au):au:=(l.map fun t=>t++[10]).flatten
theorem oX (a b:List au):jc (a++b)=jc a++jc b:=by simp[jc]
def vA {α:Type}(f:α->List au):∀l:List α,jc ((l.map f).flatten)=(l.map fun x=>jc (f x)).flatten
 |[]=>rfl
 |a::r=>by simp only[List.map_cons,List.flatten_cons,oX,vA f r]
theorem sg (l:List au):b7 l=eP l++[10]:=rfl
def Pz (t:au):jc [t]=t++[10]:=by simp[jc]
theorem CU (s:au):jc (kg s)=hX s:=by
 unfold kg hX;split
 .rfl
 .rw[Pz,sg]
theorem QH (s:au):jc (m4 s)=qD s:=by
 unfold m4 qD;split
 .rfl
 .rw[Pz,sg]
theorem GU (l:List b6):jc (kY l)=(l.map fun w=>b7 (iU w)).flatten:=by
 unfold kY jc;rw[List.map_map];rfl
theorem lA (t:au)(l:List au):jc (t::l)=t++[10]++jc l:=by simp[jc]
def Nn (n:bN):jc (vT n)=po n:=by
 grind [vT,po,lA,oX,GU,CU,QH,sg]
def Pk (b:jm):jc (BA b)=ug b:=by
 unfold BA ug;rw[lA,CU,sg]
def HK (l:List cu):jc (l.map kF)=(l.map qq).flatten:=by
 unfold jc;rw[List.map_map];rfl
theorem tW (r:Rec):fY r=jc (iN r):=by
 unfold iN rL fY qt;rw[lA,oX,oX,HK];unfold nV mV;rw[vA,vA,sg];simp only[Nn,Pk,dY]
def zK:∀ls:List au,aS [10] (ls++[[]])=jc ls
 |[]=>rfl
 |a::r=>by
  rw[fg,gE _ _ _ aT,zK r,lA]
def fJ {l:List au}(h:∀w∈l,iJ w):iJ (eP l):=by
 intro c hc;rcases nA 32 l c hc with rfl|⟨w,hw,hc⟩
 .decide
 .exact h w hw c hc
def EH {w:au}(h:bX w):iJ w:=fun c hc=>(h.2 c hc).2
def wz {v:cZ}(h:fe v=true):bX (j3 v):=by
 have e:j3 v=sL v:=by unfold j3;rw[ax h]
 rw[e];refine⟨?_,fun c hc=>?_⟩
 .unfold sL;have:=xW v.major.toNat;cases hd:dF v.major.toNat with
  |nil=>exact absurd hd this
  |cons a b=>simp
 .have:=T4 h hc;exact⟨fun e=>this.1 (by rw[e];rfl),fun e=>this.2 (by rw[e];rfl)⟩
def wR {r:Rec}(h:ED r):∀t∈iN r,iJ t:=by
 have hwhen:∀s,iJ s->∀t∈kg s,iJ t:=fun s hs t ht=>by
  unfold kg at ht;split at ht
  .cases ht
  .obtain rfl:=cN.1 ht;refine fJ fun w hw=>?_
   simp only[bY,eu,or_false]at hw;rcases hw with rfl|rfl
   .exact EH nN
   .exact hs
 intro t ht;unfold iN rL nV mV at ht;simp only[bY,List.mem_append,List.mem_flatten,dZ]at ht;rcases ht with rfl|⟨_,⟨n,hn,rfl⟩,ht⟩|⟨_,⟨b,hb,rfl⟩,ht⟩|⟨f,hf,rfl⟩
 .refine fJ fun w hw=>?_
  simp only[bY,eu,or_false]at hw;rcases hw with rfl|rfl|rfl
  .exact EH te
  .exact EH h.nm
  .exact EH (wz h.v)
 .have hw:=h.n n hn;unfold vT at ht;simp only[bY,List.mem_append]at ht;rcases ht with rfl|ht|ht|ht
  .exact fJ fun w hw=>by rw[cN.1 hw];exact EH pS
  .obtain⟨w,hw2,rfl⟩:=dZ.1 ht;have hww:=hw.a w hw2;rw[AW];refine fJ fun x hx=>?_
   rcases bY.1 hx with rfl|hx
   .exact EH vr
   .rcases List.mem_append.1 hx with hx|hx
    .exact EH (tZ hww x hx)
    .rw[cN.1 hx];exact hww.rg.2
  .exact hwhen _ hw.w t ht
  .unfold m4 at ht;split at ht
   .cases ht
   .rename_i hne;obtain rfl:=cN.1 ht;refine fJ fun x hx=>?_
    simp only[bY,eu,or_false]at hx;rcases hx with rfl|rfl
    .exact EH r6
    .exact EH (hw.o.resolve_left hne)
 .have hw:=h.b b hb;unfold BA at ht;rcases bY.1 ht with rfl|ht
  .refine fJ fun x hx=>?_
   simp only[bY,eu,or_false]at hx;rcases hx with rfl|rfl|rfl
   .exact EH r5
   .exact EH hw.nm
   .exact hw.rg.2
  .exact hwhen _ hw.w t ht
 .have hw:=h.f f hf;refine fJ fun x hx=>?_
  simp only[List.mem_append,bY,eu,or_false]at hx;rcases hx with(rfl|rfl)|hx
  .exact EH pR
  .exact EH hw.nm
  .exact EH (hw.o x hx)
theorem xg {ls:List au}(h:∀t∈ls,iJ t):ak (jc ls) 10=ls++[[]]:=by
 rw[<-zK];refine j9 (x:=10) rfl aT fun w hw c hc e=>?_
 rcases List.mem_append.1 hw with hw|hw
 .exact h w hw c hc (iR.1 (by have:(10:UInt8).toNat=10:=rfl;omega))
 grind
def PF {l:List cu}(h:∀f∈l,OW f):hd (l.map kF)=none\/hd (l.map kF)=some cH:=by
 match l with
 |[]=>exact .inl rfl
 |f::r=>
  right;have hf:=h f (.head _);show some (fw (eP (cH::(f.name::f.of))))=_;rw[o9 pR (fun x hx=>by
   rcases bY.1 hx with rfl|hx
   .exact hf.nm
   .exact hf.o x hx)]
theorem Rl {r:Rec}(h:ED r):tN (iN r)=some (r,[]):=by
 have hf:=zu h.f;have hfh:=PF h.f;have hb:=BC (R:=r.feats.map kF) (by rcases hfh with e|e<;>rw[e]<;>decide) h.b;have hbh:=Jo (R:=r.feats.map kF) h.b;have h1:hd (mV r.bars++r.feats.map kF)=none\/hd (mV r.bars++r.feats.map kF)=some cH\/hd (mV r.bars++r.feats.map kF)=some iQ:=by
  grind
 have hn:=zU (R:=mV r.bars++r.feats.map kF) (by unfold Qu;rcases h1 with e|e|e<;>rw[e]<;>decide) (by rcases h1 with e|e|e<;>rw[e]<;>decide) h.n;have hp:=qc (n:=3) (w:=eR) (l:=[r.name,j3 r.v]) (R:=rL r) te (fun x hx=>by
  simp only[bY,eu,or_false]at hx;rcases hx with rfl|rfl
  .exact h.nm
  .exact wz h.v) (.inr rfl)
 unfold tN iN;rw[hp];show(match pJ (j3 r.v)with|some v=>some (sR r.name v (rL r))|none=>none)=_;rw[Xw h.v];show some (sR r.name r.v (rL r))=_;unfold sR rL;rw[hn,hb,hf]
def NG {r:Rec}(h:ED r)(hc:cJ r=(0,0)):eI (fY r)=(r,0,0):=by
 have hl:¬4096<(fY r).length:=by
  grind [cJ]
 have hs:ak (fY r) 10=iN r++[[]]:=by rw[tW];exact xg (wR h)
 have ht:(ak (fY r) 10).take ((ak (fY r) 10).length-1)=iN r:=by
  rw[hs];simp
 have hz:(ak (fY r) 10)[(ak (fY r) 10).length-1]! =[]:=by
  rw[hs];simp
 grind [iP,iN,Rl,eI]
end Go.Abs
end
namespace Go.Abs
variable {Y:Ctx}(hm:(Y.at 0).cd)
def Ig {w:au}(h:∀c∈w,c.toNat≠32/\c.toNat≠10):∀c∈w,c≠32/\c≠10:=fun c hc=>⟨fun e=>(h c hc).1 (by rw[e];rfl),fun e=>(h c hc).2 (by rw[e];rfl)⟩
theorem x7 (n:Int):bX (eN n):=⟨(yc (q9 n).1).1,Ig (yc (q9 n).1).2.2⟩
theorem JC (n:Int):bX (mi n):=⟨T7 (rb n).1,Ig fun c hc=>⟨(KF (rb n).1 hc).1,(KF (rb n).1 hc).2.1⟩⟩
def KH:(∀t∈A0,bX t/\∀c∈t,c≠44)/\aS [44] A0≠[45]/\aS [44] (A0.take 1)≠[45]:=by unfold bX;decide
def S8 (l:List Int)(i own:Int)(al:Bool):EI (mh l i own al):=by
 have hf:=pY l (i+1);obtain⟨_,_,c⟩:=vF l i own al;refine⟨x7 _,⟨hf.2.2.1,hf.2.2.2⟩,fun t ht=>?_, ?_⟩
 .rcases c with e|e|e<;>rw[e]at ht
  .cases ht
  .exact KH.1 t (lW ht)
  .exact KH.1 t ht
 .rcases c with e|e|e<;>rw[e]
  .decide
  .exact KH.2.2
  .exact KH.2.1
def S7 (l:List Int)(i own:Int):EB (gZ l i own):=by
 refine⟨fun w hw=>?_,(nQ l (i+14)).2.2, ?_⟩
 .obtain⟨q,_,rfl⟩:=dZ.1 (show w∈tt l i own (fP l i)from hw);exact S8 _ _ _ _
 .rcases Dn l i own with e|⟨n,e⟩
  .exact .inl e
  .exact .inr (by rw[e];exact JC n)
def Wv (l:List Int)(i own:Int):OJ (zC l i own):=⟨x7 _,⟨(pY l (i+47)).2.2.1,(pY l (i+47)).2.2.2⟩,(nQ l (i+50)).2.2⟩
def UQ:∀k,k<4->bX nq[k]! :=by unfold bX;decide
theorem BI {a b:au}(ha:bX a)(hb:∀c∈b,c≠32/\c≠10):bX (a++b):=⟨fun e=>ha.1 (List.append_eq_nil_iff.1 e).1,fun c hc=>(List.mem_append.1 hc).elim (ha.2 c) (hb c)⟩
def itG_W {l:List Int}{i:Int}{r:Rec}{t:au}(h:XA l i r t)(hr:NdG r):bX t:=by
 rcases h with⟨m,hm,h1,rfl⟩|⟨m,hm,h1,rfl⟩|⟨k,hk,_,rfl⟩
 .obtain⟨n,e⟩:=(hr m hm).1.resolve_left h1
  grind [BI,bX,JC]
 .obtain⟨n,e⟩:=(hr m hm).2 h1
  grind [BI,x7]
 .exact UQ _ ae
def Wx (l:List Int)(i own:Int):ED (Bf l i own):=by
 refine⟨x7 own,(JB l i).1,fun n hn=>?_,fun b hb=>?_,fun f hf=>?_⟩
 .obtain⟨k,rfl⟩:=uE (show n∈Ff l i own (gK l i)from hn);exact S7 l k own
 .obtain rfl:=BW (show b∈qZ l i own from hb);exact Wv l i own
 .obtain⟨k,hk,e,_,_,hi,_⟩:=pX (show f∈jV l (i+52) (pe l i own)from hf);exact⟨by rw[e];exact UQ k hk,fun t ht=>itG_W (hi t ht) (vE l i own)⟩
def EU {t:au}(h:iJ t):t.count 10=0:=List.count_eq_zero.2 fun hm=>h 10 hm rfl
def BM:∀{L:List au},(∀t∈L,iJ t)->(jc L).count 10=L.length
 |[],_=>rfl
 |a::r,h=>by
  rw[lA,List.count_append,List.count_append,EU (h a (.head _)),BM fun t ht=>h t (.tail _ ht)];simp;omega
def zo {s:au}{i:Nat}(h:i<s.length):(s.take (i+1)).count 10=(s.take i).count 10+if at8 s i=10 then 1 else 0:=by
 rw[List.take_succ_eq_append_getElem h,List.count_append,rY s i h];congr 1;have h10:(10:UInt8).toNat=10:=rfl;by_cases hc:s[i]=10
 .simp[hc]
 .rw[aj fun hh=>hc (iR.1 ae)];simp[hc]
abbrev UP (s:au):List au:=(ak s 10).take ((ak s 10).length-1)
abbrev zR (s:au):au:=(ak s 10)[(ak s 10).length-1]!
theorem H8 {s:au}(h:zR s=[]):cv s=(UP s,true):=by unfold cv;rw[ax h]
theorem M8 {s:au}(h:¬zR s=[]):cv s=(UP s++[zR s],false):=by
 unfold cv;rw[aj h];have hp:1<=(ak s 10).length:=eU 10 s [];have:=(drop_one (l:=ak s 10) (n:=(ak s 10).length-1) ae).2;exact ar (fun l=>(l,false)) this
def H9 (s:au):((cv s).2=true/\zR s=[]/\(cv s).1=UP s)\/((cv s).2=false/\zR s≠[]/\(cv s).1=UP s++[zR s]):=by
 by_cases h:zR s=[]
 .grind [H8]
 grind [M8]
def Av:aF:=⟨2,6,[⟨2,none⟩],bQ,(sq (r1 [gm dk] 2 0) (sq (sq (r1 [gm bp] 3 0) (.block 0 (.loop (sq (sq (r1 [gm s3,gm s0,gl l1,aO l0 l2] 4 3) (fh s4 0)) (sq (.block 1 (sq (r1 [gm s0,gm s3,ga 1 l0 l1,gd l2,gx 357 [l3] bQ,jJ l4] 5 5) (.cond s5 (sq (r1 [gm dk] 2 0) .ret) .skip))) (r1 [gm s3,aw l0 bV,gm l1] 3 2)))))) (sq (r1 [gm s0,gl l0,DF l1 vI,gm l2,gmt 3 s0,bZ 3 (.call 815 [l4] [[.sl 1 [.a]]]),eG l3 l5,gm l6,gmt 7 s1,gmt 7 l8,eO 9 s0,cl 9 (.len l10),cl 9 (cO gh bp),Wy 7 l9 iE,eG l7 jr,gm j5] 2 15) .ret)))⟩
def w812 (h357:Hn Y)(h815:VJ Y)(l:List au)(al:Bool)   :de Y Av (.bool (ju l al)) [.sl 1 (l.map D.str),.bool al]:=by
 show bG _ _ _ [⟨_,_⟩,⟨_,_⟩,_,_,_,_] _;refine aq ?_;refine aG ?_;refine a7 hm (ι:=Nat) (fun i=>[⟨true,.sl 1 (l.map D.str)⟩,⟨true,.bool al⟩,.un,⟨true,.int .i64 (i:Nat)⟩,.un,.un]) (fun i=>[]) 2 (fun i=>i<=l.length/\ju l al=(cP (fun i=>cI l[i]!) i l.length&&((decide (l.length<=6)&&rising l)&&(al ||decide (l.length=0))))) (fun i=>l.length-i) 0 ⟨ae,(wf_2 l al).symm⟩ (dp []) ?_;rintro i ⟨hi,hr⟩;refine aI ?_;intro u0;refine ay ?_;refine cC (fun hc0=>?_) fun hc0=>?_
 .refine aY ?_;refine ai (hc:=h357 _) ?_;refine ay ?_;refine wp_cond (fun hc1=>?_) (fun hc1=>?_)
  .simp only[bz]at hc1;refine aG ?_;refine bI ?_;rw[hr,aR ae,hc1];rfl
  simp only[bP]at hc1;refine bJ ?_;exact⟨i+1,⟨ae,by rw[hr,aR ae,hc1];rfl⟩,ae,(dp [])⟩
 refine aI ?_;intro u1;refine aA ?_;refine ai (hc:=h815 _) ?_;refine aI ?_;refine jI ?_;refine aG ?_;refine bI ?_;rw[hr,ca ae,gu,iv.2 (show((l.length:Nat):Int)<=6↔l.length<=6 by omega),iv.2 (show((l.length:Nat):Int)=0↔l.length=0 by omega)]
def LV (T:List D->D->Prop):Prop:=∀(l:List au) (al:Bool),T [.sl 1 (l.map D.str),.bool al] (.bool (ju l al))
def Ze (Y:Ctx):Prop:=LV (br Y 812)
def IF:aF:=⟨3,10,[⟨3,none⟩],bQ,(sq (rg [gb 9 s0,gb 4 s1,gm bp] [(6,0),(4,1),(3,2)]) (sq (.block 0 (sq (r1 [gf 0 s4,gd l0,gx 216 [l1] bQ,jJ l2,gm l3] 5 4) (.cond s5 (sq (r1 [gm sE] 3 0) .ret) (sq (r1 [gf 0 s4,gd l0,gf 0 s6,gd l2,aL l1 l3,gm l4] 7 5) (.cond s7 (sq (r1 [gm Eu] 3 0) .ret) (sq (r1 [gf 1 s4,gd l0,gx 572 [l1] bQ,jJ l2,gm l3] 8 4) (.cond s8 (sq (r1 [gm vI] 3 0) .ret) (sq (r1 [gf 2 s4,gd l0,gm s2,gx 812 [l1,l2] [[.sl 1 [.a]],[.a]],jJ l3,gm l4] 9 5) (.cond s9 (sq (r1 [gm (i6 11)] 3 0) .ret) .skip))))))))) (sq (r1 [gm bp] 3 0) .ret)))⟩
def w669 {Y:Ctx}(hm:(Y.at 0).cd)(h216:L7 Y)(h572:Vu Y)(h812:Ze Y)(r:Rec)(w:b6)(al:Bool)  (hp0:w.sm):de Y IF (.int .i64 (jy r w al)) [Rec.D r,b6.D w,.bool al]:=by
 show bG _ _ _ [⟨_,_⟩,⟨_,_⟩,⟨_,_⟩,_,_,_,_,_,_,_] _;refine aq ?_;refine bJ ?_;refine ai (hc:=h216 _) ?_;refine aA ?_;refine fH (fun hc0=>?_) fun hc0=>?_
 .refine aI ?_;refine cS ?_;have hw:fK r w.name w.range=4:=by rw[fK,ax hc0]
  rw[jy,ax (by rw[hw];decide),hw]
 refine bJ ?_;refine fH (fun hc1=>?_) fun hc1=>?_
 .refine aI ?_;refine cS ?_;have hw:fK r w.name w.range=8:=by rw[fK,aj (by simp[hc0]),ax hc1]
  rw[jy,ax (by rw[hw];decide),hw]
 refine aA ?_;refine ai (hc:=h572 w.range hp0.1.2) ?_;refine aA ?_;refine wp_cond (fun hc2=>?_) (fun hc2=>?_)
 .try simp only[er]at hc2
  refine aI ?_;refine cS ?_;have hw:fK r w.name w.range=6:=by rw[fK,aj (by simp[hc0]),aj hc1,ax hc2]
  rw[jy,ax (by rw[hw];decide),hw]
 simp only[bP]at hc2;have hw0:fK r w.name w.range=0:=by rw[fK,aj (by simp[hc0]),aj hc1,aj (by simp[hc2])]
 refine aE ?_;refine ai (hc:=h812 w.feats al) ?_;refine aA ?_;refine fH (fun hc3=>?_) fun hc3=>?_
 .refine aI ?_;refine cS ?_;rw[jy,aj (by simp[hw0]),ax hc3]
 refine aG ?_;refine cS ?_;rw[jy,aj (by simp[hw0]),aj (by simp[hc3])]
def YU (Y:Ctx):Prop:=yA (br Y 669)
def IC:aF:=⟨2,13,[⟨2,none⟩],bQ,(sq (rg [gb 9 s0,gb 3 s1,gm bp] [(8,0),(3,1),(2,2)]) (sq (sq (r1 [gf 0 s3,gd l0,gl l1,aL l2 bp] 4 3) (.cond s4 (sq (r1 [gm Ev] 2 0) .ret) .skip)) (sq (sq (r1 [gf 0 s3,gd l0,gl l1,dd l2 ko] 5 3) (.cond s5 (sq (r1 [gm ko] 2 0) .ret) .skip)) (sq (sq (r1 [gm bp] 6 0) (.block 0 (.loop (sq (sq (r1 [gm s6,gf 0 s3,gd l1,gl l2,aO l0 l3] 7 4) (fh s7 0)) (sq (.block 1 (sq (r2 [gk 9 true s8,gf 0 s3,gd l1,gm s6,ga 4 l2 l3,gk 4 true l4,gf 0 s3,gd l6,gl l7,aL l8 bV,gx 669 [l0,l5,l9] [[.a,.a,.a,.a,.a,.a,.sl 3 [.sl 4 [.a,.a,.sl 1 [.a],.a],.a,.a],.sl 3 [.a,.a,.a],.sl 2 [.a,.sl 1 [.a]]],[.a,.a,.sl 1 [.a],.a],[.a]],gm l10] 9 11) (sq (r1 [gm s9,bO l0 bp] 10 1) (.cond jh (sq (r1 [gm s9,gm l0] 2 1) .ret) .skip)))) (r1 [gm s6,aw l0 bV,gm l1] 6 2)))))) (sq (sq (r1 [gf 1 s3,gd l0,gx 670 [l1] bQ,jJ l2] 11 3) (.cond lf (sq (r1 [gm OG] 2 0) .ret) .skip)) (sq (sq (r1 [gf 2 s3,gd l0,bO l1 cse,gm l2,k9 3 2 s3,kn 3 l4,bZ 3 (.call 357 [l5] bQ),bZ 3 (.un .not l6),eG l3 l7] 12 8) (.cond j8 (sq (r1 [gm (i6 14)] 2 0) .ret) .skip)) (sq (r1 [gm bp] 2 0) .ret)))))))⟩
def w457 (h357:Hn Y)(h669:YU Y)(h670:VD Y)(r:Rec)(n:bN)  (hp0:n.sm):de Y IC (.int .i64 (iT r n)) [Rec.D r,bN.D n]:=by
 show bG _ _ _ [⟨_,_⟩,⟨_,_⟩,_,_,_,_,_,_,_,_,_,_,_] _;refine aq ?_;refine c7 ?_;intro u0;refine ay ?_;refine cC (fun hc0=>?_) fun hc0=>?_
 .refine aI ?_;refine cS ?_;rw[iT,ax ae]
 refine aG ?_;intro u1;refine ay ?_;refine cC (fun hc1=>?_) fun hc1=>?_
 .refine aI ?_;refine cS ?_;rw[iT,aj ae,ax ae]
 refine aI ?_;refine a7 hm (ι:=Nat) (fun i=>[.un,.un,.un,⟨true,.ptr 1 3 0 0⟩,.un,.un,⟨true,.int .i64 (i:Nat)⟩,.un,⟨true,.ptr 0 9 0 0⟩,.un,.un,.un,.un]) (fun i=>[(0,.buf 9 [Rec.D r]),(1,.buf 3 [bN.D n])]) 12 (fun i=>i<=n.any.length/\mb r n.any=fA (fun i=>jy r n.any[i]! (decide ((n.any.length:Int)=1))) i n.any.length) (fun i=>n.any.length-i) 0 ⟨ae,rfl⟩ (dp [(0,0),(1,1)]) ?_;rintro i ⟨hi,hr⟩;refine aG ?_;intro u2;refine ay ?_;refine cC (fun hc2=>?_) fun hc2=>?_
 .refine aY ?_;refine cb i ?_;first|refine bS (v:=(b6.D _)) ?_|refine eK (v:=(b6.D _)) ?_
  refine ay ?_;refine jI ?_;refine aC ?_;refine ai (hc:=h669 r n.any[i]! _ (hp0.1 _ (bB ae))) ?_;refine aG ?_;refine fH (fun hc3=>?_) fun hc3=>?_
  .refine aY ?_;refine cS ?_;have hw:mb r n.any=jy r n.any[i]! (decide ((n.any.length:Int)=1)):=by rw[hr,lE ae hc3]
   rw[iT,aj ae,aj ae,ax (by rw[hw];exact hc3),hw]
  refine bJ ?_;exact⟨i+1,⟨ae,by rw[hr,nv ae hc3]⟩,ae,(dp [(0,0),(1,1)])⟩
 refine aE ?_;have hw0:mb r n.any=0:=by rw[hr,nu ae]
 refine ay ?_;refine ai (hc:=h670 _) ?_;refine ay ?_;refine av (fun hc4=>?_) (fun hc4=>?_)
 .try simp only[er]at hc4
  refine aI ?_;refine cS ?_;rw[iT,aj ae,aj ae,aj (by simp[hw0]),ax hc4]
 simp only[bP]at hc4;refine c7 ?_;refine ai (hc:=h357 _) ?_;refine aA ?_;refine av (fun hc5=>?_) (fun hc5=>?_)
 .try simp only[er]at hc5
  refine aI ?_;refine cS ?_;rw[iT,aj ae,aj ae,aj (by simp[hw0]),aj (by simp[hc4]),ax hc5]
 simp only[dT,bP,aV]at hc5;refine aI ?_;refine cS ?_;rw[iT,aj ae,aj ae,aj (by simp[hw0]),aj (by simp[hc4]),aj (by rintro⟨g1,g2⟩;rcases hc5 with h|h;exact g1 h;rw[g2]at h;cases h)]
def Ys (Y:Ctx):Prop:=yr (br Y 457)
def NL:aF:=⟨2,9,[⟨2,none⟩],bQ,(sq (rg [gb 9 s0,gb 3 s1,gm bp] [(5,0),(3,1),(2,2)]) (sq (.block 0 (sq (r1 [gf 0 s3,gd l0,gx 216 [l1] bQ,jJ l2,gm l3] 4 4) (.cond s4 (sq (r1 [gm sE] 2 0) .ret) (sq (r1 [gf 0 s3,gd l0,gf 0 s5,gd l2,aL l1 l3,gm l4] 6 5) (.cond s6 (sq (r1 [gm Eu] 2 0) .ret) (sq (r1 [gf 1 s3,gd l0,gx 572 [l1] bQ,jJ l2,gm l3] 7 4) (.cond s7 (sq (r1 [gm vI] 2 0) .ret) (sq (r1 [gf 2 s3,gd l0,gx 670 [l1] bQ,jJ l2,gm l3] 8 4) (.cond s8 (sq (r1 [gm OG] 2 0) .ret) .skip))))))))) (sq (r1 [gm bp] 2 0) .ret)))⟩
def w458 {Y:Ctx}(hm:(Y.at 0).cd)(h216:L7 Y)(h572:Vu Y)(h670:VD Y)(r:Rec)(b:jm)  (hp0:b.sm):de Y NL (.int .i64 (oP r b)) [Rec.D r,jm.D b]:=by
 show bG _ _ _ [⟨_,_⟩,⟨_,_⟩,_,_,_,_,_,_,_] _;refine aq ?_;refine bJ ?_;refine ai (hc:=h216 _) ?_;refine aA ?_;refine fH (fun hc0=>?_) fun hc0=>?_
 .refine aI ?_;refine cS ?_;have hw:fK r b.name b.range=4:=by rw[fK,ax hc0]
  rw[oP,ax (by rw[hw];decide),hw]
 refine bJ ?_;refine fH (fun hc1=>?_) fun hc1=>?_
 .refine aI ?_;refine cS ?_;have hw:fK r b.name b.range=8:=by rw[fK,aj (by simp[hc0]),ax hc1]
  rw[oP,ax (by rw[hw];decide),hw]
 refine aA ?_;refine ai (hc:=h572 b.range hp0.2.1) ?_;refine aA ?_;refine wp_cond (fun hc2=>?_) (fun hc2=>?_)
 .try simp only[er]at hc2
  refine aI ?_;refine cS ?_;have hw:fK r b.name b.range=6:=by rw[fK,aj (by simp[hc0]),aj hc1,ax hc2]
  rw[oP,ax (by rw[hw];decide),hw]
 simp only[bP]at hc2;have hw0:fK r b.name b.range=0:=by rw[fK,aj (by simp[hc0]),aj hc1,aj (by simp[hc2])]
 refine aA ?_;refine ai (hc:=h670 _) ?_;refine aA ?_;refine fH (fun hc3=>?_) fun hc3=>?_
 .refine aI ?_;refine cS ?_;rw[oP,aj (by simp[hw0]),ax hc3]
 refine aG ?_;refine cS ?_;rw[oP,aj (by simp[hw0]),aj (by simp[hc3])]
def Lh (T:List D->D->Prop):Prop:=∀(r:Rec) (b:jm),(b.sm)->T [Rec.D r,jm.D b] (.int .i64 (oP r b))
def Yt (Y:Ctx):Prop:=Lh (br Y 458)
def DY:aF:=⟨2,7,[⟨2,none⟩],bQ,(sq (rg [gb 9 s0,gm dk] [(4,0),(2,1)]) (sq (sq (r1 [gm bp] 3 0) (.block 0 (.loop (sq (sq (r1 [gm s3,gf 6 s4,gd l1,gl l2,aO l0 l3] 5 4) (fh s5 0)) (sq (.block 1 (sq (r1 [gf 6 s4,gd l0,gm s3,ga 3 l1 l2,gf 2 l3,gd l4,gm s1,aL l5 l6] 6 7) (.cond s6 (sq (r1 [gm oS] 2 0) .ret) .skip))) (r1 [gm s3,aw l0 bV,gm l1] 3 2)))))) (sq (r1 [gm dk] 2 0) .ret)))⟩
def w673  (r:Rec)(x:au)   :de Y DY (.bool (FQ r.needs x)) [Rec.D r,.str x]:=by
 show bG _ _ _ [⟨_,_⟩,⟨_,_⟩,_,_,_,_,_] _;refine aq ?_;refine aY ?_;refine a7 hm (ι:=Nat) (fun i=>[.un,⟨true,.str x⟩,.un,⟨true,.int .i64 (i:Nat)⟩,⟨true,.ptr 0 9 0 0⟩,.un,.un]) (fun i=>[(0,.buf 9 [Rec.D r])]) 3 (fun i=>i<=r.needs.length/\FQ r.needs x=(r.needs.drop i).any (fun n=>decide (n.option=x))) (fun i=>r.needs.length-i) 0 ⟨ae,rfl⟩ (dp [(0,0)]) ?_;rintro i ⟨hi,hr⟩;refine aG ?_;intro u0;refine ay ?_;refine cC (fun hc0=>?_) fun hc0=>?_
 .refine aG ?_;refine cb i ?_;refine aI ?_;refine fH (fun hc1=>?_) fun hc1=>?_
  .refine aG ?_;refine bI ?_;rw[hr,xT (c:=fun n:bN=>decide (n.option=x)) ae (cj hc1)]
  refine bJ ?_;exact⟨i+1,⟨ae,by rw[hr,C5 (c:=fun n:bN=>decide (n.option=x)) ae (cT hc1)]⟩,ae,(dp [(0,0)])⟩
 refine aG ?_;refine bI ?_;rw[hr,xS ae]
def LG (T:List D->D->Prop):Prop:=∀(r:Rec) (x:au),T [Rec.D r,.str x] (.bool (FQ r.needs x))
def YW (Y:Ctx):Prop:=LG (br Y 673)
def DZ:aF:=⟨2,7,[⟨2,none⟩],bQ,(sq (rg [gb 9 s0,gm dk] [(4,0),(2,1)]) (sq (sq (r1 [gm bp] 3 0) (.block 0 (.loop (sq (sq (r1 [gm s3,gf 6 s4,gd l1,gl l2,aO l0 l3] 5 4) (fh s5 0)) (sq (.block 1 (sq (r1 [gf 6 s4,gd l0,gm s3,ga 3 l1 l2,gf 0 l3,gd l4,gl l5,aL l6 bV,gm l7,k9 8 6 s4,kn 8 l9,gmt 8 s3,bZ 8 (.ia 3 l10 gh),k9 8 0 iE,kn 8 jr,bZ 8 (.ia 4 j5 bp),k9 8 0 lr,kn 8 mK,gmt 8 s1,bZ 8 (cO pM qC),eG l8 rm] 6 20) (.cond s6 (sq (r1 [gm oS] 2 0) .ret) .skip))) (r1 [gm s3,aw l0 bV,gm l1] 3 2)))))) (sq (r1 [gm dk] 2 0) .ret)))⟩
def w674  (r:Rec)(x:au)   :de Y DZ (.bool (wZ r.needs x)) [Rec.D r,.str x]:=by
 show bG _ _ _ [⟨_,_⟩,⟨_,_⟩,_,_,_,_,_] _;refine aq ?_;refine aY ?_;refine a7 hm (ι:=Nat) (fun i=>[.un,⟨true,.str x⟩,.un,⟨true,.int .i64 (i:Nat)⟩,⟨true,.ptr 0 9 0 0⟩,.un,.un]) (fun i=>[(0,.buf 9 [Rec.D r])]) 3 (fun i=>i<=r.needs.length/\wZ r.needs x=(r.needs.drop i).any (fun n=>decide (n.any.length=1)&&decide (n.any[0]!.name=x))) (fun i=>r.needs.length-i) 0 ⟨ae,rfl⟩ (dp [(0,0)]) ?_;rintro i ⟨hi,hr⟩;refine aG ?_;intro u0;refine ay ?_;refine cC (fun hc0=>?_) fun hc0=>?_
 .refine aG ?_;refine cb i ?_;refine aA ?_;intro u1;refine aI ?_;refine cb i (hb:=fun _=>ae) ?_;refine aC ?_;refine bS (q:=bN.D) (xs:=r.needs) (i:=i) (hi:=fun _=>ae) (v:=(.sl 4 (r.needs[i]!.any.map b6.D))) ?_;refine cb 0 (hb:=fun h=>by simp only[gu,beq_iff_eq,bx,aV]at h;omega) ?_;refine aC ?_;refine bS (q:=b6.D) (xs:=r.needs[i]!.any) (i:=0) (hi:=fun h=>by simp only[gu,beq_iff_eq,bx,aV]at h;omega) (v:=(.str r.needs[i]!.any[0]!.name)) ?_;refine aE ?_;refine wp_cond (fun hc1=>?_) (fun hc1=>?_)
  .rw[iv.2 (show((r.needs[i]!.any.length:Nat):Int)=1↔r.needs[i]!.any.length=1 by omega)]at hc1;have hz:=hc1;refine aG ?_;refine bI ?_;rw[hr,xT ae hz]
  rw[iv.2 (show((r.needs[i]!.any.length:Nat):Int)=1↔r.needs[i]!.any.length=1 by omega)]at hc1;have hz:=hc1;refine bJ ?_;exact⟨i+1,⟨ae,by rw[hr,C5 ae hz]⟩,ae,(dp [(0,0)])⟩
 refine aG ?_;refine bI ?_;rw[hr,xS ae]
def LH (T:List D->D->Prop):Prop:=∀(r:Rec) (x:au),T [Rec.D r,.str x] (.bool (wZ r.needs x))
def YX (Y:Ctx):Prop:=LH (br Y 674)
def Gb:aF:=⟨2,10,[⟨2,none⟩],bQ,(sq (rg [gb 9 s0,gm bp] [(6,0),(2,1)]) (sq (sq (r1 [gm bp] 3 0) (.block 0 (.loop (sq (sq (r1 [gm s3,gm s1,gl l1,aO l0 l2] 4 3) (fh s4 0)) (sq (.block 1 (sq (rg [gm s1,gm s3,ga 1 l0 l1,gd l2,gx 672 [l3] bQ,gm l4,ge l5 0,ge l5 1,ge l5 2,gm l6,gm l7,gm l8] [(5,9),(7,10)]) (sq (sq (r1 [gm s5,aL l0 kr,gm l1,bZ 2 (.ld 9 true s6),gmt 2 s7,bZ 2 (.call 673 [l3,l4] [[.a,.a,.a,.a,.a,.a,.sl 3 [.sl 4 [.a,.a,.sl 1 [.a],.a],.a,.a],.sl 3 [.a,.a,.a],.sl 2 [.a,.sl 1 [.a]]],[.a]]),bZ 2 (.un .not l5),eG l2 l6] 8 7) (.cond s8 (sq (r1 [gm (i6 14)] 2 0) .ret) .skip)) (sq (r1 [gm s5,aL l0 ko,gm l1,bZ 2 (.ld 9 true s6),gmt 2 s7,bZ 2 (.call 674 [l3,l4] [[.a,.a,.a,.a,.a,.a,.sl 3 [.sl 4 [.a,.a,.sl 1 [.a],.a],.a,.a],.sl 3 [.a,.a,.a],.sl 2 [.a,.sl 1 [.a]]],[.a]]),bZ 2 (.un .not l5),eG l2 l6] 9 7) (.cond s9 (sq (r1 [gm (i6 16)] 2 0) .ret) .skip))))) (r1 [gm s3,aw l0 bV,gm l1] 3 2)))))) (sq (r1 [gm bp] 2 0) .ret)))⟩
def w460 (h672:VE Y)(h673:YW Y)(h674:YX Y)(r:Rec)(of:List au)  (hp0:∀t∈of,t.length<=1048576):de Y Gb (.int .i64 (kK r of)) [Rec.D r,.sl 1 (of.map D.str)]:=by
 show bG _ _ _ [⟨_,_⟩,⟨_,_⟩,_,_,_,_,_,_,_,_] _;refine aq ?_;refine aY ?_;refine a7 hm (ι:=Nat) (fun i=>[.un,⟨true,.sl 1 (of.map D.str)⟩,.un,⟨true,.int .i64 (i:Nat)⟩,.un,.un,⟨true,.ptr 0 9 0 0⟩,.un,.un,.un]) (fun i=>[(0,.buf 9 [Rec.D r])]) 3 (fun i=>i<=of.length/\kK r of=fA (fun i=>jL r of[i]!) i of.length) (fun i=>of.length-i) 0 ⟨ae,rfl⟩ (dp [(0,0)]) ?_;rintro i ⟨hi,hr⟩;refine aI ?_;intro u0;refine ay ?_;refine cC (fun hc0=>?_) fun hc0=>?_
 .refine aY ?_;refine ai (hc:=h672 of[i]! (hp0 _ (bB ae))) ?_;refine A1 ?_;refine ai (hc:=h673 r (dt of[i]!).2.1) ?_;refine aA ?_;refine av (fun hc1=>?_) (fun hc1=>?_)
  .try simp only[er]at hc1
   refine aY ?_;refine cS ?_;have he:jL r of[i]! =14:=by rw[jL,ax hc1]
   rw[hr,lE ae (by rw[he];decide),he]
  have hn1:¬((dt of[i]!).1=2/\FQ r.needs (dt of[i]!).2.1=false):=by rintro⟨g1,g2⟩;rw[g1,g2]at hc1;cases hc1
  refine aY ?_;refine ai (hc:=h674 r (dt of[i]!).2.1) ?_;refine aA ?_;refine wp_cond (fun hc2=>?_) (fun hc2=>?_)
  .try simp only[er]at hc2
   refine aG ?_;refine cS ?_;have he:jL r of[i]! =16:=by rw[jL,aj hn1,ax hc2]
   rw[hr,lE ae (by rw[he];decide),he]
  have hn2:¬((dt of[i]!).1=3/\wZ r.needs (dt of[i]!).2.1=false):=by rintro⟨g1,g2⟩;rw[g1,g2]at hc2;cases hc2
  refine bJ ?_;exact⟨i+1,⟨ae,by rw[hr,nv ae (by rw[jL,aj hn1,aj hn2])]⟩,ae,(dp [(0,0)])⟩
 refine aG ?_;refine cS ?_;rw[hr,nu ae]
def Li (T:List D->D->Prop):Prop:=∀(r:Rec) (of:List au),(∀t∈of,t.length<=1048576)->T [Rec.D r,.sl 1 (of.map D.str)] (.int .i64 (kK r of))
def Yv (Y:Ctx):Prop:=Li (br Y 460)
def Gc:aF:=⟨1,17,[⟨1,none⟩,⟨2,none⟩],fQ,(sq (rg [gb 9 s0,gm bp,gm bp] [(4,0),(1,1),(2,2)]) (sq (sq (r1 [gm bp] 3 0) (.block 0 (.loop (sq (sq (r1 [gm s3,gf 6 s4,gd l1,gl l2,aO l0 l3] 5 4) (fh s5 0)) (sq (.block 1 (sq (r2 [gk 9 true s4,gf 6 s4,gd l1,gm s3,ga 3 l2 l3,gk 3 true l4,gx 457 [l0,l5] [[.a,.a,.a,.a,.a,.a,.sl 3 [.sl 4 [.a,.a,.sl 1 [.a],.a],.a,.a],.sl 3 [.a,.a,.a],.sl 2 [.a,.sl 1 [.a]]],[.sl 4 [.a,.a,.sl 1 [.a],.a],.a,.a]],gm l6] 6 7) (sq (r1 [gm s6,bO l0 bp] 7 1) (.cond s7 (sq (rg [gm s6,gm s3,gm l0,gm l1] [(1,2),(2,3)]) .ret) .skip)))) (r1 [gm s3,aw l0 bV,gm l1] 3 2)))))) (sq (sq (r1 [gm bp] 8 0) (.block 2 (.loop (sq (sq (r1 [gm s8,gf 7 s4,gd l1,gl l2,aO l0 l3] 9 4) (fh s9 2)) (sq (.block 3 (sq (r2 [gk 9 true s4,gf 7 s4,gd l1,gm s8,ga 3 l2 l3,gk 3 true l4,gx 458 [l0,l5] [[.a,.a,.a,.a,.a,.a,.sl 3 [.sl 4 [.a,.a,.sl 1 [.a],.a],.a,.a],.sl 3 [.a,.a,.a],.sl 2 [.a,.sl 1 [.a]]],[.a,.a,.a]],gm l6] 10 7) (sq (r1 [gm jh,bO l0 bp] 11 1) (.cond lf (sq (rg [gm jh,gm s8,gm l0,gm l1] [(1,2),(2,3)]) .ret) .skip)))) (r1 [gm s8,aw l0 bV,gm l1] 8 2)))))) (sq (sq (r1 [gf 8 s4,gd l0,gx 459 [l1] [[.sl 2 [.a,.sl 1 [.a]]]],jJ l2] 12 3) (.cond j8 (sq (rg [gm (i6 11),gm bp] [(1,0),(2,1)]) .ret) .skip)) (sq (sq (r1 [gm bp] 13 0) (.block 4 (.loop (sq (sq (r1 [gm qG,gf 8 s4,gd l1,gl l2,aO l0 l3] 14 4) (fh qv 4)) (sq (.block 5 (sq (r2 [gk 9 true s4,gf 8 s4,gd l1,gm qG,ga 2 l2 l3,gf 1 l4,gd l5,gx 460 [l0,l6] [[.a,.a,.a,.a,.a,.a,.sl 3 [.sl 4 [.a,.a,.sl 1 [.a],.a],.a,.a],.sl 3 [.a,.a,.a],.sl 2 [.a,.sl 1 [.a]]],[.sl 1 [.a]]],gm l7] 15 8) (sq (r1 [gm xc,bO l0 bp] 16 1) (.cond A7 (sq (rg [gm xc,gm qG,gm l0,gm l1] [(1,2),(2,3)]) .ret) .skip)))) (r1 [gm qG,aw l0 bV,gm l1] 13 2)))))) (sq (rg [gm bp,gm bp] [(1,0),(2,1)]) .ret))))))⟩
def w218 (h457:Ys Y)(h458:Yt Y)(h459:Yu Y)(h460:Yv Y)(r:Rec)  (hp0:fF r):de Y Gc (.tup [.int .i64 (eH r).1,.int .i64 (eH r).2]) [Rec.D r]:=by
 show bG _ _ _ [⟨_,_⟩,_,_,_,_,_,_,_,_,_,_,_,_,_,_,_,_] _;refine aq ?_;refine bJ ?_;refine a7 hm (ι:=Nat) (fun i=>[.un,.un,.un,⟨true,.int .i64 (i:Nat)⟩,⟨true,.ptr 0 9 0 0⟩,.un,.un,.un,.un,.un,.un,.un,.un,.un,.un,.un,.un]) (fun i=>[(0,.buf 9 [Rec.D r])]) 4 (fun i=>i<=r.needs.length/\lI r=ij (fun i=>iT r r.needs[i]!) i r.needs.length) (fun i=>r.needs.length-i) 0 ⟨ae,rfl⟩ (dp [(0,0)]) ?_;rintro i ⟨hi,hr⟩;refine aG ?_;intro u0;refine ay ?_;refine cC (fun hc0=>?_) fun hc0=>?_
 .refine aY ?_;refine cb i ?_;first|refine bS (v:=(bN.D _)) ?_|refine eK (v:=(bN.D _)) ?_
  refine ai (hc:=h457 r r.needs[i]! (hp0.2.1 _ (bB ae))) ?_;refine aG ?_;refine fH (fun hc1=>?_) fun hc1=>?_
  .refine c7 ?_;refine bM (aM (ar (D.int .i64) ?_) (ar (D.int .i64) ?_));all_goals
    have hq:eH r=(iT r r.needs[i]!,((i:Nat):Int)):=by
     exact FU (by rw[hr,jU ae hc1]) hc1
    rw[hq];first|done|rfl
  refine bJ ?_;exact⟨i+1,⟨ae,by rw[hr,lD ae hc1]⟩,ae,(dp [(0,0)])⟩
 refine aE ?_;have hn0:lI r=(0,0):=by rw[hr,lC ae]
 refine ay ?_;refine a7 hm (ι:=Nat) (fun i=>[.un,.un,.un,.un,⟨true,.ptr 0 9 0 0⟩,.un,.un,.un,⟨true,.int .i64 (i:Nat)⟩,.un,.un,.un,.un,.un,.un,.un,.un]) (fun i=>[(0,.buf 9 [Rec.D r])]) 10 (fun i=>i<=r.bars.length/\sQ r=ij (fun i=>oP r r.bars[i]!) i r.bars.length) (fun i=>r.bars.length-i) 0 ⟨ae,rfl⟩ (dp [(0,0)]) ?_;rintro i ⟨hi,hr⟩;refine aG ?_;intro u1;refine ay ?_;refine cC (fun hc2=>?_) fun hc2=>?_
 .refine aY ?_;refine cb i ?_;first|refine bS (v:=(jm.D _)) ?_|refine eK (v:=(jm.D _)) ?_
  refine ai (hc:=h458 r r.bars[i]! (hp0.2.2.1 _ (bB ae))) ?_;refine aG ?_;refine fH (fun hc3=>?_) fun hc3=>?_
  .refine c7 ?_;refine bM (aM (ar (D.int .i64) ?_) (ar (D.int .i64) ?_));all_goals
    have hq:eH r=(oP r r.bars[i]!,((i:Nat):Int)):=by
     exact Ad hn0 (by rw[hr,jU ae hc3]) hc3
    rw[hq];first|done|rfl
  refine bJ ?_;exact⟨i+1,⟨ae,by rw[hr,lD ae hc3]⟩,ae,(dp [(0,0)])⟩
 refine aE ?_;have hb0:sQ r=(0,0):=by rw[hr,lC ae]
 refine ay ?_;refine ai (hc:=h459 r.feats hp0.2.2.2) ?_;refine ay ?_;refine av (fun hc4=>?_) (fun hc4=>?_)
 .try simp only[er]at hc4
  refine aG ?_;refine bM (aM (ar (D.int .i64) ?_) (ar (D.int .i64) ?_));all_goals
   have hq:eH r=(11,0):=by
    exact FV hn0 hb0 hc4
   rw[hq];first|done|rfl
 simp only[bP]at hc4;refine aI ?_;refine a7 hm (ι:=Nat) (fun i=>[.un,.un,.un,.un,⟨true,.ptr 0 9 0 0⟩,.un,.un,.un,.un,.un,.un,.un,.un,⟨true,.int .i64 (i:Nat)⟩,.un,.un,.un]) (fun i=>[(0,.buf 9 [Rec.D r])]) 20 (fun i=>i<=r.feats.length/\tl r=ij (fun i=>kK r r.feats[i]!.of) i r.feats.length) (fun i=>r.feats.length-i) 0 ⟨ae,rfl⟩ (dp [(0,0)]) ?_;rintro i ⟨hi,hr⟩;refine aG ?_;intro u2;refine ay ?_;refine cC (fun hc5=>?_) fun hc5=>?_
 .refine aY ?_;refine cb i ?_;refine ay ?_;refine ai (hc:=h460 r r.feats[i]!.of (hp0.2.2.2 _ (bB ae)).2.2) ?_;refine aG ?_;refine fH (fun hc6=>?_) fun hc6=>?_
  .refine c7 ?_;refine bM (aM (ar (D.int .i64) ?_) (ar (D.int .i64) ?_));all_goals
    have hq:eH r=(kK r r.feats[i]!.of,((i:Nat):Int)):=by
     exact ru hn0 hb0 hc4 (by rw[hr,jU (f:=(fun i=>kK r r.feats[i]!.of)) ae hc6])
    rw[hq];first|done|rfl
  refine bJ ?_;exact⟨i+1,⟨ae,by rw[hr,lD (f:=(fun i=>kK r r.feats[i]!.of)) ae hc6]⟩,ae,(dp [(0,0)])⟩
 refine aY ?_;refine bM (aM (ar (D.int .i64) ?_) (ar (D.int .i64) ?_));all_goals
  have hq:eH r=(0,0):=by
   exact ru hn0 hb0 hc4 (by rw[hr,lC ae])
  rw[hq];first|done|rfl
def KL (T:List D->D->Prop):Prop:=∀(r:Rec),(fF r)->T [Rec.D r] (.tup [.int .i64 (eH r).1,.int .i64 (eH r).2])
def XW (Y:Ctx):Prop:=KL (br Y 218)
def F9:aF:=⟨1,11,[⟨1,none⟩,⟨2,none⟩],fQ,(sq (rg [gb 9 s0,gm bp,gm bp] [(3,0),(1,1),(2,2)]) (sq (.block 0 (sq (r1 [gf 0 s3,gd l0,gx 216 [l1] bQ,jJ l2,gm l3] 4 4) (.cond s4 (sq (rg [gm sE,gm bp] [(1,0),(2,1)]) .ret) (sq (r1 [gf 1 s3,gk 5 true l0,gx 217 [l1] zH,jJ l2,gm l3] 5 4) (.cond s5 (sq (rg [gm Hf,gm bp] [(1,0),(2,1)]) .ret) (sq (r1 [gf 6 s3,gd l0,gl l1,dd l2 Eu,gm l3,gJ 4 7 s3,iD 4 l5,cl 4 (.len l6),cl 4 (ew l7 Eu),eW l4 l8,gm l9] 6 10) (.cond s6 (sq (rg [gm ko,gm bp] [(1,0),(2,1)]) .ret) .skip))))))) (sq (sq (rg [gk 9 true s3,gx 218 [l0] [[.a,.a,.a,.a,.a,.a,.sl 3 [.sl 4 [.a,.a,.sl 1 [.a],.a],.a,.a],.sl 3 [.a,.a,.a],.sl 2 [.a,.sl 1 [.a]]]],gm l1,ge l2 0,ge l2 1,gm l3,gm l4] [(7,5),(9,6)]) (sq (r1 [gm s7,bO l0 bp] 8 1) (.cond s8 (sq (rg [gm s7,gm s9,gm l0,gm l1] [(1,2),(2,3)]) .ret) .skip))) (sq (sq (r1 [gk 9 true s3,gx 219 [l0] [[.a,.a,.a,.a,.a,.a,.sl 3 [.sl 4 [.a,.a,.sl 1 [.a],.a],.a,.a],.sl 3 [.a,.a,.a],.sl 2 [.a,.sl 1 [.a]]]],pg l1,dd l2 (i6 4096)] 10 3) (.cond jh (sq (rg [gm ko,gm bp] [(1,0),(2,1)]) .ret) .skip)) (sq (rg [gm bp,gm bp] [(1,0),(2,1)]) .ret)))))⟩
def w71 {Y:Ctx}(hm:(Y.at 0).cd)(h216:L7 Y)(h217:L8 Y)(h218:XW Y)(h219:Vc Y)(r:Rec)  (hp0:fF r):de Y F9 (.tup [.int .i64 (cJ r).1,.int .i64 (cJ r).2]) [Rec.D r]:=by
 show bG _ _ _ [⟨_,_⟩,_,_,_,_,_,_,_,_,_,_] _;refine aq ?_;refine bJ ?_;refine ai (hc:=h216 _) ?_;refine aA ?_;refine wp_cond (fun hc0=>?_) (fun hc0=>?_)
 .try simp only[er]at hc0
  refine aG ?_;refine bM (aM (ar (D.int .i64) ?_) (ar (D.int .i64) ?_));all_goals (have hq:cJ r=(4,0):=(by rw[cJ,ax hc0]);rw[hq];first|done|rfl)
 simp only[bP]at hc0;refine ay ?_;refine bD (v:=cZ.D r.v) ?_;refine ai (hc:=h217 r.v hp0.1.2) ?_;refine aA ?_;refine wp_cond (fun hc1=>?_) (fun hc1=>?_)
 .try simp only[er]at hc1
  refine aG ?_;refine bM (aM (ar (D.int .i64) ?_) (ar (D.int .i64) ?_));all_goals (have hq:cJ r=(5,0):=(by rw[cJ,aj (by simp[hc0]),ax hc1]);rw[hq];first|done|rfl)
 simp only[bP]at hc1;refine aE ?_;intro u0;refine aE ?_;refine jI ?_;refine aE ?_;refine fH (fun hc2=>?_) fun hc2=>?_
 .refine aG ?_;refine bM (aM (ar (D.int .i64) ?_) (ar (D.int .i64) ?_));all_goals (have hq:cJ r=(3,0):=(by rw[cJ,aj (by simp[hc0]),aj (by simp[hc1]),ax ae]);rw[hq];first|done|rfl)
 refine aI ?_;refine ai (hc:=h218 r hp0) ?_;refine fT ?_;refine av (fun hc3=>?_) (fun hc3=>?_)
 .try simp only[er]at hc3
  refine bJ ?_;refine bM (aM (ar (D.int .i64) ?_) (ar (D.int .i64) ?_));all_goals
   have hq:cJ r=eH r:=by
    exact oU hc0 hc1 ae ae rfl hc3
   rw[hq];first|done|rfl
 simp only[bP,aV]at hc3;have hpz:eH r=(0,0):=FW hc3;have hgd:wP r:=⟨⟨hc0,hc1⟩,⟨ae,ae⟩,hpz⟩;refine aE ?_;refine ai (hc:=h219 r ⟨hgd,hp0⟩) ?_;refine aC ?_;intro u1;refine ay ?_;refine cC (fun hc4=>?_) fun hc4=>?_
 .refine aG ?_;refine bM (aM (ar (D.int .i64) ?_) (ar (D.int .i64) ?_));all_goals
   have hq:cJ r=(3,0):=by
    rw[qQ hc0 hc1 ae ae hpz,ax ae]
   rw[hq];first|done|rfl
 refine aG ?_;refine bM (aM (ar (D.int .i64) ?_) (ar (D.int .i64) ?_));all_goals
  have hq:cJ r=(0,0):=by
   rw[qQ hc0 hc1 ae ae hpz,aj ae]
  rw[hq];first|done|rfl
def C71 (Y:Ctx):Prop:=Em (br Y 71)
end Go.Abs
section
namespace Go.Abs
variable {Y:Ctx}(hm:(Y.at 0).cd)
structure cY where
 r:Rec
 sum:Int
 off:Bool
 deriving Inhabited,DecidableEq
def cY.D (x:cY):D:=.agg [.str x.r.name,.int .i64 x.r.v.major,.int .i64 x.r.v.minor,.int .i64 x.r.v.patch,.str x.r.v.pre,.str x.r.v.build,.sl 3 (x.r.needs.map bN.D),.sl 3 (x.r.bars.map jm.D),.sl 2 (x.r.feats.map cu.D),.int .u64 x.sum,.bool x.off]
structure fk where
 name:au
 es:List cY
 deriving Inhabited,DecidableEq
def fk.D (s:fk):D:=.agg [.str s.name,.sl 11 (s.es.map cY.D)]
def fj (a b:Int):Int:=if a<b then-1 else if b<a then 1 else 0
def Ba (a b:au):Int:=if Op.bytesLess a b=true then-1 else if a=b then 0 else 1
def sK (a b:au):Int:=if cR a=true/\cR b=true then fj (eY a) (eY b)else if cR a=true then-1 else if cR b=true then 1 else Ba a b
def GD (l m:List au):Nat->Nat->Int
 |_,0=>fj l.length m.length
 |i,k+1=>if sK l[i]! m[i]! ≠0 then sK l[i]! m[i]! else GD l m (i+1) k
def sU (l m:List au)(i:Nat):Int:=GD l m i (min l.length m.length-i)
def CM {l m:List au}{i:Nat}(h:i<l.length/\i<m.length)(hn:sK l[i]! m[i]! ≠0):sU l m i=sK l[i]! m[i]! :=by
 unfold sU;rw[show min l.length m.length-i=(min l.length m.length-(i+1))+1 by omega,GD,ax hn]
def GC {l m:List au}{i:Nat}(h:i<l.length/\i<m.length)(hn:sK l[i]! m[i]! =0):sU l m i=sU l m (i+1):=by
 unfold sU;rw[show min l.length m.length-i=(min l.length m.length-(i+1))+1 by omega,GD,aj (by rw[hn];simp)]
def CL {l m:List au}{i:Nat}(h:l.length<=i\/m.length<=i):sU l m i=fj l.length m.length:=by
 unfold sU;rw[show min l.length m.length-i=0 by omega,GD]
def vZ (a b:au):Int:=if a=b then 0 else if a=[]then 1 else if b=[]then-1 else sU (ak a 46) (ak b 46) 0
def oW (a b:cZ):Int:=if fe a=false\/fe b=false then 0 else
 if fj a.major b.major≠0 then fj a.major b.major else if fj a.minor b.minor≠0 then fj a.minor b.minor else
 if fj a.patch b.patch≠0 then fj a.patch b.patch else vZ a.pre b.pre
def wH (v:cZ):cZ:=⟨v.major,v.minor,v.patch,v.pre,[]⟩
theorem Mr (a:Int):fj a a=0:=by simp[fj]
def vu {a b:Int}:fj a b=0↔a=b:=by
 grind [fj]
def BK {a b:cZ}(h:wH a=wH b):oW a b=0:=by
 grind [wH,oW,vZ,Mr]
theorem PG (x y z:Int):fA (fun i=>[x,y,z][i]!) 0 [x,y,z].length=if x≠0 then x else if y≠0 then y else z:=by
 grind [fA,tn]
def PI {x y z:Int}(h:fA (fun i=>[x,y,z][i]!) 0 [x,y,z].length=0):x=0/\y=0/\z=0:=by
 grind [PG]
def PH {a b:cZ}(hv:¬(fe a=false\/fe b=false))(h:¬fA (fun i=>[fj a.major b.major,fj a.minor b.minor,fj a.patch b.patch][i]!) 0 [fj a.major b.major,fj a.minor b.minor,fj a.patch b.patch].length=0):
  fA (fun i=>[fj a.major b.major,fj a.minor b.minor,fj a.patch b.patch][i]!) 0 [fj a.major b.major,fj a.minor b.minor,fj a.patch b.patch].length=oW a b:=by
 grind [PG,oW]
def Ps {a b:cZ}(hv:¬(fe a=false\/fe b=false))(h1:fj a.major b.major=0)(h2:fj a.minor b.minor=0)(h3:fj a.patch b.patch=0):oW a b=vZ a.pre b.pre:=by
 grind [oW]
def SL {a b:cZ}(h1:fj a.major b.major=0)(h2:fj a.minor b.minor=0)(h3:fj a.patch b.patch=0)(h4:a.pre=b.pre):wH a=wH b:=by
 unfold wH;rw[vu.1 h1,vu.1 h2,vu.1 h3,h4]
def BL (a:cZ):oW a a=0:=BK rfl
def DK (a b:cZ):Bool:=fe a&&fe b&&decide (oW a b=0)
def Nt {v:cZ}(h:fe v=true):DK v v=true:=by simp[DK,h,BL]
def Fu (nm:au)(v:cZ)(x:cY):Bool:=decide (x.r.name=nm)&&DK x.r.v v
def WC {nm:au}{v:cZ}{x:cY}(h:¬x.r.name=nm\/DK x.r.v v=false):Fu nm v x=false:=by
 grind [Fu]
def Tm {nm:au}{v:cZ}{x:cY}(h:x.r.name=nm/\DK x.r.v v=true):Fu nm v x=true:=by
 grind [Fu]
def sG (l:List cY)(nm:au)(v:cZ)(i:Nat):Int:=match(l.drop i).findIdx? (Fu nm v)with
 |some k=>((i+k:Nat):Int)
 |none=>-1
def QR {l:List cY}{nm:au}{v:cZ}{i:Nat}(h:i<l.length)(he:Fu nm v l[i]! =true):sG l nm v i=(i:Nat):=by
 unfold sG;rw[jG h,List.findIdx?_cons]
 grind
def QT {l:List cY}{nm:au}{v:cZ}{i:Nat}(h:i<l.length)(he:Fu nm v l[i]! =false):sG l nm v i=sG l nm v (i+1):=by
 unfold sG;have:Fu nm v l[i]=false:=by simpa[h]using he
 rw[jG h,List.findIdx?_cons]
 grind
def J4 {l:List cY}{nm:au}{v:cZ}{i:Nat}(h:l.length<=i):sG l nm v i=-1:=by
 unfold sG;rw[k8 h];rfl
def oa (l:List cY)(i:Nat):Bool:=decide ((df l[i]!.r).2=0)&&decide (mC l[i]!.r=l[i]!.sum)&&decide (sG (l.take i) l[i]!.r.name l[i]!.r.v 0<0)
def ji (s:fk):Bool:=(dN s.name&&decide (s.es.length<=64))&&cP (oa s.es) 0 s.es.length
theorem Ak {r:Rec}(h:(df r).2=0):fe r.v=true:=by
 grind [cJ,df,qP]
theorem QS {l:List cY}{nm:au}{v:cZ}:sG l nm v 0<0↔∀x∈l,Fu nm v x=false:=by
 grind [sG,Fu]
theorem Cl {l:List cY}{i:Nat}(h:i<l.length)(hv:fe l[i]!.r.v=true):decide (sG l l[i]!.r.name l[i]!.r.v 0=(i:Nat))=decide (sG (l.take i) l[i]!.r.name l[i]!.r.v 0<0):=by
 have hi:Fu l[i]!.r.name l[i]!.r.v l[i]! =true:=by unfold Fu;rw[Nt hv,cj rfl];rfl
 apply iv.2;rw[QS];constructor
 .intro he x hx;obtain⟨j,hj,rfl⟩:=List.mem_take_iff_getElem.1 hx;have hj2:j<i:=ae;unfold sG at he;rw[ct]at he;cases hf:l.findIdx? (Fu l[i]!.r.name l[i]!.r.v)with
  |none=>rw[hf]at he;simp only at he;omega
  |some k=>
   rw[hf]at he;obtain⟨h1,h2,h3⟩:=List.findIdx?_eq_some_iff_getElem.1 hf;have hk:k=i:=by simp only at he;omega
   subst hk;have:=h3 j hj2;simpa using this
 .intro hx;unfold sG;rw[ct];have:l.findIdx? (Fu l[i]!.r.name l[i]!.r.v)=some i:=by
   rw[List.findIdx?_eq_some_iff_getElem];refine⟨h,by simpa[h]using hi,fun j hj=>?_⟩;have:=hx l[j] (List.mem_take_iff_getElem.2 ⟨j,ae,rfl⟩);rw[this];decide
  rw[this];simp
def PA {l:List cY}{i:Nat}(h:i<l.length)(h1:(df l[i]!.r).2=0)(h2:mC l[i]!.r=l[i]!.sum)(h3:sG l l[i]!.r.name l[i]!.r.v 0=(i:Nat)):oa l i=true:=by
 grind [Cl,Ak,oa]
def SR {l:List cY}{i:Nat}(h:i<l.length)(h1:(¬(df l[i]!.r).2=0\/¬mC l[i]!.r=l[i]!.sum)\/¬sG l l[i]!.r.name l[i]!.r.v 0=(i:Nat)):oa l i=false:=by
 grind [oa,df,mC,Cl,Ak]
def fC:au:=[115,104,101,108,102]
def jk:au:=[101,110,116,114,121]
def U0:au:=[111,110]
def AU:au:=[111,102,102]
def sB (x:cY):List au:=[jk,gI x.sum,if x.off=true then AU else U0]
def zq (x:cY):au:=b7 (sB x)++(df x.r).1
def eL (s:fk):au:=b7 [fC,s.name]++(s.es.map zq).flatten
def lN (s:fk):au×Int:=if ji s=false then([],1)else(eL s,0)
end Go.Abs
namespace Go.Abs
variable {Y:Ctx}(hm:(Y.at 0).cd)
def ve (s:fk)(i:Nat):au:=b7 [fC,s.name]++((s.es.take i).map zq).flatten
def UZ (s:fk):ve s 0=fC++[32]++s.name++[10]:=by simp[ve,b7,aS]
theorem GM {s:fk}{i:Nat}(h:i<s.es.length):ve s (i+1)=ve s i++zq s.es[i]! :=by
 unfold ve;have e:s.es.take (i+1)=s.es.take i++[s.es[i]!]:=by
  rw[List.take_add_one,List.getElem?_eq_getElem h];simp[h]
 rw[e];simp
def Ee (s:fk):ve s s.es.length=eL s:=by simp[ve,eL]
theorem Aj (r:Rec):(df r).1.length<=4096:=by
 grind [df,cJ,fY]
theorem Jv (x:cY):zq x=jk++[32]++gI x.sum++(if x.off=true then [32]++AU++[10]else [32]++U0++[10])++(df x.r).1:=by
 unfold zq sB b7;cases x.off<;>simp[aS]
theorem E0 (x:cY):(zq x).length<=4200:=by
 grind [Aj,ke,Jv,jk,U0,AU]
def yn {s:fk}(hn:s.name.length<=100):∀{i:Nat},i<=s.es.length->(ve s i).length<=200+i*4200
 |0,_=>by rw[UZ];simp[fC];omega
 |i+1,h=>by
  have h1:=yn hn (i:=i) ae
  grind [E0,GM]
def Kt {s:fk}(h:ji s=true):s.name.length<=16/\s.es.length<=64:=by
 grind [ji,dN]
end Go.Abs
end
namespace Go.Abs
variable {Y:Ctx}(hm:(Y.at 0).cd)
def iEtr (a b:cY):cY.D a=cY.D b↔a=b:=by
 obtain⟨⟨n,⟨v1,v2,v3,v4,v5⟩,x,y,z⟩,s,o⟩:=a;obtain⟨⟨n',⟨w1,w2,w3,w4,w5⟩,x',y',z'⟩,s',o'⟩:=b;simp[cY.D,HV,P1,HU,and_assoc]
def UH (a b:List cY):a.map cY.D=b.map cY.D↔a=b:=vR iEtr a b
def iShf (a b:fk):fk.D a=fk.D b↔a=b:=by cases a;cases b;simp[fk.D,UH]
def HF {A:RT->Prop}(h:A (fun ds d=>A fun ds' d'=>ds'=ds->d=d'):=by
 (repeat' first|apply And.intro|intro _)
 all_goals rename_i e
 all_goals (try simp only[ub,D.str.injEq,D.int.injEq,D.bool.injEq,D.sl.injEq,D.ref.injEq,D.agg.injEq,D.fn.injEq,MW,iInt,iByt,iVer,UK,P2,UJ,HV,iBar,P1,UI,HU,iRec,UH,iShf,iEtr,iCmp,UG,iNd,iNds,WA,iRng,iAlts,iMrk,iPr,iU8,iR,Tj,cL,cK,reduceCtorEq,dK,dJ]at e)
 all_goals first|rfl|(simp only[e];done)|simp_all):Zw (DA A):=Wl h
def pre1 (b c:UInt8)(r:au):([b]:au).isPrefixOf (c::r)=(b==c):=by simp[List.isPrefixOf]
def UL:Option Nat->Int
 |some k=>(k:Int)
 |none=>-1
theorem tw:∀(s:au) (b:UInt8),Lib.index s [b]=UL (s.findIdx? (fun c=>c==b))
 |[],b=>rfl
 |c::r,b=>by
  unfold Lib.index;rw[pre1,List.findIdx?_cons,tw r b];by_cases h:c=b
  .subst h;simp[UL]
  .have h1:(b==c)=false:=by simp[Ne.symm h]
   have h2:(c==b)=false:=by simp[h]
   simp only[h1,h2,gV,bc];cases r.findIdx? (fun c=>c==b)with
   |none=>rfl
   |some k=>
    grind [UL]
def Wj (s:au)(b:UInt8):Lib.cut s [b]=ie s b:=by
 unfold Lib.cut ie
 grind [tw,UL]
def Mx (s p:au):(Lib.trimPrefix s p,Lib.hasPrefix s p)=cG s p:=by
 unfold Lib.trimPrefix Lib.hasPrefix cG
 grind
def Fx (b:au):∀l,aS b l=Lib.join l b
 |[]=>rfl
 |[t]=>(Lib.join_one t b).symm
 |t::u::r=>by
  rw[gE _ _ _ aT,Fx b (u::r),Lib.join_cons,Lib.join_cons];simp[Lib.joinTail]
def decDigits_eq (n:Nat):Lib.decDigits n=dF n:=by
 induction n using Nat.strongRecOn with
 |_ n ih=>
  rw[Lib.decDigits];by_cases h:n<10
  .rw[dif_pos h,nb h];rfl
  .rw[dif_neg h,om ae,ih (n/10) ae];rfl
def Tq {n:Int}(h:0<=n):Lib.itoa n=dF n.toNat:=by
 unfold Lib.itoa;rw[aj ae,decDigits_eq]
def pH (b:UInt8):∀(s cur:au),s.findIdx? (fun c=>c==b)=none->cq b.toNat s cur=[cur++s]
 |[],cur,_=>by simp[cq]
 |c::r,cur,h=>by
  rw[List.findIdx?_cons]at h;split at h
  .cases h
  .rename_i hc;have hr:r.findIdx? (fun c=>c==b)=none:=by
    cases hq:r.findIdx? (fun c=>c==b)with
    |none=>rfl
    |some k=>rw[hq]at h;cases h
   have hne:¬((c.toNat:Int)=(b.toNat:Int)):=fun e=>hc (by
    have:c.toNat=b.toNat:=ae;simp[iR.1 this])
   simp only[cq,aj hne];rw[pH b r (cur++[c]) hr];simp
def n6 (b:UInt8):∀(s cur:au) (k:Nat),s.findIdx? (fun c=>c==b)=some k->cq b.toNat s cur=(cur++s.take k)::cq b.toNat (s.drop (k+1)) []
 |[],cur,k,h=>by simp at h
 |c::r,cur,k,h=>by
  rw[List.findIdx?_cons]at h;split at h
  .grind [cq]
  .rename_i hc;have hne:¬((c.toNat:Int)=(b.toNat:Int)):=fun e=>hc (by
    have:c.toNat=b.toNat:=ae;simp[iR.1 this])
   cases hq:r.findIdx? (fun c=>c==b)with
   |none=>rw[hq]at h;cases h
   |some j=>
    rw[hq]at h;have hk:k=j+1:=by simpa using h.symm
    subst hk;simp only[cq,aj hne];rw[n6 b r (cur++[c]) j hq];simp
def Cy (b:UInt8):∀(k:Nat) (s:ByteArray),Lib.countB s ⟨⟨[b]⟩⟩=k->(Lib.splitB ⟨⟨[b]⟩⟩ 0 k s).map (fun t=>t.data.toList)=ak s.data.toList b.toNat:=by
 intro k;induction k with
 |zero=>
  intro s h;rw[Lib.splitB_zero];have hi:Lib.indexB s ⟨⟨[b]⟩⟩=UL (s.data.toList.findIdx? (fun c=>c==b)):=tw _ b;cases hq:s.data.toList.findIdx? (fun c=>c==b)with
  |none=>simp[ak,pH b _ [] hq]
  |some j=>
   rw[hq]at hi;have:=Lib.countB_hit s ⟨⟨[b]⟩⟩ j (aP 1) hi;omega
 |succ k ih=>
  intro s h;have hi:Lib.indexB s ⟨⟨[b]⟩⟩=UL (s.data.toList.findIdx? (fun c=>c==b)):=tw _ b;cases hq:s.data.toList.findIdx? (fun c=>c==b)with
  |none=>
   rw[hq]at hi;have:=Lib.countB_miss s ⟨⟨[b]⟩⟩ hi;omega
  |some j=>
   rw[hq]at hi;have h1:1<=(⟨⟨[b]⟩⟩:ByteArray).size:=aP 1;have hc:=Lib.countB_hit s ⟨⟨[b]⟩⟩ j h1 hi;rw[Lib.splitB_hit _ _ _ _ j hi];simp only[List.map_cons];rw[ih _ ae];have e1:(s.extract 0 (j+0)).data.toList=s.data.toList.take j:=by
    rw[Lib.extract_data];simp
   have e2:(s.extract (j+(⟨⟨[b]⟩⟩:ByteArray).size) s.size).data.toList=s.data.toList.drop (j+1):=by
    rw[Lib.extract_data];exact ek (by rw[lV,Lib.size_eq];exact aP _)
   rw[e1,e2];simp only[ak];rw[n6 b _ [] j hq];simp
end Go.Abs
section
namespace Go.Abs
variable {Y:Ctx}(hm:(Y.at 0).cd)
open Go.Proofs
def Gz (sep:au)(k:Nat)(s:au)(h:Lib.index s sep=-1):Lib.splitK sep 0 k s=[s]:=by
 cases k with
 |zero=>rfl
 |succ k=>unfold Lib.splitK;rw[if_pos (beq_iff_eq.2 h)]
def I5 (sep:au)(k:Nat)(s:au)(i:Nat)(h:Lib.index s sep=i):Lib.splitK sep 0 (k+1) s=s.take i::Lib.splitK sep 0 k (s.drop (i+sep.length)):=by
 have hm:¬(Lib.index s sep==-1)=true:=fun e=>by have:=beq_iff_eq.1 e;omega
 have e:(Lib.index s sep).toNat=i:=by omega
 rw[Lib.splitK,if_neg hm,e];rfl
def kL (b:UInt8):∀(s cur:au),aS [b] (cq b.toNat s cur)=cur++s
 |[],cur=>by simp[cq,aS]
 |c::r,cur=>by
  unfold cq;split
  .rename_i h;have hc:c=b:=by
    have:c.toNat=b.toNat:=by omega
    exact UInt8.toNat_inj.1 this
   have hne:cq b.toNat r []≠[]:=pG r b.toNat;rw[gE _ _ _ hne,kL b r [],hc];simp
  .rw[kL b r (cur++[c])];simp
def Mw (a:au){l:List au}(k:Nat)(hl:l≠[]):qR (k+2) (a::l)=a::qR (k+1) l:=by
 grind [qR]
theorem Oh:∀(k:Nat) (s:au),Lib.splitK [32] 0 k s=qR (k+1) (ak s 32):=by
 intro k;induction k with
 |zero=>
  intro s;have hj:aS [32] (ak s 32)=s:=by
   have:=kL 32 s [];simpa[ak]using this
  unfold qR;split
  .rename_i h;show [s]=_;have hne:ak s 32≠[]:=pG _ _
   match hq:ak s 32,hne,h with
   |[t],_,_=>rw[hq]at hj;rw[<-hj];rfl
   |_::_::_,_,h=>simp at h
  .simp only[Nat.zero_add,Nat.sub_self,List.take_zero,List.drop_zero,List.nil_append,hj];rfl
 |succ k ih=>
  intro s;have hi:=tw s 32;cases hq:s.findIdx? (fun c=>c==32)with
  |none=>
   rw[hq]at hi;have hs:ak s 32=[s]:=by have:=pH 32 s [] hq;simpa[ak]using this
   rw[Gz _ _ _ hi,hs];rfl
  |some j=>
   rw[hq]at hi;have hs:ak s 32=s.take j::ak (s.drop (j+1)) 32:=by have:=n6 32 s [] j hq;simpa[ak]using this
   rw[I5 _ _ _ j hi,hs,Mw _ _ (pG _ _),ih];rfl
def Jd (n:Nat)(h:1<=n)(s:au):Lib.splitK [32] 0 (min n (s.length+1) -1) s=lT (n:Int) s:=by
 grind [dG,Oh,lT,qR]
def pre2 (c d:UInt8)(r:au):([124,124]:au).isPrefixOf (c::d::r)=(decide (c=124)&&decide (d=124)):=by
 grind
theorem CA:∀(s cur:au),Lib.index s [124,124]=-1->aK s cur=[cur++s]
 |[],cur,_=>by simp[aK]
 |[c],cur,_=>rfl
 |c::d::r,cur,h=>by
  unfold Lib.index at h;rw[pre2]at h;by_cases h2:c=124/\d=124
  .simp[h2.1,h2.2]at h
  .have h3:(decide (c=124)&&decide (d=124))=false:=by rw[<-Bool.decide_and];exact decide_eq_false h2
   rw[h3,if_neg (by simp)]at h;have h4:Lib.index (d::r) [124,124]=-1:=by
    have:=Lib.index_ge (d::r) [124,124]
    grind
   rw[aK,if_neg h2,CA (d::r) _ h4];simp
def Cz:∀(s cur:au) (i:Nat),Lib.index s [124,124]=i->aK s cur=(cur++s.take i)::aK (s.drop (i+2)) []
 |[],cur,i,h=>by simp[Lib.index]at h
 |[c],cur,i,h=>by simp[Lib.index,List.isPrefixOf]at h
 |c::d::r,cur,i,h=>by
  unfold Lib.index at h;rw[pre2]at h;by_cases h2:c=124/\d=124
  .rw[h2.1,h2.2]at h;have hi:i=0:=by simp at h;omega
   subst hi;rw[aK,if_pos h2];simp
  .have h3:(decide (c=124)&&decide (d=124))=false:=by rw[<-Bool.decide_and];exact decide_eq_false h2
   rw[h3,if_neg (by simp)]at h;split at h
   .omega
   .obtain⟨j,rfl⟩:∃j,i=j+1:=⟨i-1,by
     have:=Lib.index_ge (d::r) [124,124];rename_i h5;have:Lib.index (d::r) [124,124]≠-1:=fun e=>h5 (beq_iff_eq.2 e)
     omega⟩
    rw[aK,if_neg h2,Cz (d::r) _ j (by omega)];simp
def Og:∀(k:Nat) (s:ByteArray),Lib.countB s ⟨⟨[124,124]⟩⟩=k->(Lib.splitB ⟨⟨[124,124]⟩⟩ 0 k s).map (fun t=>t.data.toList)=aK s.data.toList []:=by
 intro k;induction k with
 |zero=>
  intro s h;rcases Lib.indexB_cases s ⟨⟨[124,124]⟩⟩with hi|⟨i,hi,_⟩
  .rw[Lib.splitB_zero]
   grind [CA]
  .have:=Lib.countB_hit s ⟨⟨[124,124]⟩⟩ i (by decide) hi;omega
 |succ k ih=>
  intro s h;rcases Lib.indexB_cases s ⟨⟨[124,124]⟩⟩with hi|⟨i,hi,_⟩
  .rw[Lib.countB_miss _ _ hi]at h;omega
  .have hc:=Lib.countB_hit s ⟨⟨[124,124]⟩⟩ i (by decide) hi;rw[Lib.splitB_hit _ _ _ _ i hi,List.map_cons,ih _ (by omega),Cz _ _ i (show Lib.index s.data.toList [124,124]=i from hi),Lib.extract_from_zero,Lib.extract_to_end];rfl
def CN {p:UInt8->Bool}:∀(l:au),∀x∈l.takeWhile p,p x=true
 |[],x,h=>by cases h
 |a::r,x,h=>by
  rw[List.takeWhile_cons]at h;split at h
  .rename_i ha;rcases List.mem_cons.1 h with rfl|h
   .exact ha
   .exact CN r x h
  .cases h
theorem vx {p:UInt8->Bool}:∀(l:au),(∀x∈l,p x=true)->l.dropWhile p=[]
 |[],_=>rfl
 |a::r,h=>by
  rw[List.dropWhile_cons,if_pos (h a (.head _))];exact vx r fun x hx=>h x (.tail _ hx)
def zc:∀s,kB s=s.dropWhile (· ==32)
 |[]=>rfl
 |c::r=>by
  unfold kB;by_cases h:c=32
  .rw[if_pos h,zc r];simp[h]
  .rw[if_neg h,List.dropWhile_cons,if_neg (by simpa using h)]
def Pl (s:au):Lib.trimB s 32=ey s:=by
 unfold Lib.trimB Lib.trimLeftB Lib.trimRightB ey;rw[zc,zc];generalize hp:(fun c:UInt8=>c==32)=p;have hs:s=s.takeWhile p++s.dropWhile p:=(List.takeWhile_append_dropWhile).symm;generalize ha:s.takeWhile p=a at hs;generalize hm:s.dropWhile p=m at hs;have hall:∀x∈a,p x=true:=by rw[<-ha];exact CN s
 subst hs;rw[List.reverse_append,List.dropWhile_append];cases m with
 |nil=>
  grind [vx]
 |cons c r=>
  have hc:p c=false:=by
   have:=List.head_dropWhile_not p (l:=a++c::r) (by rw[hm];simp);simpa[hm]using this
  have hne:((c::r).reverse.dropWhile p)≠[]:=by
   rw[List.reverse_cons,List.dropWhile_append];split
   .simp[hc]
   .simp
  rw[if_neg (by simpa using hne),List.reverse_append,List.reverse_reverse,List.dropWhile_append,vx _ hall];simp only[List.isEmpty_nil,if_true];rw[List.reverse_cons,List.dropWhile_append];split
  .simp[hc]
  .simp[hc]
end Go.Abs
namespace Go.Proofs
open Go.Shelf Go.RowKit Go.Lib
set_option maxHeartbeats 1000000 in
theorem I6 {P:Program}{J:Ren}(L:Lays.n147 P J)(hi9:(P.info? (J.t 9)).map (fun i=>(i.zero,i.size,i.bytes))=some (some (.string ByteArray.empty),1,16))(s sep:ByteArray)(m:Int)(w:World)
  (hs:s.size<4294967281) (hm:w.cell? ⟨(J.g 1),0,none⟩=some (.int .i64 m)) (h1:1<=sep.size):
  Calls P (J.f 147) #[.string s,.string sep,.int .i64 (-1)] w fun e w'=>
   e=.returned (.slice (some ⟨w.heap.size,0,none⟩) (Lib.splitB sep 0 (Lib.countB s sep) s).length (Lib.countB s sep+1))/\w'=w.alloc (.cells (Lib.cellsOf (Lib.splitB sep 0 (Lib.countB s sep) s) (Lib.countB s sep+1)) (J.t 9)):=by
 have hle:=Lib.countB_le sep h1 s.size s (Nat.le_refl _);have c:=Any.strings_genSplit {L with} hi9 s sep 0 (-1) (Lib.countB s sep+1) m w hs hm h1 (Nat.zero_le _) (by decide) (by decide) (by rw[if_pos (by decide)];omega);rw[Nat.add_sub_cancel]at c;have t3:=L.t3;have t9:=L.t9;have t31:=L.t31;have a3:=L.a3;have a9:=L.a9;have a31:=L.a31;have z3:=L.z3;have v3:=L.v3;have z9:=L.z9;have v9:=L.v9;have z31:=L.z31;have v31:=L.v31;have e221:∀args w,(callFunc (J.f 221) args).run P w=.ok (.enter (J.f 221) args) w:=enters_of L.f221 (by kernel_rfl) rfl
 go_enter L.f147,Body.n147_ntmps J
 go_wp2_with (go_at_fn (J.f 221);refine c.mono ?_;rintro e w' ⟨rfl,hw⟩;rw[hw])
 go_ret
 exact⟨rfl,rfl⟩
end Go.Proofs
end
