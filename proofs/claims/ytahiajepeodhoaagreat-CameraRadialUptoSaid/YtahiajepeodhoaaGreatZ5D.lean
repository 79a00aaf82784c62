/- Lemmas on the walk and plain lemmas that the claim of this folder uses; each states its own conditions. Lines were printed by a program of ours. -/
import Derived.Test.YtahiajepeodhoaaGreatZ5C
set_option linter.unusedVariables false
set_option linter.unusedSimpArgs false
set_option linter.unusedSectionVars false
open Go.Proofs.Tryz renaming underlying57 → ya, underlying32 → yc, prog → yd, underlying60 → ye, underlying62 → yf, underlying28 → yh, underlying34 → yj, underlying30 → yk, underlying27 → yn, underlying56 → yp, underlying59 → yq, results105 → yu, underlying24 → yx
open Go.Proofs.YtahiajepeodhoaaGreat.Big renaming digs → yb, ln → yg, raw → yi, zO → yl, hq → ym, fq → yr, sgq_le → yt, hq_num → yv, hq_den → yw, len_digs_nil → yz, zma → yA, zYa → yB, nn → yC, fr → yD, sg → yE
namespace Go.Proofs.YtahiajepeodhoaaGreat.Sp
open Go
set_option linter.unusedVariables false
set_option maxRecDepth 100000
set_option maxHeartbeats 8000000
theorem zLe {s:Bool} {p1:Option Addr} {n1:Nat} {c1:Nat} {l1:List Int} {t:Bool} {p2:Option Addr} {n2:Nat} {c2:Nat} {l2:List Int} (hn1:l1.length=n1) (hn2:l2.length=n2) (hm1:n1≤2199023255552) (hm2:n2≤2199023255552):Con yd 81 [.agg #[.bool s,.slice p1 n1 c1],.agg #[.bool t,.slice p2 n2 c2]] [] [slF (rI .u32) p1 c1 l1,slF (rI .u32) p2 c2 l2] (Y:=(Option Addr)×Nat) (fun y=>True) (fun y=> .agg #[.bool (decide (((Nat.gcd (yi s l1).natAbs (yi t l2).natAbs:Nat):Int)<0)),.slice (y.1) ((yb (((Nat.gcd (yi s l1).natAbs (yi t l2).natAbs:Nat):Int).natAbs)).length) (y.2)]) (fun y=>[]) (fun y=>[slF (rI .u32) (y.1) (y.2) (yb (((Nat.gcd (yi s l1).natAbs (yi t l2).natAbs:Nat):Int).natAbs))]):=by
 refine zl Tryz.func81 rfl rfl rfl (fun c=> ?_)
 show RunC _ _ _ _ _ [(0,.agg #[.bool s,.slice p1 n1 c1]),(1,.agg #[.bool t,.slice p2 n2 c2])] [] [slF (rI .u32) p1 c1 l1,slF (rI .u32) p2 c2 l2]
 refine zU 0 rfl (fun hL0=> ?_)
 refine zUa 0 rfl (fun hE0=> ?_)
 refine zU 1 rfl (fun hL1=> ?_)
 refine zUa 1 rfl (fun hE1=> ?_)
 have hnn1:yC l1:=fun g hg=>(zy.1 (hE0 g hg)).1
 have hnn2:yC l2:=fun g hg=>(zy.1 (hE1 g hg)).1
 have hb1:yg (yi s l1)≤n1:=by have:=yB (s:=s) hnn1;omega
 have hb2:yg (yi t l2)≤n2:=by have:=yB (s:=t) hnn2;omega
 unfold yg at hb1 hb2
 refine ze<|za<|zI rfl rfl (zR rfl rfl) (fun b1=> ?_)
 refine zI rfl rfl (zR rfl rfl) (fun b2=> ?_)
 refine zI rfl rfl (zr zr30 rfl) (fun b3=> ?_)
 refine zf<|zd<|ze<|zV (OW:=[]) (O:=[boxA b3 30 [wz.b,wz.l],boxA b2 30 [.bool t,.slice p2 n2 c2],boxA b1 30 [.bool s,.slice p1 n1 c1]]) 100000 mixed (.then .ret) kr<|e_u 0 rfl rfl (zc 2 ty30 rfl rfl (.t2 .nil))<|e_u 3 rfl rfl (zc 1 ty30 rfl rfl (.t2 .nil))<|e_one 1 (zp rfl rfl rfl rfl (.c rfl .n) ce84 (zWa (s:=s) (p:=p1) (n:=n1) (cap:=c1) (l:=l1) (hn:=ass) (hln:=cbo)) (.c (j:=0) rfl .n) ?_)
 rintro ⟨p24,c25⟩ -
 dsimp only [aq,nq,cq]
 refine e_pv 2 rfl rfl (zBa yk rfl ty28 rfl rfl)<|e_one 4 (zp rfl rfl rfl rfl (.c rfl .n) ce84 (zWa (s:=t) (p:=p2) (n:=n2) (cap:=c2) (l:=l2) (hn:=ass) (hln:=cbo)) (.c (j:=2) rfl .n) ?_)
 rintro ⟨p26,c27⟩ -
 dsimp only [aq,nq,cq]
 refine e_pv 5 rfl rfl (zBa yk rfl ty28 rfl rfl)<|e_pv 6 rfl rfl (zb rfl)<|e_pv 7 rfl rfl (zb rfl)<|zH kr<|zd<|ze<|zx<|zja (X:=Nat×Nat×(Option Addr)×Nat×(Option Addr)×Nat) (fun x:Nat×Nat×(Option Addr)×Nat×(Option Addr)×Nat=>Nat.gcd x.1 x.2.1=Nat.gcd (yi s l1).natAbs (yi t l2).natAbs∧(yb x.1).length≤2199023255552∧(yb x.2.1).length≤2199023255552) (fun x=>[(6,.slice (x.2.2.2.2.1) ((yb (x.2.1)).length) (x.2.2.2.2.2)),(5,.slice (x.2.2.1) ((yb (x.1)).length) (x.2.2.2.1)),(4,.pointer (some ⟨b3,0,none⟩))]) (fun x=>[boxA b3 30 [wz.b,wz.l],boxA b2 30 [.bool t,.slice p2 n2 c2],boxA b1 30 [.bool s,.slice p1 n1 c1]]) (fun x=>[slF (rI .u32) (x.2.2.1) (x.2.2.2.1) (yb (x.1)),slF (rI .u32) (x.2.2.2.2.1) (x.2.2.2.2.2) (yb (x.2.1)),slF (rI .u32) p26 c27 (yb ((yi t l2).natAbs)),slF (rI .u32) p24 c25 (yb ((yi s l1).natAbs)),slF (rI .u32) p1 c1 l1,slF (rI .u32) p2 c2 l2]) (fun x:Nat×Nat×(Option Addr)×Nat×(Option Addr)×Nat=>x.2.1) ((yi s l1).natAbs,(yi t l2).natAbs,p24,c25,p26,c27) (show Nat.gcd ((yi s l1).natAbs) ((yi t l2).natAbs)=Nat.gcd (yi s l1).natAbs (yi t l2).natAbs∧(yb ((yi s l1).natAbs)).length≤2199023255552∧(yb ((yi t l2).natAbs)).length≤2199023255552 from by exact ⟨rfl,by omega,by omega⟩) (mR rfl) (ho:=((.of [0,0,0] rfl):PickO _ _ _)) ((.of [1,0,0,1,2,3] rfl):SelR _ _ _) ?_
 rintro ⟨a,b,pa,ca,pb,cb⟩ hI
 replace hI:Nat.gcd a b=Nat.gcd (yi s l1).natAbs (yi t l2).natAbs∧(yb a).length≤2199023255552∧(yb b).length≤2199023255552:=hI
 try dsimp only
 obtain ⟨hgc,hba,hbb⟩:=hI
 refine ze<|zOa (X:=Unit) (fun x=>True) (fun x=>[(29,.bool (decide (0<(yb b).length∧(2<(yb a).length∨2<(yb b).length)))),(6,.slice pb ((yb b).length) cb),(5,.slice pa ((yb a).length) ca),(4,.pointer (some ⟨b3,0,none⟩))]) (fun x=>[boxA b3 30 [wz.b,wz.l],boxA b2 30 [.bool t,.slice p2 n2 c2],boxA b1 30 [.bool s,.slice p1 n1 c1]]) (fun x=>[slF (rI .u32) pa ca (yb a),slF (rI .u32) pb cb (yb b),slF (rI .u32) p26 c27 (yb ((yi t l2).natAbs)),slF (rI .u32) p24 c25 (yb ((yi s l1).natAbs)),slF (rI .u32) p1 c1 l1,slF (rI .u32) p2 c2 l2]) ?_ ?_
 ·
  refine za<|e_mv rfl<|e_p (zK yh rfl)<|e_p (zCa rfl rfl)<|zha rfl rfl (zga rfl) (fun h8=> ?_) (fun h8=> ?_)
  ·
   refine e_mv rfl<|e_p (zK yh rfl)<|e_p (zCa rfl rfl)<|zha rfl rfl (zga rfl) (fun h9=> ?_) (fun h9=> ?_)
   ·
    refine e_no<|e_no<|e_no<|e_p (zE rfl rfl)<|e_p (zE rfl rfl)<|zf ?_
    exact zT () tt9 ((.e rfl (congrArg Value.bool (by first|(simp;omega)|exact decide_eq_decide.2 ⟨fun h=>⟨by omega,.inr om⟩,fun h=>by omega⟩)) (.of rfl)):SubM _ _) (ho:=((.of [0,0,0] rfl):PickO _ _ _)) ((.of [0,1,2,3,4,5] rfl):SelR _ _ _)
   ·
    refine e_mv rfl<|e_p (zK yh rfl)<|e_p (zCa rfl rfl)<|e_p (zE rfl rfl)<|e_p (zE rfl rfl)<|zf ?_
    exact zT () tt9 ((.e rfl (congrArg Value.bool (by first|(simp;omega)|exact decide_eq_decide.2 ⟨fun h=>⟨by omega,.inr om⟩,fun h=>by omega⟩)) (.of rfl)):SubM _ _) (ho:=((.of [0,0,0] rfl):PickO _ _ _)) ((.of [0,1,2,3,4,5] rfl):SelR _ _ _)
  ·
   refine e_no<|e_no<|e_no<|e_no<|e_no<|e_no<|e_no<|e_no<|e_p (zE rfl rfl)<|zf ?_
   exact zT () tt9 ((.e rfl (congrArg Value.bool (by first|(simp;omega)|exact decide_eq_decide.2 ⟨fun h=>⟨by omega,.inr om⟩,fun h=>by omega⟩)) (.of rfl)):SubM _ _) (ho:=((.of [0,0,0] rfl):PickO _ _ _)) ((.of [0,1,2,3,4,5] rfl):SelR _ _ _)
 ·
  rintro ⟨⟩ -
  try dsimp only
  refine zG rfl (fun hw=> ?_) (fun hw=> ?_)
  ·
   have hb0:0<b:=Nat.pos_of_ne_zero (fun e=>by rw [e] at hw;simp [Big.digs_zero] at hw)
   refine zB<|zd<|zx<|ze<|za<|e_mv rfl<|e_mv rfl<|zm rfl rfl (.c rfl (.c rfl .n)) ce109 (zvd (a:=a) (b:=b) (p1:=pa) (c1:=ca) (p2:=pb) (c2:=cb) (hb1:=cbo) (hb2:=cbo) (hb0:=cbo)) (.c (j:=0) rfl (.c (j:=1) rfl .n)) ?_
   rintro ⟨p310,c311,p412,c413⟩ -
   dsimp only [aq,nq,cq]
   refine e_mv rfl<|e_p (zq rfl rfl)<|e_p (zq rfl rfl)<|e_p (zb rfl)<|e_p (zb rfl)<|zf<|zd<|za<|e_mv rfl<|e_mv rfl<|e_p (zb rfl)<|e_p (zb rfl)<|zf<|zP<|zda (b,(a%b),pb,cb,p412,c413) (show Nat.gcd b (a%b)=Nat.gcd (yi s l1).natAbs (yi t l2).natAbs∧(yb b).length≤2199023255552∧(yb (a%b)).length≤2199023255552 from by exact ⟨by rw [Big.gcd_rest,hgc],hbb,Nat.le_trans (Big.ln_mono' (Nat.le_of_lt (Nat.mod_lt a hb0))) hbb⟩) (by exact Nat.mod_lt a hb0) ((.e rfl cgs (.c rfl (.c rfl .n))):SubM _ _) (ho:=((.of [0,0,0] rfl):PickO _ _ _)) ((.c (j:=3) rfl (.e (j:=1) rfl (by first|rfl|simp_all) (.of [4,5,6,7] rfl))):SelR _ _ _)
  ·
   refine zfa<|zi<|zi<|zw<|zd<|ze<|ze<|za<|e_mv rfl<|e_p (zK yh rfl)<|e_p (zwa rfl rfl)<|zf<|zd<|zG rfl (fun hbz=> ?_) (fun hbz=> ?_)
   ·
    have hbz0:b=0:=yz.1 om
    have hfin:a=Nat.gcd (yi s l1).natAbs (yi t l2).natAbs:=by rw [← hgc,hbz0,Nat.gcd_zero_right]
    refine ze<|za<|e_mv rfl<|zm rfl rfl (.c rfl (.c rfl .n)) ce85 (ztb (s:=false) (a:=a) (p:=pa) (cap:=ca) (hln:=cbo)) (.c (j:=0) rfl .n) ?_
    rintro ⟨p214,c215⟩ -
    dsimp only [aq,nq,cq]
    refine zj 0 rfl rfl rfl rfl rfl sz30 rfl (.t2 .nil) .z<|zf<|zd<|zC<|zk ?_
    exact zu Tryz.results81 (p214,c215) trivial (zo 0 ty30 rfl rfl (.t2 .nil)) (by rw [← hfin];rfl) (ho:=oN) ((.e (j:=0) rfl (by rw [← hfin];rfl) .n):SelR _ _ _)
   ·
    have ha2:(yb a).length≤2:=by omega
    have hb2:(yb b).length≤2:=by omega
    have ha18:=Big.two_lt ha2
    have hb18:=Big.two_lt hb2
    refine zB<|zd<|ze<|za<|e_mv rfl<|zJ rfl rfl (.c rfl .n) ce110 (zae (a:=a) (p:=pa) (cap:=ca) (hb:=cbo)) (.c (j:=0) rfl .n)<|e_mv rfl<|zJ rfl rfl (.c rfl .n) ce110 (zae (a:=b) (p:=pb) (cap:=cb) (hb:=cbo)) (.c (j:=1) rfl .n)<|e_p (zb rfl)<|e_p (zb rfl)<|zf<|zd<|ze<|zx<|zja (X:=Nat×Nat) (fun x:Nat×Nat=>Nat.gcd x.1 x.2=Nat.gcd a b∧x.1<1000000000000000000∧x.2<1000000000000000000) (fun x=>[(10,.int .u64 ((x.2:Nat):Int)),(9,.int .u64 ((x.1:Nat):Int)),(4,.pointer (some ⟨b3,0,none⟩))]) (fun x=>[boxA b3 30 [wz.b,wz.l],boxA b2 30 [.bool t,.slice p2 n2 c2],boxA b1 30 [.bool s,.slice p1 n1 c1]]) (fun x=>[slF (rI .u32) pa ca (yb a),slF (rI .u32) pb cb (yb b),slF (rI .u32) p26 c27 (yb ((yi t l2).natAbs)),slF (rI .u32) p24 c25 (yb ((yi s l1).natAbs)),slF (rI .u32) p1 c1 l1,slF (rI .u32) p2 c2 l2]) (fun x:Nat×Nat=>x.2) (a,b) (show Nat.gcd a b=Nat.gcd a b∧a<1000000000000000000∧b<1000000000000000000 from by exact ⟨rfl,ha18,hb18⟩) (mR rfl) (ho:=((.of [0,0,0] rfl):PickO _ _ _)) ((.of [0,1,2,3,4,5] rfl):SelR _ _ _) ?_
    rintro ⟨q,r⟩ hJ
    replace hJ:Nat.gcd q r=Nat.gcd a b∧q<1000000000000000000∧r<1000000000000000000:=hJ
    try dsimp only
    obtain ⟨hgq,hq18,hr18⟩:=hJ
    have hmr:=Nat.mod_le q r
    refine ze<|ze<|za<|e_mv rfl<|e_p (zCa rfl rfl)<|zf<|zd<|zG rfl (fun hy=> ?_) (fun hy=> ?_)
    ·
     refine zB<|zd<|zx<|zV (OW:=[]) (O:=[boxA b3 30 [wz.b,wz.l],boxA b2 30 [.bool t,.slice p2 n2 c2],boxA b1 30 [.bool s,.slice p1 n1 c1]]) 100000 mixed (.block (.then (.block (.then .ret)))) kr<|e_dm 0 rfl rfl rfl<|e_dm 1 rfl rfl rfl<|e_dm 2 rfl rfl rfl<|e_pv 3 rfl rfl (zmb (z:=(((q%r):Nat):Int)) rfl rfl om (remN om om))<|e_pv 4 rfl rfl (zb rfl)<|e_pv 5 rfl rfl (zb rfl)<|zH kr<|zP<|zda (r,(q%r)) (show Nat.gcd r (q%r)=Nat.gcd a b∧r<1000000000000000000∧(q%r)<1000000000000000000 from by exact ⟨by rw [Big.gcd_rest,hgq],hr18,by omega⟩) (by exact Nat.mod_lt q om) (mR rfl) (ho:=((.of [0,0,0] rfl):PickO _ _ _)) ((.of [0,1,2,3,4,5] rfl):SelR _ _ _)
    ·
     have hrz:r=0:=by omega
     have hfin:q=Nat.gcd (yi s l1).natAbs (yi t l2).natAbs:=by rw [← hgc,←hgq,hrz,Nat.gcd_zero_right]
     obtain ⟨ht1,ht2⟩:=Big.two_val hq18
     refine zfa<|zi<|zi<|zw<|zd<|ze<|za<|e_mv rfl<|e_p (zmb (z:=(((q%1000000000):Nat):Int)) rfl rfl om (remN om om))<|e_p (zD (z:=(((q%1000000000):Nat):Int)) rfl (by rw [Tryz.underlying96];rfl) Tryz.underlying84 (wu32 om))<|e_mv rfl<|e_p (zeb (z:=(((q / 1000000000):Nat):Int)) rfl rfl om (by rw [quoN (z:=(((q / 1000000000):Nat):Int)) om om];exact wu64 om))<|e_p (zD (z:=(((q / 1000000000):Nat):Int)) rfl (by rw [Tryz.underlying96];rfl) Tryz.underlying84 (wu32 om))<|zva rfl rfl (zaa (enc:=fun z:Int=>[.int .u32 z]) (ok:=InK .u32) (h1:=fun _=>rfl) (h2:=fun _=>rfl) (k:=2) yh inf84 rfl dd dd dd (.c (x:=(((q%1000000000):Nat):Int)) rfl rfl (fun _ _=>by exact zy.2 om) (.c (x:=(((q / 1000000000):Nat):Int)) rfl rfl (fun _ _=>by exact zy.2 om) .n))) (fun b16 _=> ?_)
     refine zba 0 rfl .z<|zm rfl rfl (.c rfl (.c rfl .n)) ce85 (zKa (s:=false) (p:=some ⟨b16,0,none⟩) (n:=2) (cap:=2) (l:=[(((q%1000000000):Nat):Int),(((q / 1000000000):Nat):Int)]) (hn:=by first|rfl|omega|(simp;done)|(simp;omega)) (ho:=by exact ht1) (hln:=by first|rfl|omega|(simp;done)|(simp;omega))) (.c (j:=0) rfl .n) ?_
     rintro ⟨p217,c218⟩ -
     dsimp only [aq,nq,cq]
     refine zj 1 rfl rfl rfl rfl rfl sz30 rfl (.t2 .nil) (.s .z)<|zf<|zd<|zC ?_
     exact zu Tryz.results81 (p217,c218) trivial (zo 1 ty30 rfl rfl (.t2 .nil)) (by rw [ht2,←hfin];rfl) (ho:=oN) ((.e (j:=0) rfl (by rw [ht2,←hfin];rfl) .n):SelR _ _ _)
theorem zHf {x1:Int} {x2:Int} {p1:Option Addr} {c1:Nat} {p2:Option Addr} {c2:Nat} (hb1:yg x1≤2199023255552) (hb2:yg x2≤2199023255552):Con yd 81 [.agg #[.bool (decide ((x1)<0)),.slice (p1) ((yb ((x1).natAbs)).length) (c1)],.agg #[.bool (decide ((x2)<0)),.slice (p2) ((yb ((x2).natAbs)).length) (c2)]] [] [slF (rI .u32) (p1) (c1) (yb ((x1).natAbs)),slF (rI .u32) (p2) (c2) (yb ((x2).natAbs))] (Y:=(Option Addr)×(Nat)) (fun y=>True) (fun y=> .agg #[.bool (decide ((((Nat.gcd x1.natAbs x2.natAbs:Nat):Int))<0)),.slice (y.1) ((yb ((((Nat.gcd x1.natAbs x2.natAbs:Nat):Int)).natAbs)).length) (y.2)]) (fun y=>[]) (fun y=>[slF (rI .u32) (y.1) (y.2) (yb ((((Nat.gcd x1.natAbs x2.natAbs:Nat):Int)).natAbs))]):=by
  have h:= @zLe (decide ((x1)<0)) p1 (yb (x1).natAbs).length c1 (yb (x1).natAbs) (decide ((x2)<0)) p2 (yb (x2).natAbs).length c2 (yb (x2).natAbs) rfl rfl hb1 hb2
  rw [Big.raw_big,Big.raw_big] at h
  exact h
theorem zIf {w1:Wd} {w2:Wd} {x1:Int} {x2:Int} (hb1:yg x1≤2199023255552) (hb2:yg x2≤2199023255552):Con yd 81 [.agg #[w1.b,w1.l],.agg #[w2.b,w2.l]] [] [zF w1 (x1),zF w2 (x2)] (Y:=(Wd)) (fun y=>True) (fun y=> .agg #[y.b,y.l]) (fun y=>[]) (fun y=>[zF y (((Nat.gcd x1.natAbs x2.natAbs:Nat):Int))]):=by
  exact zfc (zqc (fun p1 c1 p2 c2=>zHf hb1 hb2))
theorem zbe {s:Bool} {p1:Option Addr} {n1:Nat} {c1:Nat} {l1:List Int} {t:Bool} {p2:Option Addr} {n2:Nat} {c2:Nat} {l2:List Int} (hn1:l1.length=n1) (hn2:l2.length=n2) (hm1:n1≤2199023255552) (hm2:n2≤2199023255552):Con yd 95 [.agg #[.bool s,.slice p1 n1 c1],.agg #[.bool t,.slice p2 n2 c2]] [] [slF (rI .u32) p1 c1 l1,slF (rI .u32) p2 c2 l2] (Y:=Unit) (fun y=>True) (fun y=> .int .i64 ((yi s l1 - yi t l2).sign)) (fun y=>[]) (fun y=>[]):=by
 refine zl Tryz.func95 rfl rfl rfl (fun c=> ?_)
 show RunC _ _ _ _ _ [(0,.agg #[.bool s,.slice p1 n1 c1]),(1,.agg #[.bool t,.slice p2 n2 c2])] [] [slF (rI .u32) p1 c1 l1,slF (rI .u32) p2 c2 l2]
 refine zU 0 rfl (fun hL0=> ?_)
 refine zUa 0 rfl (fun hE0=> ?_)
 refine zU 1 rfl (fun hL1=> ?_)
 refine zUa 1 rfl (fun hE1=> ?_)
 have hnn1:yC l1:=fun g hg=>(zy.1 (hE0 g hg)).1
 have hnn2:yC l2:=fun g hg=>(zy.1 (hE1 g hg)).1
 have hb1:yg (yi s l1)≤n1:=by have:=yB (s:=s) hnn1;omega
 have hb2:yg (yi t l2)≤n2:=by have:=yB (s:=t) hnn2;omega
 unfold yg at hb1 hb2
 have hls:=Big.ztf (yi s l1) (yi t l2)
 unfold yg at hls
 refine ze<|za<|zI rfl rfl (zR rfl rfl) (fun b1=> ?_)
 refine zI rfl rfl (zR rfl rfl) (fun b2=> ?_)
 refine e_p (zb rfl)<|zf<|zd<|ze<|za<|e_ru (zc 1 ty30 rfl rfl (.t2 .nil))<|e_ru (zc 0 ty30 rfl rfl (.t2 .nil))<|zm rfl rfl (.c rfl (.c rfl .n)) ce111 (zKe (s:=s) (p1:=p1) (n1:=n1) (c1:=c1) (l1:=l1) (t:=t) (p2:=p2) (n2:=n2) (c2:=c2) (l2:=l2) (hn1:=ass) (hn2:=ass) (hm1:=by first|rfl|assumption|omega|(unfold yg;omega)) (hm2:=by first|rfl|assumption|omega|(unfold yg;omega))) (.c (j:=0) rfl (.c (j:=1) rfl .n)) ?_
 rintro ⟨p33,c34⟩ -
 dsimp only [aq,nq,cq]
 refine zJ rfl rfl (.c rfl .n) ce55 (ztd (z:=yi s l1 - yi t l2) (p:=p33) (cap:=c34) (hln:=by first|rfl|assumption|omega|(unfold yg;omega))) (.c (j:=0) rfl .n)<|e_p (zb rfl)<|zf<|zd<|zC ?_
 exact zu Tryz.results95 () trivial (zn rfl) rfl (ho:=oN) sN
theorem zHd {x1:Int} {x2:Int} {p1:Option Addr} {c1:Nat} {p2:Option Addr} {c2:Nat} (hb1:yg x1≤2199023255552) (hb2:yg x2≤2199023255552):Con yd 95 [.agg #[.bool (decide ((x1)<0)),.slice (p1) ((yb ((x1).natAbs)).length) (c1)],.agg #[.bool (decide ((x2)<0)),.slice (p2) ((yb ((x2).natAbs)).length) (c2)]] [] [slF (rI .u32) (p1) (c1) (yb ((x1).natAbs)),slF (rI .u32) (p2) (c2) (yb ((x2).natAbs))] (Y:=Unit) (fun y=>True) (fun y=> .int .i64 ((x1 - x2).sign)) (fun y=>[]) (fun y=>[]):=by
  have h:= @zbe (decide ((x1)<0)) p1 (yb (x1).natAbs).length c1 (yb (x1).natAbs) (decide ((x2)<0)) p2 (yb (x2).natAbs).length c2 (yb (x2).natAbs) rfl rfl hb1 hb2
  rw [Big.raw_big,Big.raw_big] at h
  exact h
theorem zce {x1:Int} {x2:Int} {p1:Option Addr} {c1:Nat} {p2:Option Addr} {c2:Nat} (hb1:yg x1≤1099511627776) (hb2:yg x2≤1099511627776) (hy:x2≠0):Con yd 83 [.agg #[.bool (decide (x1<0)),.slice p1 ((yb ((x1).natAbs)).length) c1],.agg #[.bool (decide (x2<0)),.slice p2 ((yb ((x2).natAbs)).length) c2]] [] [slF (rI .u32) p1 c1 (yb ((x1).natAbs)),slF (rI .u32) p2 c2 (yb ((x2).natAbs))] (Y:=(Option Addr)×Nat×(Option Addr)×Nat) (fun y=>True) (fun y=> .tuple #[.agg #[.bool (decide ((yr x1 x2)<0)),.slice (y.1) ((yb ((yr x1 x2).natAbs)).length) (y.2.1)],.agg #[.bool (decide ((yD x1 x2)<0)),.slice (y.2.2.1) ((yb ((yD x1 x2).natAbs)).length) (y.2.2.2)],.int .i64 0]) (fun y=>[]) (fun y=>[slF (rI .u32) (y.1) (y.2.1) (yb ((yr x1 x2).natAbs)),slF (rI .u32) (y.2.2.1) (y.2.2.2) (yb ((yD x1 x2).natAbs))]):=by
 refine zl Tryz.func83 rfl rfl rfl (fun c=> ?_)
 show RunC _ _ _ _ _ [(0,.agg #[.bool (decide (x1<0)),.slice p1 ((yb ((x1).natAbs)).length) c1]),(1,.agg #[.bool (decide (x2<0)),.slice p2 ((yb ((x2).natAbs)).length) c2])] [] [slF (rI .u32) p1 c1 (yb ((x1).natAbs)),slF (rI .u32) p2 c2 (yb ((x2).natAbs))]
 refine zU 0 rfl (fun hL0=> ?_)
 refine zU 1 rfl (fun hL1=> ?_)
 have hfl:=Big.ln_fq (x:=x1) hy
 have hml:=yA (yr x1 x2) x2
 unfold yg at hb1 hb2 hfl hml
 have hd1:=Nat.div_le_self x1.natAbs x2.natAbs
 have hd2:=Nat.mod_lt x1.natAbs (show 0<x2.natAbs by omega)
 have hl1:=Big.ln_mono' hd1
 have hl2:=Big.ln_mono' (Nat.le_of_lt hd2)
 refine ze<|za<|zI rfl rfl (zR rfl rfl) (fun b1=> ?_)
 refine zI rfl rfl (zR rfl rfl) (fun b2=> ?_)
 refine zI rfl rfl (zr zr30 rfl) (fun b3=> ?_)
 refine zI rfl rfl (zr zr30 rfl) (fun b4=> ?_)
 refine e_p (zb rfl)<|zf<|zd<|ze<|zqa (.c (i:=3) rfl (.c (i:=2) rfl (.c (i:=0) rfl (.c (i:=0) rfl .n))))<|zV (OW:=[boxA b1 30 [.bool (decide (x1<0)),.slice p1 ((yb ((x1).natAbs)).length) c1],boxA b2 30 [.bool (decide (x2<0)),.slice p2 ((yb ((x2).natAbs)).length) c2]]) (O:=[boxA b4 30 [wz.b,wz.l],boxA b3 30 [wz.b,wz.l]]) 4 mixed (.then .ret) kr<|e_uw 0 rfl rfl (zc 0 ty30 rfl rfl (.t2 .nil))<|e_uw 2 rfl rfl (zc 1 ty30 rfl rfl (.t2 .nil))<|e_one 1 (zp rfl rfl rfl rfl (.c rfl .n) ce84 (zid (z:=x1) (p:=p1) (cap:=c1) (hln:=by first|rfl|assumption|omega|(unfold yg;omega)|(unfold yg;rw [hsq];omega)|(decide +kernel))) (.c (j:=0) rfl .n) ?_)
 rintro ⟨p25,c26⟩ -
 dsimp only [aq,nq,cq]
 refine e_one 3 (zp rfl rfl rfl rfl (.c rfl .n) ce84 (zid (z:=x2) (p:=p2) (cap:=c2) (hln:=by first|rfl|assumption|omega|(unfold yg;omega)|(unfold yg;rw [hsq];omega)|(decide +kernel))) (.c (j:=2) rfl .n) ?_)
 rintro ⟨p27,c28⟩ -
 dsimp only [aq,nq,cq]
 refine e_one 4 (zv kr rfl rfl rfl rfl rfl sz30 rfl (.t2 .nil) ?_)
 refine zza (zea (i:=1) rfl)<|e_one 5 (zv kr rfl rfl rfl rfl rfl sz30 rfl (.t2 .nil) ?_)
 refine zH kr<|zd<|ze<|ze<|za<|e_p (zg yk rfl sz28 rfl rfl)<|e_ru (zh 0 ty28 rfl rfl rfl)<|e_p (zK yh rfl)<|e_p (zwa rfl rfl)<|zf<|zd<|zG rfl (fun h9=> ?_) (fun h9=> ?_)
 ·
  exact absurd (yz.1 (show (yb x2.natAbs).length=0 by omega)) om
 ·
  refine zB<|zd<|ze<|za<|e_p (zg yk rfl sz28 rfl rfl)<|e_ru (zh 1 ty28 rfl rfl rfl)<|e_p (zg yk rfl sz28 rfl rfl)<|e_ru (zh 0 ty28 rfl rfl rfl)<|zm rfl rfl (.c rfl (.c rfl .n)) ce109 (zvd (a:=(x1).natAbs) (b:=(x2).natAbs) (p1:=p25) (c1:=c26) (p2:=p27) (c2:=c28) (hb1:=by first|rfl|assumption|omega|(unfold yg;omega)|(unfold yg;rw [hsq];omega)|(decide +kernel)) (hb2:=by first|rfl|assumption|omega|(unfold yg;omega)|(unfold yg;rw [hsq];omega)|(decide +kernel)) (hb0:=by first|rfl|assumption|omega|(unfold yg;omega)|(unfold yg;rw [hsq];omega)|(decide +kernel))) (.c (j:=1) rfl (.c (j:=0) rfl .n)) ?_
  rintro ⟨p310,c311,p412,c413⟩ -
  dsimp only [aq,nq,cq]
  refine e_mv rfl<|e_p (zq rfl rfl)<|e_p (zq rfl rfl)<|e_p (zb rfl)<|e_p (zb rfl)<|zf<|zd<|ze ?_
  obtain ⟨Q,hQ⟩:∃z,z=((x1).natAbs) / ((x2).natAbs):=⟨_,rfl⟩
  rw [← hQ]
  obtain ⟨R0,hR0⟩:∃z,z=((x1).natAbs)%((x2).natAbs):=⟨_,rfl⟩
  rw [← hR0]
  rw [← hQ] at hl1
  rw [← hR0] at hl2
  have hsq:(yE (decide (decide (x1<0)≠decide (x2<0))) (Q:Int)).natAbs=Q:=by rw [Big.sg_abs om];exact Int.toNat_natCast _
  refine za<|e_p (zg yk rfl sz4 rfl rfl)<|e_ru (zh 1 ty4 rfl rfl rfl)<|e_p (zg yk rfl sz4 rfl rfl)<|e_ru (zh 0 ty4 rfl rfl rfl)<|e_p (zPa Tryz.underlying4 rfl rfl)<|e_mv rfl<|zm rfl rfl (.c rfl (.c rfl .n)) ce85 (ztb (s:=decide (decide (x1<0)≠decide (x2<0))) (a:=Q) (p:=p310) (cap:=c311) (hln:=by first|rfl|assumption|omega|(unfold yg;omega)|(unfold yg;rw [hsq];omega)|(decide +kernel))) (.c (j:=0) rfl .n) ?_
  rintro ⟨p214,c215⟩ -
  dsimp only [aq,nq,cq]
  refine zI rfl rfl (zr zr30 rfl) (fun b16=> ?_)
  refine zj 0 rfl rfl rfl rfl rfl sz30 rfl (.t2 .nil) .z<|zf<|zd<|ze<|ze<|za<|e_p (zg yk rfl sz4 rfl rfl)<|e_ru (zh 2 ty4 rfl rfl rfl)<|e_p (zg yk rfl sz4 rfl rfl)<|e_ru (zh 1 ty4 rfl rfl rfl)<|e_p (zPa Tryz.underlying4 rfl rfl)<|zha rfl rfl (zga rfl) (fun hsd=> ?_) (fun hsd=> ?_)
  ·
   refine e_mv rfl<|e_p (zK yh rfl)<|e_p (zCa rfl rfl)<|e_p (zE rfl rfl)<|zf<|zd<|zG rfl (fun hadj=> ?_) (fun hadj=> ?_)
   ·
    have hr0:x1.natAbs%x2.natAbs≠0:=fun e=>by rw [hR0,e,Big.digs_zero] at hadj;exact absurd hadj dd
    have hqz:yE (decide (decide (x1<0)≠decide (x2<0))) (Q:Int) - 1=yr x1 x2:=by have h9:=(Big.fq_odd hy hsd hr0).1;rw [← h9,decide_eq_true hsd,hQ,Big.sg_t,Big.sg_t];omega
    refine zV (OW:=[boxA b16 30 [.bool (decide ((yE (decide (decide (x1<0)≠decide (x2<0))) (Q:Int))<0)),.slice p214 ((yb ((yE (decide (decide (x1<0)≠decide (x2<0))) (Q:Int)).natAbs)).length) c215]]) (O:=[boxA b2 30 [.bool (decide (x2<0)),.slice p27 ((yb ((x2).natAbs)).length) c28],boxA b1 30 [.bool (decide (x1<0)),.slice p25 ((yb ((x1).natAbs)).length) c26],boxA b4 30 [wz.b,wz.l],boxA b3 30 [wz.b,wz.l]]) 3 mixed (.then .ret) kr<|e_uw 0 rfl rfl (zc 0 ty30 rfl rfl (.t2 .nil))<|e_one 1 (zp rfl rfl rfl rfl (.c rfl .n) ce80 (zCf (z:=1) (hz:=by first|rfl|assumption|omega|(unfold yg;omega)|(unfold yg;rw [hsq];omega)|(decide +kernel))) (.n) ?_)
    rintro ⟨p217,c218⟩ -
    dsimp only [aq,nq,cq]
    refine e_one 2 (zp rfl rfl rfl rfl (.c rfl (.c rfl .n)) ce111 (zwc (x1:=yE (decide (decide (x1<0)≠decide (x2<0))) (Q:Int)) (x2:=1) (p1:=p214) (c1:=c215) (p2:=p217) (c2:=c218) (hb1:=by first|rfl|assumption|omega|(unfold yg;omega)|(unfold yg;rw [hsq];omega)|(decide +kernel)) (hb2:=by first|rfl|assumption|omega|(unfold yg;omega)|(unfold yg;rw [hsq];omega)|(decide +kernel))) (.c (j:=1) rfl (.c (j:=0) rfl .n)) ?_)
    rintro ⟨p319,c320⟩ -
    dsimp only [aq,nq,cq]
    refine e_one 3 (zv kr rfl rfl rfl rfl rfl sz30 rfl (.t2 .nil) ?_)
    refine zH kr<|zd<|ze ?_
    have e21:(yE (decide (decide (x1<0)≠decide (x2<0))) (Q:Int)) - 1=yr x1 x2:=by exact hqz
    rw [e21]
    refine zqa (.c (i:=4) rfl (.c (i:=3) rfl (.c (i:=0) rfl (.c (i:=0) rfl (.c (i:=0) rfl .n)))))<|zV (OW:=[boxA b3 30 [wz.b,wz.l],boxA b4 30 [wz.b,wz.l]]) (O:=[boxA b16 30 [.bool (decide ((yr x1 x2)<0)),.slice p319 ((yb ((yr x1 x2).natAbs)).length) c320],boxA b2 30 [.bool (decide (x2<0)),.slice p27 ((yb ((x2).natAbs)).length) c28],boxA b1 30 [.bool (decide (x1<0)),.slice p25 ((yb ((x1).natAbs)).length) c26]]) 6 mixed (.then .ret) kr<|e_uw 0 rfl rfl (zc 2 ty30 rfl rfl (.t2 .nil))<|e_uw 1 rfl rfl (zc 4 ty30 rfl rfl (.t2 .nil))<|e_uw 2 rfl rfl (zc 2 ty30 rfl rfl (.t2 .nil))<|e_uw 3 rfl rfl (zc 3 ty30 rfl rfl (.t2 .nil))<|e_one 4 (zp rfl rfl rfl rfl (.c rfl (.c rfl .n)) ce52 (zxc (x1:=yr x1 x2) (x2:=x2) (p1:=p319) (c1:=c320) (p2:=p27) (c2:=c28) (hb1:=by first|rfl|assumption|omega|(unfold yg;omega)|(unfold yg;rw [hsq];omega)|(decide +kernel)) (hb2:=by first|rfl|assumption|omega|(unfold yg;omega)|(unfold yg;rw [hsq];omega)|(decide +kernel))) (.c (j:=0) rfl (.c (j:=5) rfl .n)) ?_)
    rintro ⟨p322,c323⟩ -
    dsimp only [aq,nq,cq]
    refine e_one 5 (zp rfl rfl rfl rfl (.c rfl (.c rfl .n)) ce111 (zwc (x1:=x1) (x2:=(yr x1 x2)*x2) (p1:=p25) (c1:=c26) (p2:=p322) (c2:=c323) (hb1:=by first|rfl|assumption|omega|(unfold yg;omega)|(unfold yg;rw [hsq];omega)|(decide +kernel)) (hb2:=by first|rfl|assumption|omega|(unfold yg;omega)|(unfold yg;rw [hsq];omega)|(decide +kernel))) (.c (j:=7) rfl (.c (j:=0) rfl .n)) ?_)
    rintro ⟨p324,c325⟩ -
    dsimp only [aq,nq,cq]
    refine e_one 6 (zv kr rfl rfl rfl rfl rfl sz30 rfl (.t2 .nil) ?_)
    refine zza (zea (i:=1) rfl)<|e_one 7 (zv kr rfl rfl rfl rfl rfl sz30 rfl (.t2 .nil) ?_)
    refine e_pv 8 rfl rfl (zb rfl)<|zH kr<|zd<|zC ?_
    have hz2:x1 - yr x1 x2*x2=yD x1 x2:=by unfold yD;rw [Int.mul_comm]
    exact zGc Tryz.results83 (p319,c320,p324,c325) trivial (zo 1 ty30 rfl rfl (.t2 .nil)) (zo 0 ty30 rfl rfl (.t2 .nil)) (zn rfl) (by rw [hz2]) (ho:=oN) ((.c (j:=2) rfl (.e (j:=0) rfl (by rw [hz2]) .n)):SelR _ _ _)
   ·
    have hr0:x1.natAbs%x2.natAbs=0:=yz.1 (by rw [← hR0];omega)
    have hqz:yE (decide (decide (x1<0)≠decide (x2<0))) (Q:Int)=yr x1 x2:=by rw [decide_eq_true hsd,hQ];exact (Big.fq_even hy hsd hr0).1
    refine zB<|zd<|ze ?_
    have e26:yE (decide (decide (x1<0)≠decide (x2<0))) (Q:Int)=yr x1 x2:=by exact hqz
    rw [e26]
    refine zqa (.c (i:=4) rfl (.c (i:=3) rfl (.c (i:=0) rfl (.c (i:=0) rfl (.c (i:=0) rfl .n)))))<|zV (OW:=[boxA b3 30 [wz.b,wz.l],boxA b4 30 [wz.b,wz.l]]) (O:=[boxA b16 30 [.bool (decide ((yr x1 x2)<0)),.slice p214 ((yb ((yr x1 x2).natAbs)).length) c215],boxA b2 30 [.bool (decide (x2<0)),.slice p27 ((yb ((x2).natAbs)).length) c28],boxA b1 30 [.bool (decide (x1<0)),.slice p25 ((yb ((x1).natAbs)).length) c26]]) 6 mixed (.then .ret) kr<|e_uw 0 rfl rfl (zc 2 ty30 rfl rfl (.t2 .nil))<|e_uw 1 rfl rfl (zc 4 ty30 rfl rfl (.t2 .nil))<|e_uw 2 rfl rfl (zc 2 ty30 rfl rfl (.t2 .nil))<|e_uw 3 rfl rfl (zc 3 ty30 rfl rfl (.t2 .nil))<|e_one 4 (zp rfl rfl rfl rfl (.c rfl (.c rfl .n)) ce52 (zxc (x1:=yr x1 x2) (x2:=x2) (p1:=p214) (c1:=c215) (p2:=p27) (c2:=c28) (hb1:=by first|rfl|assumption|omega|(unfold yg;omega)|(unfold yg;rw [hsq];omega)|(decide +kernel)) (hb2:=by first|rfl|assumption|omega|(unfold yg;omega)|(unfold yg;rw [hsq];omega)|(decide +kernel))) (.c (j:=0) rfl (.c (j:=3) rfl .n)) ?_)
    rintro ⟨p327,c328⟩ -
    dsimp only [aq,nq,cq]
    refine e_one 5 (zp rfl rfl rfl rfl (.c rfl (.c rfl .n)) ce111 (zwc (x1:=x1) (x2:=(yr x1 x2)*x2) (p1:=p25) (c1:=c26) (p2:=p327) (c2:=c328) (hb1:=by first|rfl|assumption|omega|(unfold yg;omega)|(unfold yg;rw [hsq];omega)|(decide +kernel)) (hb2:=by first|rfl|assumption|omega|(unfold yg;omega)|(unfold yg;rw [hsq];omega)|(decide +kernel))) (.c (j:=5) rfl (.c (j:=0) rfl .n)) ?_)
    rintro ⟨p329,c330⟩ -
    dsimp only [aq,nq,cq]
    refine e_one 6 (zv kr rfl rfl rfl rfl rfl sz30 rfl (.t2 .nil) ?_)
    refine zza (zea (i:=1) rfl)<|e_one 7 (zv kr rfl rfl rfl rfl rfl sz30 rfl (.t2 .nil) ?_)
    refine e_pv 8 rfl rfl (zb rfl)<|zH kr<|zd<|zC ?_
    have hz2:x1 - yr x1 x2*x2=yD x1 x2:=by unfold yD;rw [Int.mul_comm]
    exact zGc Tryz.results83 (p214,c215,p329,c330) trivial (zo 1 ty30 rfl rfl (.t2 .nil)) (zo 0 ty30 rfl rfl (.t2 .nil)) (zn rfl) (by rw [hz2]) (ho:=oN) ((.c (j:=2) rfl (.e (j:=0) rfl (by rw [hz2]) .n)):SelR _ _ _)
  ·
   have hs9:=Decidable.not_not.1 hsd
   have hqz:yE (decide (decide (x1<0)≠decide (x2<0))) (Q:Int)=yr x1 x2:=by rw [decide_eq_false hsd,hQ];exact (Big.fq_same hy hs9).1
   refine e_no<|e_no<|e_no<|e_p (zE rfl rfl)<|zf<|zd<|zTa rfl rfl<|zB<|zd<|ze ?_
   have e31:yE (decide (decide (x1<0)≠decide (x2<0))) (Q:Int)=yr x1 x2:=by exact hqz
   rw [e31]
   refine zqa (.c (i:=4) rfl (.c (i:=3) rfl (.c (i:=0) rfl (.c (i:=0) rfl (.c (i:=0) rfl .n)))))<|zV (OW:=[boxA b3 30 [wz.b,wz.l],boxA b4 30 [wz.b,wz.l]]) (O:=[boxA b16 30 [.bool (decide ((yr x1 x2)<0)),.slice p214 ((yb ((yr x1 x2).natAbs)).length) c215],boxA b2 30 [.bool (decide (x2<0)),.slice p27 ((yb ((x2).natAbs)).length) c28],boxA b1 30 [.bool (decide (x1<0)),.slice p25 ((yb ((x1).natAbs)).length) c26]]) 6 mixed (.then .ret) kr<|e_uw 0 rfl rfl (zc 2 ty30 rfl rfl (.t2 .nil))<|e_uw 1 rfl rfl (zc 4 ty30 rfl rfl (.t2 .nil))<|e_uw 2 rfl rfl (zc 2 ty30 rfl rfl (.t2 .nil))<|e_uw 3 rfl rfl (zc 3 ty30 rfl rfl (.t2 .nil))<|e_one 4 (zp rfl rfl rfl rfl (.c rfl (.c rfl .n)) ce52 (zxc (x1:=yr x1 x2) (x2:=x2) (p1:=p214) (c1:=c215) (p2:=p27) (c2:=c28) (hb1:=by first|rfl|assumption|omega|(unfold yg;omega)|(unfold yg;rw [hsq];omega)|(decide +kernel)) (hb2:=by first|rfl|assumption|omega|(unfold yg;omega)|(unfold yg;rw [hsq];omega)|(decide +kernel))) (.c (j:=0) rfl (.c (j:=3) rfl .n)) ?_)
   rintro ⟨p332,c333⟩ -
   dsimp only [aq,nq,cq]
   refine e_one 5 (zp rfl rfl rfl rfl (.c rfl (.c rfl .n)) ce111 (zwc (x1:=x1) (x2:=(yr x1 x2)*x2) (p1:=p25) (c1:=c26) (p2:=p332) (c2:=c333) (hb1:=by first|rfl|assumption|omega|(unfold yg;omega)|(unfold yg;rw [hsq];omega)|(decide +kernel)) (hb2:=by first|rfl|assumption|omega|(unfold yg;omega)|(unfold yg;rw [hsq];omega)|(decide +kernel))) (.c (j:=5) rfl (.c (j:=0) rfl .n)) ?_)
   rintro ⟨p334,c335⟩ -
   dsimp only [aq,nq,cq]
   refine e_one 6 (zv kr rfl rfl rfl rfl rfl sz30 rfl (.t2 .nil) ?_)
   refine zza (zea (i:=1) rfl)<|e_one 7 (zv kr rfl rfl rfl rfl rfl sz30 rfl (.t2 .nil) ?_)
   refine e_pv 8 rfl rfl (zb rfl)<|zH kr<|zd<|zC ?_
   have hz2:x1 - yr x1 x2*x2=yD x1 x2:=by unfold yD;rw [Int.mul_comm]
   exact zGc Tryz.results83 (p214,c215,p334,c335) trivial (zo 1 ty30 rfl rfl (.t2 .nil)) (zo 0 ty30 rfl rfl (.t2 .nil)) (zn rfl) (by rw [hz2]) (ho:=oN) ((.c (j:=2) rfl (.e (j:=0) rfl (by rw [hz2]) .n)):SelR _ _ _)
theorem zzb {w1:Wd} {w2:Wd} {x1:Int} {x2:Int} (hb1:yg x1≤1099511627776) (hb2:yg x2≤1099511627776) (hy:x2≠0):Con yd 83 [.agg #[w1.b,w1.l],.agg #[w2.b,w2.l]] [] [zF w1 (x1),zF w2 (x2)] (Y:=(Wd)×(Wd)) (fun y=>True) (fun y=> .tuple #[.agg #[y.1.b,y.1.l],.agg #[y.2.b,y.2.l],.int .i64 (0)]) (fun y=>[]) (fun y=>[zF y.1 (yr x1 x2),zF y.2 (yD x1 x2)]):=by
  exact zxf (zqc (fun p1 c1 p2 c2=>zce hb1 hb2 hy))
end Go.Proofs.YtahiajepeodhoaaGreat.Sp
namespace Go.Proofs.YtahiajepeodhoaaGreat.Sp
open Go
set_option linter.unusedVariables false
set_option maxRecDepth 100000
set_option maxHeartbeats 8000000
theorem zwd {z:Int} (hz: -9223372036854775808≤z∧z≤9223372036854775807):Con yd 49 [.int .i64 z] [] [] (Y:=(Option Addr)×Nat) (fun y=>True) (fun y=> .agg #[.bool (decide (z<0)),.slice (y.1) ((yb ((z).natAbs)).length) (y.2)]) (fun y=>[]) (fun y=>[slF (rI .u32) (y.1) (y.2) (yb ((z).natAbs))]):=by
 refine zl Tryz.func49 rfl rfl rfl (fun c=> ?_)
 show RunC _ _ _ _ _ [(0,.int .i64 z)] [] []
 refine ze<|za<|zI rfl rfl (zr zr30 rfl) (fun b1=> ?_)
 refine zf<|zd<|ze<|za<|e_mv rfl<|zm rfl rfl (.c rfl .n) ce80 (zCf (z:=z) (hz:=ass)) (.n) ?_
 rintro ⟨p22,c23⟩ -
 dsimp only [aq,nq,cq]
 refine zj 0 rfl rfl rfl rfl rfl sz30 rfl (.t2 .nil) .z<|zf<|zd<|zC ?_
 exact zu Tryz.results49 (p22,c23) trivial (zo 0 ty30 rfl rfl (.t2 .nil)) rfl (ho:=oN) (s0 rfl)
theorem zNb {z:Int} (hz: -9223372036854775808≤z∧z≤9223372036854775807):Con yd 49 [.int .i64 (z)] [] [] (Y:=(Wd)) (fun y=>True) (fun y=> .agg #[y.b,y.l]) (fun y=>[]) (fun y=>[zF y (z)]):=by
  exact zfc (zwd hz)
theorem zFc {z:Int} (hz: -9223372036854775808≤z∧z≤9223372036854775807):Con yd 29 [.int .i64 z] [] [] (Y:=Wd×Wd) (fun y=>True) (fun y=> .agg #[y.1.b,y.1.l,y.2.b,y.2.l]) (fun y=>[]) (fun y=>[qF true y.1 y.2 ((z:Int):Rat)]):=by
 refine zl Tryz.func29 rfl rfl rfl (fun c=> ?_)
 show RunC _ _ _ _ _ [(0,.int .i64 z)] [] []
 refine ze<|za<|zI rfl rfl (zr zr32 rfl) (fun b1=> ?_)
 refine zf<|zd<|ze<|za<|e_mv rfl<|zm rfl rfl (.c rfl .n) ce49 (zNb (z:=z) (hz:=ass)) (.n) ?_
 rintro w32 -
 dsimp only [aq,nq,cq]
 refine zm rfl rfl (.c rfl .n) ce49 (zNb (z:=1) (hz:=by first|rfl|assumption|omega|(rw [yl];omega)|(decide +kernel))) (.n) ?_
 rintro w33 -
 dsimp only [aq,nq,cq]
 refine e_p (zN zr32 rfl yc (.c sz30 (.c sz30 .n)) (.c rfl (.c rfl .n)) (.c rfl rfl rfl (.t2 .nil) (.c rfl rfl rfl (.s2 (.t2 .nil)) .n)))<|zj 0 rfl rfl rfl rfl rfl sz32 rfl (.t4 .nil) .z<|zf<|zd<|zC<|znb (qF true w32 w33 ((z:Int):Rat)) (qF_close 1 0 rfl rfl (by exact ⟨(Rat.num_intCast z).symm,by rw [Rat.den_intCast];rfl,Nat.le_trans (Big.hq_64 hz.1 hz.2) dd⟩)) ?_
 exact zu Tryz.results29 (w32,w33) trivial (zo 0 ty32 rfl rfl (.t4 .nil)) rfl (ho:=oN) (s0 rfl)
theorem zic {s:Bool} {p1:Option Addr} {n1:Nat} {c1:Nat} {l1:List Int} {t:Bool} {p2:Option Addr} {n2:Nat} {c2:Nat} {l2:List Int} (hn1:l1.length=n1) (hn2:l2.length=n2) (hm1:n1≤1099511627776) (hm2:n2≤1099511627776):Con yd 65 [.agg #[.bool s,.slice p1 n1 c1,.bool t,.slice p2 n2 c2]] [] [slF (rI .u32) p1 c1 l1,slF (rI .u32) p2 c2 l2] (Y:=Unit) (fun y=>True) (fun y=> .bool (decide (Big.qok ((s,l1),(t,l2))))) (fun y=>[]) (fun y=>[]):=by
 refine zl Tryz.func65 rfl rfl rfl (fun c=> ?_)
 show RunC _ _ _ _ _ [(0,.agg #[.bool s,.slice p1 n1 c1,.bool t,.slice p2 n2 c2])] [] [slF (rI .u32) p1 c1 l1,slF (rI .u32) p2 c2 l2]
 refine zU 0 rfl (fun hL0=> ?_)
 refine zUa 0 rfl (fun hE0=> ?_)
 refine zU 1 rfl (fun hL1=> ?_)
 refine zUa 1 rfl (fun hE1=> ?_)
 have hnn1:yC l1:=fun g hg=>(zy.1 (hE0 g hg)).1
 have hnn2:yC l2:=fun g hg=>(zy.1 (hE1 g hg)).1
 have hb1:yg (yi s l1)≤n1:=by have:=yB (s:=s) hnn1;omega
 have hb2:yg (yi t l2)≤n2:=by have:=yB (s:=t) hnn2;omega
 refine ze<|za<|zI rfl rfl (zR rfl rfl) (fun b1=> ?_)
 refine e_p (zb rfl)<|zf<|zd<|ze<|zOa (X:=Unit) (fun x=>True) (fun x=>[(18,.bool (decide (¬(Big.canon s l1∧Big.canon t l2∧0<yi t l2)))),(2,.bool false),(1,.pointer (some ⟨b1,0,none⟩))]) (fun x=>[boxA b1 32 [.bool s,.slice p1 n1 c1,.bool t,.slice p2 n2 c2]]) (fun x=>[slF (rI .u32) p1 c1 l1,slF (rI .u32) p2 c2 l2]) ?_ ?_
 ·
  refine za<|e_p (zg yc rfl sz30 rfl rfl)<|e_ru (zc 0 ty30 rfl rfl (.t2 .nil))<|zJ rfl rfl (.c rfl .n) ce94 (zDc (s:=s) (p:=p1) (n:=n1) (cap:=c1) (l:=l1) (hn:=ass)) (.c (j:=0) rfl .n)<|e_p (zGa rfl)<|zha rfl rfl (zga rfl) (fun h2=> ?_) (fun h2=> ?_)
  ·
   refine e_no<|e_no<|e_no<|e_no<|e_p (zE rfl rfl)<|e_mv rfl<|e_no<|e_no<|e_no<|e_no<|e_p (zE rfl rfl)<|zf ?_
   exact zT () tt9 ((.e rfl (congrArg Value.bool (by simp_all)) (.c rfl (.c rfl .n))):SubM _ _) (ho:=(o0 rfl)) ((.of [0,1] rfl):SelR _ _ _)
  ·
   refine e_p (zg yc rfl sz30 rfl rfl)<|e_ru (zc 0 ty30 rfl rfl (.s2 (.t2 .nil)))<|zJ rfl rfl (.c rfl .n) ce94 (zDc (s:=t) (p:=p2) (n:=n2) (cap:=c2) (l:=l2) (hn:=ass)) (.c (j:=1) rfl .n)<|e_p (zGa rfl)<|e_p (zE rfl rfl)<|zha rfl rfl (zga rfl) (fun h3=> ?_) (fun h3=> ?_)
   ·
    refine e_no<|e_no<|e_no<|e_no<|e_p (zE rfl rfl)<|zf ?_
    exact zT () tt9 ((.e rfl (congrArg Value.bool (by simp_all)) (.c rfl (.c rfl .n))):SubM _ _) (ho:=(o0 rfl)) ((.of [0,1] rfl):SelR _ _ _)
   ·
    refine e_p (zg yc rfl sz30 rfl rfl)<|e_ru (zc 0 ty30 rfl rfl (.s2 (.t2 .nil)))<|zJ rfl rfl (.c rfl .n) ce55 (zYd (s:=t) (p:=p2) (n:=n2) (cap:=c2) (l:=l2) (hn:=ass) (hln:=by first|rfl|assumption|omega|(rw [yl];omega)|(decide +kernel))) (.c (j:=1) rfl .n)<|e_p (zxb rfl rfl)<|e_p (zE rfl rfl)<|zf ?_
    exact zT () tt9 ((.e rfl (congrArg Value.bool (by exact decide_eq_decide.2 (Big.sgn_le (Decidable.not_not.1 ‹_›) (Decidable.not_not.1 ‹_›)))) (.c rfl (.c rfl .n))):SubM _ _) (ho:=(o0 rfl)) ((.of [0,1] rfl):SelR _ _ _)
 ·
  rintro ⟨⟩ -
  try dsimp only
  refine zG rfl (fun hc=> ?_) (fun hc=> ?_)
  ·
   refine ze<|za<|e_p (zb rfl)<|zf<|zd<|zC<|zk ?_
   exact zu Tryz.results65 () trivial (zn rfl) (congrArg Value.bool (decide_eq_false (fun h=>hc ⟨h.1,h.2.1,h.2.2.1⟩))) (ho:=oN) sN
  ·
   have hcc:=Decidable.not_not.1 hc
   have hgl:=Big.zSd (n:=yi s l1) (d:=yi t l2) om
   refine zB<|zd<|ze<|za<|e_p (zg yc rfl sz30 rfl rfl)<|e_ru (zc 0 ty30 rfl rfl (.t2 .nil))<|e_p (zg yc rfl sz30 rfl rfl)<|e_ru (zc 0 ty30 rfl rfl (.s2 (.t2 .nil)))<|zm rfl rfl (.c rfl (.c rfl .n)) ce81 (zLe (s:=s) (p1:=p1) (n1:=n1) (c1:=c1) (l1:=l1) (t:=t) (p2:=p2) (n2:=n2) (c2:=c2) (l2:=l2) (hn1:=ass) (hn2:=ass) (hm1:=by first|rfl|assumption|omega|(rw [yl];omega)|(decide +kernel)) (hm2:=by first|rfl|assumption|omega|(rw [yl];omega)|(decide +kernel))) (.c (j:=0) rfl (.c (j:=1) rfl .n)) ?_
   rintro ⟨p34,c35⟩ -
   dsimp only [aq,nq,cq]
   refine zm rfl rfl (.c rfl .n) ce49 (zwd (z:=1) (hz:=by first|rfl|assumption|omega|(rw [yl];omega)|(decide +kernel))) (.n) ?_
   rintro ⟨p26,c27⟩ -
   dsimp only [aq,nq,cq]
   refine zJ rfl rfl (.c rfl (.c rfl .n)) ce95 (zHd (x1:=((Nat.gcd (yi s l1).natAbs (yi t l2).natAbs:Nat):Int)) (x2:=1) (p1:=p34) (c1:=c35) (p2:=p26) (c2:=c27) (hb1:=by first|rfl|assumption|omega|(rw [yl];omega)|(decide +kernel)) (hb2:=by first|rfl|assumption|omega|(rw [yl];omega)|(decide +kernel))) (.c (j:=1) rfl (.c (j:=0) rfl .n))<|e_p (zwa rfl rfl)<|e_p (zb rfl)<|zf<|zd<|zC ?_
   exact zu Tryz.results65 () trivial (zn rfl) (congrArg Value.bool (decide_eq_decide.2 (Big.qok_sub (x:=((s,l1),(t,l2))) (Decidable.not_not.1 hc)).symm)) (ho:=oN) sN
theorem zPc {u1:Wd} {v1:Wd} {q1:Rat}:Con yd 65 [.agg #[u1.b,u1.l,v1.b,v1.l]] [] [qF true u1 v1 (q1)] (Y:=Unit) (fun y=>True) (fun y=> .bool true) (fun y=>[]) (fun y=>[]):=by
  exact zsg (fun x hx hk h1 h2=>by have h:= @zic x.1.1 u1.p _ u1.c x.1.2 x.2.1 v1.p _ v1.c x.2.2 rfl rfl h1 h2;rw [decide_eq_true (hk rfl)] at h;exact h)
theorem zue {s:Bool} {p1:Option Addr} {n1:Nat} {c1:Nat} {l1:List Int} {t:Bool} {p2:Option Addr} {n2:Nat} {c2:Nat} {l2:List Int} (hn1:l1.length=n1) (hn2:l2.length=n2) (hm1:n1≤1099511627776) (hm2:n2≤1099511627776):Con yd 50 [.agg #[.bool s,.slice p1 n1 c1,.bool t,.slice p2 n2 c2]] [] [slF (rI .u32) p1 c1 l1,slF (rI .u32) p2 c2 l2] (Y:=Wd×Wd) (fun y=>True) (fun y=> .agg #[y.1.b,y.1.l,y.2.b,y.2.l]) (fun y=>[]) (fun y=>[qF true y.1 y.2 (Big.qv ((s,l1),(t,l2)))]):=by
 refine zl Tryz.func50 rfl rfl rfl (fun c=> ?_)
 show RunC _ _ _ _ _ [(0,.agg #[.bool s,.slice p1 n1 c1,.bool t,.slice p2 n2 c2])] [] [slF (rI .u32) p1 c1 l1,slF (rI .u32) p2 c2 l2]
 refine zU 0 rfl (fun hL0=> ?_)
 refine zUa 0 rfl (fun hE0=> ?_)
 refine zU 1 rfl (fun hL1=> ?_)
 refine zUa 1 rfl (fun hE1=> ?_)
 have hnn1:yC l1:=fun g hg=>(zy.1 (hE0 g hg)).1
 have hnn2:yC l2:=fun g hg=>(zy.1 (hE1 g hg)).1
 have hb1:yg (yi s l1)≤n1:=by have:=yB (s:=s) hnn1;omega
 have hb2:yg (yi t l2)≤n2:=by have:=yB (s:=t) hnn2;omega
 refine ze<|za<|zI rfl rfl (zR rfl rfl) (fun b1=> ?_)
 refine zI rfl rfl (zr zr32 rfl) (fun b2=> ?_)
 refine zf<|zd<|ze<|ze<|za<|e_ru (zc 1 ty32 rfl rfl (.t4 .nil))<|zJ rfl rfl (.c rfl .n) ce65 (zic (s:=s) (p1:=p1) (n1:=n1) (c1:=c1) (l1:=l1) (t:=t) (p2:=p2) (n2:=n2) (c2:=c2) (l2:=l2) (hn1:=ass) (hn2:=ass) (hm1:=ass) (hm2:=ass)) (.c (j:=0) rfl (.c (j:=1) rfl .n))<|zf<|zd<|zG rfl (fun hq=> ?_) (fun hq=> ?_)
 ·
  have hrp:=Big.raw_parts (x:=((s,l1),(t,l2))) hnn1 hnn2 hq
  have hqp:=Big.qv_parts (x:=((s,l1),(t,l2))) hq
  have hl:ym (Big.qv ((s,l1),(t,l2)))≤1099511627776:=by unfold ym;rw [hqp.1,hqp.2];dsimp only;omega
  refine ze<|za<|e_ru (zc 1 ty32 rfl rfl (.t4 .nil))<|zj 0 rfl rfl rfl rfl rfl sz32 rfl (.t4 .nil) .z<|zf<|zd<|zC<|zk<|znb (qF true ⟨s,p1,n1,c1⟩ ⟨t,p2,n2,c2⟩ (Big.qv ((s,l1),(t,l2)))) (fun g r=>qF_rawI 0 1 rfl rfl hn1 hn2 hm1 hm2 hq g r) ?_
  exact zu Tryz.results50 (⟨s,p1,n1,c1⟩,⟨t,p2,n2,c2⟩) trivial (zo 0 ty32 rfl rfl (.t4 .nil)) rfl (ho:=oN) (s0 rfl)
 ·
  have hz:=Big.qv_not (x:=((s,l1),(t,l2))) hq
  refine zB<|zd<|ze<|za<|zm rfl rfl (.c rfl .n) ce29 (zFc (z:=0) (hz:=by first|rfl|assumption|omega|(rw [yl];omega)|(decide +kernel))) (.n) ?_
  rintro ⟨w33,w44⟩ -
  dsimp only [aq,nq,cq]
  refine zj 0 rfl rfl rfl rfl rfl sz32 rfl (.t4 .nil) .z<|zf<|zd<|zC ?_
  exact zu Tryz.results50 (w33,w44) trivial (zo 0 ty32 rfl rfl (.t4 .nil)) rfl (ho:=oN) ((.e (j:=0) rfl (by rw [hz];rfl) .n):SelR _ _ _)
theorem zdb {k1:Bool} {u1:Wd} {v1:Wd} {q1:Rat}:Con yd 50 [.agg #[u1.b,u1.l,v1.b,v1.l]] [] [qF k1 u1 v1 (q1)] (Y:=(Wd)×(Wd)) (fun y=>True) (fun y=> .agg #[y.1.b,y.1.l,y.2.b,y.2.l]) (fun y=>[]) (fun y=>[qF true y.1 y.2 (q1)]):=by
  exact zwf (fun x hx hk h1 h2 hl=>by subst hx;exact zue rfl rfl h1 h2)
theorem zWb {w1:Wd} {w2:Wd} {x1:Int} {x2:Int} (hl1:yg x1≤1099511627776) (hl2:yg x2≤1099511627776) (hd:x2≠0):Con yd 51 [.agg #[w1.b,w1.l],.agg #[w2.b,w2.l]] [] [zF w1 x1,zF w2 x2] (Y:=Wd×Wd) (fun y=>True) (fun y=> .agg #[y.1.b,y.1.l,y.2.b,y.2.l]) (fun y=>[]) (fun y=>[qF true y.1 y.2 (Rat.divInt x1 x2)]):=by
 refine zl Tryz.func51 rfl rfl rfl (fun c=> ?_)
 show RunC _ _ _ _ _ [(0,.agg #[w1.b,w1.l]),(1,.agg #[w2.b,w2.l])] [] [zF w1 x1,zF w2 x2]
 refine ze<|za<|zI rfl rfl (zR rfl rfl) (fun b1=> ?_)
 refine zI rfl rfl (zR rfl rfl) (fun b2=> ?_)
 refine zI rfl rfl (zr zr32 rfl) (fun b3=> ?_)
 refine zf<|zd<|ze<|za<|e_ru (zc 2 ty30 rfl rfl (.t2 .nil))<|e_ru (zc 1 ty30 rfl rfl (.t2 .nil))<|zm rfl rfl (.c rfl (.c rfl .n)) ce81 (zIf (w1:=w1) (w2:=w2) (x1:=x1) (x2:=x2) (hb1:=by first|rfl|assumption|omega|(rw [yl];omega)|(decide +kernel)) (hb2:=by first|rfl|assumption|omega|(rw [yl];omega)|(decide +kernel))) (.c (j:=0) rfl (.c (j:=1) rfl .n)) ?_
 rintro w34 -
 dsimp only [aq,nq,cq]
 refine zI rfl rfl (zr zr30 rfl) (fun b5=> ?_)
 refine zj 0 rfl rfl rfl rfl rfl sz30 rfl (.t2 .nil) .z<|zf<|zd<|ze<|ze<|za<|e_ru (zc 2 ty30 rfl rfl (.t2 .nil))<|zJ rfl rfl (.c rfl .n) ce55 (zEc (w1:=w2) (x1:=x2) (hln:=by first|rfl|assumption|omega|(rw [yl];omega)|(decide +kernel))) (.c (j:=2) rfl .n)<|e_p (zX rfl rfl)<|zf<|zd<|zG rfl (fun hneg=> ?_) (fun hneg=> ?_)
 ·
  have hs:x2<0:=by rcases Big.sign_le (x:=x2) with h|h|h <;> omega
  have hgp:=Big.gcd_pos_right (n:=x1) (d:=x2) om
  have hgl:=Big.zSd (n:=x1) (d:=x2) om
  obtain ⟨hr1,hr2⟩:=Big.red_neg (n:=x1) hs
  refine za<|e_ru (zc 0 ty30 rfl rfl (.t2 .nil))<|zm rfl rfl (.c rfl .n) ce82 (zXd (w1:=w34) (x1:=((Nat.gcd x1.natAbs x2.natAbs:Nat):Int)) (hln:=by first|rfl|assumption|omega|(rw [yl];omega)|(decide +kernel))) (.c (j:=0) rfl .n) ?_
  rintro w36 -
  dsimp only [aq,nq,cq]
  refine zj 0 rfl rfl rfl rfl rfl sz30 rfl (.t2 .nil) .z<|zf<|zd<|ze<|za<|e_ru (zc 3 ty30 rfl rfl (.t2 .nil))<|e_ru (zc 0 ty30 rfl rfl (.t2 .nil))<|zm rfl rfl (.c rfl (.c rfl .n)) ce83 (zzb (w1:=w1) (w2:=w36) (x1:=x1) (x2:= - ((Nat.gcd x1.natAbs x2.natAbs:Nat):Int)) (hb1:=by first|rfl|assumption|omega|(rw [yl];omega)|(decide +kernel)) (hb2:=by first|rfl|assumption|omega|(rw [yl];omega)|(decide +kernel)) (hy:=by first|rfl|assumption|omega|(rw [yl];omega)|(decide +kernel))) (.c (j:=2) rfl (.c (j:=0) rfl .n)) ?_
  rintro ⟨w37,w48⟩ -
  dsimp only [aq,nq,cq]
  refine e_mv rfl<|e_p (zq rfl rfl)<|e_p (zq rfl rfl)<|e_p (zq rfl rfl)<|zI rfl rfl (zr zr30 rfl) (fun b9=> ?_)
  refine zI rfl rfl (zr zr30 rfl) (fun b10=> ?_)
  refine zj 1 rfl rfl rfl rfl rfl sz30 rfl (.t2 .nil) (.s .z)<|zj 0 rfl rfl rfl rfl rfl sz30 rfl (.t2 .nil) .z<|e_p (zb rfl)<|zf<|zd<|ze<|za<|e_ru (zc 4 ty30 rfl rfl (.t2 .nil))<|e_ru (zc 2 ty30 rfl rfl (.t2 .nil))<|zm rfl rfl (.c rfl (.c rfl .n)) ce83 (zzb (w1:=w2) (w2:=w36) (x1:=x2) (x2:= - ((Nat.gcd x1.natAbs x2.natAbs:Nat):Int)) (hb1:=by first|rfl|assumption|omega|(rw [yl];omega)|(decide +kernel)) (hb2:=by first|rfl|assumption|omega|(rw [yl];omega)|(decide +kernel)) (hy:=by first|rfl|assumption|omega|(rw [yl];omega)|(decide +kernel))) (.c (j:=5) rfl (.c (j:=2) rfl .n)) ?_
  rintro ⟨w311,w412⟩ -
  dsimp only [aq,nq,cq]
  refine e_mv rfl<|e_p (zq rfl rfl)<|e_p (zq rfl rfl)<|e_p (zq rfl rfl)<|zI rfl rfl (zr zr30 rfl) (fun b13=> ?_)
  refine zI rfl rfl (zr zr30 rfl) (fun b14=> ?_)
  refine zj 1 rfl rfl rfl rfl rfl sz30 rfl (.t2 .nil) (.s .z)<|zj 0 rfl rfl rfl rfl rfl sz30 rfl (.t2 .nil) .z<|e_p (zb rfl)<|zf<|zd<|ze<|za<|e_ru (zc 3 ty30 rfl rfl (.t2 .nil))<|e_ru (zc 1 ty30 rfl rfl (.t2 .nil))<|e_p (zN zr32 rfl yc (.c sz30 (.c sz30 .n)) (.c rfl (.c rfl .n)) (.c rfl rfl rfl (.t2 .nil) (.c rfl rfl rfl (.s2 (.t2 .nil)) .n)))<|zj 5 rfl rfl rfl rfl rfl sz32 rfl (.t4 .nil) (.s (.s (.s (.s (.s .z)))))<|zf<|zd<|zC<|znb (qF true w37 w311 (Rat.divInt x1 x2)) (qF_close 2 0 rfl rfl (by exact ⟨hr1,hr2,Nat.le_trans (Big.hq_divInt hd) om⟩)) ?_
  exact zu Tryz.results51 (w37,w311) trivial (zo 5 ty32 rfl rfl (.t4 .nil)) rfl (ho:=oN) (s0 rfl)
 ·
  have hs:0<x2:=by rcases Big.sign_le (x:=x2) with h|h|h <;> omega
  have hgp:=Big.gcd_pos_right (n:=x1) (d:=x2) om
  have hgl:=Big.zSd (n:=x1) (d:=x2) om
  obtain ⟨hr1,hr2⟩:=Big.red_pos (n:=x1) hs
  refine zB<|zd<|ze<|za<|e_ru (zc 3 ty30 rfl rfl (.t2 .nil))<|e_ru (zc 0 ty30 rfl rfl (.t2 .nil))<|zm rfl rfl (.c rfl (.c rfl .n)) ce83 (zzb (w1:=w1) (w2:=w34) (x1:=x1) (x2:=((Nat.gcd x1.natAbs x2.natAbs:Nat):Int)) (hb1:=by first|rfl|assumption|omega|(rw [yl];omega)|(decide +kernel)) (hb2:=by first|rfl|assumption|omega|(rw [yl];omega)|(decide +kernel)) (hy:=by first|rfl|assumption|omega|(rw [yl];omega)|(decide +kernel))) (.c (j:=1) rfl (.c (j:=0) rfl .n)) ?_
  rintro ⟨w315,w416⟩ -
  dsimp only [aq,nq,cq]
  refine e_mv rfl<|e_p (zq rfl rfl)<|e_p (zq rfl rfl)<|e_p (zq rfl rfl)<|zI rfl rfl (zr zr30 rfl) (fun b17=> ?_)
  refine zI rfl rfl (zr zr30 rfl) (fun b18=> ?_)
  refine zj 1 rfl rfl rfl rfl rfl sz30 rfl (.t2 .nil) (.s .z)<|zj 0 rfl rfl rfl rfl rfl sz30 rfl (.t2 .nil) .z<|e_p (zb rfl)<|zf<|zd<|ze<|za<|e_ru (zc 4 ty30 rfl rfl (.t2 .nil))<|e_ru (zc 2 ty30 rfl rfl (.t2 .nil))<|zm rfl rfl (.c rfl (.c rfl .n)) ce83 (zzb (w1:=w2) (w2:=w34) (x1:=x2) (x2:=((Nat.gcd x1.natAbs x2.natAbs:Nat):Int)) (hb1:=by first|rfl|assumption|omega|(rw [yl];omega)|(decide +kernel)) (hb2:=by first|rfl|assumption|omega|(rw [yl];omega)|(decide +kernel)) (hy:=by first|rfl|assumption|omega|(rw [yl];omega)|(decide +kernel))) (.c (j:=4) rfl (.c (j:=2) rfl .n)) ?_
  rintro ⟨w319,w420⟩ -
  dsimp only [aq,nq,cq]
  refine e_mv rfl<|e_p (zq rfl rfl)<|e_p (zq rfl rfl)<|e_p (zq rfl rfl)<|zI rfl rfl (zr zr30 rfl) (fun b21=> ?_)
  refine zI rfl rfl (zr zr30 rfl) (fun b22=> ?_)
  refine zj 1 rfl rfl rfl rfl rfl sz30 rfl (.t2 .nil) (.s .z)<|zj 0 rfl rfl rfl rfl rfl sz30 rfl (.t2 .nil) .z<|e_p (zb rfl)<|zf<|zd<|ze<|za<|e_ru (zc 3 ty30 rfl rfl (.t2 .nil))<|e_ru (zc 1 ty30 rfl rfl (.t2 .nil))<|e_p (zN zr32 rfl yc (.c sz30 (.c sz30 .n)) (.c rfl (.c rfl .n)) (.c rfl rfl rfl (.t2 .nil) (.c rfl rfl rfl (.s2 (.t2 .nil)) .n)))<|zj 5 rfl rfl rfl rfl rfl sz32 rfl (.t4 .nil) (.s (.s (.s (.s (.s .z)))))<|zf<|zd<|zC<|znb (qF true w315 w319 (Rat.divInt x1 x2)) (qF_close 2 0 rfl rfl (by exact ⟨hr1,hr2,Nat.le_trans (Big.hq_divInt hd) om⟩)) ?_
  exact zu Tryz.results51 (w315,w319) trivial (zo 5 ty32 rfl rfl (.t4 .nil)) rfl (ho:=oN) (s0 rfl)
theorem zeg {w1:Wd} {w2:Wd} {x1:Int} {x2:Int} (hl1:yg x1≤1099511627776) (hl2:yg x2≤1099511627776):Con yd 48 [.agg #[w1.b,w1.l],.agg #[w2.b,w2.l]] [] [zF w1 x1,zF w2 x2] (Y:=Wd×Wd) (fun y=>True) (fun y=> .tuple #[.agg #[y.1.b,y.1.l,y.2.b,y.2.l],.int .i64 (if x2=0 then 14 else 0)]) (fun y=>[]) (fun y=>[qF (decide (x2≠0)) y.1 y.2 (Rat.divInt x1 x2)]):=by
 refine zl Tryz.func48 rfl rfl rfl (fun c=> ?_)
 show RunC _ _ _ _ _ [(0,.agg #[w1.b,w1.l]),(1,.agg #[w2.b,w2.l])] [] [zF w1 x1,zF w2 x2]
 refine ze<|za<|zI rfl rfl (zR rfl rfl) (fun b1=> ?_)
 refine zI rfl rfl (zR rfl rfl) (fun b2=> ?_)
 refine zI rfl rfl (zr zr32 rfl) (fun b3=> ?_)
 refine e_p (zb rfl)<|zf<|zd<|ze<|ze<|za<|e_ru (zc 1 ty30 rfl rfl (.t2 .nil))<|zJ rfl rfl (.c rfl .n) ce55 (zEc (w1:=w2) (x1:=x2) (hln:=by first|rfl|assumption|omega|(rw [yl];omega)|(decide +kernel))) (.c (j:=1) rfl .n)<|e_p (zwa rfl rfl)<|zf<|zd<|zG rfl (fun hz0=> ?_) (fun hz0=> ?_)
 ·
  have hx0:x2=0:=Big.sign_zero.1 hz0
  refine ze<|za<|e_p (zN zr32 rfl yc (.c sz30 (.c sz30 .n)) .n .n)<|zj 0 rfl rfl rfl rfl rfl sz32 rfl (.t4 .nil) .z<|e_p (zb rfl)<|zf<|zd<|zC<|zk<|znb (qF false wz wz 0) (fun g _=>qF_none g) ?_
  exact zFa Tryz.results48 (wz,wz) trivial (zo 0 ty32 rfl rfl (.t4 .nil)) (zn rfl) (by rw [if_pos hx0];rfl) (ho:=oN) ((.e (j:=0) rfl (by rw [Big.divInt_nil hx0,decide_eq_false (not_not_intro hx0)]) .n):SelR _ _ _)
 ·
  have hx0:x2≠0:=fun e=>hz0 (Big.sign_zero.2 e)
  refine zB<|zd<|ze<|za<|e_ru (zc 2 ty30 rfl rfl (.t2 .nil))<|e_ru (zc 1 ty30 rfl rfl (.t2 .nil))<|zm rfl rfl (.c rfl (.c rfl .n)) ce51 (zWb (w1:=w1) (w2:=w2) (x1:=x1) (x2:=x2) (hl1:=ass) (hl2:=ass) (hd:=by first|rfl|assumption|omega|(rw [yl];omega)|(decide +kernel))) (.c (j:=0) rfl (.c (j:=1) rfl .n)) ?_
  rintro ⟨w34,w45⟩ -
  dsimp only [aq,nq,cq]
  refine zj 0 rfl rfl rfl rfl rfl sz32 rfl (.t4 .nil) .z<|e_p (zb rfl)<|zf<|zd<|zC ?_
  exact zFa Tryz.results48 (w34,w45) trivial (zo 0 ty32 rfl rfl (.t4 .nil)) (zn rfl) (by rw [if_neg hx0]) (ho:=oN) ((.e (j:=0) rfl (by rw [decide_eq_true hx0]) .n):SelR _ _ _)
theorem zfg {z1:Int} {z2:Int} (hz1: -9223372036854775808≤z1∧z1≤9223372036854775807) (hz2: -9223372036854775808≤z2∧z2≤9223372036854775807):Con yd 15 [.int .i64 z1,.int .i64 z2] [] [] (Y:=Wd×Wd) (fun y=>True) (fun y=> .tuple #[.agg #[y.1.b,y.1.l,y.2.b,y.2.l],.int .i64 (if z2=0 then 14 else 0)]) (fun y=>[]) (fun y=>[qF (decide (z2≠0)) y.1 y.2 (Rat.divInt z1 z2)]):=by
 refine zl Tryz.func15 rfl rfl rfl (fun c=> ?_)
 show RunC _ _ _ _ _ [(0,.int .i64 z1),(1,.int .i64 z2)] [] []
 have g1:=Big.zSc hz1.1 hz1.2
 have g2:=Big.zSc hz2.1 hz2.2
 refine ze<|za<|zI rfl rfl (zr zr32 rfl) (fun b1=> ?_)
 refine e_p (zb rfl)<|zf<|zd<|ze<|za<|e_mv rfl<|zm rfl rfl (.c rfl .n) ce49 (zNb (z:=z1) (hz:=ass)) (.n) ?_
 rintro w32 -
 dsimp only [aq,nq,cq]
 refine e_mv rfl<|zm rfl rfl (.c rfl .n) ce49 (zNb (z:=z2) (hz:=ass)) (.n) ?_
 rintro w33 -
 dsimp only [aq,nq,cq]
 refine zm rfl rfl (.c rfl (.c rfl .n)) ce48 (zeg (w1:=w32) (w2:=w33) (x1:=z1) (x2:=z2) (hl1:=by first|rfl|assumption|omega|(rw [yl];omega)|(decide +kernel)) (hl2:=by first|rfl|assumption|omega|(rw [yl];omega)|(decide +kernel))) (.c (j:=1) rfl (.c (j:=0) rfl .n)) ?_
 rintro ⟨w34,w45⟩ -
 dsimp only [aq,nq,cq]
 refine e_p (zq rfl rfl)<|e_p (zq rfl rfl)<|zj 0 rfl rfl rfl rfl rfl sz32 rfl (.t4 .nil) .z<|e_p (zb rfl)<|zf<|zd<|zC ?_
 exact zFa Tryz.results15 (w34,w45) trivial (zo 0 ty32 rfl rfl (.t4 .nil)) (zn rfl) rfl (ho:=oN) (s0 rfl)
theorem zGb {z1:Int} {z2:Int} (hz1: -9223372036854775808≤z1∧z1≤9223372036854775807) (hz2: -9223372036854775808≤z2∧z2≤9223372036854775807) (hy:z2≠0):Con yd 15 [.int .i64 (z1),.int .i64 (z2)] [] [] (Y:=(Wd)×(Wd)) (fun y=>True) (fun y=> .tuple #[.agg #[y.1.b,y.1.l,y.2.b,y.2.l],.int .i64 (0)]) (fun y=>[]) (fun y=>[qF true y.1 y.2 (Rat.divInt z1 z2)]):=by
  have h:=zfg hz1 hz2
  rw [if_neg hy,decide_eq_true hy] at h
  exact h
theorem zZb {k1:Bool} {u1:Wd} {v1:Wd} {q1:Rat} (hl:ym q1≤1099511627776):Con yd 19 [.agg #[u1.b,u1.l,v1.b,v1.l]] [] [qF k1 u1 v1 q1] (Y:=Unit) (fun y=>True) (fun y=> .int .i64 (Big.sgq q1)) (fun y=>[]) (fun y=>[]):=by
 refine zl Tryz.func19 rfl rfl rfl (fun c=> ?_)
 show RunC _ _ _ _ _ [(0,.agg #[u1.b,u1.l,v1.b,v1.l])] [] [qF k1 u1 v1 q1]
 have a1:=yv q1
 have a2:=yw q1
 refine ze<|za<|zI rfl rfl (zR rfl rfl) (fun b1=> ?_)
 refine e_p (zb rfl)<|zf<|zd<|ze<|za<|e_ru (zc 0 ty32 rfl rfl (.t4 .nil))<|zm rfl rfl (.c rfl .n) ce50 (zdb (k1:=k1) (u1:=u1) (v1:=v1) (q1:=q1)) (.c (j:=0) rfl .n) ?_
 rintro ⟨w32,w43⟩ -
 dsimp only [aq,nq,cq]
 refine e_p (zIc yc rfl ty30 rfl (.t2 .nil))<|zmc (qF_open 0 rfl) (fun _ _=> ?_)
 refine zJ rfl rfl (.c rfl .n) ce55 (zEc (w1:=w32) (x1:=(q1).num) (hln:=by first|rfl|assumption|omega|(rw [yl];omega)|(decide +kernel))) (.c (j:=0) rfl .n)<|e_p (zb rfl)<|zf<|zd<|zC ?_
 exact zu Tryz.results19 () trivial (zn rfl) rfl (ho:=oN) sN
theorem zJf {k1:Bool} {u1:Wd} {v1:Wd} {q1:Rat} (hl:ym q1≤1099511627776):Con yd 53 [.agg #[u1.b,u1.l,v1.b,v1.l]] [] [qF k1 u1 v1 q1] (Y:=Wd×Wd) (fun y=>True) (fun y=> .agg #[y.1.b,y.1.l,y.2.b,y.2.l]) (fun y=>[]) (fun y=>[qF true y.1 y.2 (- q1)]):=by
 refine zl Tryz.func53 rfl rfl rfl (fun c=> ?_)
 show RunC _ _ _ _ _ [(0,.agg #[u1.b,u1.l,v1.b,v1.l])] [] [qF k1 u1 v1 q1]
 have a1:=yv q1
 have a2:=yw q1
 refine ze<|za<|zI rfl rfl (zR rfl rfl) (fun b1=> ?_)
 refine zI rfl rfl (zr zr32 rfl) (fun b2=> ?_)
 refine zf<|zd<|ze<|za<|e_ru (zc 1 ty32 rfl rfl (.t4 .nil))<|zm rfl rfl (.c rfl .n) ce50 (zdb (k1:=k1) (u1:=u1) (v1:=v1) (q1:=q1)) (.c (j:=0) rfl .n) ?_
 rintro ⟨w33,w44⟩ -
 dsimp only [aq,nq,cq]
 refine zI rfl rfl (zr zr32 rfl) (fun b5=> ?_)
 refine zj 0 rfl rfl rfl rfl rfl sz32 rfl (.t4 .nil) .z<|zf<|zd<|ze<|zqa (.c (i:=1) rfl (.c (i:=0) rfl (.c (i:=0) rfl .n)))<|zV (OW:=[boxA b2 32 (cw [wz,wz])]) (O:=[boxA b5 32 (cw [w33,w44]),boxA b1 32 (cw [u1,v1])]) 6 mixed (.then .ret) kr<|e_pv 0 rfl rfl (zg yc rfl sz30 rfl rfl)<|e_uw 1 rfl rfl (zc 1 ty30 rfl rfl (.t2 .nil))<|e_pv 3 rfl rfl (zg yc rfl sz30 rfl rfl)<|e_uw 4 rfl rfl (zc 1 ty30 rfl rfl (.s2 (.t2 .nil)))<|zDb (qF_open 0 rfl) (fun _ _=> ?_)
 refine e_one 2 (zp rfl rfl rfl rfl (.c rfl .n) ce82 (zXd (w1:=w33) (x1:=(q1).num) (hln:=by first|rfl|assumption|omega|(rw [yl];omega)|(decide +kernel))) (.c (j:=0) rfl .n) ?_)
 rintro w36 -
 dsimp only [aq,nq,cq]
 refine e_pv 5 rfl rfl (zN zr32 rfl yc (.c sz30 (.c sz30 .n)) (.c rfl (.c rfl .n)) (.c rfl rfl rfl (.t2 .nil) (.c rfl rfl rfl (.s2 (.t2 .nil)) .n)))<|e_one 6 (zv kr rfl rfl rfl rfl rfl sz32 rfl (.t4 .nil) ?_)
 refine zH kr<|zd<|zC<|znb (qF true w36 w44 (- q1)) (qF_close 0 2 rfl rfl (by exact ⟨(Rat.neg_num q1).symm,by rw [Rat.neg_den],by rw [Big.hq_neg];exact hl⟩)) ?_
 exact zu Tryz.results53 (w36,w44) trivial (zo 0 ty32 rfl rfl (.t4 .nil)) rfl (ho:=oN) (s0 rfl)
theorem zyc {k1:Bool} {u1:Wd} {v1:Wd} {q1:Rat} {k2:Bool} {u2:Wd} {v2:Wd} {q2:Rat} (hl:ym q1+ym q2+1≤1099511627776):Con yd 18 [.agg #[u1.b,u1.l,v1.b,v1.l],.agg #[u2.b,u2.l,v2.b,v2.l]] [] [qF k1 u1 v1 q1,qF k2 u2 v2 q2] (Y:=Wd×Wd) (fun y=>True) (fun y=> .agg #[y.1.b,y.1.l,y.2.b,y.2.l]) (fun y=>[]) (fun y=>[qF true y.1 y.2 (q1+q2)]):=by
 refine zl Tryz.func18 rfl rfl rfl (fun c=> ?_)
 show RunC _ _ _ _ _ [(0,.agg #[u1.b,u1.l,v1.b,v1.l]),(1,.agg #[u2.b,u2.l,v2.b,v2.l])] [] [qF k1 u1 v1 q1,qF k2 u2 v2 q2]
 have a1:=yv q1
 have a2:=yw q1
 have a3:=yv q2
 have a4:=yw q2
 have b1:=yA q1.num q2.den
 have b2:=yA q2.num q1.den
 have b3:=Big.zvb (q1.num*q2.den) (q2.num*q1.den)
 have b4:=yA (q1.den:Int) q2.den
 have b5:=yA q1.num q2.num
 refine ze<|za<|zI rfl rfl (zR rfl rfl) (fun b1=> ?_)
 refine zI rfl rfl (zR rfl rfl) (fun b2=> ?_)
 refine zI rfl rfl (zr zr32 rfl) (fun b3=> ?_)
 refine zf<|zd<|ze<|za<|e_ru (zc 2 ty32 rfl rfl (.t4 .nil))<|zm rfl rfl (.c rfl .n) ce50 (zdb (k1:=k1) (u1:=u1) (v1:=v1) (q1:=q1)) (.c (j:=0) rfl .n) ?_
 rintro ⟨w34,w45⟩ -
 dsimp only [aq,nq,cq]
 refine zI rfl rfl (zr zr32 rfl) (fun b6=> ?_)
 refine zj 0 rfl rfl rfl rfl rfl sz32 rfl (.t4 .nil) .z<|zf<|zd<|ze<|za<|e_ru (zc 2 ty32 rfl rfl (.t4 .nil))<|zm rfl rfl (.c rfl .n) ce50 (zdb (k1:=k2) (u1:=u2) (v1:=v2) (q1:=q2)) (.c (j:=2) rfl .n) ?_
 rintro ⟨w37,w48⟩ -
 dsimp only [aq,nq,cq]
 refine zI rfl rfl (zr zr32 rfl) (fun b9=> ?_)
 refine zj 0 rfl rfl rfl rfl rfl sz32 rfl (.t4 .nil) .z<|zf<|zd<|ze<|zqa (.c (i:=2) rfl (.c (i:=0) rfl (.c (i:=0) rfl (.c (i:=0) rfl (.c (i:=0) rfl .n)))))<|zV (OW:=[boxA b3 32 (cw [wz,wz])]) (O:=[boxA b9 32 (cw [w37,w48]),boxA b6 32 (cw [w34,w45]),boxA b2 32 (cw [u2,v2]),boxA b1 32 (cw [u1,v1])]) 17 mixed (.then .ret) kr<|e_pv 0 rfl rfl (zg yc rfl sz30 rfl rfl)<|e_uw 1 rfl rfl (zc 2 ty30 rfl rfl (.t2 .nil))<|e_pv 2 rfl rfl (zg yc rfl sz30 rfl rfl)<|e_uw 3 rfl rfl (zc 1 ty30 rfl rfl (.s2 (.t2 .nil)))<|e_pv 5 rfl rfl (zg yc rfl sz30 rfl rfl)<|e_uw 6 rfl rfl (zc 1 ty30 rfl rfl (.t2 .nil))<|e_pv 7 rfl rfl (zg yc rfl sz30 rfl rfl)<|e_uw 8 rfl rfl (zc 2 ty30 rfl rfl (.s2 (.t2 .nil)))<|e_pv 11 rfl rfl (zg yc rfl sz30 rfl rfl)<|e_uw 12 rfl rfl (zc 2 ty30 rfl rfl (.s2 (.t2 .nil)))<|e_pv 13 rfl rfl (zg yc rfl sz30 rfl rfl)<|e_uw 14 rfl rfl (zc 1 ty30 rfl rfl (.s2 (.t2 .nil)))<|zDb (qF_open 1 rfl) (fun _ _=> ?_)
 refine zDb (qF_open 2 rfl) (fun _ _=> ?_)
 refine e_one 4 (zp rfl rfl rfl rfl (.c rfl (.c rfl .n)) ce52 (zVb (w1:=w34) (w2:=w48) (x1:=(q1).num) (x2:=(((q2).den:Nat):Int)) (hb1:=by first|rfl|assumption|omega|(rw [yl];omega)|(decide +kernel)) (hb2:=by first|rfl|assumption|omega|(rw [yl];omega)|(decide +kernel))) (.c (j:=2) rfl (.c (j:=1) rfl .n)) ?_)
 rintro w310 -
 dsimp only [aq,nq,cq]
 refine e_one 9 (zp rfl rfl rfl rfl (.c rfl (.c rfl .n)) ce52 (zVb (w1:=w37) (w2:=w45) (x1:=(q2).num) (x2:=(((q1).den:Nat):Int)) (hb1:=by first|rfl|assumption|omega|(rw [yl];omega)|(decide +kernel)) (hb2:=by first|rfl|assumption|omega|(rw [yl];omega)|(decide +kernel))) (.c (j:=1) rfl (.c (j:=4) rfl .n)) ?_)
 rintro w311 -
 dsimp only [aq,nq,cq]
 refine e_one 10 (zp rfl rfl rfl rfl (.c rfl (.c rfl .n)) ce54 (zGf (w1:=w310) (w2:=w311) (x1:=((q1).num)*(((q2).den:Nat):Int)) (x2:=((q2).num)*(((q1).den:Nat):Int)) (hb1:=by first|rfl|assumption|omega|(rw [yl];omega)|(decide +kernel)) (hb2:=by first|rfl|assumption|omega|(rw [yl];omega)|(decide +kernel))) (.c (j:=1) rfl (.c (j:=0) rfl .n)) ?_)
 rintro w312 -
 dsimp only [aq,nq,cq]
 refine e_one 15 (zp rfl rfl rfl rfl (.c rfl (.c rfl .n)) ce52 (zVb (w1:=w45) (w2:=w48) (x1:=(((q1).den:Nat):Int)) (x2:=(((q2).den:Nat):Int)) (hb1:=by first|rfl|assumption|omega|(rw [yl];omega)|(decide +kernel)) (hb2:=by first|rfl|assumption|omega|(rw [yl];omega)|(decide +kernel))) (.c (j:=6) rfl (.c (j:=4) rfl .n)) ?_)
 rintro w313 -
 dsimp only [aq,nq,cq]
 refine e_one 16 (zp rfl rfl rfl rfl (.c rfl (.c rfl .n)) ce51 (zWb (w1:=w312) (w2:=w313) (x1:=(((q1).num)*(((q2).den:Nat):Int))+(((q2).num)*(((q1).den:Nat):Int))) (x2:=(((q1).den:Nat):Int)*(((q2).den:Nat):Int)) (hl1:=by first|rfl|assumption|omega|(rw [yl];omega)|(decide +kernel)) (hl2:=by first|rfl|assumption|omega|(rw [yl];omega)|(decide +kernel)) (hd:=by exact Int.mul_ne_zero (Big.den_ne q1) (Big.den_ne q2))) (.c (j:=1) rfl (.c (j:=0) rfl .n)) ?_)
 rintro ⟨w314,w415⟩ -
 dsimp only [aq,nq,cq]
 refine e_one 17 (zv kr rfl rfl rfl rfl rfl sz32 rfl (.t4 .nil) ?_)
 refine zH kr<|zd<|zC ?_
 exact zu Tryz.results18 (w314,w415) trivial (zo 0 ty32 rfl rfl (.t4 .nil)) rfl (ho:=oN) ((.e (j:=0) rfl (by rw [Big.add_parts]) .n):SelR _ _ _)
theorem zSa {k1:Bool} {u1:Wd} {v1:Wd} {q1:Rat} {k2:Bool} {u2:Wd} {v2:Wd} {q2:Rat} (hl:ym q1+ym q2+1≤1099511627776):Con yd 16 [.agg #[u1.b,u1.l,v1.b,v1.l],.agg #[u2.b,u2.l,v2.b,v2.l]] [] [qF k1 u1 v1 q1,qF k2 u2 v2 q2] (Y:=Wd×Wd) (fun y=>True) (fun y=> .agg #[y.1.b,y.1.l,y.2.b,y.2.l]) (fun y=>[]) (fun y=>[qF true y.1 y.2 (q1*q2)]):=by
 refine zl Tryz.func16 rfl rfl rfl (fun c=> ?_)
 show RunC _ _ _ _ _ [(0,.agg #[u1.b,u1.l,v1.b,v1.l]),(1,.agg #[u2.b,u2.l,v2.b,v2.l])] [] [qF k1 u1 v1 q1,qF k2 u2 v2 q2]
 have a1:=yv q1
 have a2:=yw q1
 have a3:=yv q2
 have a4:=yw q2
 have b1:=yA q1.num q2.den
 have b2:=yA q2.num q1.den
 have b3:=Big.zvb (q1.num*q2.den) (q2.num*q1.den)
 have b4:=yA (q1.den:Int) q2.den
 have b5:=yA q1.num q2.num
 refine ze<|za<|zI rfl rfl (zR rfl rfl) (fun b1=> ?_)
 refine zI rfl rfl (zR rfl rfl) (fun b2=> ?_)
 refine zI rfl rfl (zr zr32 rfl) (fun b3=> ?_)
 refine zf<|zd<|ze<|za<|e_ru (zc 2 ty32 rfl rfl (.t4 .nil))<|zm rfl rfl (.c rfl .n) ce50 (zdb (k1:=k1) (u1:=u1) (v1:=v1) (q1:=q1)) (.c (j:=0) rfl .n) ?_
 rintro ⟨w34,w45⟩ -
 dsimp only [aq,nq,cq]
 refine zI rfl rfl (zr zr32 rfl) (fun b6=> ?_)
 refine zj 0 rfl rfl rfl rfl rfl sz32 rfl (.t4 .nil) .z<|zf<|zd<|ze<|za<|e_ru (zc 2 ty32 rfl rfl (.t4 .nil))<|zm rfl rfl (.c rfl .n) ce50 (zdb (k1:=k2) (u1:=u2) (v1:=v2) (q1:=q2)) (.c (j:=2) rfl .n) ?_
 rintro ⟨w37,w48⟩ -
 dsimp only [aq,nq,cq]
 refine zI rfl rfl (zr zr32 rfl) (fun b9=> ?_)
 refine zj 0 rfl rfl rfl rfl rfl sz32 rfl (.t4 .nil) .z<|zf<|zd<|ze<|zqa (.c (i:=2) rfl (.c (i:=0) rfl (.c (i:=0) rfl (.c (i:=0) rfl (.c (i:=0) rfl .n)))))<|zV (OW:=[boxA b3 32 (cw [wz,wz])]) (O:=[boxA b9 32 (cw [w37,w48]),boxA b6 32 (cw [w34,w45]),boxA b2 32 (cw [u2,v2]),boxA b1 32 (cw [u1,v1])]) 11 mixed (.then .ret) kr<|e_pv 0 rfl rfl (zg yc rfl sz30 rfl rfl)<|e_uw 1 rfl rfl (zc 2 ty30 rfl rfl (.t2 .nil))<|e_pv 2 rfl rfl (zg yc rfl sz30 rfl rfl)<|e_uw 3 rfl rfl (zc 1 ty30 rfl rfl (.t2 .nil))<|e_pv 5 rfl rfl (zg yc rfl sz30 rfl rfl)<|e_uw 6 rfl rfl (zc 2 ty30 rfl rfl (.s2 (.t2 .nil)))<|e_pv 7 rfl rfl (zg yc rfl sz30 rfl rfl)<|e_uw 8 rfl rfl (zc 1 ty30 rfl rfl (.s2 (.t2 .nil)))<|zDb (qF_open 1 rfl) (fun _ _=> ?_)
 refine zDb (qF_open 2 rfl) (fun _ _=> ?_)
 refine e_one 4 (zp rfl rfl rfl rfl (.c rfl (.c rfl .n)) ce52 (zVb (w1:=w34) (w2:=w37) (x1:=(q1).num) (x2:=(q2).num) (hb1:=by first|rfl|assumption|omega|(rw [yl];omega)|(decide +kernel)) (hb2:=by first|rfl|assumption|omega|(rw [yl];omega)|(decide +kernel))) (.c (j:=2) rfl (.c (j:=0) rfl .n)) ?_)
 rintro w310 -
 dsimp only [aq,nq,cq]
 refine e_one 9 (zp rfl rfl rfl rfl (.c rfl (.c rfl .n)) ce52 (zVb (w1:=w45) (w2:=w48) (x1:=(((q1).den:Nat):Int)) (x2:=(((q2).den:Nat):Int)) (hb1:=by first|rfl|assumption|omega|(rw [yl];omega)|(decide +kernel)) (hb2:=by first|rfl|assumption|omega|(rw [yl];omega)|(decide +kernel))) (.c (j:=4) rfl (.c (j:=2) rfl .n)) ?_)
 rintro w311 -
 dsimp only [aq,nq,cq]
 refine e_one 10 (zp rfl rfl rfl rfl (.c rfl (.c rfl .n)) ce51 (zWb (w1:=w310) (w2:=w311) (x1:=((q1).num)*((q2).num)) (x2:=(((q1).den:Nat):Int)*(((q2).den:Nat):Int)) (hl1:=by first|rfl|assumption|omega|(rw [yl];omega)|(decide +kernel)) (hl2:=by first|rfl|assumption|omega|(rw [yl];omega)|(decide +kernel)) (hd:=by exact Int.mul_ne_zero (Big.den_ne q1) (Big.den_ne q2))) (.c (j:=1) rfl (.c (j:=0) rfl .n)) ?_)
 rintro ⟨w312,w413⟩ -
 dsimp only [aq,nq,cq]
 refine e_one 11 (zv kr rfl rfl rfl rfl rfl sz32 rfl (.t4 .nil) ?_)
 refine zH kr<|zd<|zC ?_
 exact zu Tryz.results16 (w312,w413) trivial (zo 0 ty32 rfl rfl (.t4 .nil)) rfl (ho:=oN) ((.e (j:=0) rfl (by rw [Big.mul_parts]) .n):SelR _ _ _)
theorem zde {k1:Bool} {u1:Wd} {v1:Wd} {q1:Rat} {k2:Bool} {u2:Wd} {v2:Wd} {q2:Rat} (hl:ym q1+ym q2+1≤1099511627776):Con yd 17 [.agg #[u1.b,u1.l,v1.b,v1.l],.agg #[u2.b,u2.l,v2.b,v2.l]] [] [qF k1 u1 v1 q1,qF k2 u2 v2 q2] (Y:=Wd×Wd) (fun y=>True) (fun y=> .agg #[y.1.b,y.1.l,y.2.b,y.2.l]) (fun y=>[]) (fun y=>[qF true y.1 y.2 (q1 - q2)]):=by
 refine zl Tryz.func17 rfl rfl rfl (fun c=> ?_)
 show RunC _ _ _ _ _ [(0,.agg #[u1.b,u1.l,v1.b,v1.l]),(1,.agg #[u2.b,u2.l,v2.b,v2.l])] [] [qF k1 u1 v1 q1,qF k2 u2 v2 q2]
 have a1:=yv q1
 have a2:=yw q1
 have a3:=yv q2
 have a4:=yw q2
 refine ze<|za<|zI rfl rfl (zR rfl rfl) (fun b1=> ?_)
 refine zI rfl rfl (zR rfl rfl) (fun b2=> ?_)
 refine zI rfl rfl (zr zr32 rfl) (fun b3=> ?_)
 refine zf<|zd<|ze<|zV (OW:=[boxA b3 32 (cw [wz,wz])]) (O:=[boxA b2 32 (cw [u2,v2]),boxA b1 32 (cw [u1,v1])]) 4 mixed (.then .ret) kr<|e_uw 0 rfl rfl (zc 2 ty32 rfl rfl (.t4 .nil))<|e_uw 1 rfl rfl (zc 1 ty32 rfl rfl (.t4 .nil))<|e_one 2 (zp rfl rfl rfl rfl (.c rfl .n) ce53 (zJf (k1:=k2) (u1:=u2) (v1:=v2) (q1:=q2) (hl:=by first|rfl|assumption|omega|(rw [yl];omega)|(decide +kernel)|(rw [Big.hq_neg];omega))) (.c (j:=1) rfl .n) ?_)
 rintro ⟨w34,w45⟩ -
 dsimp only [aq,nq,cq]
 refine e_one 3 (zp rfl rfl rfl rfl (.c rfl (.c rfl .n)) ce18 (zyc (k1:=k1) (u1:=u1) (v1:=v1) (q1:=q1) (k2:=true) (u2:=w34) (v2:=w45) (q2:= - q2) (hl:=by first|rfl|assumption|omega|(rw [yl];omega)|(decide +kernel)|(rw [Big.hq_neg];omega))) (.c (j:=1) rfl (.c (j:=0) rfl .n)) ?_)
 rintro ⟨w36,w47⟩ -
 dsimp only [aq,nq,cq]
 refine e_one 4 (zv kr rfl rfl rfl rfl rfl sz32 rfl (.t4 .nil) ?_)
 refine zH kr<|zd<|zC ?_
 exact zu Tryz.results17 (w36,w47) trivial (zo 0 ty32 rfl rfl (.t4 .nil)) rfl (ho:=oN) ((.e (j:=0) rfl (by rw [Rat.sub_eq_add_neg]) .n):SelR _ _ _)
theorem zOb {k1:Bool} {u1:Wd} {v1:Wd} {q1:Rat} {k2:Bool} {u2:Wd} {v2:Wd} {q2:Rat} (hl:ym q1+ym q2+1≤1099511627776):Con yd 21 [.agg #[u1.b,u1.l,v1.b,v1.l],.agg #[u2.b,u2.l,v2.b,v2.l]] [] [qF k1 u1 v1 q1,qF k2 u2 v2 q2] (Y:=Unit) (fun y=>True) (fun y=> .int .i64 (Big.sgq (q1 - q2))) (fun y=>[]) (fun y=>[]):=by
 refine zl Tryz.func21 rfl rfl rfl (fun c=> ?_)
 show RunC _ _ _ _ _ [(0,.agg #[u1.b,u1.l,v1.b,v1.l]),(1,.agg #[u2.b,u2.l,v2.b,v2.l])] [] [qF k1 u1 v1 q1,qF k2 u2 v2 q2]
 have hsb:=Big.hq_sub q1 q2
 refine ze<|za<|zI rfl rfl (zR rfl rfl) (fun b1=> ?_)
 refine zI rfl rfl (zR rfl rfl) (fun b2=> ?_)
 refine e_p (zb rfl)<|zf<|zd<|ze<|za<|e_ru (zc 1 ty32 rfl rfl (.t4 .nil))<|e_ru (zc 0 ty32 rfl rfl (.t4 .nil))<|zm rfl rfl (.c rfl (.c rfl .n)) ce17 (zde (k1:=k1) (u1:=u1) (v1:=v1) (q1:=q1) (k2:=k2) (u2:=u2) (v2:=v2) (q2:=q2) (hl:=ass)) (.c (j:=0) rfl (.c (j:=1) rfl .n)) ?_
 rintro ⟨w33,w44⟩ -
 dsimp only [aq,nq,cq]
 refine zJ rfl rfl (.c rfl .n) ce19 (zZb (k1:=true) (u1:=w33) (v1:=w44) (q1:=q1 - q2) (hl:=by first|rfl|assumption|omega|(rw [yl];omega)|(decide +kernel))) (.c (j:=0) rfl .n)<|e_p (zb rfl)<|zf<|zd<|zC ?_
 exact zu Tryz.results21 () trivial (zn rfl) rfl (ho:=oN) sN
theorem zxd {u1:Wd} {v1:Wd} {q1:Rat} {u2:Wd} {v2:Wd} {q2:Rat} (hl:ym q1+ym q2+1≤1099511627776):Con yd 30 [.agg #[u1.b,u1.l,v1.b,v1.l],.agg #[u2.b,u2.l,v2.b,v2.l]] [] [qF true u1 v1 q1,qF true u2 v2 q2] (Y:=Unit) (fun y=>True) (fun y=> .bool (decide (q1=q2))) (fun y=>[]) (fun y=>[]):=by
 refine zl Tryz.func30 rfl rfl rfl (fun c=> ?_)
 show RunC _ _ _ _ _ [(0,.agg #[u1.b,u1.l,v1.b,v1.l]),(1,.agg #[u2.b,u2.l,v2.b,v2.l])] [] [qF true u1 v1 q1,qF true u2 v2 q2]
 refine ze<|za<|zI rfl rfl (zR rfl rfl) (fun b1=> ?_)
 refine zI rfl rfl (zR rfl rfl) (fun b2=> ?_)
 refine e_p (zb rfl)<|zf<|zd<|zOa (X:=Unit) (fun x=>True) (fun x=>[(4,.bool (decide (Big.sgq (q1 - q2)=0)))]) (fun x=>[boxA b2 32 (cw [u2,v2]),boxA b1 32 (cw [u1,v1])]) (fun x=>[qF true u1 v1 q1,qF true u2 v2 q2]) ?_ ?_
 ·
  refine za<|e_ru (zc 1 ty32 rfl rfl (.t4 .nil))<|zJ rfl rfl (.c rfl .n) ce65 (zPc (u1:=u1) (v1:=v1) (q1:=q1)) (.c (j:=0) rfl .n)<|e_mv rfl<|e_ru (zc 0 ty32 rfl rfl (.t4 .nil))<|zJ rfl rfl (.c rfl .n) ce65 (zPc (u1:=u2) (v1:=v2) (q1:=q2)) (.c (j:=1) rfl .n)<|e_p (zE rfl rfl)<|e_mv rfl<|e_ru (zc 1 ty32 rfl rfl (.t4 .nil))<|e_ru (zc 0 ty32 rfl rfl (.t4 .nil))<|zJ rfl rfl (.c rfl (.c rfl .n)) ce21 (zOb (k1:=true) (u1:=u1) (v1:=v1) (q1:=q1) (k2:=true) (u2:=u2) (v2:=v2) (q2:=q2) (hl:=ass)) (.c (j:=0) rfl (.c (j:=1) rfl .n))<|e_p (zwa rfl rfl)<|e_p (zE rfl rfl)<|e_p (zb rfl)<|zf ?_
  exact zT () tt9 ((.c rfl .n):SubM _ _) (ho:=((.of [0,0] rfl):PickO _ _ _)) ((.of [0,1] rfl):SelR _ _ _)
 ·
  rintro ⟨⟩ -
  try dsimp only [cw]
  refine zC ?_
  exact zu Tryz.results30 () trivial (zn rfl) (congrArg Value.bool (decide_eq_decide.2 Big.sgq_sub_zero.symm)) (ho:=oN) sN
end Go.Proofs.YtahiajepeodhoaaGreat.Sp
namespace Go.Proofs.YtahiajepeodhoaaGreat.Sp
open Go
set_option linter.unusedVariables false
set_option maxRecDepth 100000
set_option maxHeartbeats 8000000
theorem zkd {u1:Wd} {v1:Wd} {x1:Option Rat}:Con yd 96 [.agg #[u1.b,u1.l,v1.b,v1.l]] [] [eF u1 v1 (x1)] (Y:=Unit) (fun y=>True) (fun y=> .bool (x1.isSome)) (fun y=>[]) (fun y=>[]):=by
  exact zyf (fun y hy h1 h2=>by subst hy;have h:= @zsd y.1.1 u1.p _ u1.c y.1.2 y.2.1 v1.p _ v1.c y.2.2 rfl rfl h1 h2;rw [qo_s];exact h)
theorem zQc {u1:Wd} {v1:Wd} {x1:Option Rat}:Con yd 65 [.agg #[u1.b,u1.l,v1.b,v1.l]] [] [eF u1 v1 (x1)] (Y:=Unit) (fun y=>True) (fun y=> .bool (x1.isSome)) (fun y=>[]) (fun y=>[]):=by
  exact zyf (fun y hy h1 h2=>by subst hy;have h:= @zic y.1.1 u1.p _ u1.c y.1.2 y.2.1 v1.p _ v1.c y.2.2 rfl rfl h1 h2;rw [qo_s];exact h)
theorem zgg {u1:Wd} {u2:Wd} {v1:Wd} {v2:Wd} {xo:Option Rat} {yo:Option Rat}:Con yd 66 [.agg #[u1.b,u1.l,u2.b,u2.l,v1.b,v1.l,v2.b,v2.l]] [] [eF u1 u2 xo,eF v1 v2 yo] (Y:=Unit) (fun y=>True) (fun y=> .bool (decide (xo.isSome=true∧yo.isSome=true))) (fun y=>[]) (fun y=>[]):=by
 refine zl Tryz.func66 rfl rfl rfl (fun c=> ?_)
 show RunC _ _ _ _ _ [(0,.agg #[u1.b,u1.l,u2.b,u2.l,v1.b,v1.l,v2.b,v2.l])] [] [eF u1 u2 xo,eF v1 v2 yo]
 refine ze<|za<|zI rfl rfl (zR rfl rfl) (fun b1=> ?_)
 refine e_p (zb rfl)<|zf<|zd<|zOa (X:=Unit) (fun x=>True) (fun x=>[(2,.bool (decide (xo.isSome=true∧yo.isSome=true)))]) (fun x=>[boxA b1 34 (cw [u1,u2,v1,v2])]) (fun x=>[eF u1 u2 xo,eF v1 v2 yo]) ?_ ?_
 ·
  refine za<|e_p (zg yj rfl sz32 rfl rfl)<|e_ru (zc 0 ty32 rfl rfl (.t4 .nil))<|zJ rfl rfl (.c rfl .n) ce96 (zkd (u1:=u1) (v1:=u2) (x1:=xo)) (.c (j:=0) rfl .n)<|zOd rfl rfl (zga rfl) (fun h2=> ?_) (fun h2=> ?_)
  ·
   refine e_p (zg yj rfl sz32 rfl rfl)<|e_ru (zc 0 ty32 rfl rfl (.s4 (.t4 .nil)))<|zJ rfl rfl (.c rfl .n) ce96 (zkd (u1:=v1) (v1:=v2) (x1:=yo)) (.c (j:=1) rfl .n)<|e_p (zE rfl rfl)<|e_p (zb rfl)<|zf ?_
   exact zT () tt9 ((.e rfl (congrArg Value.bool (by first|(simp_all;done)|(cases xo <;> cases yo <;> simp_all))) .n):SubM _ _) (ho:=(o0 rfl)) ((.of [0,1] rfl):SelR _ _ _)
  ·
   refine e_no<|e_no<|e_no<|e_p (zE rfl rfl)<|e_p (zb rfl)<|zf ?_
   exact zT () tt9 ((.e rfl (congrArg Value.bool (by first|(simp_all;done)|(cases xo <;> cases yo <;> simp_all))) .n):SubM _ _) (ho:=(o0 rfl)) ((.of [0,1] rfl):SelR _ _ _)
 ·
  rintro ⟨⟩ -
  try dsimp only [cw]
  refine zC ?_
  exact zu Tryz.results66 () trivial (zn rfl) rfl (ho:=oN) sN
theorem zhg {u1:Wd} {u2:Wd} {v1:Wd} {v2:Wd} {xo:Option Rat} {yo:Option Rat}:Con yd 36 [.agg #[u1.b,u1.l,u2.b,u2.l,v1.b,v1.l,v2.b,v2.l]] [] [eF u1 u2 xo,eF v1 v2 yo] (Y:=Unit) (fun y=>True) (fun y=> .bool (decide (xo.isSome=true∧yo.isSome=true))) (fun y=>[]) (fun y=>[]):=by
 refine zl Tryz.func36 rfl rfl rfl (fun c=> ?_)
 show RunC _ _ _ _ _ [(0,.agg #[u1.b,u1.l,u2.b,u2.l,v1.b,v1.l,v2.b,v2.l])] [] [eF u1 u2 xo,eF v1 v2 yo]
 refine ze<|za<|zI rfl rfl (zR rfl rfl) (fun b1=> ?_)
 refine e_p (zb rfl)<|zf<|zd<|zOa (X:=Unit) (fun x=>True) (fun x=>[(2,.bool (decide (xo.isSome=true∧yo.isSome=true)))]) (fun x=>[boxA b1 34 (cw [u1,u2,v1,v2])]) (fun x=>[eF u1 u2 xo,eF v1 v2 yo]) ?_ ?_
 ·
  refine za<|e_p (zg yj rfl sz32 rfl rfl)<|e_ru (zc 0 ty32 rfl rfl (.t4 .nil))<|zJ rfl rfl (.c rfl .n) ce65 (zQc (u1:=u1) (v1:=u2) (x1:=xo)) (.c (j:=0) rfl .n)<|zOd rfl rfl (zga rfl) (fun h2=> ?_) (fun h2=> ?_)
  ·
   refine e_p (zg yj rfl sz32 rfl rfl)<|e_ru (zc 0 ty32 rfl rfl (.s4 (.t4 .nil)))<|zJ rfl rfl (.c rfl .n) ce65 (zQc (u1:=v1) (v1:=v2) (x1:=yo)) (.c (j:=1) rfl .n)<|e_p (zE rfl rfl)<|e_p (zb rfl)<|zf ?_
   exact zT () tt9 ((.e rfl (congrArg Value.bool (by first|(simp_all;done)|(cases xo <;> cases yo <;> simp_all))) .n):SubM _ _) (ho:=(o0 rfl)) ((.of [0,1] rfl):SelR _ _ _)
  ·
   refine e_no<|e_no<|e_no<|e_p (zE rfl rfl)<|e_p (zb rfl)<|zf ?_
   exact zT () tt9 ((.e rfl (congrArg Value.bool (by first|(simp_all;done)|(cases xo <;> cases yo <;> simp_all))) .n):SubM _ _) (ho:=(o0 rfl)) ((.of [0,1] rfl):SelR _ _ _)
 ·
  rintro ⟨⟩ -
  try dsimp only [cw]
  refine zC ?_
  exact zu Tryz.results36 () trivial (zn rfl) rfl (ho:=oN) sN
theorem zwb {z1:Int} {z2:Int} (hz1: -9223372036854775808≤z1∧z1≤9223372036854775807) (hz2: -9223372036854775808≤z2∧z2≤9223372036854775807) (hy:z2≠0):Con yd 47 [.int .i64 z1,.int .i64 z2] [] [] (Y:=Wd×Wd) (fun y=>True) (fun y=> .agg #[y.1.b,y.1.l,y.2.b,y.2.l]) (fun y=>[]) (fun y=>[qF true y.1 y.2 (Rat.divInt z1 z2)]):=by
 refine zl Tryz.func47 rfl rfl rfl (fun c=> ?_)
 show RunC _ _ _ _ _ [(0,.int .i64 z1),(1,.int .i64 z2)] [] []
 refine ze<|za<|zI rfl rfl (zr zr32 rfl) (fun b1=> ?_)
 refine zf<|zd<|ze<|za<|e_mv rfl<|e_mv rfl<|zm rfl rfl (.c rfl (.c rfl .n)) ce79 (zBf (z1:=z1) (z2:=z2) (hz1:=ass) (hz2:=ass) (hy:=ass)) (.n) ?_
 rintro ⟨w32,w43⟩ -
 dsimp only [aq,nq,cq]
 refine e_mv rfl<|e_p (zq rfl rfl)<|e_p (zq rfl rfl)<|zI rfl rfl (zr zr32 rfl) (fun b4=> ?_)
 refine zj 0 rfl rfl rfl rfl rfl sz32 rfl (.t4 .nil) .z<|e_p (zb rfl)<|zf<|zd<|ze<|za<|e_ru (zc 0 ty32 rfl rfl (.t4 .nil))<|zj 1 rfl rfl rfl rfl rfl sz32 rfl (.t4 .nil) (.s .z)<|zf<|zd<|zC ?_
 exact zu Tryz.results47 (w32,w43) trivial (zo 1 ty32 rfl rfl (.t4 .nil)) rfl (ho:=oN) (s0 rfl)
end Go.Proofs.YtahiajepeodhoaaGreat.Sp
namespace Go.Proofs.YtahiajepeodhoaaGreat.Cam
open Big
set_option linter.unusedVariables false
abbrev OO:=Option Rat×Option Rat
def cnb (x:OO):Bool:=decide (x.1.isSome=true∧x.2.isSome=true)
theorem cnb_iff (x:OO):cnb x=true↔(x.1.isSome=true∧x.2.isSome=true):=decide_eq_true_iff
def pc (e:Ln) (l:List OO):Int:=if ck e=0 then (if l.all cnb=true then 0 else 1) else ck e
theorem pc_no {e:Ln} {l:List OO} (h:ck e≠0):pc e l=ck e:=if_neg h
theorem pc_bad {e:Ln} {l:List OO} {i:Nat} (h:ck e=0) (hi:i<l.length) (k:¬cnb (l.getD i (none,none))=true):pc e l=1:=by
  unfold pc;rw [if_pos h,if_neg]
  intro a;rw [List.all_eq_true] at a
  exact k (a _ (by rw [List.getD_eq_getElem?_getD,List.getElem?_eq_getElem hi];exact List.getElem_mem hi))
theorem pc_yes {e:Ln} {l:List OO} (h:ck e=0) (k:∀j,j<l.length→cnb (l.getD j (none,none))=true):pc e l=0:=by
  unfold pc;rw [if_pos h,if_pos]
  rw [List.all_eq_true];intro x hx
  obtain ⟨j,hj,rfl⟩:=List.getElem_of_mem hx
  have:=k j hj;rw [List.getD_eq_getElem?_getD,List.getElem?_eq_getElem hj] at this;exact this
theorem pc_0 {e:Ln} {x:OO} (h:pc e [x]=0):ok e∧x.1.isSome=true∧x.2.isSome=true:=by
  unfold pc at h;split at h
  · rename_i g; split at h
    · rename_i k;rw [List.all_cons,List.all_nil,Bool.and_true,cnb_iff] at k;exact ⟨ck_ok g,k⟩
    · omega
  · omega
theorem getD_take {α:Type} {l:List α} {i:Nat} {d:α} (h:i<l.length):l.take (i+1)=l.take i++[l.getD i d]:=by
  rw [List.take_add_one,List.getD_eq_getElem?_getD,List.getElem?_eq_getElem h];rfl
def sumL (l:List Rat):Rat:=l.foldl (· + ·) ((0:Int):Rat)
theorem sumL_take {l:List Rat} {i:Nat} (h:i<l.length):sumL (l.take (i+1))=sumL (l.take i)+l.getD i 0:=by
  unfold sumL;rw [getD_take (d:=0) h,List.foldl_append];rfl
def mulL (l:List Rat):Rat:=(l.drop 1).foldl (· * ·) (l.getD 0 0)
def mulT (l:List Rat) (i:Nat):Rat:=((l.drop 1).take i).foldl (· * ·) (l.getD 0 0)
theorem mulT_0 (l:List Rat):mulT l 0=l.getD 0 0:=rfl
theorem mulT_take {l:List Rat} {i:Nat} (h:i<(l.drop 1).length):mulT l (i+1)=mulT l i*(l.drop 1).getD i 0:=by
  unfold mulT;rw [getD_take (d:=0) h,List.foldl_append];rfl
theorem mulT_all {l:List Rat} {i:Nat} (h:(l.drop 1).length≤i):mulT l i=mulL l:=by
  unfold mulT mulL;rw [List.take_of_length_le h]
def hqA (b:Nat) (l:List Rat):Prop:=∀i,hq (l.getD i 0)≤b
theorem hqA_cons {b:Nat} {x:Rat} {l:List Rat} (h:hq x≤b) (k:hqA b l):hqA b (x :: l):=fun i=>by
  cases i with
  |zero=>exact h
  |succ i=>exact k i
theorem hqA_nil {b:Nat} (h:1≤b):hqA b []:=fun i=>by show hq (0:Rat)≤b;rw [hq_zero];exact h
theorem hqA_drop {b:Nat} {l:List Rat} (h:hqA b l) (k:Nat):hqA b (l.drop k):=fun i=>by
  have:=h (k+i);rw [List.getD_eq_getElem?_getD,List.getElem?_drop,←List.getD_eq_getElem?_getD];exact this
theorem sumL_hq {b:Nat} {l:List Rat} (h:hqA b l):∀i,hq (sumL (l.take i))≤1+i*(b+1)
  |0=>by show hq ((0:Int):Rat)≤_;have:hq ((0:Int):Rat)=1:=hq_zero;omega
  |i+1=>by
    by_cases k:i<l.length
    · rw [sumL_take k]; have a := sumL_hq h i; have c := hq_add (sumL (l.take i)) (l.getD i 0); have d := h i
      have e:(i+1)*(b+1)=i*(b+1)+(b+1):=Nat.succ_mul _ _
      omega
    · have a := sumL_hq h i; rw [List.take_of_length_le (by omega)] at a ⊢
      have e:(i+1)*(b+1)=i*(b+1)+(b+1):=Nat.succ_mul _ _
      omega
theorem mulT_hq {b:Nat} {l:List Rat} (h:hqA b l):∀i,hq (mulT l i)≤b+i*(b+1)
  |0=>by rw [mulT_0];have:=h 0;omega
  |i+1=>by
    by_cases k:i<(l.drop 1).length
    · rw [mulT_take k]; have a := mulT_hq h i; have c := hq_mul (mulT l i) ((l.drop 1).getD i 0); have d := hqA_drop h 1 i
      have e:(i+1)*(b+1)=i*(b+1)+(b+1):=Nat.succ_mul _ _
      omega
    · have a := mulT_hq h i; rw [mulT_all (by omega)] at a ⊢
      have e:(i+1)*(b+1)=i*(b+1)+(b+1):=Nat.succ_mul _ _
      omega
end Go.Proofs.YtahiajepeodhoaaGreat.Cam
namespace Go.Proofs.YtahiajepeodhoaaGreat.Sp
open Go
set_option linter.unusedVariables false
def rEE:Rp (Option Rat×Option Rat):=⟨8,Wd×Wd×Wd×Wd,fun _ w=>[w.1.b,w.1.l,w.2.1.b,w.2.1.l,w.2.2.1.b,w.2.2.1.l,w.2.2.2.b,w.2.2.2.l],fun g x w=>(eF w.1 w.2.1 x.1).on g∧(eF w.2.2.1 w.2.2.2 x.2).on g,fun _ _ _ _ h k=>⟨(eF _ _ _).mono _ _ h k.1,(eF _ _ _).mono _ _ h k.2⟩,fun _ _=>rfl,fun _ _=>rfl⟩
theorem open_rEE {A:Fa} {x:Option Rat×Option Rat} {w1 w2 w3 w4:Wd} {R:List Fa}:∀g,Holds g (A :: okF rEE x (w1,w2,w3,w4) :: R)→Holds g (A :: qF x.1.isSome w1 w2 (x.1.getD 0) :: eF w1 w2 x.1 :: qF x.2.isSome w3 w4 (x.2.getD 0) :: eF w3 w4 x.2 :: R):=fun g ⟨h,a,r⟩=>⟨h,eF_q a.1,a.1,eF_q a.2,a.2,r⟩
end Go.Proofs.YtahiajepeodhoaaGreat.Sp
namespace Go.Proofs.YtahiajepeodhoaaGreat.Sp
open Go
set_option linter.unusedVariables false
set_option maxRecDepth 100000
set_option maxHeartbeats 8000000
theorem zve {e:Cam.Ln} {p:Option Addr} {n:Nat} {cap:Nat} {l:List (Option Rat×Option Rat)} (hin:Cam.In e) (hn:l.length=n) (hn9:n≤9):Con yd 32 [.agg #[.int .i64 (e.f),.int .i64 (e.cx),.int .i64 (e.cy),.int .i64 (e.r0),.int .i64 (e.r1),.int .i64 (e.r2),.int .i64 (e.p1),.int .i64 (e.p2),.int .i64 (e.fd)],.slice p n cap] [] [slF rEE p cap l] (Y:=Unit) (fun y=>True) (fun y=> .int .i64 (Cam.pc e l)) (fun y=>[]) (fun y=>[]):=by
 refine zl Tryz.func32 rfl rfl rfl (fun c=> ?_)
 show RunC _ _ _ _ _ [(0,.agg #[.int .i64 (e.f),.int .i64 (e.cx),.int .i64 (e.cy),.int .i64 (e.r0),.int .i64 (e.r1),.int .i64 (e.r2),.int .i64 (e.p1),.int .i64 (e.p2),.int .i64 (e.fd)]),(1,.slice p n cap)] [] [slF rEE p cap l]
 refine zU 0 rfl (fun hL0=> ?_)
 refine ze<|za<|zI rfl rfl (zR rfl rfl) (fun b1=> ?_)
 refine e_p (zb rfl)<|zf<|zd<|ze<|ze<|za<|e_ru (zc 0 ty27 rfl rfl (.t8 (.take .nil)))<|zJ rfl rfl (.c rfl .n) ce24 (zBc (e:=e) (hin:=ass)) (.n)<|e_p (zb rfl)<|zf<|zd<|ze<|za<|e_mv rfl<|e_p (zib rfl rfl)<|zf<|zd<|zG rfl (fun h11=> ?_) (fun h11=> ?_)
 ·
  refine ze<|za<|e_mv rfl<|e_p (zb rfl)<|zf<|zd<|zC<|zk ?_
  exact zu Tryz.results32 () trivial (zn rfl) (by rw [Cam.pc_no h11]) (ho:=oN) sN
 ·
  refine zB<|zd<|ze<|ze<|za<|e_mv rfl<|e_p (zK yp rfl)<|e_mv rfl<|zf<|zd<|zx<|zja (X:=Nat) (fun x:Nat=>x≤n∧∀j,j<x→Cam.cnb (l.getD j (none,none))=true) (fun x=>[(15,.int .i64 ((x:Nat):Int)),(14,.int .i64 ((n:Nat):Int)),(13,.slice p n cap)]) (fun x=>[boxA b1 27 [.int .i64 (e.f),.int .i64 (e.cx),.int .i64 (e.cy),.int .i64 (e.r0),.int .i64 (e.r1),.int .i64 (e.r2),.int .i64 (e.p1),.int .i64 (e.p2),.int .i64 (e.fd)]]) (fun x=>[slF rEE p cap l]) (fun x:Nat=>n - x) 0 (show 0≤n∧∀j,j<0→Cam.cnb (l.getD j (none,none))=true from by exact ⟨Nat.zero_le _,fun j h=>by omega⟩) ((.e rfl cgs (.c rfl (.c rfl .n))):SubM _ _) (ho:=(o0 rfl)) (s0 rfl) ?_
  rintro i hI
  replace hI:i≤n∧∀j,j<i→Cam.cnb (l.getD j (none,none))=true:=hI
  try dsimp only
  obtain ⟨hi,hall⟩:=hI
  refine ze<|za<|e_p (zX rfl rfl)<|zf<|zd<|ze<|zG rfl (fun h2=> ?_) (fun h2=> ?_)
  ·
   refine zB<|zd<|ze<|zx<|ze<|za<|r_vl rfl rfl (zpa (x0:=(l.getD i ((none:Option Rat),(none:Option Rat)))) 0 i rfl yp sz34 rfl cbs rfl rfl (gD (d:=((none:Option Rat),(none:Option Rat))) om)) ?_
   rintro ⟨b3,o4,w5,w6,w7,w8⟩ -
   dsimp only [aq,nq,cq]
   refine zna open_rEE<|e_ru (zQ (j:=0) 0 ty34 rfl rfl rfl (.t8 .nil))<|zI rfl rfl (zr zr34 rfl) (fun b9=> ?_)
   refine zj 0 rfl rfl rfl rfl rfl sz34 rfl (.t8 .nil) .z<|zf<|zd<|ze<|za<|e_ru (zc 0 ty34 rfl rfl (.t8 .nil))<|zJ rfl rfl (.c rfl .n) ce66 (zgg (u1:=w5) (u2:=w6) (v1:=w7) (v2:=w8) (xo:=(l.getD i ((none:Option Rat),(none:Option Rat))).1) (yo:=(l.getD i ((none:Option Rat),(none:Option Rat))).2)) (.c (j:=2) rfl (.c (j:=4) rfl .n))<|e_p (zGa rfl)<|zf<|zd<|zG rfl (fun h21=> ?_) (fun h21=> ?_)
   ·
    refine ze<|za<|e_p (zb rfl)<|zf<|zd<|zC<|zM<|zk<|zk<|zM<|zk ?_
    exact zu Tryz.results32 () trivial (zn rfl) (by rw [Cam.pc_bad (Decidable.not_not.1 h11) (show i<l.length by omega) (fun k=>h21 ((Cam.cnb_iff _).1 k))]) (ho:=oN) sN
   ·
    refine zB<|zP<|zd<|za<|e_p (zL (z:=(((i+1):Nat):Int)) rfl rfl (w64 om))<|e_mv rfl<|zf<|zda (i+1) (show (i+1)≤n∧∀j,j<(i+1)→Cam.cnb (l.getD j (none,none))=true from by refine ⟨by omega,fun j hj=> ?_⟩;by_cases e1:j=i;subst e1;exact (Cam.cnb_iff _).2 (Decidable.not_not.1 h21);exact hall j om) (by show n - (i+1)<n - i;omega) (mR rfl) (ho:=((.c (i:=1) rfl .n):PickO _ _ _)) ((.c (j:=5) rfl .n):SelR _ _ _)
  ·
   refine zfa<|zi<|zi<|zw<|zd<|ze<|za<|e_p (zb rfl)<|zf<|zd<|zC ?_
   exact zu Tryz.results32 () trivial (zn rfl) (by rw [Cam.pc_yes (Decidable.not_not.1 h11) (fun j hj=>hall j om)]) (ho:=oN) sN
theorem zKf {e:Cam.Ln} {p:Option Addr} {n:Nat} {cap:Nat} {l:List (Option Rat×Option Rat)} (hin:Cam.In e) (hn:l.length=n) (hn9:n≤9):Con yd 9 [.agg #[.int .i64 (e.f),.int .i64 (e.cx),.int .i64 (e.cy),.int .i64 (e.r0),.int .i64 (e.r1),.int .i64 (e.r2),.int .i64 (e.p1),.int .i64 (e.p2),.int .i64 (e.fd)],.slice p n cap] [] [slF rEE p cap l] (Y:=Unit) (fun y=>True) (fun y=> .int .i64 (Cam.pc e l)) (fun y=>[]) (fun y=>[]):=by
 refine zl Tryz.func9 rfl rfl rfl (fun c=> ?_)
 show RunC _ _ _ _ _ [(0,.agg #[.int .i64 (e.f),.int .i64 (e.cx),.int .i64 (e.cy),.int .i64 (e.r0),.int .i64 (e.r1),.int .i64 (e.r2),.int .i64 (e.p1),.int .i64 (e.p2),.int .i64 (e.fd)]),(1,.slice p n cap)] [] [slF rEE p cap l]
 refine zU 0 rfl (fun hL0=> ?_)
 refine ze<|za<|zI rfl rfl (zR rfl rfl) (fun b1=> ?_)
 refine e_p (zb rfl)<|zf<|zd<|ze<|ze<|za<|e_ru (zc 0 ty27 rfl rfl (.t8 (.take .nil)))<|zJ rfl rfl (.c rfl .n) ce25 (zoe (e:=e) (hin:=ass)) (.n)<|e_p (zb rfl)<|zf<|zd<|ze<|za<|e_mv rfl<|e_p (zib rfl rfl)<|zf<|zd<|zG rfl (fun h11=> ?_) (fun h11=> ?_)
 ·
  refine ze<|za<|e_mv rfl<|e_p (zb rfl)<|zf<|zd<|zC<|zk ?_
  exact zu Tryz.results9 () trivial (zn rfl) (by rw [Cam.pc_no h11]) (ho:=oN) sN
 ·
  refine zB<|zd<|ze<|ze<|za<|e_mv rfl<|e_p (zK yp rfl)<|e_mv rfl<|zf<|zd<|zx<|zja (X:=Nat) (fun x:Nat=>x≤n∧∀j,j<x→Cam.cnb (l.getD j (none,none))=true) (fun x=>[(15,.int .i64 ((x:Nat):Int)),(14,.int .i64 ((n:Nat):Int)),(13,.slice p n cap)]) (fun x=>[boxA b1 27 [.int .i64 (e.f),.int .i64 (e.cx),.int .i64 (e.cy),.int .i64 (e.r0),.int .i64 (e.r1),.int .i64 (e.r2),.int .i64 (e.p1),.int .i64 (e.p2),.int .i64 (e.fd)]]) (fun x=>[slF rEE p cap l]) (fun x:Nat=>n - x) 0 (show 0≤n∧∀j,j<0→Cam.cnb (l.getD j (none,none))=true from by exact ⟨Nat.zero_le _,fun j h=>by omega⟩) ((.e rfl cgs (.c rfl (.c rfl .n))):SubM _ _) (ho:=(o0 rfl)) (s0 rfl) ?_
  rintro i hI
  replace hI:i≤n∧∀j,j<i→Cam.cnb (l.getD j (none,none))=true:=hI
  try dsimp only
  obtain ⟨hi,hall⟩:=hI
  refine ze<|za<|e_p (zX rfl rfl)<|zf<|zd<|ze<|zG rfl (fun h2=> ?_) (fun h2=> ?_)
  ·
   refine zB<|zd<|ze<|zx<|ze<|za<|r_vl rfl rfl (zpa (x0:=(l.getD i ((none:Option Rat),(none:Option Rat)))) 0 i rfl yp sz34 rfl cbs rfl rfl (gD (d:=((none:Option Rat),(none:Option Rat))) om)) ?_
   rintro ⟨b3,o4,w5,w6,w7,w8⟩ -
   dsimp only [aq,nq,cq]
   refine zna open_rEE<|e_ru (zQ (j:=0) 0 ty34 rfl rfl rfl (.t8 .nil))<|zI rfl rfl (zr zr34 rfl) (fun b9=> ?_)
   refine zj 0 rfl rfl rfl rfl rfl sz34 rfl (.t8 .nil) .z<|zf<|zd<|ze<|za<|e_ru (zc 0 ty34 rfl rfl (.t8 .nil))<|zJ rfl rfl (.c rfl .n) ce36 (zhg (u1:=w5) (u2:=w6) (v1:=w7) (v2:=w8) (xo:=(l.getD i ((none:Option Rat),(none:Option Rat))).1) (yo:=(l.getD i ((none:Option Rat),(none:Option Rat))).2)) (.c (j:=2) rfl (.c (j:=4) rfl .n))<|e_p (zGa rfl)<|zf<|zd<|zG rfl (fun h21=> ?_) (fun h21=> ?_)
   ·
    refine ze<|za<|e_p (zb rfl)<|zf<|zd<|zC<|zM<|zk<|zk<|zM<|zk ?_
    exact zu Tryz.results9 () trivial (zn rfl) (by rw [Cam.pc_bad (Decidable.not_not.1 h11) (show i<l.length by omega) (fun k=>h21 ((Cam.cnb_iff _).1 k))]) (ho:=oN) sN
   ·
    refine zB<|zP<|zd<|za<|e_p (zL (z:=(((i+1):Nat):Int)) rfl rfl (w64 om))<|e_mv rfl<|zf<|zda (i+1) (show (i+1)≤n∧∀j,j<(i+1)→Cam.cnb (l.getD j (none,none))=true from by refine ⟨by omega,fun j hj=> ?_⟩;by_cases e1:j=i;subst e1;exact (Cam.cnb_iff _).2 (Decidable.not_not.1 h21);exact hall j om) (by show n - (i+1)<n - i;omega) (mR rfl) (ho:=((.c (i:=1) rfl .n):PickO _ _ _)) ((.c (j:=5) rfl .n):SelR _ _ _)
  ·
   refine zfa<|zi<|zi<|zw<|zd<|ze<|za<|e_p (zb rfl)<|zf<|zd<|zC ?_
   exact zu Tryz.results9 () trivial (zn rfl) (by rw [Cam.pc_yes (Decidable.not_not.1 h11) (fun j hj=>hall j om)]) (ho:=oN) sN
end Go.Proofs.YtahiajepeodhoaaGreat.Sp
namespace Go.Proofs.YtahiajepeodhoaaGreat.Sp
open Go
set_option linter.unusedVariables false
set_option maxRecDepth 100000
set_option maxHeartbeats 8000000
theorem zMg {p:Option Addr} {n:Nat} {cap:Nat} {l:List Rat} (hn:l.length=n) (hn9:n≤9) (hl:Cam.hqA 1000000000 l):Con yd 92 [.slice p n cap] [] [slF rQ p cap l] (Y:=Wd×Wd) (fun y=>True) (fun y=> .agg #[y.1.b,y.1.l,y.2.b,y.2.l]) (fun y=>[]) (fun y=>[qF true y.1 y.2 (Cam.sumL l)]):=by
 refine zl Tryz.func92 rfl rfl rfl (fun c=> ?_)
 show RunC _ _ _ _ _ [(0,.slice p n cap)] [] [slF rQ p cap l]
 refine zU 0 rfl (fun hL0=> ?_)
 refine ze<|za<|zI rfl rfl (zr zr32 rfl) (fun b1=> ?_)
 refine zf<|zd<|ze<|za<|zm rfl rfl (.c rfl .n) ce58 (zxa (z:=0) (hz:=by first|rfl|assumption|omega|(have h1:=Cam.sumL_hq hl i;have h2:=hl i;have h3:i*1000000001≤9*1000000001:=Nat.mul_le_mul_right _ om;omega))) (.n) ?_
 rintro ⟨w32,w43⟩ -
 dsimp only [aq,nq,cq]
 refine zI rfl rfl (zr zr32 rfl) (fun b4=> ?_)
 refine zj 0 rfl rfl rfl rfl rfl sz32 rfl (.t4 .nil) .z<|zf<|zd<|ze<|ze<|za<|e_mv rfl<|e_p (zK ya rfl)<|e_mv rfl<|zf<|zd<|zx<|zja (X:=Nat×Wd×Wd) (fun x:Nat×Wd×Wd=>x.1≤n) (fun x=>[(9,.int .i64 ((x.1:Nat):Int)),(8,.int .i64 ((n:Nat):Int)),(7,.slice p n cap),(3,.pointer (some ⟨b4,0,none⟩)),(2,.pointer (some ⟨b1,0,none⟩))]) (fun x=>[boxA b4 32 (cw [x.2.1,x.2.2]),boxA b1 32 (cw [wz,wz])]) (fun x=>[qF true x.2.1 x.2.2 (Cam.sumL (l.take x.1)),qF true w32 w43 ((0:Int):Rat),slF rQ p cap l]) (fun x:Nat×Wd×Wd=>n - x.1) (0,w32,w43) (show 0≤n from by exact Nat.zero_le _) ((.e rfl cgs (.of rfl)):SubM _ _) (ho:=((.of [0,0] rfl):PickO _ _ _)) ((.e (j:=0) rfl (by rfl) (.of [0,1] rfl)):SelR _ _ _) ?_
 rintro ⟨i,wa,wb⟩ hI
 replace hI:i≤n:=hI
 try dsimp only [cw]
 refine ze<|za<|e_p (zX rfl rfl)<|zf<|zd<|ze<|zG rfl (fun h5=> ?_) (fun h5=> ?_)
 ·
  refine zB<|zd<|ze<|zx<|ze<|za<|r_vl rfl rfl (zpa (x0:=(l.getD i (0:Rat))) 2 i rfl ya sz32 rfl cbs rfl rfl (gD (d:=(0:Rat)) om)) ?_
  rintro ⟨b6,o7,w8,w9⟩ -
  dsimp only [aq,nq,cq]
  refine zna open_rQ<|e_ru (zQ (j:=0) 0 ty32 rfl rfl rfl (.t4 .nil))<|zI rfl rfl (zr zr32 rfl) (fun b10=> ?_)
  refine zj 0 rfl rfl rfl rfl rfl sz32 rfl (.t4 .nil) .z<|zf<|zd<|za<|e_ru (zc 1 ty32 rfl rfl (.t4 .nil))<|e_ru (zc 0 ty32 rfl rfl (.t4 .nil))<|zm rfl rfl (.c rfl (.c rfl .n)) ce102 (zvc (k1:=true) (u1:=wa) (v1:=wb) (q1:=(Cam.sumL (l.take i))) (k2:=true) (u2:=w8) (v2:=w9) (q2:=(l.getD i (0:Rat))) (hl:=by first|rfl|assumption|omega|(have h1:=Cam.sumL_hq hl i;have h2:=hl i;have h3:i*1000000001≤9*1000000001:=Nat.mul_le_mul_right _ om;omega))) (.c (j:=2) rfl (.c (j:=1) rfl .n)) ?_
  rintro ⟨w311,w412⟩ -
  dsimp only [aq,nq,cq]
  refine zj 1 rfl rfl rfl rfl rfl sz32 rfl (.t4 .nil) (.s .z)<|zf<|zP<|zd<|za<|e_p (zL (z:=(((i+1):Nat):Int)) rfl rfl (w64 om))<|e_mv rfl<|zf<|zda ((i+1),w311,w412) (show (i+1)≤n from by show i+1≤n;omega) (by show n - (i+1)<n - i;omega) (mR rfl) (ho:=((.of [1,1] rfl):PickO _ _ _)) ((.e (j:=0) rfl (by rw [Cam.sumL_take om]) (.of [4,5] rfl)):SelR _ _ _)
 ·
  refine zfa<|zi<|zi<|zw<|zd<|ze<|za<|e_ru (zc 0 ty32 rfl rfl (.t4 .nil))<|zj 1 rfl rfl rfl rfl rfl sz32 rfl (.t4 .nil) (.s .z)<|zf<|zd<|zC ?_
  have hfin:l.take i=l:=List.take_of_length_le om
  exact zu Tryz.results92 (wa,wb) trivial (zo 1 ty32 rfl rfl (.t4 .nil)) rfl (ho:=oN) ((.e (j:=0) rfl (by rw [hfin]) .n):SelR _ _ _)
theorem zAb {p:Option Addr} {n:Nat} {cap:Nat} {l:List Rat} (hn:l.length=n) (hn9:n≤9) (hl:Cam.hqA 1000000000 l):Con yd 59 [.slice p n cap] [] [slF rQ p cap l] (Y:=Wd×Wd) (fun y=>True) (fun y=> .agg #[y.1.b,y.1.l,y.2.b,y.2.l]) (fun y=>[]) (fun y=>[qF true y.1 y.2 (Cam.sumL l)]):=by
 refine zl Tryz.func59 rfl rfl rfl (fun c=> ?_)
 show RunC _ _ _ _ _ [(0,.slice p n cap)] [] [slF rQ p cap l]
 refine zU 0 rfl (fun hL0=> ?_)
 refine ze<|za<|zI rfl rfl (zr zr32 rfl) (fun b1=> ?_)
 refine zf<|zd<|ze<|za<|e_mv rfl<|zm rfl rfl (.c rfl .n) ce92 (zMg (p:=p) (n:=n) (cap:=cap) (l:=l) (hn:=ass) (hn9:=ass) (hl:=ass)) (.c (j:=0) rfl .n) ?_
 rintro ⟨w32,w43⟩ -
 dsimp only [aq,nq,cq]
 refine zj 0 rfl rfl rfl rfl rfl sz32 rfl (.t4 .nil) .z<|zf<|zd<|zC ?_
 exact zu Tryz.results59 (w32,w43) trivial (zo 0 ty32 rfl rfl (.t4 .nil)) rfl (ho:=oN) (s0 rfl)
theorem zAa {p:Option Addr} {n:Nat} {cap:Nat} {l:List Rat} (hn:l.length=n) (hn9:n≤9) (hl:Cam.hqA 1000000000 l) (hn1:1≤n):Con yd 56 [.slice p n cap] [] [slF rQ p cap l] (Y:=Wd×Wd) (fun y=>True) (fun y=> .agg #[y.1.b,y.1.l,y.2.b,y.2.l]) (fun y=>[]) (fun y=>[qF true y.1 y.2 (Cam.mulL l)]):=by
 refine zl Tryz.func56 rfl rfl rfl (fun c=> ?_)
 show RunC _ _ _ _ _ [(0,.slice p n cap)] [] [slF rQ p cap l]
 refine zU 0 rfl (fun hL0=> ?_)
 have hdl:(l.drop 1).length=n - 1:=by rw [List.length_drop];omega
 refine ze<|za<|zI rfl rfl (zr zr32 rfl) (fun b1=> ?_)
 refine zf<|zd<|ze<|za<|e_mv rfl<|r_vl rfl rfl (zpa (x0:=(l.getD 0 (0:Rat))) 0 0 rfl ya sz32 rfl (by first|rfl|assumption|omega|(simp;done)|(simp;omega)) rfl rfl (gD (d:=(0:Rat)) om)) ?_
 rintro ⟨b2,o3,w4,w5⟩ -
 dsimp only [aq,nq,cq]
 refine zna open_rQ<|e_ru (zQ (j:=0) 0 ty32 rfl rfl rfl (.t4 .nil))<|zI rfl rfl (zr zr32 rfl) (fun b6=> ?_)
 refine zj 0 rfl rfl rfl rfl rfl sz32 rfl (.t4 .nil) .z<|zf<|zd<|ze<|ze<|za<|e_mv rfl<|e_p (zzd (lo:=1) (hi:=n) ya sz32 rfl (.s rfl) .n (.inr ⟨_,rfl⟩) (.inl ⟨rfl,rfl⟩) om om)<|zmc (zBe 2 rfl 1 n om om) (fun _ _=> ?_)
 have e7:((l.take n).drop 1:List Rat)=(l.drop 1):=by rw [List.take_of_length_le om]
 rw [e7]
 refine e_p (zK ya rfl)<|e_mv rfl<|zf<|zd<|zx<|zja (X:=Nat×Wd×Wd) (fun x:Nat×Wd×Wd=>x.1≤n - 1) (fun x=>[(12,.int .i64 ((x.1:Nat):Int)),(11,.int .i64 ((n - 1:Nat):Int)),(10,.slice (newP p cap 1 4) (n - 1) (cap - 1)),(3,.pointer (some ⟨b6,0,none⟩)),(2,.pointer (some ⟨b1,0,none⟩))]) (fun x=>[boxA b6 32 (cw [x.2.1,x.2.2]),boxA b1 32 (cw [wz,wz])]) (fun x=>[qF true x.2.1 x.2.2 (Cam.mulT l x.1),slF rQ (newP p cap 1 4) (cap - 1) (l.drop 1),atF b2 o3 [w4.b,w4.l,w5.b,w5.l],qF true w4 w5 (l.getD 0 (0:Rat)),slF rQ p cap l]) (fun x:Nat×Wd×Wd=>n - x.1) (0,w4,w5) (show 0≤n - 1 from by exact Nat.zero_le _) ((.e rfl cgs (.of rfl)):SubM _ _) (ho:=((.of [0,0] rfl):PickO _ _ _)) ((.e (j:=2) rfl (by rfl) (.of [0,1,2,3] rfl)):SelR _ _ _) ?_
 rintro ⟨i,wa,wb⟩ hI
 replace hI:i≤n - 1:=hI
 try dsimp only [cw]
 refine ze<|za<|e_p (zX rfl rfl)<|zf<|zd<|ze<|zG rfl (fun h8=> ?_) (fun h8=> ?_)
 ·
  refine zB<|zd<|ze<|zx<|ze<|za<|r_vl rfl rfl (zpa (x0:=((l.drop 1).getD i (0:Rat))) 1 i rfl ya sz32 rfl (by first|rfl|assumption|omega|(simp;done)|(simp;omega)) rfl rfl (gD (d:=(0:Rat)) om)) ?_
  rintro ⟨b9,o10,w11,w12⟩ -
  dsimp only [aq,nq,cq]
  refine zna open_rQ<|e_ru (zQ (j:=0) 0 ty32 rfl rfl rfl (.t4 .nil))<|zI rfl rfl (zr zr32 rfl) (fun b13=> ?_)
  refine zj 0 rfl rfl rfl rfl rfl sz32 rfl (.t4 .nil) .z<|zf<|zd<|za<|e_ru (zc 1 ty32 rfl rfl (.t4 .nil))<|e_ru (zc 0 ty32 rfl rfl (.t4 .nil))<|zm rfl rfl (.c rfl (.c rfl .n)) ce89 (zWc (k1:=true) (u1:=wa) (v1:=wb) (q1:=(Cam.mulT l i)) (k2:=true) (u2:=w11) (v2:=w12) (q2:=((l.drop 1).getD i (0:Rat))) (hl:=by first|rfl|assumption|omega|(have h1:=Cam.mulT_hq hl i;have h2:=Cam.hqA_drop hl 1 i;have h3:i*1000000001≤9*1000000001:=Nat.mul_le_mul_right _ om;omega))) (.c (j:=2) rfl (.c (j:=1) rfl .n)) ?_
  rintro ⟨w314,w415⟩ -
  dsimp only [aq,nq,cq]
  refine zj 1 rfl rfl rfl rfl rfl sz32 rfl (.t4 .nil) (.s .z)<|zf<|zP<|zd<|za<|e_p (zL (z:=(((i+1):Nat):Int)) rfl rfl (w64 om))<|e_mv rfl<|zf<|zda ((i+1),w314,w415) (show (i+1)≤n - 1 from by show i+1≤n - 1;omega) (by show n - (i+1)<n - i;omega) (mR rfl) (ho:=((.of [1,1] rfl):PickO _ _ _)) ((.e (j:=0) rfl (by rw [Cam.mulT_take (by simp;omega)]) (.of [4,5,6,7] rfl)):SelR _ _ _)
 ·
  refine zfa<|zi<|zi<|zw<|zd<|ze<|za<|e_ru (zc 0 ty32 rfl rfl (.t4 .nil))<|zj 1 rfl rfl rfl rfl rfl sz32 rfl (.t4 .nil) (.s .z)<|zf<|zd<|zC ?_
  exact zu Tryz.results56 (wa,wb) trivial (zo 1 ty32 rfl rfl (.t4 .nil)) rfl (ho:=oN) ((.e (j:=0) rfl (by rw [Cam.mulT_all (l:=l) (i:=i) (by simp;omega)]) .n):SelR _ _ _)
end Go.Proofs.YtahiajepeodhoaaGreat.Sp
namespace Go.Proofs.YtahiajepeodhoaaGreat.Cam
open Big
set_option linter.unusedVariables false
theorem mul2 (a b:Rat):mulL [a,b]=a*b:=rfl
theorem mul3 (a b c:Rat):mulL [a,b,c]=a*b*c:=rfl
theorem sum2 (a b:Rat):sumL [a,b]=a+b:=by
  show ((0:Int):Rat)+a+b=_
  rw [show ((0:Int):Rat)=0 from rfl,Rat.zero_add]
theorem sum3 (a b c:Rat):sumL [a,b,c]=a+b+c:=by
  show ((0:Int):Rat)+a+b+c=_
  rw [show ((0:Int):Rat)=0 from rfl,Rat.zero_add]
def sq (x y:Rat):Rat:=x*x+y*y
theorem sq_sum (x y:Rat):sumL [mulL [x,x],mulL [y,y]]=sq x y:=by rw [sum2,mul2,mul2];rfl
def lim (e:Ln):Rat:=Rat.divInt e.fd e.f*Rat.divInt e.fd e.f
theorem dq {n d:Int} (hd:d≠0) (h1: -9223372036854775808≤n∧n≤9223372036854775807) (h2: -9223372036854775808≤d∧d≤9223372036854775807):hq (Rat.divInt n d)≤3:=by
  have a:=zSc h1.1 h1.2
  have b:=zSc h2.1 h2.2
  have c:=hq_divInt (n:=n) hd
  omega
theorem iq {n:Int} (h1: -9223372036854775808≤n∧n≤9223372036854775807):hq (n:Rat)≤3:=by
  have a:=zSc h1.1 h1.2
  have c:=hq_int n
  omega
theorem sq_hq {x y:Rat} {K:Nat} (h1:hq x≤K) (h2:hq y≤K):hq (sq x y)≤4*K+1:=by
  have a:=hq_mul x x
  have b:=hq_mul y y
  have c:=hq_add (x*x) (y*y)
  unfold sq;omega
theorem lim_hq {e:Ln} (hin:In e) (h:ok e):hq (lim e)≤6:=by
  have a:=dq (n:=e.fd) (d:=e.f) (by have:=h.1.1.1;omega) hin.fd hin.f
  have b:=hq_mul (Rat.divInt e.fd e.f) (Rat.divInt e.fd e.f)
  unfold lim;omega
def rad (e:Ln):List Rat:=[((1:Int):Rat),Rat.divInt e.r0 0x100000,Rat.divInt e.r1 0x100000,Rat.divInt e.r2 0x100000]
def rl (e:Ln):List Rat:=Po.cl (rad e)
def tP1 (e:Ln):Rat:=Rat.divInt e.p1 0x100000
def tP2 (e:Ln):Rat:=Rat.divInt e.p2 0x100000
def dX (e:Ln) (x y:Rat):Rat:=x*Po.ev (sq x y) (rl e)+tP1 e*(((2:Int):Rat)*x*y)+tP2 e*(sq x y+((2:Int):Rat)*x*x)
def dY (e:Ln) (x y:Rat):Rat:=y*Po.ev (sq x y) (rl e)+tP1 e*(sq x y+((2:Int):Rat)*y*y)+tP2 e*(((2:Int):Rat)*x*y)
theorem pq {n:Int} (h1: -9223372036854775808≤n∧n≤9223372036854775807):hq (Rat.divInt n 0x100000)≤3:=dq (by decide) h1 (by decide)
theorem hq_1:hq ((1:Int):Rat)≤3:=by decide
theorem rad_hq {e:Ln} (h:In e):∀i,hq ((rad e).getD i 0)≤3
  |0=>hq_1
  |1=>pq h.r0
  |2=>pq h.r1
  |3=>pq h.r2
  |n+4=>by show hq (0:Rat)≤3;rw [hq_zero];decide
theorem rl_hq {e:Ln} (h:In e) (i:Nat):hq ((rl e).getD i 0)≤3:=by rw [rl,Po.cl_get];exact rad_hq h i
theorem rl_len (e:Ln):(rl e).length≤4:=by
  rw [rl,Po.cl_len];exact Po.tn_le _ _
theorem ev_hq {x:Rat} {K:Nat} (hx:hq x≤K):∀(l:List Rat),(∀i,hq (l.getD i 0)≤3)→hq (Po.ev x l)≤1+l.length*(K+4)
  |[],_=>by show hq (0:Rat)≤_;rw [hq_zero];omega
  |a :: l,h=>by
    have ih:=ev_hq hx l (fun i=>h (i+1))
    have b:=hq_mul (Po.ev x l) x
    have c:=hq_add (Po.ev x l*x) a
    have d:hq a≤3:=h 0
    have e:(l.length+1)*(K+4)=l.length*(K+4)+(K+4):=Nat.succ_mul _ _
    show hq (Po.ev x l*x+a)≤1+(l.length+1)*(K+4)
    omega
theorem rl_drop {e:Ln} {x:Rat} {K:Nat} (h:In e) (hx:hq x≤K) (i:Nat):hq (Po.ev x ((rl e).drop i))≤1+4*(K+4):=by
  have a:=ev_hq hx ((rl e).drop i) (fun j=>by have:=rl_hq h (i+j);rw [List.getD_eq_getElem?_getD,List.getElem?_drop,←List.getD_eq_getElem?_getD];exact this)
  have b:=rl_len e
  have c:((rl e).drop i).length≤4:=by rw [List.length_drop];omega
  have d:((rl e).drop i).length*(K+4)≤4*(K+4):=Nat.mul_le_mul_right _ c
  omega
end Go.Proofs.YtahiajepeodhoaaGreat.Cam
namespace Go.Proofs.YtahiajepeodhoaaGreat.Sp
open Go
set_option linter.unusedVariables false
set_option maxRecDepth 100000
set_option maxHeartbeats 8000000
theorem zld {u1:Wd} {u2:Wd} {v1:Wd} {v2:Wd} {qx:Rat} {qy:Rat} (hx:ym qx≤100) (hy:ym qy≤100):Con yd 69 [.agg #[u1.b,u1.l,u2.b,u2.l,v1.b,v1.l,v2.b,v2.l]] [] [qF true u1 u2 qx,qF true v1 v2 qy] (Y:=Wd×Wd) (fun y=>True) (fun y=> .agg #[y.1.b,y.1.l,y.2.b,y.2.l]) (fun y=>[]) (fun y=>[qF true y.1 y.2 (Cam.sq qx qy)]):=by
 refine zl Tryz.func69 rfl rfl rfl (fun c=> ?_)
 show RunC _ _ _ _ _ [(0,.agg #[u1.b,u1.l,u2.b,u2.l,v1.b,v1.l,v2.b,v2.l])] [] [qF true u1 u2 qx,qF true v1 v2 qy]
 have hm1:=Big.hq_mul qx qx
 have hm2:=Big.hq_mul qy qy
 have hm3:=Big.hq_add (qx*qx) (qy*qy)
 refine ze<|za<|zI rfl rfl (zR rfl rfl) (fun b1=> ?_)
 refine zI rfl rfl (zr zr32 rfl) (fun b2=> ?_)
 refine zf<|zd<|ze<|zV (OW:=[boxA b2 32 (cw [wz,wz])]) (O:=[boxA b1 34 (cw [u1,u2,v1,v2])]) 14 mixed (.then .ret) kr<|e_pv 0 rfl rfl (zg yj rfl sz32 rfl rfl)<|e_uw 1 rfl rfl (zc 1 ty32 rfl rfl (.t4 .nil))<|e_pv 2 rfl rfl (zg yj rfl sz32 rfl rfl)<|e_uw 3 rfl rfl (zc 1 ty32 rfl rfl (.t4 .nil))<|e_pv 6 rfl rfl (zg yj rfl sz32 rfl rfl)<|e_uw 7 rfl rfl (zc 1 ty32 rfl rfl (.s4 (.t4 .nil)))<|e_pv 8 rfl rfl (zg yj rfl sz32 rfl rfl)<|e_uw 9 rfl rfl (zc 1 ty32 rfl rfl (.s4 (.t4 .nil)))<|zW (m':=[(12,.agg (cw [v1,v2]).toArray),(10,.agg (cw [v1,v2]).toArray),(6,.agg (cw [u1,u2]).toArray),(4,.agg (cw [u1,u2]).toArray),(2,.pointer (some ⟨b2,0,none⟩))]) (R':=[qF true u1 u2 qx,qF true v1 v2 qy]) (mR rfl) (List.Perm.refl _) (List.Perm.refl _) ((.of [0,1] rfl):SelR _ _ _)<|a_start<|a_step 4 rfl (X:=Nat) (fun x=> .slice (some ⟨x,0,none⟩) 2 2) (fun x=>[]) (fun x=>[slF rQ (some ⟨x,0,none⟩) 2 ([qx,qx])]) [] kr rfl kr kr kr (fun _=> ?_) ?_
 ·
  refine zW (m':=[(6,.agg (cw [u1,u2]).toArray),(4,.agg (cw [u1,u2]).toArray)]) (R':=[qF true u1 u2 qx]) ((.c rfl (.c rfl .n)):SubM _ _) (List.Perm.refl _) (List.Perm.refl _) (s0 rfl)<|e_one 0 (zIa rfl rfl rfl rfl (zA (r:=rQ) (k:=2) ya inf32 rfl dd dd dd (.c (x:=qx) (cs:=[u1.b,u1.l,u2.b,u2.l]) (u1,u2) rfl rfl rfl (fun g hr=>Holds.get 0 rfl hr) (.c (x:=qx) (cs:=[u1.b,u1.l,u2.b,u2.l]) (u1,u2) rfl rfl rfl (fun g hr=>Holds.get 0 rfl hr) .n))) (fun u4_1 _=> ?_))
  refine zla 0 rfl .z<|zH kr ?_
  exact zT u4_1 trivial ((.c rfl .n):SubM _ _) (ho:=oN) (s0 rfl)
 refine a_step 5 rfl (X:=Wd×Wd) (fun x=> .agg #[x.1.b,x.1.l,x.2.b,x.2.l]) (fun x=>[]) (fun x=>[qF true x.1 x.2 (Cam.mulL ([qx,qx]))]) [0] kr rfl kr kr kr (fun _=> ?_) ?_
 ·
  rintro g4_0
  refine zW (m':=[(7,.slice (some ⟨g4_0,0,none⟩) 2 2)]) (R':=[slF rQ (some ⟨g4_0,0,none⟩) 2 ([qx,qx])]) ((.c rfl .n):SubM _ _) (List.Perm.refl _) (List.Perm.refl _) (s0 rfl)<|e_one 0 (zp rfl rfl rfl rfl (.c rfl .n) ce56 (zAa (p:=some ⟨g4_0,0,none⟩) (n:=2) (cap:=2) (l:=[qx,qx]) (hn:=cbo) (hn9:=cbo) (hl:=by exact Cam.hqA_cons om (Cam.hqA_cons om (Cam.hqA_nil dd))) (hn1:=cbo)) (.c (j:=0) rfl .n) ?_)
  rintro ⟨u5_1,u5_2⟩ -
  dsimp only [aq,nq,cq]
  refine zH kr ?_
  exact zT (u5_1,u5_2) trivial ((.c rfl .n):SubM _ _) (ho:=oN) (s0 rfl)
 refine a_step 10 rfl (X:=Nat) (fun x=> .slice (some ⟨x,0,none⟩) 2 2) (fun x=>[]) (fun x=>[slF rQ (some ⟨x,0,none⟩) 2 ([qy,qy])]) [] kr rfl kr kr kr (fun _=> ?_) ?_
 ·
  refine zW (m':=[(12,.agg (cw [v1,v2]).toArray),(10,.agg (cw [v1,v2]).toArray)]) (R':=[qF true v1 v2 qy]) ((.c rfl (.c rfl .n)):SubM _ _) (List.Perm.refl _) (List.Perm.refl _) ((.c (j:=1) rfl .n):SelR _ _ _)<|e_one 0 (zIa rfl rfl rfl rfl (zA (r:=rQ) (k:=2) ya inf32 rfl dd dd dd (.c (x:=qy) (cs:=[v1.b,v1.l,v2.b,v2.l]) (v1,v2) rfl rfl rfl (fun g hr=>Holds.get 0 rfl hr) (.c (x:=qy) (cs:=[v1.b,v1.l,v2.b,v2.l]) (v1,v2) rfl rfl rfl (fun g hr=>Holds.get 0 rfl hr) .n))) (fun u10_1 _=> ?_))
  refine zla 0 rfl .z<|zH kr ?_
  exact zT u10_1 trivial ((.c rfl .n):SubM _ _) (ho:=oN) (s0 rfl)
 refine a_step 11 rfl (X:=Wd×Wd) (fun x=> .agg #[x.1.b,x.1.l,x.2.b,x.2.l]) (fun x=>[]) (fun x=>[qF true x.1 x.2 (Cam.mulL ([qy,qy]))]) [0] kr rfl kr kr kr (fun _=> ?_) ?_
 ·
  rintro g10_0
  refine zW (m':=[(13,.slice (some ⟨g10_0,0,none⟩) 2 2)]) (R':=[slF rQ (some ⟨g10_0,0,none⟩) 2 ([qy,qy])]) ((.c rfl .n):SubM _ _) (List.Perm.refl _) (List.Perm.refl _) (s0 rfl)<|e_one 0 (zp rfl rfl rfl rfl (.c rfl .n) ce56 (zAa (p:=some ⟨g10_0,0,none⟩) (n:=2) (cap:=2) (l:=[qy,qy]) (hn:=cbo) (hn9:=cbo) (hl:=by exact Cam.hqA_cons om (Cam.hqA_cons om (Cam.hqA_nil dd))) (hn1:=cbo)) (.c (j:=0) rfl .n) ?_)
  rintro ⟨u11_1,u11_2⟩ -
  dsimp only [aq,nq,cq]
  refine zH kr ?_
  exact zT (u11_1,u11_2) trivial ((.c rfl .n):SubM _ _) (ho:=oN) (s0 rfl)
 refine a_step 12 rfl (X:=Nat) (fun x=> .slice (some ⟨x,0,none⟩) 2 2) (fun x=>[]) (fun x=>[slF rQ (some ⟨x,0,none⟩) 2 ([(Cam.mulL ([qx,qx])),(Cam.mulL ([qy,qy]))])]) [0,2] kr rfl kr kr kr (fun _=> ?_) ?_
 ·
  rintro ⟨g11_0,g11_1⟩
  rintro ⟨g5_0,g5_1⟩
  refine zW (m':=[(14,.agg (cw [g11_0,g11_1]).toArray),(8,.agg (cw [g5_0,g5_1]).toArray)]) (R':=[qF true g11_0 g11_1 (Cam.mulL ([qy,qy])),qF true g5_0 g5_1 (Cam.mulL ([qx,qx]))]) ((.c rfl (.c rfl .n)):SubM _ _) (List.Perm.refl _) (List.Perm.refl _) ((.of [0,1] rfl):SelR _ _ _)<|e_one 0 (zIa rfl rfl rfl rfl (zA (r:=rQ) (k:=2) ya inf32 rfl dd dd dd (.c (x:=(Cam.mulL ([qx,qx]))) (cs:=[g5_0.b,g5_0.l,g5_1.b,g5_1.l]) (g5_0,g5_1) rfl rfl rfl (fun g hr=>Holds.get 1 rfl hr) (.c (x:=(Cam.mulL ([qy,qy]))) (cs:=[g11_0.b,g11_0.l,g11_1.b,g11_1.l]) (g11_0,g11_1) rfl rfl rfl (fun g hr=>Holds.get 0 rfl hr) .n))) (fun u12_1 _=> ?_))
  refine zla 0 rfl .z<|zH kr ?_
  exact zT u12_1 trivial ((.c rfl .n):SubM _ _) (ho:=oN) (s0 rfl)
 refine a_step 13 rfl (X:=Wd×Wd) (fun x=> .agg #[x.1.b,x.1.l,x.2.b,x.2.l]) (fun x=>[]) (fun x=>[qF true x.1 x.2 (Cam.sumL ([(Cam.mulL ([qx,qx])),(Cam.mulL ([qy,qy]))]))]) [0] kr rfl kr kr kr (fun _=> ?_) ?_
 ·
  rintro g12_0
  refine zW (m':=[(15,.slice (some ⟨g12_0,0,none⟩) 2 2)]) (R':=[slF rQ (some ⟨g12_0,0,none⟩) 2 ([(Cam.mulL ([qx,qx])),(Cam.mulL ([qy,qy]))])]) ((.c rfl .n):SubM _ _) (List.Perm.refl _) (List.Perm.refl _) (s0 rfl)<|e_one 0 (zp rfl rfl rfl rfl (.c rfl .n) ce59 (zAb (p:=some ⟨g12_0,0,none⟩) (n:=2) (cap:=2) (l:=[(Cam.mulL ([qx,qx])),(Cam.mulL ([qy,qy]))]) (hn:=cbo) (hn9:=cbo) (hl:=by rw [Cam.mul2,Cam.mul2];exact Cam.hqA_cons om (Cam.hqA_cons om (Cam.hqA_nil dd)))) (.c (j:=0) rfl .n) ?_)
  rintro ⟨u13_1,u13_2⟩ -
  dsimp only [aq,nq,cq]
  refine zH kr ?_
  exact zT (u13_1,u13_2) trivial ((.c rfl .n):SubM _ _) (ho:=oN) (s0 rfl)
 refine a_fin (k':=1) (L':=(lb 15 16383)) kr kr kr kr kr kr kr ?_
 rintro ⟨g13_0,g13_1⟩ _ _ _ _ _
 refine zW (m':=[(16,.agg (cw [g13_0,g13_1]).toArray),(12,.agg (cw [v1,v2]).toArray),(10,.agg (cw [v1,v2]).toArray),(6,.agg (cw [u1,u2]).toArray),(4,.agg (cw [u1,u2]).toArray),(2,.pointer (some ⟨b2,0,none⟩))]) (OW':=[boxA b2 32 (cw [wz,wz])]) (R':=[qF true g13_0 g13_1 (Cam.sumL ([(Cam.mulL ([qx,qx])),(Cam.mulL ([qy,qy]))])),qF true u1 u2 qx,qF true v1 v2 qy]) (mR rfl) (List.Perm.refl _) (List.Perm.refl _) ((.of [0,6,7] rfl):SelR _ _ _)<|e_one 14 (zv kr rfl rfl rfl rfl rfl sz32 rfl (.t4 .nil) ?_)
 refine zH kr<|zd<|zC ?_
 exact zu Tryz.results69 (g13_0,g13_1) trivial (zo 0 ty32 rfl rfl (.t4 .nil)) rfl (ho:=oN) ((.e (j:=0) rfl (by rw [Cam.sq_sum]) .n):SelR _ _ _)
theorem zwe {u1:Wd} {u2:Wd} {v1:Wd} {v2:Wd} {qx:Rat} {qy:Rat} (hx:ym qx≤100) (hy:ym qy≤100):Con yd 20 [.agg #[u1.b,u1.l,u2.b,u2.l,v1.b,v1.l,v2.b,v2.l]] [] [qF true u1 u2 qx,qF true v1 v2 qy] (Y:=Wd×Wd) (fun y=>True) (fun y=> .agg #[y.1.b,y.1.l,y.2.b,y.2.l]) (fun y=>[]) (fun y=>[qF true y.1 y.2 (Cam.sq qx qy)]):=by
 refine zl Tryz.func20 rfl rfl rfl (fun c=> ?_)
 show RunC _ _ _ _ _ [(0,.agg #[u1.b,u1.l,u2.b,u2.l,v1.b,v1.l,v2.b,v2.l])] [] [qF true u1 u2 qx,qF true v1 v2 qy]
 have hm1:=Big.hq_mul qx qx
 have hm2:=Big.hq_mul qy qy
 have hm3:=Big.hq_add (qx*qx) (qy*qy)
 refine ze<|za<|zI rfl rfl (zR rfl rfl) (fun b1=> ?_)
 refine zI rfl rfl (zr zr32 rfl) (fun b2=> ?_)
 refine zf<|zd<|ze<|zV (OW:=[boxA b2 32 (cw [wz,wz])]) (O:=[boxA b1 34 (cw [u1,u2,v1,v2])]) 11 mixed (.then .ret) kr<|e_pv 0 rfl rfl (zg yj rfl sz32 rfl rfl)<|e_uw 1 rfl rfl (zc 1 ty32 rfl rfl (.t4 .nil))<|e_pv 2 rfl rfl (zg yj rfl sz32 rfl rfl)<|e_uw 3 rfl rfl (zc 1 ty32 rfl rfl (.t4 .nil))<|e_pv 5 rfl rfl (zg yj rfl sz32 rfl rfl)<|e_uw 6 rfl rfl (zc 1 ty32 rfl rfl (.s4 (.t4 .nil)))<|e_pv 7 rfl rfl (zg yj rfl sz32 rfl rfl)<|e_uw 8 rfl rfl (zc 1 ty32 rfl rfl (.s4 (.t4 .nil)))<|e_one 4 (zp rfl rfl rfl rfl (.c rfl (.c rfl .n)) ce16 (zSa (k1:=true) (u1:=u1) (v1:=u2) (q1:=qx) (k2:=true) (u2:=u1) (v2:=u2) (q2:=qx) (hl:=cbo)) (.c (j:=0) rfl (.c (j:=0) rfl .n)) ?_)
 rintro ⟨w33,w44⟩ -
 dsimp only [aq,nq,cq]
 refine e_one 9 (zp rfl rfl rfl rfl (.c rfl (.c rfl .n)) ce16 (zSa (k1:=true) (u1:=v1) (v1:=v2) (q1:=qy) (k2:=true) (u2:=v1) (v2:=v2) (q2:=qy) (hl:=cbo)) (.c (j:=2) rfl (.c (j:=2) rfl .n)) ?_)
 rintro ⟨w35,w46⟩ -
 dsimp only [aq,nq,cq]
 refine e_one 10 (zp rfl rfl rfl rfl (.c rfl (.c rfl .n)) ce18 (zyc (k1:=true) (u1:=w33) (v1:=w44) (q1:=qx*qx) (k2:=true) (u2:=w35) (v2:=w46) (q2:=qy*qy) (hl:=cbo)) (.c (j:=1) rfl (.c (j:=0) rfl .n)) ?_)
 rintro ⟨w37,w48⟩ -
 dsimp only [aq,nq,cq]
 refine e_one 11 (zv kr rfl rfl rfl rfl rfl sz32 rfl (.t4 .nil) ?_)
 refine zH kr<|zd<|zC ?_
 exact zu Tryz.results20 (w37,w48) trivial (zo 0 ty32 rfl rfl (.t4 .nil)) rfl (ho:=oN) ((.e (j:=0) rfl (by rfl) .n):SelR _ _ _)
theorem zbf {e:Cam.Ln} (hin:Cam.In e) (hok:Cam.ok e):Con yd 37 [.agg #[.int .i64 (e.f),.int .i64 (e.cx),.int .i64 (e.cy),.int .i64 (e.r0),.int .i64 (e.r1),.int .i64 (e.r2),.int .i64 (e.p1),.int .i64 (e.p2),.int .i64 (e.fd)]] [] [] (Y:=Wd×Wd) (fun y=>True) (fun y=> .agg #[y.1.b,y.1.l,y.2.b,y.2.l]) (fun y=>[]) (fun y=>[qF true y.1 y.2 (Cam.lim e)]):=by
 refine zl Tryz.func37 rfl rfl rfl (fun c=> ?_)
 show RunC _ _ _ _ _ [(0,.agg #[.int .i64 (e.f),.int .i64 (e.cx),.int .i64 (e.cy),.int .i64 (e.r0),.int .i64 (e.r1),.int .i64 (e.r2),.int .i64 (e.p1),.int .i64 (e.p2),.int .i64 (e.fd)])] [] []
 obtain ⟨hf1,hcx1,hcy1,hr01,hr11,hr21,hp11,hp21,hfd1⟩:=id hin
 obtain ⟨⟨hof,hofd,hocx,hocy⟩,ho2,ho3⟩:=id hok
 have hdq:=Cam.dq (n:=e.fd) (d:=e.f) om hfd1 hf1
 refine ze<|za<|zI rfl rfl (zR rfl rfl) (fun b1=> ?_)
 refine zI rfl rfl (zr zr32 rfl) (fun b2=> ?_)
 refine zf<|zd<|ze<|za<|e_p (zg yn rfl sz3 rfl rfl)<|e_ru (zh 1 ty3 rfl rfl rfl)<|e_p (zg yn rfl sz3 rfl rfl)<|e_ru (zh 1 ty3 rfl rfl rfl)<|zm rfl rfl (.c rfl (.c rfl .n)) ce15 (zGb (z1:=e.fd) (z2:=e.f) (hz1:=by first|rfl|assumption|omega|decide) (hz2:=by first|rfl|assumption|omega|decide) (hy:=by first|rfl|assumption|omega|decide)) (.n) ?_
 rintro ⟨w33,w44⟩ -
 dsimp only [aq,nq,cq]
 refine e_mv rfl<|e_p (zq rfl rfl)<|e_p (zq rfl rfl)<|zI rfl rfl (zr zr32 rfl) (fun b5=> ?_)
 refine zj 0 rfl rfl rfl rfl rfl sz32 rfl (.t4 .nil) .z<|e_p (zb rfl)<|zf<|zd<|ze<|za<|e_ru (zc 0 ty32 rfl rfl (.t4 .nil))<|e_ru (zc 0 ty32 rfl rfl (.t4 .nil))<|zm rfl rfl (.c rfl (.c rfl .n)) ce16 (zSa (k1:=true) (u1:=w33) (v1:=w44) (q1:=Rat.divInt e.fd e.f) (k2:=true) (u2:=w33) (v2:=w44) (q2:=Rat.divInt e.fd e.f) (hl:=by first|rfl|assumption|omega|decide)) (.c (j:=0) rfl (.c (j:=0) rfl .n)) ?_
 rintro ⟨w36,w47⟩ -
 dsimp only [aq,nq,cq]
 refine zj 1 rfl rfl rfl rfl rfl sz32 rfl (.t4 .nil) (.s .z)<|zf<|zd<|zC ?_
 exact zu Tryz.results37 (w36,w47) trivial (zo 1 ty32 rfl rfl (.t4 .nil)) rfl (ho:=oN) ((.e (j:=0) rfl (by rfl) .n):SelR _ _ _)
end Go.Proofs.YtahiajepeodhoaaGreat.Sp
namespace Go.Proofs.YtahiajepeodhoaaGreat.Sp
open Go
theorem addQE {R:List Fa} {p:Option Addr} {c:Nat} {l:List Rat} (i:Nat) (hi:R[i]? =some (slF rQ p c l)):∀g,Holds g R→Holds g (slF rE p c (l.map some) :: R):=fun g h=>⟨slF_QE i hi g h,h⟩
theorem addQe {R:List Fa} {u v:Wd} {q:Rat} (i:Nat) (hi:R[i]? =some (qF true u v q)):∀g,Holds g R→Holds g (eF u v (some q) :: R):=fun g h=>⟨qF_e (Holds.get i hi h),h⟩
section
variable {P : Program} {n : Sz} {m : Fm} {O : List As} {R : List Fa} {d : Option Tmp} {ty : TypeId} {ps : String} {af : Array Edge} {gd : Option (Nat × Bool)}
theorem zcf {t e:TypeId} {sz:Nat} {p:Option Addr} {len cap hi:Nat} {k1 k2:IntKind} {w:World} (hu:P.underlying t=some (.slice e)) (ht:(P.info? e).map (·.size)=some sz) (hhc:hi≤cap):
    (Instr.sliceAt t (.slice p len cap) none (some (.int k1 (hi:Int))) (some (.int k2 (hi:Int)))).run P w= .ok (.slice p hi hi) w:=by
  have a2:(hi:Int)≤(cap:Int):=by omega
  have h0:p.map (·.add 0)=p:=by cases p <;> simp [Addr.add]
  simp [Instr.sliceAt,Instr.slice,Instr.sliceBounds,Instr.sliceBound,asIntOf,run_underlying hu,zta ht,hhc,h0]
theorem zLf {t e:TypeId} {x y z:Operand} {k1 k2:IntKind} {sz hi k cap:Nat} {p:Option Addr} (hu:P.underlying t=some (.slice e)) (ht:(P.info? e).map (·.size)=some sz) (h0:evo m x=some (.slice p k cap)) (h1:evo m y=some (.int k1 (hi:Int))) (h2:evo m z=some (.int k2 (hi:Int))) (hhc:hi≤cap):
    PV P n ⟨d,.slice t x none (some y) (some z),ty,ps,af,gd⟩ m (.slice p hi hi):=fun a w f=>by
  have:=zcf (P:=P) (p:=p) (len:=k) (w:=w) (k1:=k1) (k2:=k2) hu ht hhc
  simp only [execOp,f.ev h0,f.ev h1,f.ev h2,Option.map_none,Option.map_some,Sem.run_bind,this,Result.andThen_ok,Sem.run_pure]
theorem Sl.take3 {α:Type} {r:Rp α} {g:Hp} {p:Option Addr} {cap:Nat} {xs:List α} (s:Sl r g p cap xs) (n:Nat) (hn:n≤xs.length):Sl r g p n (xs.take n):=by
  obtain ⟨h1,h2,h3,h4⟩:=s
  refine ⟨by rw [List.length_take];omega,by omega,fun e=>by have:=h3 e;omega,fun i x e=> ?_⟩
  rw [List.getElem?_take] at e
  by_cases h:i<n
  · rw [if_pos h] at e;exact h4 i x e
  · rw [if_neg h] at e;cases e
theorem zMf {α:Type} {r:Rp α} {p:Option Addr} {cap:Nat} {xs:List α} (i:Nat) (hi:R[i]? =some (slF r p cap xs)) (n:Nat) (hn:n≤xs.length):∀g,Holds g R→Holds g (slF r p n (xs.take n) :: R):=fun g h=>⟨Sl.take3 (Holds.get i hi h:Sl r g p cap xs) n hn,h⟩
end
end Go.Proofs.YtahiajepeodhoaaGreat.Sp
namespace Go.Proofs.YtahiajepeodhoaaGreat.Sp
open Go
set_option linter.unusedVariables false
section
variable {P : Program} {n : Sz} {m : Fm} {O : List As} {R : List Fa} {d : Option Tmp} {ty : TypeId} {ps : String} {af : Array Edge} {gd : Option (Nat × Bool)} {α : Type}
end
theorem inK_u8 {z:Int}:InK .u8 z↔0≤z∧z≤255:=by simp [InK,IntKind.min,IntKind.max,IntKind.bits,IntKind.signed]
structure Bb where
  (ar le tp rt bt sx sy xx xy yy ms mx my:Int)
deriving DecidableEq
def b0:Bb:=⟨0,0,0,0,0,0,0,0,0,0,0,0,0⟩
end Go.Proofs.YtahiajepeodhoaaGreat.Sp
namespace Go.Proofs.YtahiajepeodhoaaGreat.Sp
open Go
structure Gr where
  (w h m:Int) (p:Option Addr) (n c:Nat)
end Go.Proofs.YtahiajepeodhoaaGreat.Sp
namespace Go.Proofs.YtahiajepeodhoaaGreat.Sp
open Go
set_option linter.unusedVariables false
section
variable {P : Program} {n : Sz} {m : Fm} {O : List As} {R : List Fa} {d : Option Tmp} {ty : TypeId} {ps : String} {af : Array Edge} {gd : Option (Nat × Bool)} {α : Type}
theorem zig {t T:TypeId} {bytes:Nat} {z:Value} {x y:Operand} {k1 k2:IntKind} {z1 z2:Int} {k:Nat} {r:Rp α} (hu:P.underlying t=some (.slice T)) (hI:Inf P T r.sz bytes z) (h1:evo m x=some (.int k1 z1)) (h2:evo m y=some (.int k2 z2))
    (hz1:z1=0) (hz2:z2=(k:Int)) (hb:bytes*k≤281474976710656) (hm:k≤9223372036854775807) (hzs:z.cells.size=r.sz) (hpos:0<r.sz):
    Ef P n ⟨d,.makeSlice t x y,ty,ps,af,gd⟩ m [] R (Y:=Nat) (fun _=>True) (fun b=> .slice (some ⟨b,0,none⟩) 0 k) (fun b=>[rowA T r (some ⟨b,0,none⟩) k []]) (fun _=>[]):=by
  intro a f w hh g s rr ap hw hg K Q hK
  have e:hh=Hp.emp:=s
  subst e;subst hz1;subst hz2
  obtain ⟨i,hi,hz,hsz,hby⟩:=hI.info
  have hrun:=run_make (P:=P) w t T i z hu hi hz k1 k2 (0:Int) (k:Int) (by omega) (by omega) (by rw [hby,←Int.natCast_mul];generalize bytes*k=q at hb;omega) (by omega)
  have hrun':(execOp a.eval ⟨d,.makeSlice t x y,ty,ps,af,gd⟩).run P w= .ok (.value (.slice (some ⟨w.heap.size,0,none⟩) 0 k)) (w.alloc (.cells (madeCells z.cells (k*r.sz)) T)):=by
    simp only [execOp,f.ev h1,f.ev h2,Sem.run_bind,hrun,Result.andThen_ok,Sem.run_pure,hsz,Int.toNat_natCast]
    rfl
  refine op_value hrun' ?_
  refine hK w.heap.size _ trivial (mem_new hw hg ?_)
  exact .inr ⟨w.heap.size,0,(madeCells z.cells (k*r.sz)).toList,rfl,Nat.zero_le _,by unfold maxLen;omega,by rw [Array.length_toList,size_madeCells,Nat.zero_add];exact Nat.le_refl _,by rw [Array.toArray_toList],fun j x hx=>by simp at hx⟩
end
end Go.Proofs.YtahiajepeodhoaaGreat.Sp
namespace Go.Proofs.YtahiajepeodhoaaGreat.Sp
open Go
set_option linter.unusedVariables false
set_option maxRecDepth 100000
set_option maxHeartbeats 8000000
theorem zzc:Con yd 101 [] [] [] (Y:=Wd×Wd) (fun y=>True) (fun y=> .agg #[y.1.b,y.1.l,y.2.b,y.2.l]) (fun y=>[]) (fun y=>[qF true y.1 y.2 ((0:Int):Rat)]):=by
 refine zl Tryz.func101 rfl rfl rfl (fun c=> ?_)
 show RunC _ _ _ _ _ [] [] []
 refine ze<|za<|zI rfl rfl (zr zr32 rfl) (fun b1=> ?_)
 refine zf<|zd<|ze<|za<|zm rfl rfl (.c rfl .n) ce58 (zxa (z:=0) (hz:=cbd)) (.n) ?_
 rintro ⟨w32,w43⟩ -
 dsimp only [aq,nq,cq]
 refine zj 0 rfl rfl rfl rfl rfl sz32 rfl (.t4 .nil) .z<|zf<|zd<|zC ?_
 exact zu Tryz.results101 (w32,w43) trivial (zo 0 ty32 rfl rfl (.t4 .nil)) rfl (ho:=oN) (s0 rfl)
theorem zLa {p1:Option Addr} {n1:Nat} {c1:Nat} {l1:List (Option Rat)} (hn1:l1.length=n1) (hm1:n1≤1000):Con yd 67 [.slice p1 n1 c1] [] [slF rE p1 c1 l1] (Y:=(Option Addr)×Nat) (fun y=>True) (fun y=> .slice (y.1) ((Po.cl (Po.vals l1)).length) (y.2)) (fun y=>[]) (fun y=>[slF rQ (y.1) (y.2) (Po.cl (Po.vals l1))]):=by
 refine zl Tryz.func67 rfl rfl rfl (fun c=> ?_)
 show RunC _ _ _ _ _ [(0,.slice p1 n1 c1)] [] [slF rE p1 c1 l1]
 refine zU 0 rfl (fun hL0=> ?_)
 refine ze<|za<|e_p (zb rfl)<|zf<|zd<|ze<|za<|e_mv rfl<|e_p (zK ya rfl)<|zva rfl rfl (zig (r:=rQ) (k:=n1) ye inf32 rfl rfl rfl rfl om om rfl dd) (fun b1 _=> ?_)
 refine e_p (zb rfl)<|zf<|zd<|ze<|ze<|za<|e_mv rfl<|e_p (zK ya rfl)<|e_mv rfl<|zf<|zd<|zx<|zja (X:=Nat×(Option Addr)×Nat×(List Rat)) (fun x:Nat×(Option Addr)×Nat×(List Rat)=>x.1≤n1∧x.2.2.2=(Po.vals l1).take x.1) (fun x=>[(3,.slice (x.2.1) (x.2.2.2.length) (x.2.2.1)),(12,.int .i64 ((x.1:Nat):Int)),(11,.int .i64 ((n1:Nat):Int)),(10,.slice p1 n1 c1),(2,.slice none 0 0)]) (fun x=>[rowA 32 rQ (x.2.1) (x.2.2.1) (x.2.2.2)]) (fun x=>[slF rE p1 c1 l1]) (fun x:Nat×(Option Addr)×Nat×(List Rat)=>n1 - x.1) (0,some ⟨b1,0,none⟩,n1,([]:List Rat)) (show 0≤n1∧([]:List Rat)=(Po.vals l1).take 0 from by exact ⟨Nat.zero_le _,rfl⟩) ((.e rfl cgs (.e rfl cgs (.of rfl))):SubM _ _) (ho:=((.e (i:=0) rfl cgs .n):PickO _ _ _)) (s0 rfl) ?_
 rintro ⟨i,pR,cR,A⟩ hI
 replace hI:i≤n1∧A=(Po.vals l1).take i:=hI
 try dsimp only
 obtain ⟨hi,hA⟩:=hI
 have hAl:A.length=i:=by rw [hA,List.length_take,Po.vals_len];omega
 refine ze<|za<|e_p (zX rfl rfl)<|zf<|zd<|ze<|zG rfl (fun h2=> ?_) (fun h2=> ?_)
 ·
  refine zB<|zd<|ze<|zx<|ze<|za<|r_vl rfl rfl (zpa (x0:=(l1.getD i (none:Option Rat))) 0 i rfl ya sz32 rfl (by first|rfl|assumption|(simp;done)|omega) rfl rfl (gD (d:=(none:Option Rat)) om)) ?_
  rintro ⟨b3,o4,w5,w6⟩ -
  dsimp only [aq,nq,cq]
  refine zna open_rE<|e_ru (zQ (j:=0) 0 ty32 rfl rfl rfl (.t4 .nil))<|zI rfl rfl (zr zr32 rfl) (fun b7=> ?_)
  refine zj 0 rfl rfl rfl rfl rfl sz32 rfl (.t4 .nil) .z<|zf<|zd<|za<|e_mv rfl<|e_ru (zc 0 ty32 rfl rfl (.t4 .nil))<|zm rfl rfl (.c rfl .n) ce97 (zya (k1:=(l1.getD i (none:Option Rat)).isSome) (u1:=w5) (v1:=w6) (q1:=((l1.getD i (none:Option Rat)).getD 0))) (.c (j:=1) rfl .n) ?_
  rintro ⟨w38,w49⟩ -
  dsimp only [aq,nq,cq]
  refine zva rfl rfl (zA (r:=rQ) (k:=1) ye inf32 rfl dd dd dd (.c (x:=((l1.getD i (none:Option Rat)).getD 0)) (cs:=[w38.b,w38.l,w49.b,w49.l]) (w38,w49) rfl rfl rfl (fun g hr=>Holds.get 0 rfl hr) .n)) (fun b10 _=> ?_)
  refine zba 0 rfl .z<|zEa 2 rfl rfl rfl (zoa 0 rfl ye inf32 dd rfl rfl (by first|rfl|assumption|(simp;done)|omega) rfl (by first|rfl|assumption|(simp;done)|omega) om om) (fun _=>(.s (.s .z))) ?_
  rintro ⟨p11,c12⟩ -
  dsimp only [aq,nq,cq]
  refine e_p (zb rfl)<|zf<|zP<|zd<|za<|e_p (zL (z:=(((i+1):Nat):Int)) rfl rfl (w64 om))<|e_mv rfl<|zf<|zda ((i+1),p11,c12,(A++([((l1.getD i (none:Option Rat)).getD 0)]))) (show (i+1)≤n1∧(A++([((l1.getD i (none:Option Rat)).getD 0)]))=(Po.vals l1).take (i+1) from by exact ⟨by omega,by rw [hA];exact Po.vals_take om⟩) (by show n1 - (i+1)<n1 - i;omega) ((.e rfl (by simp) (.of rfl)):SubM _ _) (ho:=((.c (i:=2) rfl .n):PickO _ _ _)) ((.c (j:=5) rfl .n):SelR _ _ _)
 ·
  refine zfa<|zi<|zi<|zw<|zd<|ze<|zjb 0 rfl .z<|zU 0 rfl (fun hLc=> ?_)
  have hAv:A=(Po.vals l1):=by rw [hA,List.take_of_length_le (by rw [Po.vals_len];omega)]
  refine za<|e_mv rfl<|e_p (zK ye rfl)<|e_p (zb rfl)<|zf<|zd<|ze<|zx<|zja (X:=Nat) (fun x:Nat=>x≤n1∧Po.tn (Po.vals l1) n1=Po.tn (Po.vals l1) x) (fun x=>[(6,.int .i64 ((x:Nat):Int)),(3,.slice pR (A.length) cR),(2,.slice none 0 0)]) (fun x=>[]) (fun x=>[slF rQ pR cR A,slF rE p1 c1 l1]) (fun x:Nat=>x) n1 (show n1≤n1∧Po.tn (Po.vals l1) n1=Po.tn (Po.vals l1) n1 from by exact ⟨by omega,rfl⟩) ((.e rfl cgs (.c rfl (.c rfl .n))):SubM _ _) (ho:=oN) ((.of [0,1] rfl):SelR _ _ _) ?_
  rintro j hI
  replace hI:j≤n1∧Po.tn (Po.vals l1) n1=Po.tn (Po.vals l1) j:=hI
  try dsimp only
  obtain ⟨hj,hT⟩:=hI
  refine ze<|zOa (X:=Unit) (fun x=>True) (fun x=>[(34,.bool (decide ((0<((j:Nat):Int))∧(Big.sgq (A.getD ((((j:Nat):Int) - 1).toNat) (0:Rat))=0)))),(6,.int .i64 ((j:Nat):Int)),(3,.slice pR (A.length) cR),(2,.slice none 0 0)]) (fun x=>[]) (fun x=>[slF rQ pR cR A,slF rE p1 c1 l1]) ?_ ?_
  ·
   refine za<|e_mv rfl<|e_p (zCa rfl rfl)<|zha rfl rfl (zga rfl) (fun g1=> ?_) (fun g1=> ?_)
   ·
    refine e_mv rfl<|e_mv rfl<|e_p (zca (z:=(((j:Nat):Int) - 1)) rfl rfl (w64 om))<|r_vl rfl rfl (zpa (x0:=(A.getD ((((j:Nat):Int) - 1).toNat) (0:Rat))) 0 ((((j:Nat):Int) - 1).toNat) rfl ye sz32 rfl (by first|rfl|assumption|(simp;done)|omega) rfl om (gD (d:=(0:Rat)) om)) ?_
    rintro ⟨b13,o14,w15,w16⟩ -
    dsimp only [aq,nq,cq]
    refine zna open_rQ<|e_ru (zQ (j:=0) 0 ty32 rfl rfl rfl (.t4 .nil))<|zJ rfl rfl (.c rfl .n) ce98 (zFb (k1:=true) (u1:=w15) (v1:=w16) (q1:=(A.getD ((((j:Nat):Int) - 1).toNat) (0:Rat)))) (.c (j:=1) rfl .n)<|e_p (zwa rfl rfl)<|e_p (zE rfl rfl)<|zf ?_
    exact zT () tt9 ((.e rfl (congrArg Value.bool (by first|(exact (decide_eq_false (fun k=>g1 k.1)).symm)|exact decide_eq_decide.2 ⟨fun k=>⟨g1,k⟩,fun k=>k.2⟩)) (.of rfl)):SubM _ _) (ho:=oN) ((.of [2,3] rfl):SelR _ _ _)
   ·
    refine e_no<|e_no<|e_no<|e_no<|e_no<|e_no<|e_no<|e_p (zE rfl rfl)<|zf ?_
    exact zT () tt9 ((.e rfl (congrArg Value.bool (by first|(exact (decide_eq_false (fun k=>g1 k.1)).symm)|exact decide_eq_decide.2 ⟨fun k=>⟨g1,k⟩,fun k=>k.2⟩)) (.of rfl)):SubM _ _) (ho:=oN) ((.of [0,1] rfl):SelR _ _ _)
  ·
   rintro ⟨⟩ -
   try dsimp only
   refine zG rfl (fun hz=> ?_) (fun hz=> ?_)
   ·
    refine zB<|zd<|zx<|za<|e_mv rfl<|e_p (zca (z:=(((j:Nat):Int) - 1)) rfl rfl (w64 om))<|e_p (zb rfl)<|zf<|zP<|zda (j - 1) (show (j - 1)≤n1∧Po.tn (Po.vals l1) n1=Po.tn (Po.vals l1) (j - 1) from by exact ⟨by omega,hT.trans (Po.tn_yes om (hAv ▸ Po.hz_get om hz.2))⟩) (by have h9:=hz.1;omega) ((.e rfl cgs (.c rfl (.c rfl .n))):SubM _ _) (ho:=oN) ((.of [0,1] rfl):SelR _ _ _)
   ·
    refine zfa<|zi<|zi<|zw<|zd<|ze<|za<|e_mv rfl<|e_mv rfl<|e_mv rfl<|e_p (zLf (hi:=j) ye sz32 rfl rfl rfl om)<|zna (zMf 0 rfl j om)<|e_p (zb rfl)<|zf<|zd<|zC ?_
    have hv9:(Po.cl (Po.vals l1))=A.take j:=by rw [Po.cl_take (by rw [Po.vals_len];exact hn1) hT (Po.tn_no (hAv ▸ Po.hz_no hz)),hAv]
    exact zu Tryz.results67 (pR,j) trivial (zn rfl) (by rw [hv9,List.length_take,Nat.min_eq_left om]) (ho:=oN) ((.e (j:=0) rfl (by rw [hv9]) .n):SelR _ _ _)
end Go.Proofs.YtahiajepeodhoaaGreat.Sp
namespace Go.Proofs.YtahiajepeodhoaaGreat.Sp
open Go
set_option linter.unusedVariables false
set_option maxRecDepth 100000
set_option maxHeartbeats 8000000
theorem zRc {e:Cam.Ln} (hin:Cam.In e) (hok:Cam.ok e):Con yd 33 [.agg #[.int .i64 (e.f),.int .i64 (e.cx),.int .i64 (e.cy),.int .i64 (e.r0),.int .i64 (e.r1),.int .i64 (e.r2),.int .i64 (e.p1),.int .i64 (e.p2),.int .i64 (e.fd)]] [] [] (Y:=Wd×Wd×Wd×Wd×Wd×Wd×Wd×Wd×Wd×Wd×Wd×Wd×(Option Addr)×Nat) (fun y=>True) (fun y=> .agg #[y.1.b,y.1.l,y.2.1.b,y.2.1.l,y.2.2.1.b,y.2.2.1.l,y.2.2.2.1.b,y.2.2.2.1.l,y.2.2.2.2.1.b,y.2.2.2.2.1.l,y.2.2.2.2.2.1.b,y.2.2.2.2.2.1.l,y.2.2.2.2.2.2.1.b,y.2.2.2.2.2.2.1.l,y.2.2.2.2.2.2.2.1.b,y.2.2.2.2.2.2.2.1.l,y.2.2.2.2.2.2.2.2.1.b,y.2.2.2.2.2.2.2.2.1.l,y.2.2.2.2.2.2.2.2.2.1.b,y.2.2.2.2.2.2.2.2.2.1.l,y.2.2.2.2.2.2.2.2.2.2.1.b,y.2.2.2.2.2.2.2.2.2.2.1.l,y.2.2.2.2.2.2.2.2.2.2.2.1.b,y.2.2.2.2.2.2.2.2.2.2.2.1.l,.slice (y.2.2.2.2.2.2.2.2.2.2.2.2.1) ((Cam.rl e).length) (y.2.2.2.2.2.2.2.2.2.2.2.2.2)]) (fun y=>[]) (fun y=>[qF true y.1 y.2.1 (Rat.divInt e.r0 0x100000),qF true y.2.2.1 y.2.2.2.1 (Rat.divInt e.r1 0x100000),qF true y.2.2.2.2.1 y.2.2.2.2.2.1 (Rat.divInt e.r2 0x100000),qF true y.2.2.2.2.2.2.1 y.2.2.2.2.2.2.2.1 (Cam.tP1 e),qF true y.2.2.2.2.2.2.2.2.1 y.2.2.2.2.2.2.2.2.2.1 (Cam.tP2 e),qF true y.2.2.2.2.2.2.2.2.2.2.1 y.2.2.2.2.2.2.2.2.2.2.2.1 (Cam.lim e),slF rQ (y.2.2.2.2.2.2.2.2.2.2.2.2.1) (y.2.2.2.2.2.2.2.2.2.2.2.2.2) (Cam.rl e)]):=by
 refine zl Tryz.func33 rfl rfl rfl (fun c=> ?_)
 show RunC _ _ _ _ _ [(0,.agg #[.int .i64 (e.f),.int .i64 (e.cx),.int .i64 (e.cy),.int .i64 (e.r0),.int .i64 (e.r1),.int .i64 (e.r2),.int .i64 (e.p1),.int .i64 (e.p2),.int .i64 (e.fd)])] [] []
 obtain ⟨hf1,hcx1,hcy1,hr01,hr11,hr21,hp11,hp21,hfd1⟩:=id hin
 obtain ⟨⟨hof,hofd,hocx,hocy⟩,ho2,ho3⟩:=id hok
 have hdq:=Cam.dq (n:=e.fd) (d:=e.f) om hfd1 hf1
 refine ze<|za<|zI rfl rfl (zR rfl rfl) (fun b1=> ?_)
 refine zI rfl rfl (zr zr62 rfl) (fun b2=> ?_)
 refine zf<|zd<|ze<|zV (OW:=[]) (O:=[boxA b2 62 [wz.b,wz.l,wz.b,wz.l,wz.b,wz.l,wz.b,wz.l,wz.b,wz.l,wz.b,wz.l,wz.b,wz.l,wz.b,wz.l,wz.b,wz.l,wz.b,wz.l,wz.b,wz.l,wz.b,wz.l,.slice none 0 0],boxA b1 27 [.int .i64 (e.f),.int .i64 (e.cx),.int .i64 (e.cy),.int .i64 (e.r0),.int .i64 (e.r1),.int .i64 (e.r2),.int .i64 (e.p1),.int .i64 (e.p2),.int .i64 (e.fd)]]) 10 mixed (.then .ret) kr<|e_pv 0 rfl rfl (zg yn rfl sz25 rfl rfl)<|e_pv 1 rfl rfl (zia (i:=0) Tryz.underlying25 sz3 rfl rfl dd rfl)<|e_u 2 rfl rfl (zh 1 ty3 rfl rfl rfl)<|e_pv 4 rfl rfl (zg yn rfl sz25 rfl rfl)<|e_pv 5 rfl rfl (zia (i:=1) Tryz.underlying25 sz3 rfl rfl dd rfl)<|e_u 6 rfl rfl (zh 1 ty3 rfl rfl rfl)<|zW (m':=[(13,.int .i64 (e.p2)),(9,.int .i64 (e.p1)),(2,.pointer (some ⟨b2,0,none⟩)),(1,.pointer (some ⟨b1,0,none⟩))]) (R':=[]) (mR rfl) (List.Perm.refl _) (List.Perm.refl _) sN<|a_start<|a_step 3 rfl (X:=Wd×Wd) (fun x=> .agg #[x.1.b,x.1.l,x.2.b,x.2.l]) (fun x=>[]) (fun x=>[qF true x.1 x.2 (Rat.divInt e.p1 0x100000)]) [] kr rfl kr kr kr (fun _=> ?_) ?_
 ·
  refine zW (m':=[(9,.int .i64 (e.p1))]) (R':=[]) ((.c rfl .n):SubM _ _) (List.Perm.refl _) (List.Perm.refl _) sN<|e_one 0 (zp rfl rfl rfl rfl (.c rfl (.c rfl .n)) ce47 (zwb (z1:=e.p1) (z2:=0x100000) (hz1:=by first|rfl|assumption|omega|decide|(simp;done)) (hz2:=by first|rfl|assumption|omega|decide|(simp;done)) (hy:=by first|rfl|assumption|omega|decide|(simp;done))) (.n) ?_)
  rintro ⟨u3_1,u3_2⟩ -
  dsimp only [aq,nq,cq]
  refine zH kr ?_
  exact zT (u3_1,u3_2) trivial ((.c rfl .n):SubM _ _) (ho:=oN) (s0 rfl)
 refine a_step 7 rfl (X:=Wd×Wd) (fun x=> .agg #[x.1.b,x.1.l,x.2.b,x.2.l]) (fun x=>[]) (fun x=>[qF true x.1 x.2 (Rat.divInt e.p2 0x100000)]) [] kr rfl kr kr kr (fun _=> ?_) ?_
 ·
  refine zW (m':=[(13,.int .i64 (e.p2))]) (R':=[]) ((.c rfl .n):SubM _ _) (List.Perm.refl _) (List.Perm.refl _) sN<|e_one 0 (zp rfl rfl rfl rfl (.c rfl (.c rfl .n)) ce47 (zwb (z1:=e.p2) (z2:=0x100000) (hz1:=by first|rfl|assumption|omega|decide|(simp;done)) (hz2:=by first|rfl|assumption|omega|decide|(simp;done)) (hy:=by first|rfl|assumption|omega|decide|(simp;done))) (.n) ?_)
  rintro ⟨u7_1,u7_2⟩ -
  dsimp only [aq,nq,cq]
  refine zH kr ?_
  exact zT (u7_1,u7_2) trivial ((.c rfl .n):SubM _ _) (ho:=oN) (s0 rfl)
 refine a_step 8 rfl (X:=Wd×Wd×Wd×Wd) (fun x=> .agg #[.bool false,.slice none 0 0,.bool false,.slice none 0 0,.bool false,.slice none 0 0,.bool false,.slice none 0 0,.bool false,.slice none 0 0,.bool false,.slice none 0 0,x.2.2.1.b,x.2.2.1.l,x.2.2.2.b,x.2.2.2.l,x.1.b,x.1.l,x.2.1.b,x.2.1.l,.bool false,.slice none 0 0,.bool false,.slice none 0 0,.slice none 0 0]) (fun x=>[]) (fun x=>[qF true x.1 x.2.1 (Rat.divInt e.p2 0x100000),qF true x.2.2.1 x.2.2.2 (Rat.divInt e.p1 0x100000)]) [0,1] kr rfl kr kr kr (fun _=> ?_) ?_
 ·
  rintro ⟨g7_0,g7_1⟩
  rintro ⟨g3_0,g3_1⟩
  refine zW (m':=[(14,.agg (cw [g7_0,g7_1]).toArray),(10,.agg (cw [g3_0,g3_1]).toArray)]) (R':=[qF true g7_0 g7_1 (Rat.divInt e.p2 0x100000),qF true g3_0 g3_1 (Rat.divInt e.p1 0x100000)]) ((.c rfl (.c rfl .n)):SubM _ _) (List.Perm.refl _) (List.Perm.refl _) ((.of [0,1] rfl):SelR _ _ _)<|e_pv 0 rfl rfl (zN zr62 rfl yf (.c sz59 (.c sz32 (.c sz32 (.c sz32 (.c sz60 .n))))) (.c rfl (.c rfl .n)) (.c rfl rfl rfl (.s8 (.s4 (.t4 .nil))) (.c rfl rfl rfl (.s8 (.s8 (.t4 .nil))) .n)))<|zH kr ?_
  exact zT (g7_0,g7_1,g3_0,g3_1) trivial ((.c rfl .n):SubM _ _) (ho:=oN) ((.of [0,1] rfl):SelR _ _ _)
 refine a_step 9 rfl (X:=Nat) (fun x=> .pointer (some ⟨x,0,none⟩)) (fun x=>[boxA x 62 [.bool false,.slice none 0 0,.bool false,.slice none 0 0,.bool false,.slice none 0 0,.bool false,.slice none 0 0,.bool false,.slice none 0 0,.bool false,.slice none 0 0,.bool false,.slice none 0 0,.bool false,.slice none 0 0,.bool false,.slice none 0 0,.bool false,.slice none 0 0,.bool false,.slice none 0 0,.bool false,.slice none 0 0,.slice none 0 0]]) (fun x=>[]) [] kr rfl kr kr kr (fun _=> ?_) ?_
 ·
  refine zW (m':=[]) (R':=[]) (.n:SubM _ _) (List.Perm.refl _) (List.Perm.refl _) sN<|e_one 0 (zIa rfl rfl rfl rfl (zr zr62 rfl) (fun u9_1 _=> ?_))
  refine zH kr ?_
  exact zT u9_1 trivial ((.c rfl .n):SubM _ _) (ho:=(o0 rfl)) sN
 refine a_fin (k':=1) (L':=(lb 11 1023)) kr kr kr kr kr kr kr ?_
 rintro g9_0 ⟨g8_0,g8_1,g8_2,g8_3⟩ _ _
 refine zW (m':=[(3,.pointer (some ⟨g9_0,0,none⟩)),(15,.agg #[wz.b,wz.l,wz.b,wz.l,wz.b,wz.l,wz.b,wz.l,wz.b,wz.l,wz.b,wz.l,g8_2.b,g8_2.l,g8_3.b,g8_3.l,g8_0.b,g8_0.l,g8_1.b,g8_1.l,wz.b,wz.l,wz.b,wz.l,.slice none 0 0]),(13,.int .i64 (e.p2)),(9,.int .i64 (e.p1)),(2,.pointer (some ⟨b2,0,none⟩)),(1,.pointer (some ⟨b1,0,none⟩))]) (OW':=[boxA g9_0 62 [wz.b,wz.l,wz.b,wz.l,wz.b,wz.l,wz.b,wz.l,wz.b,wz.l,wz.b,wz.l,wz.b,wz.l,wz.b,wz.l,wz.b,wz.l,wz.b,wz.l,wz.b,wz.l,wz.b,wz.l,.slice none 0 0]]) (R':=[qF true g8_0 g8_1 (Rat.divInt e.p2 0x100000),qF true g8_2 g8_3 (Rat.divInt e.p1 0x100000)]) (mR rfl) (List.Perm.refl _) (List.Perm.refl _) ((.of [0,1] rfl):SelR _ _ _)<|e_one 10 (zv kr rfl rfl rfl rfl rfl sz62 rfl (.t8 (.t8 (.t8 (.take .nil)))) ?_)
 refine zH kr<|zd<|ze<|za<|zm rfl rfl (.c rfl .n) ce58 (zxa (z:=1) (hz:=by first|rfl|assumption|omega|decide|(simp;done))) (.n) ?_
 rintro ⟨w33,w44⟩ -
 dsimp only [aq,nq,cq]
 refine zva rfl rfl (zA (r:=rQ) (k:=1) ye inf32 rfl dd dd dd (.c (x:=((1:Int):Rat)) (cs:=[w33.b,w33.l,w44.b,w44.l]) (w33,w44) rfl rfl rfl (fun g hr=>Holds.get 0 rfl hr) .n)) (fun b5 _=> ?_)
 refine e_p (zg yf rfl sz60 rfl rfl)<|zj 1 rfl rfl rfl rfl rfl sz60 rfl (.s8 (.s8 (.s8 (.take .nil)))) (.s .z)<|zf<|zd<|ze<|ze<|za<|e_p (zg yn rfl sz24 rfl rfl)<|e_ru (zc 3 ty24 rfl rfl (.s2 (.skip (.t2 (.take .nil)))))<|e_mv rfl<|zf<|zd<|zx<|zme<|zub<|ze<|za<|e_p (zX rfl rfl)<|zf<|zd<|ze<|zlb rfl rfl<|zB<|zd<|ze<|zx<|ze<|za<|e_mv rfl<|e_p (zQb (i:=0) yx ty3 rfl rfl dd rfl)<|e_p (zb rfl)<|e_p (zb rfl)<|zf<|zd<|ze<|za<|e_mv rfl<|e_mv rfl<|zm rfl rfl (.c rfl (.c rfl .n)) ce47 (zwb (z1:=e.r0) (z2:=0x100000) (hz1:=by first|rfl|assumption|omega|decide|(simp;done)) (hz2:=by first|rfl|assumption|omega|decide|(simp;done)) (hy:=by first|rfl|assumption|omega|decide|(simp;done))) (.n) ?_
 rintro ⟨w36,w47⟩ -
 dsimp only [aq,nq,cq]
 refine e_p (zg yf rfl sz59 rfl rfl)<|e_p (zia (i:=0) yq sz32 rfl rfl dd rfl)<|zj 1 rfl rfl rfl rfl rfl sz32 rfl (.t4 .nil) (.s .z)<|zf<|zd<|zV (OW:=[rowA 32 rQ (some ⟨b5,0,none⟩) 1 ([((1:Int):Rat)]),boxA g9_0 62 [w36.b,w36.l,w47.b,w47.l,wz.b,wz.l,wz.b,wz.l,wz.b,wz.l,wz.b,wz.l,g8_2.b,g8_2.l,g8_3.b,g8_3.l,g8_0.b,g8_0.l,g8_1.b,g8_1.l,wz.b,wz.l,wz.b,wz.l,.slice (some ⟨b5,0,none⟩) 1 1]]) (O:=[boxA b2 62 [wz.b,wz.l,wz.b,wz.l,wz.b,wz.l,wz.b,wz.l,wz.b,wz.l,wz.b,wz.l,wz.b,wz.l,wz.b,wz.l,wz.b,wz.l,wz.b,wz.l,wz.b,wz.l,wz.b,wz.l,.slice none 0 0],boxA b1 27 [.int .i64 (e.f),.int .i64 (e.cx),.int .i64 (e.cy),.int .i64 (e.r0),.int .i64 (e.r1),.int .i64 (e.r2),.int .i64 (e.p1),.int .i64 (e.p2),.int .i64 (e.fd)]]) 7 mixed (.block (.then (.then (.block (.then .ret))))) kr<|e_pv 0 rfl rfl (zg yf rfl sz60 rfl rfl)<|e_uw 1 rfl rfl (zh 1 ty60 rfl rfl rfl)<|e_dm 2 rfl rfl rfl<|e_pv 3 rfl rfl (zg yf rfl sz59 rfl rfl)<|e_pv 4 rfl rfl (zia (i:=0) yq sz32 rfl rfl dd rfl)<|e_uw 5 rfl rfl (zc 1 ty32 rfl rfl (.t4 .nil))<|e_one 6 (zIa rfl rfl rfl rfl (zA (r:=rQ) (k:=1) ye inf32 rfl dd dd dd (.c (x:=(Rat.divInt e.r0 0x100000)) (cs:=[w36.b,w36.l,w47.b,w47.l]) (w36,w47) rfl rfl rfl (fun g hr=>Holds.get 0 rfl hr) .n)) (fun b8 _=> ?_))
 refine zla 0 rfl .z<|e_one 7 (zAd (A':=fun v:Option Addr×Nat=>rowA 32 rQ v.1 v.2 (([((1:Int):Rat)])++([(Rat.divInt e.r0 0x100000)]))) kr rfl rfl rfl (zoa 0 rfl ye inf32 dd rfl rfl (by first|rfl|assumption|(simp;done)|omega) rfl (by first|rfl|assumption|(simp;done)|omega) om om) ?_)
 rintro ⟨p9,c10⟩ -
 dsimp only [aq,nq,cq]
 refine e_pv 8 rfl rfl (zg yf rfl sz60 rfl rfl)<|zza (zea (i:=1) rfl)<|e_one 9 (zv kr rfl rfl rfl rfl rfl sz60 rfl (.s8 (.s8 (.s8 (.take .nil)))) ?_)
 refine zH kr<|zP<|zd<|za<|e_p (zL (z:=1) rfl rfl (w64 dd))<|e_mv rfl<|zf<|zSb<|zub<|ze<|za<|e_p (zX rfl rfl)<|zf<|zd<|ze<|zlb rfl rfl<|zB<|zd<|ze<|zx<|ze<|za<|e_mv rfl<|e_p (zQb (i:=1) yx ty3 rfl rfl dd rfl)<|e_p (zb rfl)<|e_p (zb rfl)<|zf<|zd<|ze<|za<|e_mv rfl<|e_mv rfl<|zm rfl rfl (.c rfl (.c rfl .n)) ce47 (zwb (z1:=e.r1) (z2:=0x100000) (hz1:=by first|rfl|assumption|omega|decide|(simp;done)) (hz2:=by first|rfl|assumption|omega|decide|(simp;done)) (hy:=by first|rfl|assumption|omega|decide|(simp;done))) (.n) ?_
 rintro ⟨w311,w412⟩ -
 dsimp only [aq,nq,cq]
 refine e_p (zg yf rfl sz59 rfl rfl)<|e_p (zia (i:=1) yq sz32 rfl rfl dd rfl)<|zj 0 rfl rfl rfl rfl rfl sz32 rfl (.s4 (.t4 .nil)) .z<|zf<|zd<|zqa (.c (i:=1) rfl (.c (i:=0) rfl (.c (i:=0) rfl (.c (i:=0) rfl (.c (i:=0) rfl .n)))))<|zV (OW:=[rowA 32 rQ p9 c10 (([((1:Int):Rat)])++([(Rat.divInt e.r0 0x100000)])),boxA g9_0 62 [w36.b,w36.l,w47.b,w47.l,w311.b,w311.l,w412.b,w412.l,wz.b,wz.l,wz.b,wz.l,g8_2.b,g8_2.l,g8_3.b,g8_3.l,g8_0.b,g8_0.l,g8_1.b,g8_1.l,wz.b,wz.l,wz.b,wz.l,.slice p9 (1+1) c10]]) (O:=[emA,boxA b2 62 [wz.b,wz.l,wz.b,wz.l,wz.b,wz.l,wz.b,wz.l,wz.b,wz.l,wz.b,wz.l,wz.b,wz.l,wz.b,wz.l,wz.b,wz.l,wz.b,wz.l,wz.b,wz.l,wz.b,wz.l,.slice none 0 0],boxA b1 27 [.int .i64 (e.f),.int .i64 (e.cx),.int .i64 (e.cy),.int .i64 (e.r0),.int .i64 (e.r1),.int .i64 (e.r2),.int .i64 (e.p1),.int .i64 (e.p2),.int .i64 (e.fd)]]) 7 mixed (.block (.then (.then (.block (.then .ret))))) kr<|e_pv 0 rfl rfl (zg yf rfl sz60 rfl rfl)<|e_uw 1 rfl rfl (zh 1 ty60 rfl rfl rfl)<|e_dm 2 rfl rfl rfl<|e_pv 3 rfl rfl (zg yf rfl sz59 rfl rfl)<|e_pv 4 rfl rfl (zia (i:=1) yq sz32 rfl rfl dd rfl)<|e_uw 5 rfl rfl (zc 1 ty32 rfl rfl (.s4 (.t4 .nil)))<|e_one 6 (zIa rfl rfl rfl rfl (zA (r:=rQ) (k:=1) ye inf32 rfl dd dd dd (.c (x:=(Rat.divInt e.r1 0x100000)) (cs:=[w311.b,w311.l,w412.b,w412.l]) (w311,w412) rfl rfl rfl (fun g hr=>Holds.get 0 rfl hr) .n)) (fun b13 _=> ?_))
 refine zla 0 rfl .z<|e_one 7 (zAd (A':=fun v:Option Addr×Nat=>rowA 32 rQ v.1 v.2 ((([((1:Int):Rat)])++([(Rat.divInt e.r0 0x100000)]))++([(Rat.divInt e.r1 0x100000)]))) kr rfl rfl rfl (zoa 0 rfl ye inf32 dd rfl rfl (by first|rfl|assumption|(simp;done)|omega) rfl (by first|rfl|assumption|(simp;done)|omega) om om) ?_)
 rintro ⟨p14,c15⟩ -
 dsimp only [aq,nq,cq]
 refine e_pv 8 rfl rfl (zg yf rfl sz60 rfl rfl)<|zza (zea (i:=1) rfl)<|e_one 9 (zv kr rfl rfl rfl rfl rfl sz60 rfl (.s8 (.s8 (.s8 (.take .nil)))) ?_)
 refine zH kr<|zP<|zd<|za<|e_p (zL (z:=2) rfl rfl (w64 dd))<|e_mv rfl<|zf<|zSb<|zub<|ze<|za<|e_p (zX rfl rfl)<|zf<|zd<|ze<|zlb rfl rfl<|zB<|zd<|ze<|zx<|ze<|za<|e_mv rfl<|e_p (zQb (i:=2) yx ty3 rfl rfl dd rfl)<|e_p (zb rfl)<|e_p (zb rfl)<|zf<|zd<|ze<|za<|e_mv rfl<|e_mv rfl<|zm rfl rfl (.c rfl (.c rfl .n)) ce47 (zwb (z1:=e.r2) (z2:=0x100000) (hz1:=by first|rfl|assumption|omega|decide|(simp;done)) (hz2:=by first|rfl|assumption|omega|decide|(simp;done)) (hy:=by first|rfl|assumption|omega|decide|(simp;done))) (.n) ?_
 rintro ⟨w316,w417⟩ -
 dsimp only [aq,nq,cq]
 refine e_p (zg yf rfl sz59 rfl rfl)<|e_p (zia (i:=2) yq sz32 rfl rfl dd rfl)<|zj 0 rfl rfl rfl rfl rfl sz32 rfl (.s8 (.t4 .nil)) .z<|zf<|zd<|zqa (.c (i:=1) rfl (.c (i:=0) rfl (.c (i:=0) rfl (.c (i:=0) rfl (.c (i:=0) rfl (.c (i:=0) rfl .n))))))<|zV (OW:=[rowA 32 rQ p14 c15 ((([((1:Int):Rat)])++([(Rat.divInt e.r0 0x100000)]))++([(Rat.divInt e.r1 0x100000)])),boxA g9_0 62 [w36.b,w36.l,w47.b,w47.l,w311.b,w311.l,w412.b,w412.l,w316.b,w316.l,w417.b,w417.l,g8_2.b,g8_2.l,g8_3.b,g8_3.l,g8_0.b,g8_0.l,g8_1.b,g8_1.l,wz.b,wz.l,wz.b,wz.l,.slice p14 ((1+1)+1) c15]]) (O:=[emA,emA,boxA b2 62 [wz.b,wz.l,wz.b,wz.l,wz.b,wz.l,wz.b,wz.l,wz.b,wz.l,wz.b,wz.l,wz.b,wz.l,wz.b,wz.l,wz.b,wz.l,wz.b,wz.l,wz.b,wz.l,wz.b,wz.l,.slice none 0 0],boxA b1 27 [.int .i64 (e.f),.int .i64 (e.cx),.int .i64 (e.cy),.int .i64 (e.r0),.int .i64 (e.r1),.int .i64 (e.r2),.int .i64 (e.p1),.int .i64 (e.p2),.int .i64 (e.fd)]]) 7 mixed (.block (.then (.then (.block (.then .ret))))) kr<|e_pv 0 rfl rfl (zg yf rfl sz60 rfl rfl)<|e_uw 1 rfl rfl (zh 1 ty60 rfl rfl rfl)<|e_dm 2 rfl rfl rfl<|e_pv 3 rfl rfl (zg yf rfl sz59 rfl rfl)<|e_pv 4 rfl rfl (zia (i:=2) yq sz32 rfl rfl dd rfl)<|e_uw 5 rfl rfl (zc 1 ty32 rfl rfl (.s8 (.t4 .nil)))<|e_one 6 (zIa rfl rfl rfl rfl (zA (r:=rQ) (k:=1) ye inf32 rfl dd dd dd (.c (x:=(Rat.divInt e.r2 0x100000)) (cs:=[w316.b,w316.l,w417.b,w417.l]) (w316,w417) rfl rfl rfl (fun g hr=>Holds.get 0 rfl hr) .n)) (fun b18 _=> ?_))
 refine zla 0 rfl .z<|e_one 7 (zAd (A':=fun v:Option Addr×Nat=>rowA 32 rQ v.1 v.2 (((([((1:Int):Rat)])++([(Rat.divInt e.r0 0x100000)]))++([(Rat.divInt e.r1 0x100000)]))++([(Rat.divInt e.r2 0x100000)]))) kr rfl rfl rfl (zoa 0 rfl ye inf32 dd rfl rfl (by first|rfl|assumption|(simp;done)|omega) rfl (by first|rfl|assumption|(simp;done)|omega) om om) ?_)
 rintro ⟨p19,c20⟩ -
 dsimp only [aq,nq,cq]
 refine e_pv 8 rfl rfl (zg yf rfl sz60 rfl rfl)<|zza (zea (i:=1) rfl)<|e_one 9 (zv kr rfl rfl rfl rfl rfl sz60 rfl (.s8 (.s8 (.s8 (.take .nil)))) ?_)
 refine zH kr<|zP<|zd<|za<|e_p (zL (z:=3) rfl rfl (w64 dd))<|e_mv rfl<|zf<|zSb<|zub<|ze<|za<|e_p (zX rfl rfl)<|zf<|zd<|ze<|zTa rfl rfl<|zfa<|zi<|zi<|zw<|zd<|ze<|zjb 1 rfl (.s .z) ?_
 rw [show ([((1:Int):Rat),Rat.divInt e.r0 0x100000,Rat.divInt e.r1 0x100000,Rat.divInt e.r2 0x100000]:List Rat)=Cam.rad e from rfl]
 refine za<|e_p (zg yf rfl sz60 rfl rfl)<|e_ru (zh 0 ty60 rfl rfl rfl)<|zna (addQE 0 rfl)<|zm rfl rfl (.c rfl .n) ce67 (zLa (p1:=p19) (n1:=((1+1)+1)+1) (c1:=c20) (l1:=((Cam.rad e).map some)) (hn1:=by first|rfl|assumption|omega|decide|(simp;done)) (hm1:=by first|rfl|assumption|omega|decide|(simp;done))) (.c (j:=0) rfl .n) ?_
 rintro ⟨p922,c923⟩ -
 dsimp only [aq,nq,cq]
 refine e_p (zg yf rfl sz60 rfl rfl)<|zj 0 rfl rfl rfl rfl rfl sz60 rfl (.s8 (.s8 (.s8 (.take .nil)))) .z<|zf<|zd<|ze ?_
 have e24:(Po.cl (Po.vals ((Cam.rad e).map some)):List Rat)=(Cam.rl e):=by rw [Po.vals_some];rfl
 rw [e24]
 refine za<|e_p (zg yn rfl sz3 rfl rfl)<|e_ru (zh 6 ty3 rfl rfl rfl)<|e_p (zg yn rfl sz3 rfl rfl)<|e_ru (zh 6 ty3 rfl rfl rfl)<|zm rfl rfl (.c rfl (.c rfl .n)) ce47 (zwb (z1:=e.fd) (z2:=e.f) (hz1:=by first|rfl|assumption|omega|decide|(simp;done)) (hz2:=by first|rfl|assumption|omega|decide|(simp;done)) (hy:=by first|rfl|assumption|omega|decide|(simp;done))) (.n) ?_
 rintro ⟨w325,w426⟩ -
 dsimp only [aq,nq,cq]
 refine zI rfl rfl (zr zr32 rfl) (fun b27=> ?_)
 refine zj 0 rfl rfl rfl rfl rfl sz32 rfl (.t4 .nil) .z<|zf<|zd<|ze<|za<|e_ru (zc 0 ty32 rfl rfl (.t4 .nil))<|e_ru (zc 0 ty32 rfl rfl (.t4 .nil))<|zva rfl rfl (zA (r:=rQ) (k:=2) ya inf32 rfl dd dd dd (.c (x:=(Rat.divInt e.fd e.f)) (cs:=[w325.b,w325.l,w426.b,w426.l]) (w325,w426) rfl rfl rfl (fun g hr=>Holds.get 0 rfl hr) (.c (x:=(Rat.divInt e.fd e.f)) (cs:=[w325.b,w325.l,w426.b,w426.l]) (w325,w426) rfl rfl rfl (fun g hr=>Holds.get 0 rfl hr) .n))) (fun b28 _=> ?_)
 refine zba 0 rfl .z<|zm rfl rfl (.c rfl .n) ce56 (zAa (p:=some ⟨b28,0,none⟩) (n:=2) (cap:=2) (l:=[(Rat.divInt e.fd e.f),(Rat.divInt e.fd e.f)]) (hn:=by first|rfl|assumption|omega|decide|(simp;done)) (hn9:=by first|rfl|assumption|omega|decide|(simp;done)) (hl:=by exact Cam.hqA_cons om (Cam.hqA_cons om (Cam.hqA_nil dd))) (hn1:=by first|rfl|assumption|omega|decide|(simp;done))) (.c (j:=0) rfl .n) ?_
 rintro ⟨w329,w430⟩ -
 dsimp only [aq,nq,cq]
 refine e_p (zg yf rfl sz32 rfl rfl)<|zj 2 rfl rfl rfl rfl rfl sz32 rfl (.s8 (.s8 (.s4 (.t4 .nil)))) (.s (.s .z))<|zf<|zd<|ze<|za<|e_ru (zc 2 ty62 rfl rfl (.t8 (.t8 (.t8 (.take .nil)))))<|zj 7 rfl rfl rfl rfl rfl sz62 rfl (.t8 (.t8 (.t8 (.take .nil)))) (.s (.s (.s (.s (.s (.s (.s .z)))))))<|zf<|zd<|zC ?_
 exact zu Tryz.results33 (w36,w47,w311,w412,w316,w417,g8_2,g8_3,g8_0,g8_1,w329,w430,p922,c923) trivial (zo 7 ty62 rfl rfl (.t8 (.t8 (.t8 (.take .nil))))) rfl (ho:=oN) ((.of [11,9,7,14,13,0,3] rfl):SelR _ _ _)
end Go.Proofs.YtahiajepeodhoaaGreat.Sp
namespace Go.Proofs.YtahiajepeodhoaaGreat.Cam
open Big
set_option linter.unusedVariables false
def ins (e:Ln) (x y:Rat):Prop:=sq x y≤lim e
instance (e:Ln) (x y:Rat):Decidable (ins e x y):=inferInstanceAs (Decidable (_≤_))
theorem le_iff {a b:Rat}:sgq (a - b)≤0↔a≤b:=by rw [sgq_le];constructor <;> intro h <;> grind
theorem dX_sum (e:Ln) (x y:Rat):sumL [mulL [x,Po.ev (sq x y) (rl e)],mulL [tP1 e,mulL [((2:Int):Rat),x,y]],mulL [tP2 e,sumL [sq x y,mulL [((2:Int):Rat),x,x]]]]=dX e x y:=by
  simp only [sum3,sum2,mul2,mul3];rfl
theorem dY_sum (e:Ln) (x y:Rat):sumL [mulL [y,Po.ev (sq x y) (rl e)],mulL [tP1 e,sumL [sq x y,mulL [((2:Int):Rat),y,y]]],mulL [tP2 e,mulL [((2:Int):Rat),x,y]]]=dY e x y:=by
  simp only [sum3,sum2,mul2,mul3];rfl
theorem tq1 {e:Ln} (h:In e):hq (tP1 e)≤3:=pq h.p1
theorem tq2 {e:Ln} (h:In e):hq (tP2 e)≤3:=pq h.p2
theorem m3_hq {a b c:Rat} {A B C:Nat} (h1:hq a≤A) (h2:hq b≤B) (h3:hq c≤C):hq (mulL [a,b,c])≤A+B+C:=by
  rw [mul3];have:=hq_mul (a*b) c;have:=hq_mul a b;omega
theorem m2_hq {a b:Rat} {A B:Nat} (h1:hq a≤A) (h2:hq b≤B):hq (mulL [a,b])≤A+B:=by
  rw [mul2];have:=hq_mul a b;omega
theorem s2_hq {a b:Rat} {A B:Nat} (h1:hq a≤A) (h2:hq b≤B):hq (sumL [a,b])≤A+B+1:=by
  rw [sum2];have:=hq_add a b;omega
end Go.Proofs.YtahiajepeodhoaaGreat.Cam
namespace Go.Proofs.YtahiajepeodhoaaGreat.Sp
open Go
set_option linter.unusedVariables false
set_option maxRecDepth 100000
set_option maxHeartbeats 8000000
theorem zxe {e:Cam.Ln} {wa1:Wd} {wa2:Wd} {wb1:Wd} {wb2:Wd} {wc1:Wd} {wc2:Wd} {wp1:Wd} {wp2:Wd} {wq1:Wd} {wq2:Wd} {wt1:Wd} {wt2:Wd} {pm:Option Addr} {cm:Nat} {u1:Wd} {u2:Wd} {v1:Wd} {v2:Wd} {qx:Rat} {qy:Rat} (hin:Cam.In e) (hok:Cam.ok e) (hx:ym qx≤100) (hy:ym qy≤100):Con yd 34 [.agg #[wa1.b,wa1.l,wa2.b,wa2.l,wb1.b,wb1.l,wb2.b,wb2.l,wc1.b,wc1.l,wc2.b,wc2.l,wp1.b,wp1.l,wp2.b,wp2.l,wq1.b,wq1.l,wq2.b,wq2.l,wt1.b,wt1.l,wt2.b,wt2.l,.slice pm ((Cam.rl e).length) cm],.agg #[u1.b,u1.l,u2.b,u2.l,v1.b,v1.l,v2.b,v2.l]] [] [qF true wa1 wa2 (Rat.divInt e.r0 0x100000),qF true wb1 wb2 (Rat.divInt e.r1 0x100000),qF true wc1 wc2 (Rat.divInt e.r2 0x100000),qF true wp1 wp2 (Cam.tP1 e),qF true wq1 wq2 (Cam.tP2 e),qF true wt1 wt2 (Cam.lim e),slF rQ pm cm (Cam.rl e),qF true u1 u2 qx,qF true v1 v2 qy] (Y:=Unit) (fun y=>True) (fun y=> .bool (decide (Cam.ins e qx qy))) (fun y=>[]) (fun y=>[]):=by
 refine zl Tryz.func34 rfl rfl rfl (fun c=> ?_)
 show RunC _ _ _ _ _ [(0,.agg #[wa1.b,wa1.l,wa2.b,wa2.l,wb1.b,wb1.l,wb2.b,wb2.l,wc1.b,wc1.l,wc2.b,wc2.l,wp1.b,wp1.l,wp2.b,wp2.l,wq1.b,wq1.l,wq2.b,wq2.l,wt1.b,wt1.l,wt2.b,wt2.l,.slice pm ((Cam.rl e).length) cm]),(1,.agg #[u1.b,u1.l,u2.b,u2.l,v1.b,v1.l,v2.b,v2.l])] [] [qF true wa1 wa2 (Rat.divInt e.r0 0x100000),qF true wb1 wb2 (Rat.divInt e.r1 0x100000),qF true wc1 wc2 (Rat.divInt e.r2 0x100000),qF true wp1 wp2 (Cam.tP1 e),qF true wq1 wq2 (Cam.tP2 e),qF true wt1 wt2 (Cam.lim e),slF rQ pm cm (Cam.rl e),qF true u1 u2 qx,qF true v1 v2 qy]
 refine zU 6 rfl (fun hL6=> ?_)
 have hlq:=Cam.lim_hq hin hok
 have hsq:=Cam.sq_hq hx hy
 refine ze<|za<|zI rfl rfl (zR rfl rfl) (fun b1=> ?_)
 refine zI rfl rfl (zR rfl rfl) (fun b2=> ?_)
 refine e_p (zb rfl)<|zf<|zd<|ze<|zV (OW:=[]) (O:=[boxA b2 34 (cw [u1,u2,v1,v2]),boxA b1 62 [wa1.b,wa1.l,wa2.b,wa2.l,wb1.b,wb1.l,wb2.b,wb2.l,wc1.b,wc1.l,wc2.b,wc2.l,wp1.b,wp1.l,wp2.b,wp2.l,wq1.b,wq1.l,wq2.b,wq2.l,wt1.b,wt1.l,wt2.b,wt2.l,.slice pm ((Cam.rl e).length) cm]]) 100000 mixed (.then .ret) kr<|e_u 0 rfl rfl (zc 0 ty34 rfl rfl (.t8 .nil))<|e_pv 2 rfl rfl (zg yf rfl sz32 rfl rfl)<|e_u 3 rfl rfl (zc 1 ty32 rfl rfl (.s8 (.s8 (.s4 (.t4 .nil)))))<|e_one 1 (zp rfl rfl rfl rfl (.c rfl .n) ce69 (zld (u1:=u1) (u2:=u2) (v1:=v1) (v2:=v2) (qx:=qx) (qy:=qy) (hx:=ass) (hy:=ass)) (.c (j:=7) rfl (.c (j:=8) rfl .n)) ?_)
 rintro ⟨w33,w44⟩ -
 dsimp only [aq,nq,cq]
 refine e_one 4 (zbb rfl rfl rfl rfl (.c rfl (.c rfl .n)) ce68 (zOc (k1:=true) (u1:=w33) (v1:=w44) (q1:=(Cam.sq qx qy)) (k2:=true) (u2:=wt1) (v2:=wt2) (q2:=(Cam.lim e)) (hl:=cbo)) (.c (j:=0) rfl (.c (j:=6) rfl .n)) ?_)
 refine e_pv 5 rfl rfl (zxb rfl rfl)<|e_pv 6 rfl rfl (zb rfl)<|zH kr<|zd<|zC ?_
 exact zu Tryz.results34 () trivial (zn rfl) (by exact congrArg Value.bool (decide_eq_decide.2 Cam.le_iff.symm)) (ho:=oN) sN
end Go.Proofs.YtahiajepeodhoaaGreat.Sp
namespace Go.Proofs.YtahiajepeodhoaaGreat.Sp
open Go
set_option linter.unusedVariables false
set_option maxRecDepth 100000
set_option maxHeartbeats 8000000
theorem zdf {s:Bool} {p1:Option Addr} {n1:Nat} {c1:Nat} {l1:List Int} {t:Bool} {p2:Option Addr} {n2:Nat} {c2:Nat} {l2:List Int} (hn1:l1.length=n1) (hn2:l2.length=n2) (hm1:n1≤1099511627776) (hm2:n2≤1099511627776):Con yd 31 [.agg #[.bool s,.slice p1 n1 c1,.bool t,.slice p2 n2 c2]] [] [slF (rI .u32) p1 c1 l1,slF (rI .u32) p2 c2 l2] (Y:=Bool) (fun y=>(y=true→ym ((qo ((s,l1),(t,l2))).getD 0)≤1)) (fun y=> .bool y) (fun y=>[]) (fun y=>[]):=by
 refine zl Tryz.func31 rfl rfl rfl (fun c=> ?_)
 show RunC _ _ _ _ _ [(0,.agg #[.bool s,.slice p1 n1 c1,.bool t,.slice p2 n2 c2])] [] [slF (rI .u32) p1 c1 l1,slF (rI .u32) p2 c2 l2]
 refine zU 0 rfl (fun hL0=> ?_)
 refine zUa 0 rfl (fun hE0=> ?_)
 refine zU 1 rfl (fun hL1=> ?_)
 refine zUa 1 rfl (fun hE1=> ?_)
 have hnn1:yC l1:=fun g hg=>(zy.1 (hE0 g hg)).1
 have hnn2:yC l2:=fun g hg=>(zy.1 (hE1 g hg)).1
 refine ze<|za<|zI rfl rfl (zR rfl rfl) (fun b1=> ?_)
 refine e_p (zb rfl)<|zf<|zd<|ze<|zV (OW:=[]) (O:=[boxA b1 32 [.bool s,.slice p1 n1 c1,.bool t,.slice p2 n2 c2]]) 100000 mixed (.then .ret) kr<|e_pv 0 rfl rfl (zg yc rfl sz30 rfl rfl)<|e_pv 1 rfl rfl (zg yk rfl sz28 rfl rfl)<|e_u 2 rfl rfl (zh 0 ty28 rfl rfl rfl)<|e_pv 3 rfl rfl (zg yc rfl sz30 rfl rfl)<|e_pv 4 rfl rfl (zg yk rfl sz28 rfl rfl)<|e_u 5 rfl rfl (zh 0 ty28 rfl rfl rfl)<|e_pv 6 rfl rfl (zb rfl)<|e_pv 7 rfl rfl (zb rfl)<|zH kr<|zd<|ze<|zOa (X:=Unit) (fun x=>True) (fun x=>[(18,.bool (decide (1<n1∨1<n2))),(4,.slice p2 n2 c2),(3,.slice p1 n1 c1),(2,.bool false)]) (fun x=>[boxA b1 32 [.bool s,.slice p1 n1 c1,.bool t,.slice p2 n2 c2]]) (fun x=>[slF (rI .u32) p1 c1 l1,slF (rI .u32) p2 c2 l2]) ?_ ?_
 ·
  refine za<|e_mv rfl<|e_p (zK yh rfl)<|e_p (zCa rfl rfl)<|zha rfl rfl (zga rfl) (fun h2=> ?_) (fun h2=> ?_)
  ·
   refine e_no<|e_no<|e_no<|e_p (zE rfl rfl)<|zf ?_
   exact zT () tt9 ((.e rfl (congrArg Value.bool (by first|exact (decide_eq_true om).symm|exact decide_eq_decide.2 om)) (.of rfl)):SubM _ _) (ho:=(o0 rfl)) ((.of [0,1] rfl):SelR _ _ _)
  ·
   refine e_mv rfl<|e_p (zK yh rfl)<|e_p (zCa rfl rfl)<|e_p (zE rfl rfl)<|zf ?_
   exact zT () tt9 ((.e rfl (congrArg Value.bool (by first|exact (decide_eq_true om).symm|exact decide_eq_decide.2 om)) (.of rfl)):SubM _ _) (ho:=(o0 rfl)) ((.of [0,1] rfl):SelR _ _ _)
 ·
  rintro ⟨⟩ -
  try dsimp only
  refine zG rfl (fun h18=> ?_) (fun h18=> ?_)
  ·
   refine ze<|za<|e_p (zb rfl)<|zf<|zd<|zC<|zk ?_
   exact zu Tryz.results31 false (fun k=>by cases k) (zn rfl) rfl (ho:=oN) sN
  ·
   refine zB<|zd<|zOa (X:=Bool) (fun x=>True) (fun x=>[(2,.bool x)]) (fun x=>[boxA b1 32 [.bool s,.slice p1 n1 c1,.bool t,.slice p2 n2 c2]]) (fun x=>[slF (rI .u32) p1 c1 l1,slF (rI .u32) p2 c2 l2]) ?_ ?_
   ·
    refine za<|e_mv rfl<|e_p (zK yh rfl)<|e_p (zwa rfl rfl)<|zha rfl rfl (zga rfl) (fun h3=> ?_) (fun h3=> ?_)
    ·
     refine e_no<|e_no<|e_no<|e_no<|e_p (zE rfl rfl)<|e_mv rfl<|e_mv rfl<|e_p (zK yh rfl)<|e_p (zwa rfl rfl)<|zha rfl rfl (zga rfl) (fun h4=> ?_) (fun h4=> ?_)
     ·
      refine e_no<|e_no<|e_no<|e_no<|e_p (zE rfl rfl)<|e_p (zE rfl rfl)<|e_p (zb rfl)<|zf ?_
      exact zT true (show True from by first|trivial) ((.e rfl (congrArg Value.bool cbu) .n):SubM _ _) (ho:=(o0 rfl)) ((.of [0,1] rfl):SelR _ _ _)
     ·
      refine e_mv rfl<|zY (x0:=(l2.getD 0 0)) 1 0 rfl yh sz84 rfl rfl rfl cbo rfl rfl (gD (d:=0) om) (fun b5 o6 hok7=> ?_)
      replace hok7:=zy.1 hok7
      refine e_ru (zt (j:=0) 0 ty84 rfl rfl rfl rfl)<|e_p (zxb rfl rfl)<|e_p (zE rfl rfl)<|e_p (zE rfl rfl)<|e_p (zb rfl)<|zf ?_
      exact zT (decide ((l2.getD 0 0)≤100)) (show True from by first|trivial) ((.c rfl .n):SubM _ _) (ho:=(o0 rfl)) ((.of [1,2] rfl):SelR _ _ _)
    ·
     refine e_mv rfl<|zY (x0:=(l1.getD 0 0)) 0 0 rfl yh sz84 rfl rfl rfl cbo rfl rfl (gD (d:=0) om) (fun b8 o9 hok10=> ?_)
     replace hok10:=zy.1 hok10
     refine e_ru (zt (j:=0) 0 ty84 rfl rfl rfl rfl)<|e_p (zX rfl rfl)<|e_p (zE rfl rfl)<|zha rfl rfl (zga rfl) (fun h11=> ?_) (fun h11=> ?_)
     ·
      refine e_mv rfl<|e_p (zK yh rfl)<|e_p (zwa rfl rfl)<|zha rfl rfl (zga rfl) (fun h12=> ?_) (fun h12=> ?_)
      ·
       refine e_no<|e_no<|e_no<|e_no<|e_p (zE rfl rfl)<|e_p (zE rfl rfl)<|e_p (zb rfl)<|zf ?_
       exact zT true (show True from by first|trivial) ((.e rfl (congrArg Value.bool cbu) .n):SubM _ _) (ho:=(o0 rfl)) ((.of [1,2] rfl):SelR _ _ _)
      ·
       refine e_mv rfl<|zY (x0:=(l2.getD 0 0)) 2 0 rfl yh sz84 rfl rfl rfl cbo rfl rfl (gD (d:=0) om) (fun b13 o14 hok15=> ?_)
       replace hok15:=zy.1 hok15
       refine e_ru (zt (j:=0) 0 ty84 rfl rfl rfl rfl)<|e_p (zxb rfl rfl)<|e_p (zE rfl rfl)<|e_p (zE rfl rfl)<|e_p (zb rfl)<|zf ?_
       exact zT (decide ((l2.getD 0 0)≤100)) (show True from by first|trivial) ((.c rfl .n):SubM _ _) (ho:=(o0 rfl)) ((.of [2,3] rfl):SelR _ _ _)
     ·
      refine e_no<|e_no<|e_no<|e_no<|e_no<|e_no<|e_no<|e_no<|e_no<|e_p (zE rfl rfl)<|e_p (zb rfl)<|zf ?_
      exact zT false (show True from by first|trivial) ((.e rfl (congrArg Value.bool cbu) .n):SubM _ _) (ho:=(o0 rfl)) ((.of [1,2] rfl):SelR _ _ _)
   ·
    rintro g9 -
    try dsimp only
    refine zC ?_
    exact zu Tryz.results31 g9 (fun _=>qo_hq _ hnn1 hnn2 (by show l1.length≤1;omega) (by show l2.length≤1;omega) dd) (zn rfl) rfl (ho:=oN) sN
theorem zee {u1:Wd} {v1:Wd} {x1:Option Rat}:Con yd 31 [.agg #[u1.b,u1.l,v1.b,v1.l]] [] [eF u1 v1 (x1)] (Y:=(Bool)) (fun y=>(y=true→ym (x1.getD 0)≤1)) (fun y=> .bool (y)) (fun y=>[]) (fun y=>[]):=by
  exact zyf (fun y hy h1 h2=>by subst hy;exact zdf rfl rfl h1 h2)
end Go.Proofs.YtahiajepeodhoaaGreat.Sp
namespace Go.Proofs.YtahiajepeodhoaaGreat.Sp
open Go
set_option linter.unusedVariables false
set_option maxRecDepth 100000
set_option maxHeartbeats 8000000
theorem zef {p:Option Addr} {n:Nat} {cap:Nat} {l:List (Option Rat×Option Rat)} (hn:l.length=n) (hn9:n≤9):Con yd 7 [.slice p n cap] [] [slF rEE p cap l] (Y:=Bool) (fun y=>(y=true→∀i,i<n→(ym ((l.getD i ((none:Option Rat),(none:Option Rat))).1.getD 0)≤1∧ym ((l.getD i ((none:Option Rat),(none:Option Rat))).2.getD 0)≤1))) (fun y=> .bool y) (fun y=>[]) (fun y=>[]):=by
 refine zl Tryz.func7 rfl rfl rfl (fun c=> ?_)
 show RunC _ _ _ _ _ [(0,.slice p n cap)] [] [slF rEE p cap l]
 refine zU 0 rfl (fun hL0=> ?_)
 refine ze<|za<|e_p (zb rfl)<|zf<|zd<|ze<|ze<|za<|e_mv rfl<|e_p (zK yp rfl)<|e_mv rfl<|zf<|zd<|zx<|zja (X:=Nat) (fun x:Nat=>x≤n∧∀j,j<x→(ym ((l.getD j ((none:Option Rat),(none:Option Rat))).1.getD 0)≤1∧ym ((l.getD j ((none:Option Rat),(none:Option Rat))).2.getD 0)≤1)) (fun x=>[(9,.int .i64 ((x:Nat):Int)),(8,.int .i64 ((n:Nat):Int)),(7,.slice p n cap)]) (fun x=>[]) (fun x=>[slF rEE p cap l]) (fun x:Nat=>n - x) 0 (show 0≤n∧∀j,j<0→(ym ((l.getD j ((none:Option Rat),(none:Option Rat))).1.getD 0)≤1∧ym ((l.getD j ((none:Option Rat),(none:Option Rat))).2.getD 0)≤1) from by exact ⟨Nat.zero_le _,fun j h=>by omega⟩) ((.e rfl cgs (.c rfl (.c rfl .n))):SubM _ _) (ho:=oN) (s0 rfl) ?_
 rintro i hI
 replace hI:i≤n∧∀j,j<i→(ym ((l.getD j ((none:Option Rat),(none:Option Rat))).1.getD 0)≤1∧ym ((l.getD j ((none:Option Rat),(none:Option Rat))).2.getD 0)≤1):=hI
 try dsimp only
 obtain ⟨hi,hall⟩:=hI
 refine ze<|za<|e_p (zX rfl rfl)<|zf<|zd<|ze<|zG rfl (fun h1=> ?_) (fun h1=> ?_)
 ·
  refine zB<|zd<|ze<|zx<|ze<|za<|r_vl rfl rfl (zpa (x0:=(l.getD i ((none:Option Rat),(none:Option Rat)))) 0 i rfl yp sz34 rfl (by first|rfl|assumption|(simp;done)|omega) rfl rfl (gD (d:=((none:Option Rat),(none:Option Rat))) om)) ?_
  rintro ⟨b2,o3,w4,w5,w6,w7⟩ -
  dsimp only [aq,nq,cq]
  refine zna open_rEE<|e_ru (zQ (j:=0) 0 ty34 rfl rfl rfl (.t8 .nil))<|zI rfl rfl (zr zr34 rfl) (fun b8=> ?_)
  refine zj 0 rfl rfl rfl rfl rfl sz34 rfl (.t8 .nil) .z<|zf<|zd<|ze<|za<|e_p (zg yj rfl sz32 rfl rfl)<|e_ru (zc 0 ty32 rfl rfl (.t4 .nil))<|e_p (zg yj rfl sz32 rfl rfl)<|e_ru (zc 0 ty32 rfl rfl (.s4 (.t4 .nil)))<|zva rfl rfl (zA (r:=rE) (k:=2) ya inf32 rfl dd dd dd (.c (x:=((l.getD i ((none:Option Rat),(none:Option Rat))).1)) (cs:=[w4.b,w4.l,w5.b,w5.l]) (w4,w5) rfl rfl rfl (fun g hr=>Holds.get 2 rfl hr) (.c (x:=((l.getD i ((none:Option Rat),(none:Option Rat))).2)) (cs:=[w6.b,w6.l,w7.b,w7.l]) (w6,w7) rfl rfl rfl (fun g hr=>Holds.get 4 rfl hr) .n))) (fun b9 _=> ?_)
  refine e_p (zK ya rfl)<|e_mv rfl<|zf<|zd<|zx<|zme<|zub<|ze ?_
  have hL2:([(l.getD i ((none:Option Rat),(none:Option Rat))).1,(l.getD i ((none:Option Rat),(none:Option Rat))).2]:List (Option Rat)).length=2:=rfl
  refine za<|e_p (zX rfl rfl)<|zf<|zd<|ze<|zlb rfl rfl<|zB<|zd<|ze<|zx<|ze<|za<|e_p (zZ (j:=0) ya sz32 rfl rfl rfl om)<|r_vl rfl rfl (zhb (x0:=(([((l.getD i ((none:Option Rat),(none:Option Rat))).1),((l.getD i ((none:Option Rat),(none:Option Rat))).2)]).getD 0 (none:Option Rat))) 0 0 rfl ty32 rfl rfl (gD (d:=(none:Option Rat)) om)) ?_
  rintro ⟨w11,w12⟩ -
  dsimp only [aq,nq,cq]
  refine zna open1_rE<|zI rfl rfl (zr zr32 rfl) (fun b13=> ?_)
  refine zj 0 rfl rfl rfl rfl rfl sz32 rfl (.t4 .nil) .z<|zf<|zd<|ze<|za<|e_ru (zc 0 ty32 rfl rfl (.t4 .nil))<|zm rfl rfl (.c rfl .n) ce31 (zee (u1:=w11) (v1:=w12) (x1:=(([((l.getD i ((none:Option Rat),(none:Option Rat))).1),((l.getD i ((none:Option Rat),(none:Option Rat))).2)]).getD 0 (none:Option Rat)))) (.c (j:=1) rfl .n) ?_
  rintro b914 hbr
  dsimp only [aq,nq,cq]
  replace hbr:(b914=true→ym ((([((l.getD i ((none:Option Rat),(none:Option Rat))).1),((l.getD i ((none:Option Rat),(none:Option Rat))).2)]).getD 0 (none:Option Rat)).getD 0)≤1):=hbr
  refine e_p (zqb rfl)<|zf<|zd<|zZa rfl (fun h25=> ?_) (fun h25=> ?_)
  ·
   refine ze<|za<|e_p (zb rfl)<|zf<|zd<|zC<|zM<|zk<|zk<|zM<|zM<|zk<|zk<|zM<|zk ?_
   exact zu Tryz.results7 false (fun k=>by cases k) (zn rfl) rfl (ho:=oN) sN
  ·
   have hb1:=hbr (by simpa using h25)
   refine zB<|zP<|zd<|za<|e_p (zL (z:=1) rfl rfl (w64 dd))<|e_mv rfl<|zf<|zSb<|zub<|ze ?_
   have hL2:([(l.getD i ((none:Option Rat),(none:Option Rat))).1,(l.getD i ((none:Option Rat),(none:Option Rat))).2]:List (Option Rat)).length=2:=rfl
   refine za<|e_p (zX rfl rfl)<|zf<|zd<|ze<|zlb rfl rfl<|zB<|zd<|ze<|zx<|ze<|za<|e_p (zZ (j:=1) ya sz32 rfl rfl rfl om)<|r_vl rfl rfl (zhb (x0:=(([((l.getD i ((none:Option Rat),(none:Option Rat))).1),((l.getD i ((none:Option Rat),(none:Option Rat))).2)]).getD 1 (none:Option Rat))) 1 1 rfl ty32 rfl rfl (gD (d:=(none:Option Rat)) om)) ?_
   rintro ⟨w16,w17⟩ -
   dsimp only [aq,nq,cq]
   refine zna open1_rE<|zI rfl rfl (zr zr32 rfl) (fun b18=> ?_)
   refine zj 0 rfl rfl rfl rfl rfl sz32 rfl (.t4 .nil) .z<|zf<|zd<|ze<|za<|e_ru (zc 0 ty32 rfl rfl (.t4 .nil))<|zm rfl rfl (.c rfl .n) ce31 (zee (u1:=w16) (v1:=w17) (x1:=(([((l.getD i ((none:Option Rat),(none:Option Rat))).1),((l.getD i ((none:Option Rat),(none:Option Rat))).2)]).getD 1 (none:Option Rat)))) (.c (j:=1) rfl .n) ?_
   rintro b919 hbr
   dsimp only [aq,nq,cq]
   replace hbr:(b919=true→ym ((([((l.getD i ((none:Option Rat),(none:Option Rat))).1),((l.getD i ((none:Option Rat),(none:Option Rat))).2)]).getD 1 (none:Option Rat)).getD 0)≤1):=hbr
   refine e_p (zqb rfl)<|zf<|zd<|zZa rfl (fun h25=> ?_) (fun h25=> ?_)
   ·
    refine ze<|za<|e_p (zb rfl)<|zf<|zd<|zC<|zM<|zk<|zk<|zM<|zM<|zk<|zk<|zM<|zk ?_
    exact zu Tryz.results7 false (fun k=>by cases k) (zn rfl) rfl (ho:=oN) sN
   ·
    have hb2:=hbr (by simpa using h25)
    refine zB<|zP<|zd<|za<|e_p (zL (z:=2) rfl rfl (w64 dd))<|e_mv rfl<|zf<|zSb<|zub<|ze ?_
    have hL2:([(l.getD i ((none:Option Rat),(none:Option Rat))).1,(l.getD i ((none:Option Rat),(none:Option Rat))).2]:List (Option Rat)).length=2:=rfl
    refine za<|e_p (zX rfl rfl)<|zf<|zd<|ze<|zTa rfl rfl<|zfa<|zi<|zi<|zw<|zP<|zd<|za<|e_p (zL (z:=(((i+1):Nat):Int)) rfl rfl (w64 om))<|e_mv rfl<|zf<|zda (i+1) (show (i+1)≤n∧∀j,j<(i+1)→(ym ((l.getD j ((none:Option Rat),(none:Option Rat))).1.getD 0)≤1∧ym ((l.getD j ((none:Option Rat),(none:Option Rat))).2.getD 0)≤1) from by refine ⟨by omega,fun j hj=> ?_⟩;by_cases e1:j=i;subst e1;exact ⟨hb1,hb2⟩;exact hall j om) (by show n - (i+1)<n - i;omega) (mR rfl) (ho:=oN) ((.c (j:=9) rfl .n):SelR _ _ _)
 ·
  refine zfa<|zi<|zi<|zw<|zd<|ze<|za<|e_p (zb rfl)<|zf<|zd<|zC ?_
  exact zu Tryz.results7 true (fun _=>fun j hj=>hall j om) (zn rfl) rfl (ho:=oN) sN
end Go.Proofs.YtahiajepeodhoaaGreat.Sp
namespace Go.Proofs.YtahiajepeodhoaaGreat.Cam
open Big
set_option linter.unusedVariables false
def np (q:Rat):Bool:=decide (q≤0)
theorem np_iff {q:Rat}:np q=true↔q≤0:=decide_eq_true_iff
def ends (l:List Rat):Prop:=l.getD 0 0≤0∨l.getD (l.length - 1) 0≤0
instance (l:List Rat):Decidable (ends l):=inferInstanceAs (Decidable (_∨_))
def clear (l:List Rat):Prop:=ends l∨l.any np=false
end Go.Proofs.YtahiajepeodhoaaGreat.Cam
namespace Go.Proofs.YtahiajepeodhoaaGreat.Sp
open Go
set_option linter.unusedVariables false
set_option maxRecDepth 100000
set_option maxHeartbeats 8000000
theorem zye {u1:Wd} {v1:Wd} {q1:Rat} (hl:ym q1≤100000000):Con yd 128 [.agg #[u1.b,u1.l,v1.b,v1.l]] [] [qF true u1 v1 q1] (Y:=Unit) (fun y=>True) (fun y=> .bool (Cam.np q1)) (fun y=>[]) (fun y=>[]):=by
 refine zl Tryz.func128 rfl rfl rfl (fun c=> ?_)
 show RunC _ _ _ _ _ [(0,.agg #[u1.b,u1.l,v1.b,v1.l])] [] [qF true u1 v1 q1]
 refine ze<|za<|zI rfl rfl (zR rfl rfl) (fun b1=> ?_)
 refine e_p (zb rfl)<|zf<|zd<|ze<|za<|e_ru (zc 0 ty32 rfl rfl (.t4 .nil))<|zJ rfl rfl (.c rfl .n) ce98 (zFb (k1:=true) (u1:=u1) (v1:=v1) (q1:=q1)) (.c (j:=0) rfl .n)<|e_p (zxb rfl rfl)<|e_p (zb rfl)<|zf<|zd<|zC ?_
 exact zu Tryz.results128 () trivial (zn rfl) (by exact congrArg Value.bool (decide_eq_decide.2 yt.symm)) (ho:=oN) sN
theorem zjg {p:Option Addr} {n:Nat} {cap:Nat} {l:List (Rat)} (hn:l.length=n) (hn9:n≤1000) (hl:∀i,ym (l.getD i 0)≤100000000):Con yd 148 [.slice p n cap,.func (.func 128) #[] #[]] [] [slF rQ p cap l] (Y:=Int) (fun y=>(0≤y↔l.any Cam.np=true)) (fun y=> .int .i64 y) (fun y=>[]) (fun y=>[]):=by
 refine zl Tryz.func148 rfl rfl rfl (fun c=> ?_)
 show RunC _ _ _ _ _ [(0,.slice p n cap),(1,.func (.func 128) #[] #[])] [] [slF rQ p cap l]
 refine zU 0 rfl (fun hL0=> ?_)
 refine ze<|za<|e_p (zb rfl)<|zf<|zd<|ze<|ze<|za<|e_mv rfl<|e_p (zK ya rfl)<|e_mv rfl<|zf<|zd<|zx<|zja (X:=Nat) (fun x:Nat=>x≤n∧∀j,j<x→Cam.np (l.getD j (0:Rat))=false) (fun x=>[(8,.int .i64 ((x:Nat):Int)),(7,.int .i64 ((n:Nat):Int)),(0,.slice p n cap),(1,.func (.func 128) #[] #[])]) (fun x=>[]) (fun x=>[slF rQ p cap l]) (fun x:Nat=>n - x) 0 (show 0≤n∧∀j,j<0→Cam.np (l.getD j (0:Rat))=false from by exact ⟨by omega,fun j h=>by omega⟩) ((.e rfl cgs (.of rfl)):SubM _ _) (ho:=oN) (s0 rfl) ?_
 rintro i hI
 replace hI:i≤n∧∀j,j<i→Cam.np (l.getD j (0:Rat))=false:=hI
 try dsimp only
 obtain ⟨hi,hall⟩:=hI
 refine ze<|za<|e_p (zX rfl rfl)<|zf<|zd<|ze<|zG rfl (fun h1=> ?_) (fun h1=> ?_)
 ·
  refine zB<|zd<|ze<|zx<|ze<|za<|e_mv rfl<|e_p (zb rfl)<|zf<|zd<|ze<|za<|e_mv rfl<|e_mv rfl<|e_mv rfl<|r_vl rfl rfl (zpa (x0:=(l.getD i (0:Rat))) 0 i rfl ya sz32 rfl cbs rfl rfl (gD (d:=(0:Rat)) om)) ?_
  rintro ⟨b2,o3,w4,w5⟩ -
  dsimp only [aq,nq,cq]
  refine zna open_rQ<|e_ru (zQ (j:=0) 0 ty32 rfl rfl rfl (.t4 .nil))<|zKc (first:=[]) (cap:=[]) rfl rfl rfl (.c rfl .n) ce128 (zye (u1:=w4) (v1:=w5) (q1:=(l.getD i (0:Rat))) (hl:=by first|rfl|assumption|omega|exact hl _)) (.c (j:=1) rfl .n) ?_
  rintro ⟨⟩ -
  dsimp only [aq,nq,cq]
  refine zf<|zd<|zZa rfl (fun hb=> ?_) (fun hb=> ?_)
  ·
   refine ze<|za<|e_mv rfl<|e_p (zb rfl)<|zf<|zd<|zC<|zM<|zk<|zk<|zM<|zk ?_
   exact zu Tryz.results148 ((i:Nat):Int) (⟨fun _=>Ms.any_true (0:Rat) (i:=i) om (by first|exact hb|simpa using hb),fun _=>by omega⟩) (zn rfl) rfl (ho:=oN) sN
  ·
   refine zB<|zP<|zd<|za<|e_p (zL (z:=(((i+1):Nat):Int)) rfl rfl (w64 om))<|e_mv rfl<|zf<|zda (i+1) (show (i+1)≤n∧∀j,j<(i+1)→Cam.np (l.getD j (0:Rat))=false from by exact ⟨by omega,Ms.all_lt_succ hall (by first|exact hb|simpa using hb)⟩) (by show n - (i+1)<n - i;omega) (mR rfl) (ho:=oN) ((.c (j:=2) rfl .n):SelR _ _ _)
 ·
  refine zfa<|zi<|zi<|zw<|zd<|ze<|za<|e_p (zb rfl)<|zf<|zd<|zC ?_
  exact zu Tryz.results148 (-1) (⟨fun h=>by omega,fun h=>by rw [Ms.any_false (0:Rat) (fun j hj=>hall j om)] at h;cases h⟩) (zn rfl) rfl (ho:=oN) sN
theorem zkg {p:Option Addr} {n:Nat} {cap:Nat} {l:List (Rat)} (hn:l.length=n) (hn9:n≤1000) (hl:∀i,ym (l.getD i 0)≤100000000):Con yd 127 [.slice p n cap,.func (.func 128) #[] #[]] [] [slF rQ p cap l] (Y:=Unit) (fun y=>True) (fun y=> .bool (l.any Cam.np)) (fun y=>[]) (fun y=>[]):=by
 refine zl Tryz.func127 rfl rfl rfl (fun c=> ?_)
 show RunC _ _ _ _ _ [(0,.slice p n cap),(1,.func (.func 128) #[] #[])] [] [slF rQ p cap l]
 refine zU 0 rfl (fun hL0=> ?_)
 refine ze<|za<|e_p (zb rfl)<|zf<|zd<|ze<|za<|e_mv rfl<|e_mv rfl<|zm rfl rfl (.c rfl (.c rfl .n)) ce148 (zjg (p:=p) (n:=n) (cap:=cap) (l:=l) (hn:=ass) (hn9:=ass) (hl:=ass)) (.c (j:=0) rfl .n) ?_
 rintro r1 hr
 dsimp only [aq,nq,cq]
 replace hr:(0≤r1↔l.any Cam.np=true):=hr
 refine e_p (zXa rfl rfl)<|e_p (zb rfl)<|zf<|zd<|zC ?_
 exact zu Tryz.results127 () trivial (zn rfl) (congrArg Value.bool (by rw [Bool.eq_iff_iff,decide_eq_true_iff];exact hr.symm)) (ho:=oN) sN
end Go.Proofs.YtahiajepeodhoaaGreat.Sp
namespace Go.Proofs.YtahiajepeodhoaaGreat.Sp
open Go
set_option linter.unusedVariables false
set_option maxRecDepth 100000
set_option maxHeartbeats 8000000
theorem zNf {p:Option Addr} {n:Nat} {cap:Nat} {l:List (Rat)} (hn:l.length=n) (hb:n≤1099511627776):Con yd 129 [.slice p n cap] [] [slF rQ p cap l] (Y:=(Option Addr)×Nat) (fun y=>True) (fun y=> .slice (y.1) (l.length) (y.2)) (fun y=>[rowA 32 rQ (y.1) (y.2) l]) (fun y=>[]):=by
 refine zl Tryz.func129 rfl rfl rfl (fun c=> ?_)
 show RunC _ _ _ _ _ [(0,.slice p n cap)] [] [slF rQ p cap l]
 refine zU 0 rfl (fun hL0=> ?_)
 refine c_nil 0 rfl (fun hnil=> ?_)
 refine ze<|za<|e_p (zb rfl)<|zf<|zd<|ze<|ze<|za<|e_mv rfl<|e_p (zLc ya rfl rfl)<|zf<|zd<|zZa rfl (fun h0=> ?_) (fun h0=> ?_)
 ·
  refine ze<|za<|e_p (zb rfl)<|zf<|zd<|zC<|zk ?_
  obtain rfl:l=[]:=hnil (by simpa using h0)
  refine zQf 32 rQ ?_
  exact zu Tryz.results129 (none,0) trivial (zn rfl) rfl (ho:=(o0 rfl)) sN
 ·
  refine zB<|zd<|ze<|za<|zva rfl rfl (zsa rQ ya inf32) (fun b1 _=> ?_)
  refine e_mv rfl<|zEa 0 rfl rfl rfl (zoa 0 rfl ya inf32 dd rfl rfl cbs rfl cbs (by first|omega|(simp;omega)) (by first|omega|(simp;omega))) (fun _=> .z) ?_
  rintro ⟨p2,c3⟩ -
  dsimp only [aq,nq,cq]
  refine e_p (zb rfl)<|zf<|zd<|zC ?_
  exact zu Tryz.results129 (p2,c3) trivial (zn rfl) (by simp [hn]) (ho:=(o0 rfl)) sN
end Go.Proofs.YtahiajepeodhoaaGreat.Sp
namespace Go.Proofs.YtahiajepeodhoaaGreat.Po
open Go.Proofs.YtahiajepeodhoaaGreat.Big
def mo (l:List Rat):List Rat:=if l.length=0 then [] else mul l [((1:Int):Rat) / lead l]
def ge:Nat→List Rat→List Rat→List Rat
  |0,p,_=>p
  |n+1,p,q=>if q.length=0 then p else ge n q (mo (dr p q))
def gcd (p q:List Rat):List Rat:=ge (cl q).length (mo (cl p)) (mo (cl q))
def sqf (p:List Rat):List Rat:=if (cl p).length=0 then [] else mo (dq (cl p) (gcd (cl p) (der (cl p))))
def st:Nat→List Rat→List Rat→List (List Rat)
  |0,_,_=>[]
  |n+1,a,b=>if b.length=0 then [] else b :: st n b (mul (dr a b) [(((-1:Int)):Rat)])
def sturm (p:List Rat):List (List Rat):=if (sqf p).length=0 then [] else sqf p :: st (sqf p).length (sqf p) (der (sqf p))
def va (x:Rat):List (List Rat)→Int→Int→Int
  |[],n,_=>n
  |p :: l,n,s=>if sgq (ev x p)=0 then va x l n s else va x l (if s*sgq (ev x p)<0 then n+1 else n) (sgq (ev x p))
def vr (l:List (List Rat)) (x:Rat):Int:=va x l 0 0
def bt (l:List (List Rat)) (a b:Rat):Int:=vr l a - vr l b
def bm (P:List Rat):Nat→Rat
  |0=>((0:Int):Rat)
  |i+1=>if bm P i<qabs (P.getD i 0 / lead P) then qabs (P.getD i 0 / lead P) else bm P i
def bound (P:List Rat):Rat:=bm P (P.length - 1)+((1:Int):Rat)
def dgo (p q:List Rat):Prop:=bd 60000000000 q∧dok (cl q) ((cl p).length+1) [] (cl p)
def gok:Nat→List Rat→List Rat→Prop
  |0,_,_=>True
  |n+1,p,q=>q.length≠0→dgo p q∧bd 60000000000 (dr p q)∧gok n q (mo (dr p q))
def gcok (p q:List Rat):Prop:=bd 60000000000 p∧bd 60000000000 q∧gok (cl q).length (mo (cl p)) (mo (cl q))
def sqok (p:List Rat):Prop:=bd 60000000000 p∧bd 60000000000 (der (cl p))∧((cl p).length≠0→gcok (cl p) (der (cl p))∧dgo (cl p) (gcd (cl p) (der (cl p)))∧bd 60000000000 (dq (cl p) (gcd (cl p) (der (cl p)))))
def stok:Nat→List Rat→List Rat→Prop
  |0,_,_=>True
  |n+1,a,b=>b.length≠0→bd 60000000000 b∧dgo a b∧bd 60000000000 (dr a b)∧stok n b (mul (dr a b) [(((-1:Int)):Rat)])
def sok (p:List Rat):Prop:=sqok p∧bd 60000000000 (sqf p)∧bd 60000000000 (der (sqf p))∧stok (sqf p).length (sqf p) (der (sqf p))
def vok (l:List (List Rat)) (x:Rat):Prop:=∀p,p∈l→p.length≤900∧bd 60000000000 p∧∀i,hq (ev x (p.drop i))≤200000000000
theorem mul_len (p q:List Rat):(mul p q).length≤p.length+q.length - 1:=by
  rw [← mul_mc]
  unfold mc
  exact Nat.le_trans (cl_le_len _) (by rw [gen_len];exact Nat.le_refl _)
theorem mo_len (l:List Rat):(mo l).length≤l.length:=by
  unfold mo
  split
  · exact Nat.zero_le _
  · exact Nat.le_trans (mul_len _ _) (by show l.length+1 - 1≤_;omega)
theorem mo_cl (l:List Rat):cl (mo l)=mo l:=by
  unfold mo
  split
  · rfl
  · exact mul_cl _ _
theorem dr_cl (p q:List Rat):cl (dr p q)=dr p q:=by
  unfold dr
  split
  · rfl
  · rename_i h
    have h':cl q≠[]:=fun e=>h (by rw [e];rfl)
    obtain ⟨-,-,h3,h4⟩:=dv_spec (cl_cl q) h' (cl p).length [] (cl p) (Nat.le_refl _) (cl_cl p) rfl
    first|exact h3|exact h4
theorem dq_cl (p q:List Rat):cl (dq p q)=dq p q:=by
  unfold dq
  split
  · rfl
  · rename_i h
    have h':cl q≠[]:=fun e=>h (by rw [e];rfl)
    obtain ⟨-,-,h3,h4⟩:=dv_spec (cl_cl q) h' (cl p).length [] (cl p) (Nat.le_refl _) (cl_cl p) rfl
    first|exact h4|exact h3
theorem dr_less {p q:List Rat} (hq:cl q=q) (h:q.length≠0):(dr p q).length<q.length:=by
  have h':cl q≠[]:=fun e=>h (by rw [hq] at e;rw [e];rfl)
  have:=(divp_spec (p:=p) h').1
  unfold dr
  rw [if_neg (by rw [hq];exact h)]
  rw [hq] at this
  exact this
theorem ge_nil {n:Nat} {p q:List Rat} (h:q.length=0):ge n p q=p:=by
  cases n with
  |zero=>rfl
  |succ n=>exact if_pos h
theorem ge_yes {n:Nat} {p q:List Rat} (h:q.length≠0) (hn:q.length≤n):ge n p q=ge (n - 1) q (mo (dr p q)):=by
  obtain ⟨m,rfl⟩:∃m,n=m+1:=⟨n - 1,by omega⟩
  exact if_neg h
theorem gok_yes {n:Nat} {p q:List Rat} (k:gok n p q) (h:q.length≠0) (hn:q.length≤n):dgo p q∧bd 60000000000 (dr p q)∧gok (n - 1) q (mo (dr p q)):=by
  obtain ⟨m,rfl⟩:∃m,n=m+1:=⟨n - 1,by omega⟩
  exact k h
theorem mdr_len {n:Nat} {p q:List Rat} (hq:cl q=q) (h:q.length≠0) (hn:q.length≤n):(mo (dr p q)).length≤n - 1:=by
  have:=mo_len (dr p q);have:=dr_less (p:=p) hq h;omega
theorem st_nil {n:Nat} {a b:List Rat} (h:b.length=0):st n a b=[]:=by
  cases n with
  |zero=>rfl
  |succ n=>exact if_pos h
theorem st_yes {n:Nat} {a b:List Rat} (h:b.length≠0) (hn:b.length≤n):st n a b=b :: st (n - 1) b (mul (dr a b) [(((-1:Int)):Rat)]):=by
  obtain ⟨m,rfl⟩:∃m,n=m+1:=⟨n - 1,by omega⟩
  exact if_neg h
theorem stok_yes {n:Nat} {a b:List Rat} (k:stok n a b) (h:b.length≠0) (hn:b.length≤n):bd 60000000000 b∧dgo a b∧bd 60000000000 (dr a b)∧stok (n - 1) b (mul (dr a b) [(((-1:Int)):Rat)]):=by
  obtain ⟨m,rfl⟩:∃m,n=m+1:=⟨n - 1,by omega⟩
  exact k h
theorem sdr_len {n:Nat} {a b:List Rat} (hb:cl b=b) (h:b.length≠0) (hn:b.length≤n):(mul (dr a b) [(((-1:Int)):Rat)]).length≤n - 1:=by
  have:=mul_len (dr a b) [(((-1:Int)):Rat)];have:=dr_less (p:=a) hb h
  simp only [List.length_cons,List.length_nil] at*
  omega
theorem der_len (l:List Rat):(der l).length≤l.length - 1:=by
  unfold der
  exact Nat.le_trans (cl_le_len _) (by rw [gen_len];exact Nat.le_refl _)
theorem cv_one {p q:List Rat} (hq1:∀j,j≠0→q.getD j 0=0) {k lo:Nat}:∀n,lo+n≤k+1→cv p q k lo n=if 0<n∧lo+n=k+1 then p.getD k 0*q.getD 0 0 else 0
  |0,_=>by rw [if_neg (by omega)];rfl
  |n+1,h=>by
    show cv p q k lo n+p.getD (lo+n) 0*q.getD (k - (lo+n)) 0=_
    rw [cv_one hq1 n (by omega),if_neg (by omega)]
    by_cases e:k=lo+n
    · rw [if_pos (by omega),e,Nat.sub_self];grind
    · rw [if_neg (by omega),hq1 _ (by omega)];grind
theorem cv_one_hq {p:List Rat} {x:Rat} {K L:Nat} (hp:bd K p) (hx:hq x≤L) (k lo n:Nat) (h:lo+n≤k+1):hq (cv p (cl [x]) k lo n)≤K+L:=by
  rw [cv_one (q:=cl [x]) (fun j hj=>by rw [cl_get];obtain ⟨i,rfl⟩:∃i,j=i+1:=⟨j - 1,by omega⟩;rfl) n h,cl_get]
  split
  · have := hq_mul (p.getD k 0) x
    have:=hp k
    show hq (p.getD k 0*x)≤_
    omega
  · rw [hq_zero];have:=hq_pos x;omega
theorem bd_one {x:Rat} {L:Nat} (hx:hq x≤L):bd L [x]:=fun i=>by
  cases i with
  |zero=>exact hx
  |succ i=>show hq 0≤L;rw [hq_zero];have:=hq_pos x;omega
theorem inv_hq {l:List Rat} {K:Nat} (h:bd K l):hq (((1:Int):Rat) / lead l)≤1+K:=by
  by_cases h0:lead l=0
  · rw [h0,show ((1:Int):Rat) / 0=0 by rw [Rat.div_def,Rat.inv_zero,Rat.mul_zero],hq_zero];omega
  · have := hq_div ((1 : Int) : Rat) h0
    have:=lead_hq h
    have:hq ((1:Int):Rat)=1:=by decide
    omega
theorem vok_of {L:List (List Rat)} {x:Rat} {K M:Nat} (hx:hq x≤M) (h:∀p,p∈L→p.length≤10∧bd K p) (hk:K≤60000000000) (hb:1+10*(K+M+1)≤200000000000):vok L x:=fun p hp=>by
  obtain ⟨h1,h2⟩:=h p hp
  refine ⟨by omega,bd_mono h2 hk,fun i=> ?_⟩
  refine Nat.le_trans (ev_hq (K:=K) hx (l:=p.drop i) fun j=> ?_) (Nat.le_trans (Nat.add_le_add_left (Nat.mul_le_mul_right _ (by rw [List.length_drop];omega)) _) hb)
  have:(p.drop i).getD j 0=p.getD (i+j) 0:=by rw [List.getD_eq_getElem?_getD,List.getElem?_drop,←List.getD_eq_getElem?_getD]
  rw [this];exact h2 _
theorem va_step (x:Rat) {L:List (List Rat)} {i:Nat} (h:i<L.length) (n s:Int):va x (L.drop i) n s=if sgq (ev x (L.getD i []))=0 then va x (L.drop (i+1)) n s else va x (L.drop (i+1)) (if s*sgq (ev x (L.getD i []))<0 then n+1 else n) (sgq (ev x (L.getD i []))):=by
  have e:L.drop i=L.getD i [] :: L.drop (i+1):=by
    rw [List.getD_eq_getElem?_getD,List.getElem?_eq_getElem h]
    exact List.drop_eq_getElem_cons h
  rw [e];rfl
end Go.Proofs.YtahiajepeodhoaaGreat.Po
namespace Go.Proofs.YtahiajepeodhoaaGreat.Po
open Go.Proofs.YtahiajepeodhoaaGreat.Big
def cbd (d:Int) (K:Nat) (l:List Rat):Prop:=∀i,∃n:Int,ln n≤K∧l.getD i 0*(d:Rat)=(n:Rat)
def cb (K:Nat) (l:List Rat):Prop:=∃d:Int,d≠0∧ln d≤K∧cbd d K l
theorem sub_mul' (a b c:Rat):(a - b)*c=a*c - b*c:=by grind
theorem cast_ne {d:Int} (h:d≠0):(d:Rat)≠0:=fun e=>h (by exact_mod_cast e)
theorem frac_hq {x:Rat} {n d:Int} {K:Nat} (hd:d≠0) (h1:ln n≤K) (h2:ln d≤K) (h:x*(d:Rat)=(n:Rat)):hq x≤K:=by
  have e:x=Rat.divInt n d:=by
    rw [Rat.divInt_eq_div]
    rw [← h,Rat.mul_div_cancel (cast_ne hd)]
  rw [e]
  have:=hq_divInt (n:=n) hd
  omega
theorem cb_bd {K:Nat} {l:List Rat} (h:cb K l):bd K l:=fun i=>by
  obtain ⟨d,h0,h1,h2⟩:=h
  obtain ⟨n,h3,h4⟩:=h2 i
  exact frac_hq h0 h3 h1 h4
theorem cb_mono {K L:Nat} {l:List Rat} (h:cb K l) (hk:K≤L):cb L l:=by
  obtain ⟨d,h0,h1,h2⟩:=h
  exact ⟨d,h0,by omega,fun i=>by obtain ⟨n,h3,h4⟩:=h2 i;exact ⟨n,by omega,h4⟩⟩
theorem cb_ext {K:Nat} {l m:List Rat} (h:cb K l) (e:∀i,m.getD i 0=l.getD i 0):cb K m:=by
  obtain ⟨d,h0,h1,h2⟩:=h
  exact ⟨d,h0,h1,fun i=>by rw [e];exact h2 i⟩
theorem cb_cl {K:Nat} {l:List Rat} (h:cb K l):cb K (cl l):=cb_ext h (cl_get l)
theorem cb_of_bd {k:Nat}:∀{l:List Rat},bd k l→cb (1+l.length*k) l
  |[],_=>⟨1,by decide,by rw [zrg];omega,fun i=>⟨0,by rw [zdd];omega,by rw [gD0 (Nat.zero_le _)];simp⟩⟩
  |a :: l,h=>by
    obtain ⟨d,h0,h1,h2⟩:=cb_of_bd (l:=l) (k:=k) fun i=>h (i+1)
    have ha:hq a≤k:=h 0
    have hn:=hq_num a
    have hd:=hq_den a
    have hm:=zma d (a.den:Int)
    have hlen:(a :: l).length*k=l.length*k+k:=by rw [List.length_cons,Nat.succ_mul]
    refine ⟨d*(a.den:Int),Int.mul_ne_zero h0 (den_ne a),by omega,fun i=> ?_⟩
    cases i with
    |zero=>
      refine ⟨a.num*d,by have:=zma a.num d;omega,?_⟩
      show a*((d*(a.den:Int):Int):Rat)=_
      have e:a*((a.den:Int):Rat)=(a.num:Rat):=by
        have h1:(a.num:Rat) / ((a.den:Int):Rat)=a:=by rw [← Rat.divInt_eq_div,Rat.num_divInt_den]
        have h2:=Rat.div_mul_cancel (a:=(a.num:Rat)) (cast_ne (den_ne a))
        rw [h1] at h2
        exact h2
      rw [Rat.intCast_mul,Rat.intCast_mul,Rat.mul_comm (d:Rat),←Rat.mul_assoc,e]
    |succ i=>
      obtain ⟨n,h3,h4⟩:=h2 i
      refine ⟨n*(a.den:Int),by have:=zma n (a.den:Int);omega,?_⟩
      show l.getD i 0*((d*(a.den:Int):Int):Rat)=_
      rw [Rat.intCast_mul,Rat.intCast_mul,←Rat.mul_assoc,h4]
theorem cb_scale {K:Nat} {l m:List Rat} {x:Rat} (h:cb K l) (hx:x=1 / lead l) (h0:lead l≠0) (e:∀i,m.getD i 0=l.getD i 0*x):cb K m:=by
  obtain ⟨d,hd,h1,h2⟩:=h
  obtain ⟨nl,h3,h4⟩:=h2 (l.length - 1)
  have h4':lead l*(d:Rat)=(nl:Rat):=h4
  have hnl:nl≠0:=fun k=>by
    rw [k] at h4'
    rcases Rat.mul_eq_zero.1 (h4'.trans (by rfl)) with q|q
    · exact h0 q
    · exact cast_ne hd q
  refine ⟨nl,hnl,h3,fun i=> ?_⟩
  obtain ⟨n,h5,h6⟩:=h2 i
  refine ⟨n,h5,?_⟩
  rw [e,hx,←h4',←h6]
  have:l.getD i 0*(1 / lead l)*(lead l*(d:Rat))=l.getD i 0*(d:Rat)*(1 / lead l*lead l):=by grind
  rw [this,Rat.div_mul_cancel h0,Rat.mul_one]
theorem mul_one_get (l:List Rat) (x:Rat) (i:Nat):(mul l [x]).getD i 0=l.getD i 0*x:=by
  rw [← scl_mul,scl_get]
theorem cb_mo {K:Nat} {l:List Rat} (hl:cl l=l) (h:cb K l):cb K (mo l):=by
  unfold mo
  split
  · rename_i h0
    have e:l=[]:=List.length_eq_zero_iff.1 h0
    rw [← e];exact h
  · rename_i h0
    exact cb_scale h rfl (lead_ne hl (fun e=>h0 (by rw [e];rfl))) (mul_one_get l _)
theorem cb_neg {K:Nat} {l:List Rat} (h:cb K l):cb K (mul l [(((-1:Int)):Rat)]):=by
  obtain ⟨d,hd,h1,h2⟩:=h
  refine ⟨d,hd,h1,fun i=> ?_⟩
  obtain ⟨n,h3,h4⟩:=h2 i
  refine ⟨-n,by rw [zO];exact h3,?_⟩
  rw [mul_one_get,show (((-1:Int)):Rat)= -1 by decide +kernel,show ((-n:Int):Rat)= -(n:Rat) from Rat.intCast_neg n,←h4]
  grind
theorem cb_der {K:Nat} {l:List Rat} (h:cb K l) (hl:l.length≤1000):cb (K+3) (der l):=by
  obtain ⟨d,hd,h1,h2⟩:=h
  refine ⟨d,hd,by omega,fun i=> ?_⟩
  by_cases hi:i+1<l.length
  · obtain ⟨n, h3, h4⟩ := h2 (i + 1)
    refine ⟨((i+1:Nat):Int)*n,?_,?_⟩
    · have := zma ((i + 1 : Nat) : Int) n
      have:=zSc (z:=((i+1:Nat):Int)) (by omega) (by omega)
      omega
    · rw [der_get,Rat.intCast_mul,←h4,Rat.mul_assoc]
  · refine ⟨0, by rw [zdd]; omega, ?_⟩
    rw [der_get,gD0 (by omega)];simp
def cb2 (K:Nat) (a r:List Rat):Prop:=∃d:Int,d≠0∧ln d≤K∧cbd d K a∧cbd d K r
theorem cb2_step {K L:Nat} {a r q:List Rat} (hq:cl q=q) (hn:q≠[]) (h:cb2 K a r) (g:cb L q):cb2 (K+L+1) (add a (dt q r)) (sub r (mul (dt q r) q)):=by
  obtain ⟨d,hd,h1,ha,hr⟩:=h
  obtain ⟨e,he,g1,g2⟩:=g
  have hl0:=lead_ne hq hn
  obtain ⟨nl,k1,k2⟩:=hr (r.length - 1)
  obtain ⟨ml,k3,k4⟩:=g2 (q.length - 1)
  have k2':lead r*(d:Rat)=(nl:Rat):=k2
  have k4':lead q*(e:Rat)=(ml:Rat):=k4
  have hml:ml≠0:=fun k=>by
    rw [k] at k4'
    rcases Rat.mul_eq_zero.1 (k4'.trans (by rfl)) with q|q
    · exact hl0 q
    · exact cast_ne he q
  have hk:lead r / lead q*(((d*ml:Int)):Rat)=((nl*e:Int):Rat):=by
    rw [Rat.intCast_mul,Rat.intCast_mul,←k2',←k4']
    have:lead r / lead q*((d:Rat)*(lead q*(e:Rat)))=lead r / lead q*lead q*((d:Rat)*(e:Rat)):=by grind
    rw [this,Rat.div_mul_cancel hl0];grind
  refine ⟨d*ml,Int.mul_ne_zero hd hml,by have:=zma d ml;omega,fun i=> ?_,fun i=> ?_⟩
  · obtain ⟨n, h3, h4⟩ := ha i
    rw [add_get]
    unfold dt
    rw [mono_get]
    split
    · refine ⟨n * ml + nl * e, ?_, ?_⟩
      · have:=zvb (n*ml) (nl*e);have:=zma n ml;have:=zma nl e;omega
      · rw [Rat.add_mul,hk,Rat.intCast_add,Rat.intCast_mul,Rat.intCast_mul,Rat.intCast_mul,←Rat.mul_assoc,h4]
    · refine ⟨n * ml, by have := zma n ml; omega, ?_⟩
      rw [Rat.add_mul,Rat.zero_mul,Rat.add_zero,Rat.intCast_mul,Rat.intCast_mul,←Rat.mul_assoc,h4]
  · obtain ⟨n, h3, h4⟩ := hr i
    rw [sub_get,mul_get]
    unfold dt
    rw [C_mono]
    split
    · obtain ⟨m, h5, h6⟩ := g2 (i - (r.length - q.length))
      refine ⟨n*ml - nl*m,?_,?_⟩
      · have:=ztf (n*ml) (nl*m);have:=zma n ml;have:=zma nl m;omega
      · have z:lead r / lead q*q.getD (i - (r.length - q.length)) 0*(((d*ml:Int)):Rat)=((nl*m:Int):Rat):=by
          rw [Rat.intCast_mul,Rat.intCast_mul,←h6,←k2',←k4']
          have:lead r / lead q*q.getD (i - (r.length - q.length)) 0*((d:Rat)*(lead q*(e:Rat)))=lead r / lead q*lead q*((d:Rat)*(q.getD (i - (r.length - q.length)) 0*(e:Rat))):=by grind
          rw [this,Rat.div_mul_cancel hl0];grind
        rw [sub_mul',z,Rat.intCast_sub,Rat.intCast_mul,Rat.intCast_mul,Rat.intCast_mul,←Rat.mul_assoc,h4]
    · refine ⟨n * ml, by have := zma n ml; omega, ?_⟩
      rw [sub_mul',Rat.zero_mul,Rat.sub_eq_add_neg,Rat.neg_zero,Rat.add_zero,Rat.intCast_mul,Rat.intCast_mul,←Rat.mul_assoc,h4]
theorem cb2_bd {K:Nat} {a r:List Rat} (h:cb2 K a r):bd K a∧bd K r:=by
  obtain ⟨d,h0,h1,h2,h3⟩:=h
  exact ⟨cb_bd ⟨d,h0,h1,h2⟩,cb_bd ⟨d,h0,h1,h3⟩⟩
theorem cgrow {q:List Rat} {L:Nat} (hq:cl q=q) (hn:q≠[]) (g:cb L q):∀(n K:Nat) (a r:List Rat),cb2 K a r→K+n*(L+1)≤60000000000→dok q n a r
  |0,_,_,_,_,_=>trivial
  |n+1,K,a,r,h,hb=>by
    rw [Nat.succ_mul] at hb
    refine ⟨⟨bd_mono (cb2_bd h).1 (by omega),bd_mono (cb2_bd h).2 (by omega)⟩,fun _=> ?_⟩
    exact cgrow hq hn g n (K+L+1) _ _ (cb2_step hq hn h g) (by omega)
theorem dv_cb {q:List Rat} {L:Nat} (hq:cl q=q) (hn:q≠[]) (g:cb L q):∀(n K:Nat) (a r:List Rat),cb2 K a r→cb2 (K+(r.length+1 - q.length)*(L+1)) (dv q n a r).1 (dv q n a r).2
  |0,K,a,r,h=>by
    obtain ⟨d,h0,h1,h2,h3⟩:=h
    have:K≤K+(r.length+1 - q.length)*(L+1):=Nat.le_add_right _ _
    exact ⟨d,h0,by omega,fun i=>by obtain ⟨n,a1,a2⟩:=h2 i;exact ⟨n,by omega,a2⟩,fun i=>by obtain ⟨n,a1,a2⟩:=h3 i;exact ⟨n,by omega,a2⟩⟩
  |n+1,K,a,r,h=>by
    by_cases hl:r.length<q.length
    · unfold dv
      rw [if_pos hl]
      obtain ⟨d,h0,h1,h2,h3⟩:=h
      have:K≤K+(r.length+1 - q.length)*(L+1):=Nat.le_add_right _ _
      exact ⟨d,h0,by omega,fun i=>by obtain ⟨n,a1,a2⟩:=h2 i;exact ⟨n,by omega,a2⟩,fun i=>by obtain ⟨n,a1,a2⟩:=h3 i;exact ⟨n,by omega,a2⟩⟩
    · unfold dv
      rw [if_neg hl]
      have hlt:=dt_less (r:=r) hq hn (by omega)
      have ih:=dv_cb hq hn g n (K+L+1) _ _ (cb2_step hq hn h g)
      have e:K+L+1+((sub r (mul (dt q r) q)).length+1 - q.length)*(L+1)≤K+(r.length+1 - q.length)*(L+1):=by
        have:((sub r (mul (dt q r) q)).length+1 - q.length+1)*(L+1)≤(r.length+1 - q.length)*(L+1):=Nat.mul_le_mul_right _ (by omega)
        rw [Nat.succ_mul] at this
        omega
      obtain ⟨d,h0,h1,h2,h3⟩:=ih
      exact ⟨d,h0,by omega,fun i=>by obtain ⟨n,a1,a2⟩:=h2 i;exact ⟨n,by omega,a2⟩,fun i=>by obtain ⟨n,a1,a2⟩:=h3 i;exact ⟨n,by omega,a2⟩⟩
theorem cb2_nil {K:Nat} {r:List Rat} (h:cb K r):cb2 K [] r:=by
  obtain ⟨d,h0,h1,h2⟩:=h
  exact ⟨d,h0,h1,fun i=>⟨0,by rw [zdd];omega,by rw [gD0 (Nat.zero_le _)];simp⟩,h2⟩
theorem div_cb {p q:List Rat} {K L N:Nat} (hp:cl p=p) (hq:cl q=q) (hn:q.length≠0) (h:cb K p) (g:cb L q) (hN:p.length+1 - q.length≤N):cb (K+N*(L+1)) (dq p q)∧cb (K+N*(L+1)) (dr p q):=by
  have h':q≠[]:=fun e=>hn (by rw [e];rfl)
  have:=dv_cb hq h' g p.length K [] p (cb2_nil h)
  have e:(p.length+1 - q.length)*(L+1)≤N*(L+1):=Nat.mul_le_mul_right _ hN
  unfold dq dr divp
  rw [hq,hp,if_neg hn,if_neg hn]
  obtain ⟨d,h0,h1,h2,h3⟩:=this
  exact ⟨cb_mono ⟨d,h0,h1,h2⟩ (by omega),cb_mono ⟨d,h0,h1,h3⟩ (by omega)⟩
theorem dgo_cb {p q:List Rat} {K L N:Nat} (hp:cl p=p) (hq:cl q=q) (hn:q.length≠0) (h:cb K p) (g:cb L q) (hN:p.length+1≤N) (hb:K+N*(L+1)≤60000000000) (hL:L≤60000000000):dgo p q:=by
  have h':q≠[]:=fun e=>hn (by rw [e];rfl)
  refine ⟨bd_mono (cb_bd g) hL,?_⟩
  rw [hq,hp]
  refine cgrow hq h' g _ K _ _ (cb2_nil h) ?_
  have e:(p.length+1)*(L+1)≤N*(L+1):=Nat.mul_le_mul_right _ hN
  omega
theorem ge_cl:∀(n:Nat) (p q:List Rat),cl p=p→cl q=q→cl (ge n p q)=ge n p q
  |0,_,_,hp,_=>hp
  |n+1,p,q,hp,hq=>by
    unfold ge
    split
    · exact hp
    · exact ge_cl n q _ hq (mo_cl _)
theorem gcd_cl (p q:List Rat):cl (gcd p q)=gcd p q:=ge_cl _ _ _ (mo_cl _) (mo_cl _)
theorem sqf_cl (p:List Rat):cl (sqf p)=sqf p:=by
  unfold sqf
  split
  · rfl
  · exact mo_cl _
end Go.Proofs.YtahiajepeodhoaaGreat.Po
namespace Go.Proofs.YtahiajepeodhoaaGreat.Po
open Go.Proofs.YtahiajepeodhoaaGreat.Big
theorem ge_len:∀(n:Nat) (p q:List Rat),cl q=q→(ge n p q).length≤max p.length q.length
  |0,p,q,_=>Nat.le_max_left _ _
  |n+1,p,q,hq=>by
    by_cases h:q.length=0
    · rw [ge_nil h];exact Nat.le_max_left _ _
    · have e : ge (n + 1) p q = ge n q (mo (dr p q)) := if_neg h
      rw [e]
      have:=ge_len n q (mo (dr p q)) (mo_cl _)
      have:=mo_len (dr p q)
      have:=dr_less (p:=p) hq h
      omega
theorem gcd_len (p q:List Rat):(gcd p q).length≤max p.length q.length:=by
  unfold gcd
  have:=ge_len (cl q).length (mo (cl p)) (mo (cl q)) (mo_cl _)
  have:=mo_len (cl p);have:=mo_len (cl q)
  have:=cl_le_len p;have:=cl_le_len q
  omega
theorem dv_len {q:List Rat} (hq:cl q=q) (h:q≠[]):∀(n:Nat) (a r:List Rat),(dv q n a r).1.length≤max a.length r.length∧(dv q n a r).2.length≤r.length
  |0,a,r=>⟨Nat.le_max_left _ _,Nat.le_refl _⟩
  |n+1,a,r=>by
    unfold dv
    split
    · exact ⟨Nat.le_max_left _ _,Nat.le_refl _⟩
    · have hlt := dt_less (r := r) hq h (by omega)
      obtain ⟨h1,h2⟩:=dv_len hq h n (add a (dt q r)) (sub r (mul (dt q r) q))
      have:=add_len a (dt q r)
      rw [dt_len] at this
      have:0<q.length:=List.length_pos_iff.2 h
      omega
theorem dqr_len (p q:List Rat):(dq p q).length≤p.length∧(dr p q).length≤p.length:=by
  unfold dq dr
  split
  · exact ⟨Nat.zero_le _,Nat.zero_le _⟩
  · rename_i h
    obtain ⟨h1,h2⟩:=dv_len (cl_cl q) (fun e=>h (by rw [e];rfl)) (cl p).length [] (cl p)
    have:=cl_le_len p
    unfold divp
    simp only [List.length_nil] at h1
    omega
theorem sqf_len (p:List Rat):(sqf p).length≤p.length:=by
  unfold sqf
  split
  · exact Nat.zero_le _
  · have := mo_len (dq (cl p) (gcd (cl p) (der (cl p))))
    have:=(dqr_len (cl p) (gcd (cl p) (der (cl p)))).1
    have:=cl_le_len p
    omega
theorem va_rng (x:Rat):∀(l:List (List Rat)) (n s:Int),n≤va x l n s∧va x l n s≤n+l.length
  |[],n,s=>by show n≤n∧n≤n+0;omega
  |p :: l,n,s=>by
    unfold va
    rw [List.length_cons]
    split
    · have:=va_rng x l n s;omega
    · split
      · have:=va_rng x l (n+1) (sgq (ev x p));omega
      · have:=va_rng x l n (sgq (ev x p));omega
theorem vr_rng (l:List (List Rat)) (x:Rat):0≤vr l x∧vr l x≤l.length:=by
  have:=va_rng x l 0 0
  unfold vr
  omega
theorem sg_mul {a b:Int} (ha: -1≤a∧a≤1) (hb: -1≤b∧b≤1): -9223372036854775808≤a*b∧a*b≤9223372036854775807:=by
  rcases (show a= -1∨a=0∨a=1 by omega) with rfl|rfl|rfl <;> omega
theorem lt_sgq {a b:Rat}:0<sgq (a - b)↔b<a:=by
  rw [sgq_pos]
  constructor <;> intro h <;> grind
end Go.Proofs.YtahiajepeodhoaaGreat.Po
namespace Go.Proofs.YtahiajepeodhoaaGreat.Po
open Go.Proofs.YtahiajepeodhoaaGreat.Big
theorem mo_ne {l:List Rat} (hl:cl l=l) (h:l.length≠0):(mo l).length≠0:=fun e=>by
  have h':l≠[]:=fun k=>h (by rw [k];rfl)
  have h0:=lead_ne hl h'
  have g:(mo l).getD (l.length - 1) 0=lead l*(((1:Int):Rat) / lead l):=by
    unfold mo
    rw [if_neg h,mul_one_get];rfl
  rw [List.length_eq_zero_iff.1 e] at g
  have g':(0:Rat)=lead l*(((1:Int):Rat) / lead l):=g
  rw [Rat.mul_comm,Rat.div_mul_cancel h0] at g'
  exact absurd g' (by decide +kernel)
theorem ge_ne:∀(n:Nat) (p q:List Rat),p.length≠0→(ge n p q).length≠0
  |0,_,_,h=>h
  |n+1,p,q,h=>by
    unfold ge
    split
    · exact h
    · rename_i h1;exact ge_ne n q _ h1
theorem gcd_ne {p q:List Rat} (h:(cl p).length≠0):(gcd p q).length≠0:=ge_ne _ _ _ (mo_ne (cl_cl p) h)
theorem vok_sturm {p:List Rat} {x:Rat} (h:∀q,q∈sturm p→q.length≤10∧bd 7000000000 q) (hx:hq x≤10000000000):vok (sturm p) x:=vok_of (K:=7000000000) hx h (by decide) (by decide)
theorem st_len:∀(n:Nat) (a b:List Rat),(st n a b).length≤n
  |0,_,_=>Nat.le_refl _
  |n+1,a,b=>by
    unfold st
    split
    · exact Nat.zero_le _
    · rw [List.length_cons];have:=st_len n b (mul (dr a b) [(((-1:Int)):Rat)]);omega
theorem sturm_len (p:List Rat):(sturm p).length≤p.length+1:=by
  unfold sturm
  split
  · exact Nat.zero_le _
  · rw [List.length_cons];have:=st_len (sqf p).length (sqf p) (der (sqf p));have:=sqf_len p;omega
def ofL (l:List Int):List Rat:=l.map (fun z:Int=>(z:Rat))
end Go.Proofs.YtahiajepeodhoaaGreat.Po
namespace Go.Proofs.YtahiajepeodhoaaGreat.Cam
open Big
set_option linter.unusedVariables false
def cho (n:Nat):Nat→Nat
  |0=>1
  |j+1=>cho n j*(n - j) / (j+1)
theorem cho_rng:∀n,n≤8→∀j,j≤n→1≤cho n j∧cho n j≤100:=by decide
theorem cho_rng':∀n,n≤8→∀j,j≤n+1→cho n j≤100:=by decide
def pwq (t:Rat):Nat→Rat
  |0=>((1:Int):Rat)
  |j+1=>mulL [pwq t j,t]
def tm (l:List Rat) (t:Rat) (j:Nat):Rat:=mulL [l.getD j 0,pwq t j,Rat.divInt 1 ((cho (l.length - 1) j:Nat):Int)]
def tms (l:List Rat) (t:Rat):List Rat:=Po.gen (tm l t) l.length
def bs (T:List Rat) (i:Nat):Nat→Rat
  |0=>((0:Int):Rat)
  |j+1=>sumL [bs T i j,mulL [(((cho i j:Nat):Int):Rat),T.getD j 0]]
def bern (l:List Rat) (t:Rat):List Rat:=Po.gen (fun i=>bs (tms l t) i (i+1)) l.length
theorem set_step {A:List Rat} {g:Nat→Rat} {i:Nat} {x:Rat} (h:∀j,j<i→A.getD j 0=g j) (hi:i<A.length) (hx:x=g i):∀j,j<i+1→(A.set i x).getD j 0=g j:=fun j hj=>by
  rw [List.getD_eq_getElem?_getD,List.getElem?_set]
  by_cases e:i=j
  · subst e
    rw [if_pos rfl,if_pos hi];exact hx
  · rw [if_neg e,←List.getD_eq_getElem?_getD];exact h j (by omega)
theorem pwq_hq {t:Rat} {K:Nat} (h:hq t≤K):∀j,hq (pwq t j)≤3+j*K
  |0=>by have:hq ((1:Int):Rat)≤3:=hq_1;show hq ((1:Int):Rat)≤_;omega
  |j+1=>by
    have a:=m2_hq (pwq_hq h j) h
    have e:(j+1)*K=j*K+K:=Nat.succ_mul _ _
    show hq (mulL [pwq t j,t])≤_;omega
theorem chq {n:Nat} (h:n≤100) (h1:1≤n):hq (Rat.divInt 1 ((n:Nat):Int))≤3:=dq (by omega) (by decide) (by omega)
theorem chi {n:Nat} (h:n≤100):hq (((n:Nat):Int):Rat)≤3:=iq (by omega)
theorem tm_hq {l:List Rat} {t:Rat} {j:Nat} (hl:hqA 10000 l) (ht:hq t≤100) (h:l.length≤9) (hj:j<l.length):hq (tm l t j)≤10000+(3+900)+3:=by
  obtain ⟨h1,h2⟩:=cho_rng (l.length - 1) (by omega) j (by omega)
  have a:=pwq_hq ht j
  have b:j*100≤900:=by omega
  exact m3_hq (hl j) (Nat.le_trans a (by omega)) (chq h2 h1)
theorem tms_get {l:List Rat} {t:Rat} {q:Nat} (h:q<l.length):(tms l t).getD q 0=tm l t q:=by unfold tms;rw [Po.gen_get,if_pos h]
theorem bern_get {l:List Rat} {t:Rat} {q:Nat} (h:q<l.length):(bern l t).getD q 0=bs (tms l t) q (q+1):=by unfold bern;rw [Po.gen_get,if_pos h]
theorem tms_hq {l:List Rat} {t:Rat} (hl:hqA 10000 l) (ht:hq t≤100) (h:l.length≤9):hqA 11000 (tms l t):=fun i=>by
  unfold tms
  rw [Po.gen_get]
  split
  · rename_i hi;exact Nat.le_trans (tm_hq hl ht h hi) (by decide)
  · rw [hq_zero];decide
theorem bs_hq {T:List Rat} (h:hqA 11000 T) {i:Nat} (hi:i≤8):∀j,j≤i+1→hq (bs T i j)≤3+j*11010
  |0,_=>by show hq ((0:Int):Rat)≤_;have:hq ((0:Int):Rat)=1:=hq_zero;omega
  |j+1,hj=>by
    have a:=bs_hq h hi j (by omega)
    have b:=m2_hq (chi (cho_rng i hi j (by omega)).2) (h j)
    have c:=s2_hq a b
    have e:(j+1)*11010=j*11010+11010:=Nat.succ_mul _ _
    show hq (sumL [_,_])≤_;omega
theorem bern_len (l:List Rat) (t:Rat):(bern l t).length=l.length:=Po.gen_len _ _
theorem bern_hq {l:List Rat} {t:Rat} (hl:hqA 10000 l) (ht:hq t≤100) (h:l.length≤9):hqA 100000 (bern l t):=fun i=>by
  unfold bern
  rw [Po.gen_get]
  split
  · have:=bs_hq (tms_hq hl ht h) (i:=i) (by omega) (i+1) (Nat.le_refl _);omega
  · rw [hq_zero];decide
def hv (x y:Rat):Rat:=mulL [Rat.divInt 1 2,sumL [x,y]]
def hin (A:List Rat):Nat→List Rat
  |0=>A
  |i+1=>(hin A i).set i (hv ((hin A i).getD i 0) ((hin A i).getD (i+1) 0))
def rsA (l:List Rat):Nat→List Rat
  |0=>l
  |j+1=>hin (rsA l j) (l.length - j - 1)
def lfA (l:List Rat):Nat→List Rat
  |0=>[]
  |j+1=>lfA l j++[(rsA l j).getD 0 0]
theorem hin_len (A:List Rat):∀i,(hin A i).length=A.length
  |0=>rfl
  |i+1=>by show (List.set _ _ _).length=_;rw [List.length_set];exact hin_len A i
theorem rsA_len (l:List Rat):∀j,(rsA l j).length=l.length
  |0=>rfl
  |j+1=>by show (hin _ _).length=_;rw [hin_len];exact rsA_len l j
theorem lfA_len (l:List Rat):∀j,(lfA l j).length=j
  |0=>rfl
  |j+1=>by show (lfA l j++_).length=_;rw [List.length_append,lfA_len l j];rfl
theorem hin_get (A:List Rat):∀i,i≤A.length→∀q,(hin A i).getD q 0=if q<i then hv (A.getD q 0) (A.getD (q+1) 0) else A.getD q 0
  |0,_,q=>by rw [if_neg (Nat.not_lt_zero _)];rfl
  |i+1,h,q=>by
    have ih:=hin_get A i (by omega)
    show (List.set _ _ _).getD q 0=_
    rw [List.getD_eq_getElem?_getD,List.getElem?_set,hin_len]
    by_cases e:i=q
    · subst e
      rw [if_pos rfl,if_pos (by omega),if_pos (by omega),ih,ih,if_neg (by omega),if_neg (by omega)];rfl
    · rw [if_neg e, ← List.getD_eq_getElem?_getD, ih q]
      by_cases h2:q<i
      · rw [if_pos h2,if_pos (by omega)]
      · rw [if_neg h2,if_neg (by omega)]
def el (d:Int) (K:Nat) (x:Rat):Prop:=∃n:Int,ln n≤K∧x*(d:Rat)=(n:Rat)
theorem el_dbl {d:Int} {K:Nat} {x:Rat} (h:el d K x):el (2*d) (K+1) x:=by
  obtain ⟨n,h1,h2⟩:=h
  refine ⟨n+n,?_,?_⟩
  · have:=zvb n n;omega
  · rw [Rat.intCast_mul,Rat.intCast_add,←h2,show ((2:Int):Rat)=2 from rfl];grind
theorem half2:Rat.divInt 1 2*2=1:=by decide +kernel
theorem hv_eq (x y:Rat):hv x y=Rat.divInt 1 2*(x+y):=by unfold hv;rw [mul2,sum2]
theorem el_hv {d:Int} {K:Nat} {x y:Rat} (hx:el d K x) (hy:el d K y):el (2*d) (K+1) (hv x y):=by
  obtain ⟨n,h1,h2⟩:=hx
  obtain ⟨m,h3,h4⟩:=hy
  refine ⟨n+m,?_,?_⟩
  · have:=zvb n m;omega
  · rw [hv_eq, Rat.intCast_mul, Rat.intCast_add, ← h2, ← h4, show ((2 : Int) : Rat) = 2 from rfl]
    have:=half2
    grind
theorem el_hq {d:Int} {K:Nat} {x:Rat} (hd:d≠0) (hl:ln d≤K) (h:el d K x):hq x≤K:=by
  obtain ⟨n,h1,h2⟩:=h
  exact Po.frac_hq hd h1 hl h2
def dn (d:Int):Nat→Int
  |0=>d
  |j+1=>2*dn d j
theorem dn_ok {d:Int} {K:Nat} (hd:d≠0) (hl:ln d≤K):∀j,dn d j≠0∧ln (dn d j)≤K+j
  |0=>⟨hd,hl⟩
  |j+1=>by
    obtain ⟨h1,h2⟩:=dn_ok hd hl j
    refine ⟨?_,?_⟩
    · show 2*dn d j≠0;omega
    · show ln (2 * dn d j) ≤ _
      have:=zvb (dn d j) (dn d j)
      rw [show 2*dn d j=dn d j+dn d j by omega];omega
theorem hin_el {d:Int} {K:Nat} {A:List Rat} (h:∀q,el d K (A.getD q 0)) {i:Nat} (hi:i≤A.length) (q:Nat):el (2*d) (K+1) ((hin A i).getD q 0):=by
  rw [hin_get A i hi]
  split
  · exact el_hv (h _) (h _)
  · exact el_dbl (h _)
theorem rsA_el {d:Int} {K:Nat} {l:List Rat} (h:∀q,el d K (l.getD q 0)):∀j q,el (dn d j) (K+j) ((rsA l j).getD q 0)
  |0,q=>h q
  |j+1,q=>hin_el (rsA_el h j) (by rw [rsA_len];omega) q
theorem dn_up {d:Int} {K:Nat} {x:Rat} {i:Nat} (h:el (dn d i) (K+i) x):∀m,el (dn d (i+m)) (K+(i+m)) x
  |0=>h
  |m+1=>el_dbl (dn_up h m)
theorem lfA_get (l:List Rat):∀j q,(lfA l j).getD q 0=if q<j then (rsA l q).getD 0 0 else 0
  |0,q=>by rw [if_neg (Nat.not_lt_zero _)];rfl
  |j+1,q=>by
    show (lfA l j++_).getD q 0=_
    rw [List.getD_eq_getElem?_getD]
    by_cases h:q<j
    · rw [List.getElem?_append_left (by rw [lfA_len];exact h),←List.getD_eq_getElem?_getD,lfA_get l j q,if_pos h,if_pos (by omega)]
    · rw [List.getElem?_append_right (by rw [lfA_len]; omega), lfA_len]
      by_cases e:q=j
      · subst e;rw [Nat.sub_self,if_pos (by omega)];rfl
      · rw [if_neg (by omega),List.getElem?_eq_none (by simp;omega)];rfl
theorem el_zero (d:Int) (K:Nat):el d K 0:=⟨0,by rw [zdd];exact Nat.zero_le _,by rw [Rat.zero_mul];rfl⟩
theorem rs_cb {K:Nat} {l:List Rat} (h:Po.cb K l) (j:Nat):Po.cb (K+j) (rsA l j):=by
  obtain ⟨d,h1,h2,h3⟩:=h
  exact ⟨dn d j,(dn_ok h1 h2 j).1,(dn_ok h1 h2 j).2,rsA_el h3 j⟩
theorem lf_cb {K:Nat} {l:List Rat} (h:Po.cb K l) (j:Nat):Po.cb (K+j) (lfA l j):=by
  obtain ⟨d,h1,h2,h3⟩:=h
  refine ⟨dn d j,(dn_ok h1 h2 j).1,(dn_ok h1 h2 j).2,fun q=> ?_⟩
  show el _ _ _
  rw [lfA_get]
  split
  · rename_i hq
    have:=dn_up (rsA_el h3 q 0) (j - q)
    rw [show q+(j - q)=j by omega] at this
    exact this
  · exact el_zero _ _
theorem rin_hq {K:Nat} {l:List Rat} (h:Po.cb K l) (j:Nat) {i:Nat} (hi:i≤l.length):hqA (K+j+1) (hin (rsA l j) i):=fun q=>by
  obtain ⟨d,h1,h2,h3⟩:=h
  obtain ⟨h4,h5⟩:=dn_ok h1 h2 j
  have:=hin_el (rsA_el h3 j) (by rw [rsA_len];exact hi) q
  exact el_hq (d:=2*dn d j) (by omega) (by
    have:=zvb (dn d j) (dn d j)
    rw [show 2*dn d j=dn d j+dn d j by omega];omega) this
def sure:Nat→List Rat→Int
  |0,l=>if ends l then -1 else if l.any np=false then 1 else 0
  |d+1,l=>if ends l then -1 else if l.any np=false then 1 else if sure d (lfA l l.length)<0∨sure d (rsA l l.length)<0 then -1 else min (sure d (lfA l l.length)) (sure d (rsA l l.length))
theorem sure_ends {d:Nat} {l:List Rat} (h:ends l):sure d l= -1:=by cases d <;> (unfold sure;rw [if_pos h])
theorem sure_clear {d:Nat} {l:List Rat} (h:¬ends l) (k:l.any np=false):sure d l=1:=by cases d <;> (unfold sure;rw [if_neg h,if_pos k])
theorem sure_0 {l:List Rat} (h:¬ends l) (k:¬l.any np=false):sure 0 l=0:=by unfold sure;rw [if_neg h,if_neg k]
theorem sure_neg {d:Nat} {l:List Rat} (h:¬ends l) (k:¬l.any np=false) (m:sure d (lfA l l.length)<0∨sure d (rsA l l.length)<0):sure (d+1) l= -1:=by unfold sure;rw [if_neg h,if_neg k,if_pos m]
theorem sure_min {d:Nat} {l:List Rat} (h:¬ends l) (k:¬l.any np=false) (m:¬(sure d (lfA l l.length)<0∨sure d (rsA l l.length)<0)):sure (d+1) l=min (sure d (lfA l l.length)) (sure d (rsA l l.length)):=by
  conv=>lhs;unfold sure
  rw [if_neg h,if_neg k,if_neg m]
theorem sure_rng:∀(d:Nat) (l:List Rat),-1≤sure d l∧sure d l≤1
  |0,l=>by unfold sure;split <;> (try split) <;> omega
  |d+1,l=>by
    have a:=sure_rng d (lfA l l.length)
    have b:=sure_rng d (rsA l l.length)
    unfold sure;split <;> (try split) <;> (try split) <;> omega
def pos (p:List Rat) (t:Rat):Bool:=
  if Po.ev ((0:Int):Rat) p≤0 then false
  else if sure 5 (bern p t)≠0 then decide (0<sure 5 (bern p t))
  else decide (Po.bt (Po.sturm p) ((0:Int):Rat) t=0)
def xx:List Rat:=[((0:Int):Rat),((1:Int):Rat)]
def alo (e:Ln):List Rat:=Po.add (rl e) (Po.mul (Po.mul xx (Po.der (rl e))) [((2:Int):Rat)])
def tq (e:Ln):Rat:=mulL [((36:Int):Rat),sumL [mulL [tP1 e,tP1 e],mulL [tP2 e,tP2 e]]]
def tan (e:Ln):List Rat:=Po.mul xx [tq e]
def dk (p:List Rat) (k:Int):List Rat:=Po.sub p [Rat.divInt k 256]
def dd (e:Ln) (p:List Rat) (k:Int):List Rat:=Po.sub (Po.mul (dk p k) (dk p k)) (tan e)
def adm1 (e:Ln) (k:Int) (p:List Rat):Bool:=pos (dk p k) (lim e)&&pos (dd e p k) (lim e)
def adm (e:Ln) (k:Int):Bool:=adm1 e k (rl e)&&adm1 e k (alo e)
def srch (f:Nat→Bool):Nat→Nat→Nat→Nat
  |0,i,_=>i
  |n+1,i,j=>if i<j then (if f ((i+j) / 2) then srch f n i ((i+j) / 2) else srch f n ((i+j) / 2+1) j) else i
def md (e:Ln):Nat:=srch (fun i=> !adm e ((i+1:Nat):Int)) 255 0 255
end Go.Proofs.YtahiajepeodhoaaGreat.Cam
namespace Go.Proofs.YtahiajepeodhoaaGreat.Sp
open Go
theorem Sl.some {g:Hp} {p:Option Addr} {cap:Nat} {l:List Rat} (s:Sl rE g p cap (l.map Option.some)):Sl rQ g p cap l:=
  ⟨by have:=s.1;rwa [List.length_map] at this,s.2.1,s.2.2.1,fun i x e=>by
    obtain ⟨b,off,γ,e1,e2,e3⟩:=s.2.2.2 i (Option.some x) (by rw [List.getElem?_map,e];rfl)
    exact ⟨b,off,γ,e1,e2,eF_q e3⟩⟩
theorem zug {R:List Fa} {p:Option Addr} {c:Nat} {A:List (Option Rat)} {l:List Rat} (i:Nat) (hi:R[i]? =some (slF rE p c A)) (h:A=l.map Option.some):∀g,Holds g R→(slF rQ p c l).on g:=fun g hr=>by
  subst h
  exact Sl.some (Holds.get i hi hr)
theorem map_ext {A:List (Option Rat)} {l:List Rat} (hl:A.length=l.length) (h:∀q,q<l.length→A.getD q none=Option.some (l.getD q 0)):A=l.map Option.some:=by
  apply List.ext_getElem
  · rw [hl,List.length_map]
  · intro i h1 h2
    have:=h i (by omega)
    rw [List.getD_eq_getElem?_getD,List.getElem?_eq_getElem h1,List.getD_eq_getElem?_getD,List.getElem?_eq_getElem (by omega)] at this
    rw [List.getElem_map]
    exact this
end Go.Proofs.YtahiajepeodhoaaGreat.Sp
namespace Go.Proofs.YtahiajepeodhoaaGreat.Sp
open Go
set_option linter.unusedVariables false
set_option maxRecDepth 100000
set_option maxHeartbeats 8000000
theorem zOf {p:Option Addr} {n:Nat} {cap:Nat} {l:List Rat} {wt1:Wd} {wt2:Wd} {t:Rat} (hn:l.length=n) (hn1:1≤n) (hn9:n≤9) (hl:Cam.hqA 10000 l) (ht:ym t≤100):Con yd 106 [.slice p n cap,.agg #[wt1.b,wt1.l,wt2.b,wt2.l]] [] [slF rQ p cap l,qF true wt1 wt2 t] (Y:=(Option Addr)×Nat) (fun y=>True) (fun y=> .slice (y.1) n (y.2)) (fun y=>[]) (fun y=>[slF rQ (y.1) (y.2) (Cam.bern l t)]):=by
 refine zl Tryz.func106 rfl rfl rfl (fun c=> ?_)
 show RunC _ _ _ _ _ [(0,.slice p n cap),(1,.agg #[wt1.b,wt1.l,wt2.b,wt2.l])] [] [slF rQ p cap l,qF true wt1 wt2 t]
 refine zU 0 rfl (fun hL0=> ?_)
 have hTl:(Cam.tms l t).length=n:=(Po.gen_len _ _).trans hn
 have hTq:=Cam.tms_hq hl ht om
 refine ze<|za<|zI rfl rfl (zR rfl rfl) (fun b1=> ?_)
 refine e_p (zb rfl)<|zf<|zd<|ze<|za<|e_mv rfl<|e_p (zK ye rfl)<|e_p (zca (z:=(((n:Nat):Int) - 1)) rfl rfl (w64 om)) ?_
 have e2:((((n:Nat):Int) - 1):Int)=(((n - 1):Nat):Int):=by omega
 rw [e2]
 refine e_p (zb rfl)<|zf<|zd<|ze<|za<|e_mv rfl<|e_p (zK ye rfl)<|zva rfl rfl (zab (r:=rE) (k:=n) (x0:=none) (γ0:=(wz,wz)) ya inf32 rfl rfl rfl rfl om om rfl (fun g _=>eF_wz g) dd) (fun b3 _=> ?_)
 refine e_p (zb rfl)<|zf<|zd<|ze<|za<|zm rfl rfl (.c rfl .n) ce58 (zxa (z:=1) (hz:=by first|rfl|assumption|omega|decide)) (.n) ?_
 rintro ⟨w34,w45⟩ -
 dsimp only [aq,nq,cq]
 refine zI rfl rfl (zr zr32 rfl) (fun b6=> ?_)
 refine zj 0 rfl rfl rfl rfl rfl sz32 rfl (.t4 .nil) .z<|e_p (zb rfl)<|zf<|zd<|ze<|ze<|za<|e_mv rfl<|e_p (zK ye rfl)<|e_mv rfl<|zf<|zd<|zx<|zja (X:=Nat×(List (Option Rat))×Wd×Wd) (fun x:Nat×(List (Option Rat))×Wd×Wd=>x.1≤n∧x.2.1.length=n∧∀q,q<x.1→x.2.1.getD q none=some (Cam.tm l t q)) (fun x=>[(8,.int .i64 (((Cam.cho (n - 1) x.1):Nat):Int)),(25,.int .i64 ((x.1:Nat):Int)),(24,.int .i64 ((n:Nat):Int)),(23,.slice p n cap),(7,.pointer (some ⟨b6,0,none⟩)),(6,.slice (some ⟨b3,0,none⟩) n n),(5,.int .i64 (((n - 1):Nat):Int)),(4,.slice none 0 0),(3,.pointer (some ⟨b1,0,none⟩)),(0,.slice p n cap)]) (fun x=>[boxA b6 32 (cw [x.2.2.1,x.2.2.2]),rowA 32 rE (some ⟨b3,0,none⟩) n (x.2.1),boxA b1 32 (cw [wt1,wt2])]) (fun x=>[qF true x.2.2.1 x.2.2.2 (Cam.pwq t x.1),qF true w34 w45 ((1:Int):Rat),slF rQ p cap l,qF true wt1 wt2 t]) (fun x:Nat×(List (Option Rat))×Wd×Wd=>n - x.1) (0,List.replicate n none,w34,w45) (show 0≤n∧(List.replicate n none).length=n∧∀q,q<0→(List.replicate n none).getD q none=some (Cam.tm l t q) from by exact ⟨Nat.zero_le _,List.length_replicate,fun q hq=>by omega⟩) ((.e rfl (by rfl) (.e rfl cgs (.of rfl))):SubM _ _) (ho:=((.c (i:=0) rfl (.e (i:=0) rfl cgs (.c (i:=0) rfl .n))):PickO _ _ _)) ((.e (j:=0) rfl (by rfl) (.of [0,1,2] rfl)):SelR _ _ _) ?_
 rintro ⟨j,A,pa,pb⟩ hI
 replace hI:j≤n∧A.length=n∧∀q,q<j→A.getD q none=some (Cam.tm l t q):=hI
 try dsimp only [cw]
 obtain ⟨hj,hAl,hA⟩:=hI
 refine ze<|za<|e_p (zX rfl rfl)<|zf<|zd<|ze<|zG rfl (fun h7=> ?_) (fun h7=> ?_)
 ·
  have hcm:Cam.cho (n - 1) j*(n - 1 - j)≤100*9:=Nat.mul_le_mul (Cam.cho_rng (n - 1) om j om).2 om
  have hcz:(0:Int)≤((Cam.cho (n - 1) j*(n - 1 - j) / (j+1):Nat):Int):=Int.natCast_nonneg _
  have hcd:Cam.cho (n - 1) j*(n - 1 - j) / (j+1)≤100:=Cam.cho_rng' (n - 1) om (j+1) om
  have hjn:j<n:=by omega
  have hj9:j*100≤900:=by omega
  refine zB<|zd<|ze<|zx<|ze<|za<|e_mv rfl<|r_vl rfl rfl (zpa (x0:=(l.getD j (0:Rat))) 2 j rfl ye sz32 rfl (by first|rfl|assumption|omega|(simp;done)|exact (Po.gen_len _ _).trans hn) rfl rfl (gD (d:=(0:Rat)) om)) ?_
  rintro ⟨b8,o9,w10,w11⟩ -
  dsimp only [aq,nq,cq]
  refine zna open_rQ<|e_ru (zQ (j:=0) 0 ty32 rfl rfl rfl (.t4 .nil))<|zI rfl rfl (zr zr32 rfl) (fun b12=> ?_)
  refine e_p (zb rfl)<|zj 0 rfl rfl rfl rfl rfl sz32 rfl (.t4 .nil) .z<|zf<|zd<|ze<|zqa (.c (i:=2) rfl (.c (i:=0) rfl (.c (i:=0) rfl (.c (i:=0) rfl .n))))<|zV (OW:=[rowA 32 rE (some ⟨b3,0,none⟩) n A]) (O:=[boxA b12 32 (cw [w10,w11]),boxA b6 32 (cw [pa,pb]),boxA b1 32 (cw [wt1,wt2])]) 9 mixed (.then (.block (.then (.then (.block (.then .ret)))))) kr<|e_dm 0 rfl rfl rfl<|e_dm 1 rfl rfl rfl<|e_uw 2 rfl rfl (zc 1 ty32 rfl rfl (.t4 .nil))<|e_uw 3 rfl rfl (zc 2 ty32 rfl rfl (.t4 .nil))<|e_dm 4 rfl rfl rfl<|e_one 5 (zp rfl rfl rfl rfl (.c rfl (.c rfl .n)) ce47 (zwb (z1:=1) (z2:=(((Cam.cho (n - 1) j):Nat):Int)) (hz1:=by first|rfl|assumption|omega|decide) (hz2:=by have h9:=(Cam.cho_rng (n - 1) om j om).2;omega) (hy:=by have h9:=(Cam.cho_rng (n - 1) om j om).1;omega)) (.n) ?_)
  rintro ⟨w313,w414⟩ -
  dsimp only [aq,nq,cq]
  refine e_one 6 (zIa rfl rfl rfl rfl (zA (r:=rQ) (k:=3) ya inf32 rfl dd dd dd (.c (x:=(l.getD j (0:Rat))) (cs:=[w10.b,w10.l,w11.b,w11.l]) (w10,w11) rfl rfl rfl (fun g hr=>Holds.get 2 rfl hr) (.c (x:=(Cam.pwq t j)) (cs:=[pa.b,pa.l,pb.b,pb.l]) (pa,pb) rfl rfl rfl (fun g hr=>Holds.get 3 rfl hr) (.c (x:=(Rat.divInt 1 (((Cam.cho (n - 1) j):Nat):Int))) (cs:=[w313.b,w313.l,w414.b,w414.l]) (w313,w414) rfl rfl rfl (fun g hr=>Holds.get 0 rfl hr) .n)))) (fun b15 _=> ?_))
  refine zla 0 rfl .z<|e_one 7 (zp rfl rfl rfl rfl (.c rfl .n) ce56 (zAa (p:=some ⟨b15,0,none⟩) (n:=3) (cap:=3) (l:=[(l.getD j (0:Rat)),(Cam.pwq t j),(Rat.divInt 1 (((Cam.cho (n - 1) j):Nat):Int))]) (hn:=by first|rfl|assumption|omega|decide) (hn9:=by first|rfl|assumption|omega|decide) (hl:=by exact Cam.hqA_cons (by have h9:=hl j;omega) (Cam.hqA_cons (by have h9:=Cam.pwq_hq ht j;omega) (Cam.hqA_cons (by have h9:=Cam.cho_rng (n - 1) om j om;exact Nat.le_trans (Cam.chq h9.2 h9.1) dd) (Cam.hqA_nil dd)))) (hn1:=by first|rfl|assumption|omega|decide)) (.c (j:=0) rfl .n) ?_)
  rintro ⟨w316,w417⟩ -
  dsimp only [aq,nq,cq]
  refine e_pv 8 rfl rfl (zZ (j:=j) ya sz32 rfl rfl rfl om)<|e_one 9 (zAd (A':=fun _=>rowA 32 rE (some ⟨b3,0,none⟩) n (A.set j (some (Cam.mulL ([(l.getD j (0:Rat)),(Cam.pwq t j),(Rat.divInt 1 (((Cam.cho (n - 1) j):Nat):Int))]))))) kr rfl rfl rfl (zS (r:=rE) (j:=j) (x0:=(some (Cam.mulL ([(l.getD j (0:Rat)),(Cam.pwq t j),(Rat.divInt 1 (((Cam.cho (n - 1) j):Nat):Int))])))) (γ0:=(w316,w417)) rfl rfl (by first|omega|(rw [List.length_map];omega)|(simp only [List.length_set];omega)|(simp;done)|(simp;omega)) rfl rfl sz32 (fun g hr=>qF_e (Holds.get 0 rfl hr))) (fun _ _=> ?_))
  refine zH kr<|zd<|ze<|za<|e_ru (zc 3 ty32 rfl rfl (.t4 .nil))<|e_ru (zc 4 ty32 rfl rfl (.t4 .nil))<|zva rfl rfl (zA (r:=rQ) (k:=2) ya inf32 rfl dd dd dd (.c (x:=(Cam.pwq t j)) (cs:=[pa.b,pa.l,pb.b,pb.l]) (pa,pb) rfl rfl rfl (fun g hr=>Holds.get 5 rfl hr) (.c (x:=t) (cs:=[wt1.b,wt1.l,wt2.b,wt2.l]) (wt1,wt2) rfl rfl rfl (fun g hr=>Holds.get 8 rfl hr) .n))) (fun b18 _=> ?_)
  refine zba 0 rfl .z<|zm rfl rfl (.c rfl .n) ce56 (zAa (p:=some ⟨b18,0,none⟩) (n:=2) (cap:=2) (l:=[(Cam.pwq t j),t]) (hn:=by first|rfl|assumption|omega|decide) (hn9:=by first|rfl|assumption|omega|decide) (hl:=by exact Cam.hqA_cons (by have h9:=Cam.pwq_hq ht j;omega) (Cam.hqA_cons om (Cam.hqA_nil dd))) (hn1:=by first|rfl|assumption|omega|decide)) (.c (j:=0) rfl .n) ?_
  rintro ⟨w319,w420⟩ -
  dsimp only [aq,nq,cq]
  refine zj 4 rfl rfl rfl rfl rfl sz32 rfl (.t4 .nil) (.s (.s (.s (.s .z))))<|zf<|zd<|za<|e_mv rfl<|e_mv rfl<|e_mv rfl<|e_p (zca (z:=((((n - 1):Nat):Int) - ((j:Nat):Int))) rfl rfl (w64 om)) ?_
  have e21:(((((n - 1):Nat):Int) - ((j:Nat):Int)):Int)=(((n - 1 - j):Nat):Int):=by omega
  rw [e21]
  refine e_p (zpb (z:=((((Cam.cho (n - 1) j)*(n - 1 - j)):Nat):Int)) rfl rfl (w64 (by first|omega|exact ⟨(Int.natCast_mul _ _).symm,by omega,by omega⟩|exact (Int.natCast_ediv _ _).symm|exact ⟨rfl,by omega,by omega⟩|(refine ⟨?_,?_⟩ <;> omega)))) ?_
  refine e_mv rfl<|e_p (zL (z:=(((j+1):Nat):Int)) rfl rfl (w64 om))<|e_p (zeb (z:=(((((Cam.cho (n - 1) j)*(n - 1 - j)) / (j+1)):Nat):Int)) rfl rfl (by first|omega|exact ⟨(Int.natCast_mul _ _).symm,by omega,by omega⟩|exact (Int.natCast_ediv _ _).symm|exact ⟨rfl,by omega,by omega⟩|(refine ⟨?_,?_⟩ <;> omega)) (by rw [quoN (z:=(((((Cam.cho (n - 1) j)*(n - 1 - j)) / (j+1)):Nat):Int)) (by first|omega|exact ⟨(Int.natCast_mul _ _).symm,by omega,by omega⟩|exact (Int.natCast_ediv _ _).symm|exact ⟨rfl,by omega,by omega⟩|(refine ⟨?_,?_⟩ <;> omega)) (by first|omega|exact ⟨(Int.natCast_mul _ _).symm,by omega,by omega⟩|exact (Int.natCast_ediv _ _).symm|exact ⟨rfl,by omega,by omega⟩|(refine ⟨?_,?_⟩ <;> omega))];exact w64 (by first|omega|exact ⟨(Int.natCast_mul _ _).symm,by omega,by omega⟩|exact (Int.natCast_ediv _ _).symm|exact ⟨rfl,by omega,by omega⟩|(refine ⟨?_,?_⟩ <;> omega)))) ?_
  refine e_p (zb rfl)<|zf<|zP<|zd<|za<|e_p (zL (z:=(((j+1):Nat):Int)) rfl rfl (w64 om))<|e_mv rfl<|zf<|zda ((j+1),(A.set j (some (Cam.mulL ([(l.getD j (0:Rat)),(Cam.pwq t j),(Rat.divInt 1 (((Cam.cho (n - 1) j):Nat):Int))])))),w319,w420) (show (j+1)≤n∧(A.set j (some (Cam.mulL ([(l.getD j (0:Rat)),(Cam.pwq t j),(Rat.divInt 1 (((Cam.cho (n - 1) j):Nat):Int))])))).length=n∧∀q,q<(j+1)→(A.set j (some (Cam.mulL ([(l.getD j (0:Rat)),(Cam.pwq t j),(Rat.divInt 1 (((Cam.cho (n - 1) j):Nat):Int))])))).getD q none=some (Cam.tm l t q) from by exact ⟨by omega,by rw [List.length_set];exact hAl,Po.set_step hA om (by rw [Cam.tm,hn])⟩) (by show n - (j+1)<n - j;omega) ((.e rfl (by rfl) (.of rfl)):SubM _ _) (ho:=((.of [4,1,3] rfl):PickO _ _ _)) ((.e (j:=0) rfl (by rfl) (.of [8,9,10] rfl)):SelR _ _ _)
 ·
  refine zfa<|zi<|zi<|zw<|zd<|ze<|zjb 1 rfl (.s .z)<|zTb (slF rQ (some ⟨b3,0,none⟩) n (Cam.tms l t)) (zug 0 rfl (by exact map_ext (by rw [hAl,hTl]) (fun q hq=>by rw [hA q om,Cam.tms_get om])))<|za<|e_mv rfl<|e_p (zK ye rfl)<|zva rfl rfl (zab (r:=rE) (k:=n) (x0:=none) (γ0:=(wz,wz)) ya inf32 rfl rfl rfl rfl om om rfl (fun g _=>eF_wz g) dd) (fun b22 _=> ?_)
  refine e_p (zb rfl)<|zf<|zd<|ze<|ze<|za<|e_mv rfl<|e_p (zK ya rfl)<|e_mv rfl<|zf<|zd<|zx<|zja (X:=Nat×(List (Option Rat))) (fun x:Nat×(List (Option Rat))=>x.1≤n∧x.2.length=n∧∀q,q<x.1→x.2.getD q none=some (Cam.bs (Cam.tms l t) q (q+1))) (fun x=>[(57,.int .i64 ((x.1:Nat):Int)),(56,.int .i64 ((n:Nat):Int)),(11,.slice (some ⟨b22,0,none⟩) n n),(6,.slice (some ⟨b3,0,none⟩) n n),(4,.slice none 0 0)]) (fun x=>[rowA 32 rE (some ⟨b22,0,none⟩) n (x.2),boxA b6 32 (cw [pa,pb]),boxA b1 32 (cw [wt1,wt2])]) (fun x=>[slF rQ (some ⟨b3,0,none⟩) n (Cam.tms l t),slF rE (some ⟨b3,0,none⟩) n A,qF true pa pb (Cam.pwq t j),qF true w34 w45 ((1:Int):Rat),slF rQ p cap l,qF true wt1 wt2 t]) (fun x:Nat×(List (Option Rat))=>n - x.1) (0,List.replicate n none) (show 0≤n∧(List.replicate n none).length=n∧∀q,q<0→(List.replicate n none).getD q none=some (Cam.bs (Cam.tms l t) q (q+1)) from by exact ⟨Nat.zero_le _,List.length_replicate,fun q hq=>by omega⟩) ((.e rfl cgs (.of rfl)):SubM _ _) (ho:=((.e (i:=0) rfl cgs (.of [0,1] rfl)):PickO _ _ _)) ((.of [0,1,2,3,4,5] rfl):SelR _ _ _) ?_
  rintro ⟨i,B⟩ hI
  replace hI:i≤n∧B.length=n∧∀q,q<i→B.getD q none=some (Cam.bs (Cam.tms l t) q (q+1)):=hI
  try dsimp only [cw]
  obtain ⟨hi,hBl,hB⟩:=hI
  refine ze<|za<|e_p (zX rfl rfl)<|zf<|zd<|ze<|zG rfl (fun h23=> ?_) (fun h23=> ?_)
  ·
   refine zB<|zd<|ze<|zx<|ze<|za<|e_mv rfl<|e_p (zb rfl)<|zf<|zd<|ze<|za<|zm rfl rfl (.c rfl .n) ce58 (zxa (z:=0) (hz:=by first|rfl|assumption|omega|decide)) (.n) ?_
   rintro ⟨w324,w425⟩ -
   dsimp only [aq,nq,cq]
   refine zI rfl rfl (zr zr32 rfl) (fun b26=> ?_)
   refine zj 0 rfl rfl rfl rfl rfl sz32 rfl (.t4 .nil) .z<|e_p (zb rfl)<|zf<|zd<|ze<|ze<|za<|e_p (zb rfl)<|zf<|zd<|zx<|zja (X:=Nat×Wd×Wd) (fun x:Nat×Wd×Wd=>x.1≤i+1) (fun x=>[(14,.int .i64 (((Cam.cho i x.1):Nat):Int)),(15,.int .i64 ((x.1:Nat):Int)),(13,.pointer (some ⟨b26,0,none⟩)),(12,.int .i64 ((i:Nat):Int)),(57,.int .i64 ((i:Nat):Int)),(56,.int .i64 ((n:Nat):Int)),(11,.slice (some ⟨b22,0,none⟩) n n),(6,.slice (some ⟨b3,0,none⟩) n n),(4,.slice none 0 0)]) (fun x=>[boxA b26 32 (cw [x.2.1,x.2.2]),rowA 32 rE (some ⟨b22,0,none⟩) n B,boxA b6 32 (cw [pa,pb]),boxA b1 32 (cw [wt1,wt2])]) (fun x=>[qF true x.2.1 x.2.2 (Cam.bs (Cam.tms l t) i x.1),qF true w324 w425 ((0:Int):Rat),slF rQ (some ⟨b3,0,none⟩) n (Cam.tms l t),slF rE (some ⟨b3,0,none⟩) n A,qF true pa pb (Cam.pwq t j),qF true w34 w45 ((1:Int):Rat),slF rQ p cap l,qF true wt1 wt2 t]) (fun x:Nat×Wd×Wd=>i+1 - x.1) (0,w324,w425) (show 0≤i+1 from by exact Nat.zero_le _) ((.e rfl (by rfl) (.e rfl cgs (.of rfl))):SubM _ _) (ho:=((.of [0,0,0,0] rfl):PickO _ _ _)) ((.e (j:=0) rfl (by rfl) (.of [0,1,2,3,4,5,6] rfl)):SelR _ _ _) ?_
   rintro ⟨jj,sa,sb⟩ hJ
   replace hJ:jj≤i+1:=hJ
   try dsimp only [cw]
   refine ze<|ze<|za<|e_mv rfl<|e_mv rfl<|e_p (zxb rfl rfl)<|zf<|zd<|zG rfl (fun h27=> ?_) (fun h27=> ?_)
   ·
    have hji:jj≤i:=by omega
    have hcm:Cam.cho i jj*(i - jj)≤100*9:=Nat.mul_le_mul (Cam.cho_rng i om jj om).2 om
    have hcj:=(Cam.cho_rng i om jj om).2
    have hcz:(0:Int)≤((Cam.cho i jj*(i - jj) / (jj+1):Nat):Int):=Int.natCast_nonneg _
    have hcd:Cam.cho i jj*(i - jj) / (jj+1)≤100:=Cam.cho_rng' i om (jj+1) om
    have hj9:jj*11010≤99090:=by omega
    refine zB<|zd<|ze<|zx<|ze<|zV (OW:=[boxA b26 32 (cw [sa,sb])]) (O:=[rowA 32 rE (some ⟨b22,0,none⟩) n B,boxA b6 32 (cw [pa,pb]),boxA b1 32 (cw [wt1,wt2])]) 11 mixed (.then (.block (.then (.then (.block (.then (.block (.then (.then (.block (.then .ret))))))))))) kr<|e_uw 0 rfl rfl (zc 0 ty32 rfl rfl (.t4 .nil))<|e_dm 1 rfl rfl rfl<|e_dm 3 rfl rfl rfl<|e_dm 4 rfl rfl rfl<|d_vl 5 rfl rfl kr kr rfl rfl (zpa (x0:=((Cam.tms l t).getD jj (0:Rat))) 2 jj rfl ya sz32 rfl (by first|rfl|assumption|omega|(simp;done)|exact (Po.gen_len _ _).trans hn) rfl rfl (gD (d:=(0:Rat)) om)) ?_
    rintro ⟨b28,o29,w30,w31⟩ -
    dsimp only [aq,nq,cq]
    refine zNa open_rQ<|e_u 6 rfl rfl (zQ (j:=0) 0 ty32 rfl rfl rfl (.t4 .nil))<|e_one 2 (zp rfl rfl rfl rfl (.c rfl .n) ce58 (zxa (z:=(((Cam.cho i jj):Nat):Int)) (hz:=by first|rfl|assumption|omega|decide)) (.n) ?_)
    rintro ⟨w332,w433⟩ -
    dsimp only [aq,nq,cq]
    refine e_one 7 (zIa rfl rfl rfl rfl (zA (r:=rQ) (k:=2) ya inf32 rfl dd dd dd (.c (x:=(((((Cam.cho i jj):Nat):Int):Int):Rat)) (cs:=[w332.b,w332.l,w433.b,w433.l]) (w332,w433) rfl rfl rfl (fun g hr=>Holds.get 0 rfl hr) (.c (x:=((Cam.tms l t).getD jj (0:Rat))) (cs:=[w30.b,w30.l,w31.b,w31.l]) (w30,w31) rfl rfl rfl (fun g hr=>Holds.get 2 rfl hr) .n))) (fun b34 _=> ?_))
    refine zla 0 rfl .z<|e_one 8 (zp rfl rfl rfl rfl (.c rfl .n) ce56 (zAa (p:=some ⟨b34,0,none⟩) (n:=2) (cap:=2) (l:=[(((((Cam.cho i jj):Nat):Int):Int):Rat),((Cam.tms l t).getD jj (0:Rat))]) (hn:=by first|rfl|assumption|omega|decide) (hn9:=by first|rfl|assumption|omega|decide) (hl:=by exact Cam.hqA_cons (Nat.le_trans (Cam.chi (Cam.cho_rng i om jj om).2) dd) (Cam.hqA_cons (by have h9:=hTq jj;omega) (Cam.hqA_nil dd))) (hn1:=by first|rfl|assumption|omega|decide)) (.c (j:=0) rfl .n) ?_)
    rintro ⟨w335,w436⟩ -
    dsimp only [aq,nq,cq]
    refine e_one 9 (zIa rfl rfl rfl rfl (zA (r:=rQ) (k:=2) ya inf32 rfl dd dd dd (.c (x:=(Cam.bs (Cam.tms l t) i jj)) (cs:=[sa.b,sa.l,sb.b,sb.l]) (sa,sb) rfl rfl rfl (fun g hr=>Holds.get 5 rfl hr) (.c (x:=(Cam.mulL ([(((((Cam.cho i jj):Nat):Int):Int):Rat),((Cam.tms l t).getD jj (0:Rat))]))) (cs:=[w335.b,w335.l,w436.b,w436.l]) (w335,w436) rfl rfl rfl (fun g hr=>Holds.get 0 rfl hr) .n))) (fun b37 _=> ?_))
    refine zla 0 rfl .z<|e_one 10 (zp rfl rfl rfl rfl (.c rfl .n) ce59 (zAb (p:=some ⟨b37,0,none⟩) (n:=2) (cap:=2) (l:=[(Cam.bs (Cam.tms l t) i jj),(Cam.mulL ([(((((Cam.cho i jj):Nat):Int):Int):Rat),((Cam.tms l t).getD jj (0:Rat))]))]) (hn:=by first|rfl|assumption|omega|decide) (hn9:=by first|rfl|assumption|omega|decide) (hl:=by exact Cam.hqA_cons (by have h9:=Cam.bs_hq hTq (i:=i) om jj om;omega) (Cam.hqA_cons (by have h9:=Cam.m2_hq (Cam.chi (Cam.cho_rng i om jj om).2) (hTq jj);omega) (Cam.hqA_nil dd)))) (.c (j:=0) rfl .n) ?_)
    rintro ⟨w338,w439⟩ -
    dsimp only [aq,nq,cq]
    refine e_one 11 (zv kr rfl rfl rfl rfl rfl sz32 rfl (.t4 .nil) ?_)
    refine zH kr<|zd<|za<|e_mv rfl<|e_mv rfl<|e_mv rfl<|e_p (zca (z:=(((i:Nat):Int) - ((jj:Nat):Int))) rfl rfl (w64 om)) ?_
    have e40:((((i:Nat):Int) - ((jj:Nat):Int)):Int)=(((i - jj):Nat):Int):=by omega
    rw [e40]
    refine e_p (zpb (z:=((((Cam.cho i jj)*(i - jj)):Nat):Int)) rfl rfl (w64 (by first|omega|exact ⟨(Int.natCast_mul _ _).symm,by omega,by omega⟩|exact (Int.natCast_ediv _ _).symm|exact ⟨rfl,by omega,by omega⟩|(refine ⟨?_,?_⟩ <;> omega)))) ?_
    refine e_mv rfl<|e_p (zL (z:=(((jj+1):Nat):Int)) rfl rfl (w64 om))<|e_p (zeb (z:=(((((Cam.cho i jj)*(i - jj)) / (jj+1)):Nat):Int)) rfl rfl (by first|omega|exact ⟨(Int.natCast_mul _ _).symm,by omega,by omega⟩|exact (Int.natCast_ediv _ _).symm|exact ⟨rfl,by omega,by omega⟩|(refine ⟨?_,?_⟩ <;> omega)) (by rw [quoN (z:=(((((Cam.cho i jj)*(i - jj)) / (jj+1)):Nat):Int)) (by first|omega|exact ⟨(Int.natCast_mul _ _).symm,by omega,by omega⟩|exact (Int.natCast_ediv _ _).symm|exact ⟨rfl,by omega,by omega⟩|(refine ⟨?_,?_⟩ <;> omega)) (by first|omega|exact ⟨(Int.natCast_mul _ _).symm,by omega,by omega⟩|exact (Int.natCast_ediv _ _).symm|exact ⟨rfl,by omega,by omega⟩|(refine ⟨?_,?_⟩ <;> omega))];exact w64 (by first|omega|exact ⟨(Int.natCast_mul _ _).symm,by omega,by omega⟩|exact (Int.natCast_ediv _ _).symm|exact ⟨rfl,by omega,by omega⟩|(refine ⟨?_,?_⟩ <;> omega)))) ?_
    refine e_p (zb rfl)<|zf<|zP<|zd<|za<|e_mv rfl<|e_p (zL (z:=(((jj+1):Nat):Int)) rfl rfl (w64 om))<|e_p (zb rfl)<|zf<|zda ((jj+1),w338,w439) (show (jj+1)≤i+1 from by show jj+1≤i+1;omega) (by show i+1 - (jj+1)<i+1 - jj;omega) ((.e rfl (by rfl) (.of rfl)):SubM _ _) (ho:=((.of [0,2,2,2] rfl):PickO _ _ _)) ((.e (j:=0) rfl (by rfl) (.of [8,9,10,11,12,13,14] rfl)):SelR _ _ _)
   ·
    refine zfa<|zi<|zi<|zw<|zd<|za<|e_mv rfl<|e_mv rfl<|e_ru (zc 0 ty32 rfl rfl (.t4 .nil))<|e_p (zZ (j:=i) ya sz32 rfl rfl rfl om)<|zEa 1 rfl rfl rfl (zS (r:=rE) (j:=i) (x0:=(some (Cam.bs (Cam.tms l t) i jj))) (γ0:=(sa,sb)) rfl rfl (by first|omega|(rw [List.length_map];omega)|(simp only [List.length_set];omega)|(simp;done)|(simp;omega)) rfl rfl sz32 (fun g hr=>qF_e (Holds.get 0 rfl hr))) (fun _=>(.s .z)) (fun _ _=> ?_)
    refine zf<|zP<|zd<|za<|e_p (zL (z:=(((i+1):Nat):Int)) rfl rfl (w64 om))<|e_mv rfl<|zf<|zda ((i+1),(B.set i (some (Cam.bs (Cam.tms l t) i jj)))) (show (i+1)≤n∧(B.set i (some (Cam.bs (Cam.tms l t) i jj))).length=n∧∀q,q<(i+1)→(B.set i (some (Cam.bs (Cam.tms l t) i jj))).getD q none=some (Cam.bs (Cam.tms l t) q (q+1)) from by exact ⟨by omega,by rw [List.length_set];exact hBl,Po.set_step hB om (by rw [show jj=i+1 by omega])⟩) (by show n - (i+1)<n - i;omega) (mR rfl) (ho:=((.of [1,1,1] rfl):PickO _ _ _)) ((.of [2,3,4,5,6,7] rfl):SelR _ _ _)
  ·
   refine zfa<|zi<|zi<|zw<|zd<|ze<|za<|e_mv rfl<|e_p (zb rfl)<|zf<|zd<|zC<|zyb 0 rfl .z<|znb (slF rQ (some ⟨b22,0,none⟩) n (Cam.bern l t)) (zug 0 rfl (by exact map_ext (by rw [hBl,Cam.bern_len,hn]) (fun q hq=>by rw [Cam.bern_len] at hq;rw [hB q om,Cam.bern_get hq]))) ?_
   exact zu Tryz.results106 (some ⟨b22,0,none⟩,n) trivial (zn rfl) (by rfl) (ho:=oN) (s0 rfl)
end Go.Proofs.YtahiajepeodhoaaGreat.Sp
namespace Go.Proofs.YtahiajepeodhoaaGreat.Sp
open Go
set_option linter.unusedVariables false
set_option maxRecDepth 100000
set_option maxHeartbeats 8000000
theorem zze {p:Option Addr} {n:Nat} {cap:Nat} {l:List Rat} {K:Nat} {d:Nat} (hn:l.length=n) (hn1:1≤n) (hn9:n≤9) (hc:Po.cb K l) (hK:K+10*d+20≤100000000) (ih:∀(d2:Nat) (hd2:d2<d) (p:Option Addr) (n cap:Nat) (l:List Rat) (K:Nat) (hn:l.length=n) (hn1:1≤n) (hn9:n≤9) (hc:Po.cb K l) (hK:K+10*d2+20≤100000000),Con yd 105 [.slice p n cap,.int .i64 ((d2:Nat):Int)] [] [slF rQ p cap l] (Y:=Unit) (fun y=>True) (fun y=> .int .i64 (Cam.sure d2 l)) (fun y=>[]) (fun y=>[])):Con yd 105 [.slice p n cap,.int .i64 ((d:Nat):Int)] [] [slF rQ p cap l] (Y:=Unit) (fun y=>True) (fun y=> .int .i64 (Cam.sure d l)) (fun y=>[]) (fun y=>[]):=by
 refine zl Tryz.func105 rfl rfl rfl (fun c=> ?_)
 show RunC _ _ _ _ _ [(0,.slice p n cap),(1,.int .i64 ((d:Nat):Int))] [] [slF rQ p cap l]
 refine zU 0 rfl (fun hL0=> ?_)
 have hlq:∀i,ym (l.getD i 0)≤100000000:=fun i=>Nat.le_trans (Po.cb_bd hc i) om
 refine ze<|za<|e_p (zb rfl)<|zf<|zd<|ze<|zOa (X:=Unit) (fun x=>True) (fun x=>[(25,.bool (decide (Cam.ends l))),(4,.int .i64 0),(0,.slice p n cap),(1,.int .i64 ((d:Nat):Int))]) (fun x=>[]) (fun x=>[slF rQ p cap l]) ?_ ?_
 ·
  refine za<|e_mv rfl<|r_vl rfl rfl (zpa (x0:=(l.getD 0 (0:Rat))) 0 0 rfl ya sz32 rfl (by first|rfl|assumption|omega|(simp;done)|exact Cam.lfA_len _ _|exact (Cam.rsA_len _ _).trans hn|exact (Cam.hin_len _ _).trans ((Cam.rsA_len _ _).trans hn)|exact Cam.rsA_len _ _|exact (Cam.hin_len _ _).trans (Cam.rsA_len _ _)) rfl rfl (gD (d:=(0:Rat)) om)) ?_
  rintro ⟨b1,o2,w3,w4⟩ -
  dsimp only [aq,nq,cq]
  refine zna open_rQ<|e_ru (zQ (j:=0) 0 ty32 rfl rfl rfl (.t4 .nil))<|zJ rfl rfl (.c rfl .n) ce98 (zFb (k1:=true) (u1:=w3) (v1:=w4) (q1:=(l.getD 0 (0:Rat)))) (.c (j:=1) rfl .n)<|e_p (zxb rfl rfl)<|zha rfl rfl (zga rfl) (fun g16=> ?_) (fun g16=> ?_)
  ·
   refine e_no<|e_no<|e_no<|e_no<|e_no<|e_no<|e_no<|e_no<|e_p (zE rfl rfl)<|zf ?_
   exact zT () tt9 ((.e rfl (congrArg Value.bool (by first|(exact (decide_eq_true (by first|exact .inl (yt.1 g16)|exact .inl (yt.1 om))).symm)|exact decide_eq_decide.2 (by unfold Cam.ends;rw [yt,hn];have h9:¬l.getD 0 0≤0:=(fun k=>absurd (yt.2 k) om);exact ⟨fun k=> .inr k,fun k=>k.elim (fun z=>absurd z h9) id⟩))) (.of rfl)):SubM _ _) (ho:=oN) ((.c (j:=2) rfl .n):SelR _ _ _)
  ·
   refine e_mv rfl<|e_mv rfl<|e_p (zK ya rfl)<|e_p (zca (z:=(((n:Nat):Int) - 1)) rfl rfl (w64 om)) ?_
   have e5:((((n:Nat):Int) - 1):Int)=(((n - 1):Nat):Int):=by omega
   rw [e5]
   refine r_vl rfl rfl (zpa (x0:=(l.getD (n - 1) (0:Rat))) 2 (n - 1) rfl ya sz32 rfl (by first|rfl|assumption|omega|(simp;done)|exact Cam.lfA_len _ _|exact (Cam.rsA_len _ _).trans hn|exact (Cam.hin_len _ _).trans ((Cam.rsA_len _ _).trans hn)|exact Cam.rsA_len _ _|exact (Cam.hin_len _ _).trans (Cam.rsA_len _ _)) rfl rfl (gD (d:=(0:Rat)) om)) ?_
   rintro ⟨b6,o7,w8,w9⟩ -
   dsimp only [aq,nq,cq]
   refine zna open_rQ<|e_ru (zQ (j:=0) 0 ty32 rfl rfl rfl (.t4 .nil))<|zJ rfl rfl (.c rfl .n) ce98 (zFb (k1:=true) (u1:=w8) (v1:=w9) (q1:=(l.getD (n - 1) (0:Rat)))) (.c (j:=1) rfl .n)<|e_p (zxb rfl rfl)<|e_p (zE rfl rfl)<|zf ?_
   exact zT () tt9 ((.e rfl (congrArg Value.bool (by first|(exact (decide_eq_true (by first|exact .inl (yt.1 g16)|exact .inl (yt.1 om))).symm)|exact decide_eq_decide.2 (by unfold Cam.ends;rw [yt,hn];have h9:¬l.getD 0 0≤0:=(fun k=>absurd (yt.2 k) om);exact ⟨fun k=> .inr k,fun k=>k.elim (fun z=>absurd z h9) id⟩))) (.of rfl)):SubM _ _) (ho:=oN) ((.c (j:=4) rfl .n):SelR _ _ _)
 ·
  rintro ⟨⟩ -
  try dsimp only
  refine zG rfl (fun h25=> ?_) (fun h25=> ?_)
  ·
   refine ze<|za<|e_p (zb rfl)<|zf<|zd<|zC<|zk ?_
   exact zu yu () trivial (zn rfl) (by rw [Cam.sure_ends h25]) (ho:=oN) sN
  ·
   refine zB<|zd<|ze<|ze<|za<|e_mv rfl<|zJ rfl rfl (.c rfl (.c rfl .n)) ce127 (zkg (p:=p) (n:=n) (cap:=cap) (l:=l) (hn:=ass) (hn9:=by first|rfl|assumption|omega|exact hlq _) (hl:=by first|rfl|assumption|omega|exact hlq _)) (.c (j:=0) rfl .n)<|e_p (zqb rfl)<|zf<|zd<|zZa rfl (fun h28=> ?_) (fun h28=> ?_)
   ·
    refine ze<|za<|e_p (zb rfl)<|zf<|zd<|zC<|zk ?_
    exact zu yu () trivial (zn rfl) (by rw [Cam.sure_clear h25 (by simpa using h28)]) (ho:=oN) sN
   ·
    refine zB<|zd<|ze<|ze<|za<|e_mv rfl<|e_p (zwa rfl rfl)<|zf<|zd<|zG rfl (fun h30=> ?_) (fun h30=> ?_)
    ·
     refine ze<|za<|e_p (zb rfl)<|zf<|zd<|zC<|zk ?_
     exact zu yu () trivial (zn rfl) (by rw [show d=0 by omega,Cam.sure_0 h25 (by simpa using h28)]) (ho:=oN) sN
    ·
     obtain ⟨d1,rfl⟩:∃d1,d=d1+1:=⟨d - 1,by omega⟩
     refine zB<|zd<|ze<|za<|e_mv rfl<|zm rfl rfl (.c rfl .n) ce129 (zNf (p:=p) (n:=n) (cap:=cap) (l:=l) (hn:=ass) (hb:=by first|rfl|assumption|omega|exact hlq _)) (.c (j:=0) rfl .n) ?_
     rintro ⟨p210,c211⟩ -
     dsimp only [aq,nq,cq]
     refine e_p (zb rfl)<|zf<|zd<|ze<|za<|e_p (zb rfl)<|zf<|zd<|ze<|ze<|zBd 32 rQ<|za<|e_mv rfl<|e_p (zK ya rfl)<|e_p (zb rfl)<|zf<|zd<|zx<|zja (X:=Nat×(Option Addr)×Nat) (fun x:Nat×(Option Addr)×Nat=>x.1≤n) (fun x=>[(6,.slice (x.2.1) (x.1) (x.2.2)),(7,.int .i64 (((n - x.1):Nat):Int)),(5,.slice p210 (l.length) c211),(4,.int .i64 0),(1,.int .i64 (((d1+1):Nat):Int))]) (fun x=>[rowA 32 rQ (x.2.1) (x.2.2) (Cam.lfA l x.1),rowA 32 rQ p210 c211 (Cam.rsA l x.1)]) (fun x=>[slF rQ p cap l]) (fun x:Nat×(Option Addr)×Nat=>n - x.1) (0,none,0) (show 0≤n from by exact Nat.zero_le _) ((.e rfl (by rfl) (.e rfl (by rw [hn];rfl) (.of rfl))):SubM _ _) (ho:=((.e (i:=0) rfl (by rfl) (.e (i:=0) rfl (by rfl) .n)):PickO _ _ _)) (s0 rfl) ?_
     rintro ⟨jj,pR,cR⟩ hI
     replace hI:jj≤n:=hI
     try dsimp only
     have hRl:(Cam.rsA l jj).length=l.length:=Cam.rsA_len _ _
     refine ze<|ze<|za<|e_mv rfl<|e_p (zCa rfl rfl)<|zf<|zd<|zG rfl (fun h36=> ?_) (fun h36=> ?_)
     ·
      refine zB<|zd<|ze<|zx<|ze<|za<|e_mv rfl<|e_mv rfl<|e_ru (zka 1 0 rfl ya sz32 rfl (by first|rfl|assumption|omega|(simp;done)|exact Cam.lfA_len _ _|exact (Cam.rsA_len _ _).trans hn|exact (Cam.hin_len _ _).trans ((Cam.rsA_len _ _).trans hn)|exact Cam.rsA_len _ _|exact (Cam.hin_len _ _).trans (Cam.rsA_len _ _)) rfl rfl om)<|r_vl rfl rfl (zhb (x0:=((Cam.rsA l jj).getD 0 (0:Rat))) 1 0 rfl ty32 rfl rfl (gD (d:=(0:Rat)) om)) ?_
      rintro ⟨w13,w14⟩ -
      dsimp only [aq,nq,cq]
      refine zna open1_rQ<|zva rfl rfl (zA (r:=rQ) (k:=1) ya inf32 rfl dd dd dd (.c (x:=((Cam.rsA l jj).getD 0 (0:Rat))) (cs:=[w13.b,w13.l,w14.b,w14.l]) (w13,w14) rfl rfl rfl (fun g hr=>Holds.get 0 rfl hr) .n)) (fun b15 _=> ?_)
      refine zba 0 rfl .z<|zEa 1 rfl rfl rfl (zoa 0 rfl ya inf32 dd rfl rfl (by first|rfl|assumption|omega|(simp;done)|exact Cam.lfA_len _ _|exact (Cam.rsA_len _ _).trans hn|exact (Cam.hin_len _ _).trans ((Cam.rsA_len _ _).trans hn)|exact Cam.rsA_len _ _|exact (Cam.hin_len _ _).trans (Cam.rsA_len _ _)) rfl (by first|rfl|assumption|omega|(simp;done)|exact Cam.lfA_len _ _|exact (Cam.rsA_len _ _).trans hn|exact (Cam.hin_len _ _).trans ((Cam.rsA_len _ _).trans hn)|exact Cam.rsA_len _ _|exact (Cam.hin_len _ _).trans (Cam.rsA_len _ _)) om om) (fun _=>(.s .z)) ?_
      rintro ⟨p16,c17⟩ -
      dsimp only [aq,nq,cq]
      refine e_p (zb rfl)<|zf<|zd<|ze<|za<|e_mv rfl<|e_p (zca (z:=((((n - jj):Nat):Int) - 1)) rfl rfl (w64 om)) ?_
      have e18:(((((n - jj):Nat):Int) - 1):Int)=(((n - jj - 1):Nat):Int):=by omega
      rw [e18]
      refine e_mv rfl<|zf<|zd<|zx<|zja (X:=Nat) (fun x:Nat=>x≤n - jj - 1) (fun x=>[(47,.int .i64 ((x:Nat):Int)),(46,.int .i64 (((n - jj - 1):Nat):Int)),(6,.slice p16 (jj+1) c17),(7,.int .i64 (((n - jj):Nat):Int)),(5,.slice p210 (l.length) c211),(4,.int .i64 0),(1,.int .i64 (((d1+1):Nat):Int))]) (fun x=>[rowA 32 rQ p16 c17 ((Cam.lfA l jj)++([((Cam.rsA l jj).getD 0 (0:Rat))])),rowA 32 rQ p210 c211 (Cam.hin (Cam.rsA l jj) x)]) (fun x=>[slF rQ (some ⟨b15,0,none⟩) 1 ([((Cam.rsA l jj).getD 0 (0:Rat))]),qF true w13 w14 ((Cam.rsA l jj).getD 0 (0:Rat)),slF rQ p cap l]) (fun x:Nat=>n - jj - 1 - x) 0 (show 0≤n - jj - 1 from by exact Nat.zero_le _) ((.e rfl cgs (.of rfl)):SubM _ _) (ho:=((.c (i:=1) rfl (.e (i:=1) rfl (by rfl) .n)):PickO _ _ _)) ((.of [0,1,2] rfl):SelR _ _ _) ?_
      rintro i hJ
      replace hJ:i≤n - jj - 1:=hJ
      try dsimp only
      have hHl:(Cam.hin (Cam.rsA l jj) i).length=l.length:=(Cam.hin_len _ _).trans hRl
      refine ze<|za<|e_p (zX rfl rfl)<|zf<|zd<|ze<|zG rfl (fun h48=> ?_) (fun h48=> ?_)
      ·
       have hrq:=Cam.rin_hq hc jj (i:=i) om
       refine zB<|zd<|ze<|zx<|ze<|za<|e_mv rfl<|e_p (zb rfl)<|zf<|zd<|zqa (.c (i:=1) rfl (.c (i:=0) rfl .n))<|zV (OW:=[rowA 32 rQ p210 c211 (Cam.hin (Cam.rsA l jj) i)]) (O:=[rowA 32 rQ p16 c17 ((Cam.lfA l jj)++([((Cam.rsA l jj).getD 0 (0:Rat))]))]) 17 mixed (.block (.then (.then (.block (.block (.then (.then (.block (.then .ret))))))))) kr<|e_dm 0 rfl rfl rfl<|e_dm 1 rfl rfl rfl<|e_dm 3 rfl rfl rfl<|e_dm 4 rfl rfl rfl<|e_uw 5 rfl rfl (zka 0 i rfl ya sz32 rfl (by first|rfl|assumption|omega|(simp;done)|exact Cam.lfA_len _ _|exact (Cam.rsA_len _ _).trans hn|exact (Cam.hin_len _ _).trans ((Cam.rsA_len _ _).trans hn)|exact Cam.rsA_len _ _|exact (Cam.hin_len _ _).trans (Cam.rsA_len _ _)) rfl rfl om)<|zyg 6 rfl rfl kr kr kr rfl rfl (zhb (x0:=((Cam.hin (Cam.rsA l jj) i).getD i (0:Rat))) 0 i rfl ty32 rfl rfl (gD (d:=(0:Rat)) om)) ?_
       rintro ⟨w20,w21⟩ -
       dsimp only [aq,nq,cq]
       refine zNa open1_rQ<|e_dm 7 rfl rfl rfl<|e_dm 8 rfl rfl rfl<|e_pv 9 rfl rfl (zL (z:=(((i+1):Nat):Int)) rfl rfl (w64 om))<|e_uw 10 rfl rfl (zka 0 (i+1) rfl ya sz32 rfl (by first|rfl|assumption|omega|(simp;done)|exact Cam.lfA_len _ _|exact (Cam.rsA_len _ _).trans hn|exact (Cam.hin_len _ _).trans ((Cam.rsA_len _ _).trans hn)|exact Cam.rsA_len _ _|exact (Cam.hin_len _ _).trans (Cam.rsA_len _ _)) rfl rfl om)<|zyg 11 rfl rfl kr kr kr rfl rfl (zhb (x0:=((Cam.hin (Cam.rsA l jj) i).getD (i+1) (0:Rat))) 0 (i+1) rfl ty32 rfl rfl (gD (d:=(0:Rat)) om)) ?_
       rintro ⟨w23,w24⟩ -
       dsimp only [aq,nq,cq]
       refine zNa open1_rQ<|zW (m':=[(61,.agg (cw [w23,w24]).toArray),(56,.agg (cw [w20,w21]).toArray),(51,.int .i64 ((i:Nat):Int)),(50,.slice p210 (l.length) c211),(47,.int .i64 ((i:Nat):Int)),(46,.int .i64 (((n - jj - 1):Nat):Int)),(6,.slice p16 (jj+1) c17),(7,.int .i64 (((n - jj):Nat):Int)),(5,.slice p210 (l.length) c211),(4,.int .i64 0),(1,.int .i64 (((d1+1):Nat):Int))]) (R':=[qF true w23 w24 ((Cam.hin (Cam.rsA l jj) i).getD (i+1) (0:Rat)),qF true w20 w21 ((Cam.hin (Cam.rsA l jj) i).getD i (0:Rat)),slF rQ (some ⟨b15,0,none⟩) 1 ([((Cam.rsA l jj).getD 0 (0:Rat))]),qF true w13 w14 ((Cam.rsA l jj).getD 0 (0:Rat)),slF rQ p cap l]) (mR rfl) (List.Perm.refl _) (List.Perm.refl _) ((.of [0,1,2,3,4] rfl):SelR _ _ _)<|zQa (X:=Wd×Wd×Nat×Wd×Wd×Nat×Wd×Wd) (k':=0) (L':=(lb 18 262143)) (fun (u2_1,u2_2,u12_1,u13_1,u13_2,u14_1,u15_1,u15_2)=>([(47,.int .i64 ((i:Nat):Int)),(46,.int .i64 (((n - jj - 1):Nat):Int)),(6,.slice p16 (jj+1) c17),(7,.int .i64 (((n - jj):Nat):Int)),(5,.slice p210 (l.length) c211),(4,.int .i64 0),(1,.int .i64 (((d1+1):Nat):Int))],[rowA 32 rQ p210 c211 ((Cam.hin (Cam.rsA l jj) i).set i (Cam.mulL ([(Rat.divInt 1 2),(Cam.sumL ([((Cam.hin (Cam.rsA l jj) i).getD i (0:Rat)),((Cam.hin (Cam.rsA l jj) i).getD (i+1) (0:Rat))]))])))],[emA,emA,rowA 32 rQ p16 c17 ((Cam.lfA l jj)++([((Cam.rsA l jj).getD 0 (0:Rat))]))],[qF true u15_1 u15_2 (Cam.mulL ([(Rat.divInt 1 2),(Cam.sumL ([((Cam.hin (Cam.rsA l jj) i).getD i (0:Rat)),((Cam.hin (Cam.rsA l jj) i).getD (i+1) (0:Rat))]))])),slF rQ (some ⟨u14_1,0,none⟩) 2 ([(Rat.divInt 1 2),(Cam.sumL ([((Cam.hin (Cam.rsA l jj) i).getD i (0:Rat)),((Cam.hin (Cam.rsA l jj) i).getD (i+1) (0:Rat))]))]),qF true u13_1 u13_2 (Cam.sumL ([((Cam.hin (Cam.rsA l jj) i).getD i (0:Rat)),((Cam.hin (Cam.rsA l jj) i).getD (i+1) (0:Rat))])),slF rQ (some ⟨u12_1,0,none⟩) 2 ([((Cam.hin (Cam.rsA l jj) i).getD i (0:Rat)),((Cam.hin (Cam.rsA l jj) i).getD (i+1) (0:Rat))]),qF true u2_1 u2_2 (Rat.divInt 1 2),qF true w23 w24 ((Cam.hin (Cam.rsA l jj) i).getD (i+1) (0:Rat)),qF true w20 w21 ((Cam.hin (Cam.rsA l jj) i).getD i (0:Rat)),slF rQ (some ⟨b15,0,none⟩) 1 ([((Cam.rsA l jj).getD 0 (0:Rat))]),qF true w13 w14 ((Cam.rsA l jj).getD 0 (0:Rat)),slF rQ p cap l])) ?_ (fun hD0=> ?_)
       ·
        rintro ⟨u2_1,u2_2,u12_1,u13_1,u13_2,u14_1,u15_1,u15_2⟩
        dsimp only
        refine zH kr<|zP<|zd<|za<|e_p (zL (z:=(((i+1):Nat):Int)) rfl rfl (w64 om))<|e_mv rfl<|zf<|zda (i+1) (show (i+1)≤n - jj - 1 from by show i+1≤n - jj - 1;omega) (by show n - jj - 1 - (i+1)<n - jj - 1 - i;omega) (mR rfl) (ho:=((.c (i:=3) rfl (.e (i:=0) rfl (by rfl) .n)):PickO _ _ _)) ((.of [7,8,9] rfl):SelR _ _ _)
       refine zQa (X:=Wd×Wd×Nat×Wd×Wd×Nat×Wd×Wd) (k':=1) (L':=(lb 18 131071)) (fun (u2_1,u2_2,u12_1,u13_1,u13_2,u14_1,u15_1,u15_2)=>([(66,rowPtr p210 (i*4)),(65,.agg (cw [u15_1,u15_2]).toArray),(47,.int .i64 ((i:Nat):Int)),(46,.int .i64 (((n - jj - 1):Nat):Int)),(6,.slice p16 (jj+1) c17),(7,.int .i64 (((n - jj):Nat):Int)),(5,.slice p210 (l.length) c211),(4,.int .i64 0),(1,.int .i64 (((d1+1):Nat):Int))],[rowA 32 rQ p210 c211 (Cam.hin (Cam.rsA l jj) i)],[emA,emA,rowA 32 rQ p16 c17 ((Cam.lfA l jj)++([((Cam.rsA l jj).getD 0 (0:Rat))]))],[qF true u15_1 u15_2 (Cam.mulL ([(Rat.divInt 1 2),(Cam.sumL ([((Cam.hin (Cam.rsA l jj) i).getD i (0:Rat)),((Cam.hin (Cam.rsA l jj) i).getD (i+1) (0:Rat))]))])),slF rQ (some ⟨u14_1,0,none⟩) 2 ([(Rat.divInt 1 2),(Cam.sumL ([((Cam.hin (Cam.rsA l jj) i).getD i (0:Rat)),((Cam.hin (Cam.rsA l jj) i).getD (i+1) (0:Rat))]))]),qF true u13_1 u13_2 (Cam.sumL ([((Cam.hin (Cam.rsA l jj) i).getD i (0:Rat)),((Cam.hin (Cam.rsA l jj) i).getD (i+1) (0:Rat))])),slF rQ (some ⟨u12_1,0,none⟩) 2 ([((Cam.hin (Cam.rsA l jj) i).getD i (0:Rat)),((Cam.hin (Cam.rsA l jj) i).getD (i+1) (0:Rat))]),qF true u2_1 u2_2 (Rat.divInt 1 2),qF true w23 w24 ((Cam.hin (Cam.rsA l jj) i).getD (i+1) (0:Rat)),qF true w20 w21 ((Cam.hin (Cam.rsA l jj) i).getD i (0:Rat)),slF rQ (some ⟨b15,0,none⟩) 1 ([((Cam.rsA l jj).getD 0 (0:Rat))]),qF true w13 w14 ((Cam.rsA l jj).getD 0 (0:Rat)),slF rQ p cap l])) ?_ (fun hD1=> ?_)
       ·
        rintro ⟨u2_1,u2_2,u12_1,u13_1,u13_2,u14_1,u15_1,u15_2⟩
        dsimp only [cw]
        refine zPb 17 kr ?_
        ·
         refine zAd (A':=fun _=>rowA 32 rQ p210 c211 ((Cam.hin (Cam.rsA l jj) i).set i (Cam.mulL ([(Rat.divInt 1 2),(Cam.sumL ([((Cam.hin (Cam.rsA l jj) i).getD i (0:Rat)),((Cam.hin (Cam.rsA l jj) i).getD (i+1) (0:Rat))]))])))) kr rfl rfl rfl (zS (r:=rQ) (j:=i) (x0:=(Cam.mulL ([(Rat.divInt 1 2),(Cam.sumL ([((Cam.hin (Cam.rsA l jj) i).getD i (0:Rat)),((Cam.hin (Cam.rsA l jj) i).getD (i+1) (0:Rat))]))]))) (γ0:=(u15_1,u15_2)) rfl rfl (by first|omega|(rw [List.length_map];omega)|(simp only [List.length_set];omega)|(simp;done)|(simp;omega)) rfl rfl sz32 (fun g hr=>Holds.get 0 rfl hr)) (fun _ _=> ?_)
         exact zua (hD0 (u2_1,u2_2,u12_1,u13_1,u13_2,u14_1,u15_1,u15_2)) kr (mR rfl) .rfl .rfl ((.of [0,1,2,3,4,5,6,7,8,9] rfl):SelR _ _ _)
       refine zQa (X:=Wd×Wd×Nat×Wd×Wd×Nat) (k':=3) (L':=(lb 18 32767)) (fun (u2_1,u2_2,u12_1,u13_1,u13_2,u14_1)=>([(64,.slice (some ⟨u14_1,0,none⟩) 2 2),(51,.int .i64 ((i:Nat):Int)),(50,.slice p210 (l.length) c211),(47,.int .i64 ((i:Nat):Int)),(46,.int .i64 (((n - jj - 1):Nat):Int)),(6,.slice p16 (jj+1) c17),(7,.int .i64 (((n - jj):Nat):Int)),(5,.slice p210 (l.length) c211),(4,.int .i64 0),(1,.int .i64 (((d1+1):Nat):Int))],[rowA 32 rQ p210 c211 (Cam.hin (Cam.rsA l jj) i)],[emA,emA,rowA 32 rQ p16 c17 ((Cam.lfA l jj)++([((Cam.rsA l jj).getD 0 (0:Rat))]))],[slF rQ (some ⟨u14_1,0,none⟩) 2 ([(Rat.divInt 1 2),(Cam.sumL ([((Cam.hin (Cam.rsA l jj) i).getD i (0:Rat)),((Cam.hin (Cam.rsA l jj) i).getD (i+1) (0:Rat))]))]),qF true u13_1 u13_2 (Cam.sumL ([((Cam.hin (Cam.rsA l jj) i).getD i (0:Rat)),((Cam.hin (Cam.rsA l jj) i).getD (i+1) (0:Rat))])),slF rQ (some ⟨u12_1,0,none⟩) 2 ([((Cam.hin (Cam.rsA l jj) i).getD i (0:Rat)),((Cam.hin (Cam.rsA l jj) i).getD (i+1) (0:Rat))]),qF true u2_1 u2_2 (Rat.divInt 1 2),qF true w23 w24 ((Cam.hin (Cam.rsA l jj) i).getD (i+1) (0:Rat)),qF true w20 w21 ((Cam.hin (Cam.rsA l jj) i).getD i (0:Rat)),slF rQ (some ⟨b15,0,none⟩) 1 ([((Cam.rsA l jj).getD 0 (0:Rat))]),qF true w13 w14 ((Cam.rsA l jj).getD 0 (0:Rat)),slF rQ p cap l])) ?_ (fun hD2=> ?_)
       ·
        rintro ⟨u2_1,u2_2,u12_1,u13_1,u13_2,u14_1⟩
        dsimp only
        refine zPb 15 kr ?_
        ·
         refine zp rfl rfl rfl rfl (.c rfl .n) ce56 (zAa (p:=some ⟨u14_1,0,none⟩) (n:=2) (cap:=2) (l:=[(Rat.divInt 1 2),(Cam.sumL ([((Cam.hin (Cam.rsA l jj) i).getD i (0:Rat)),((Cam.hin (Cam.rsA l jj) i).getD (i+1) (0:Rat))]))]) (hn:=by first|rfl|assumption|omega|exact hlq _) (hn9:=by first|rfl|assumption|omega|exact hlq _) (hl:=by exact Cam.hqA_cons (by have h9:ym (Rat.divInt 1 2)=1:=(by decide +kernel);omega) (Cam.hqA_cons (by have h9:=Cam.s2_hq (hrq i) (hrq (i+1));omega) (Cam.hqA_nil dd))) (hn1:=by first|rfl|assumption|omega|exact hlq _)) (.c (j:=0) rfl .n) ?_
         rintro ⟨u15_1,u15_2⟩ -
         dsimp only [aq,nq,cq]
         refine e_uw 16 rfl rfl (zka 0 i rfl ya sz32 rfl (by first|rfl|assumption|omega|(simp;done)|exact Cam.lfA_len _ _|exact (Cam.rsA_len _ _).trans hn|exact (Cam.hin_len _ _).trans ((Cam.rsA_len _ _).trans hn)|exact Cam.rsA_len _ _|exact (Cam.hin_len _ _).trans (Cam.rsA_len _ _)) rfl rfl om) ?_
         exact zua (hD1 (u2_1,u2_2,u12_1,u13_1,u13_2,u14_1,u15_1,u15_2)) kr (mR rfl) .rfl .rfl ((.of [0,1,2,3,4,5,6,7,8,9] rfl):SelR _ _ _)
       refine zQa (X:=Wd×Wd×Nat×Wd×Wd) (k':=4) (L':=(lb 18 16383)) (fun (u2_1,u2_2,u12_1,u13_1,u13_2)=>([(63,.agg (cw [u13_1,u13_2]).toArray),(52,.agg (cw [u2_1,u2_2]).toArray),(51,.int .i64 ((i:Nat):Int)),(50,.slice p210 (l.length) c211),(47,.int .i64 ((i:Nat):Int)),(46,.int .i64 (((n - jj - 1):Nat):Int)),(6,.slice p16 (jj+1) c17),(7,.int .i64 (((n - jj):Nat):Int)),(5,.slice p210 (l.length) c211),(4,.int .i64 0),(1,.int .i64 (((d1+1):Nat):Int))],[rowA 32 rQ p210 c211 (Cam.hin (Cam.rsA l jj) i)],[emA,rowA 32 rQ p16 c17 ((Cam.lfA l jj)++([((Cam.rsA l jj).getD 0 (0:Rat))]))],[qF true u13_1 u13_2 (Cam.sumL ([((Cam.hin (Cam.rsA l jj) i).getD i (0:Rat)),((Cam.hin (Cam.rsA l jj) i).getD (i+1) (0:Rat))])),slF rQ (some ⟨u12_1,0,none⟩) 2 ([((Cam.hin (Cam.rsA l jj) i).getD i (0:Rat)),((Cam.hin (Cam.rsA l jj) i).getD (i+1) (0:Rat))]),qF true u2_1 u2_2 (Rat.divInt 1 2),qF true w23 w24 ((Cam.hin (Cam.rsA l jj) i).getD (i+1) (0:Rat)),qF true w20 w21 ((Cam.hin (Cam.rsA l jj) i).getD i (0:Rat)),slF rQ (some ⟨b15,0,none⟩) 1 ([((Cam.rsA l jj).getD 0 (0:Rat))]),qF true w13 w14 ((Cam.rsA l jj).getD 0 (0:Rat)),slF rQ p cap l])) ?_ (fun hD3=> ?_)
       ·
        rintro ⟨u2_1,u2_2,u12_1,u13_1,u13_2⟩
        dsimp only [cw]
        refine zPb 14 kr ?_
        ·
         refine zIa rfl rfl rfl rfl (zA (r:=rQ) (k:=2) ya inf32 rfl dd dd dd (.c (x:=(Rat.divInt 1 2)) (cs:=[u2_1.b,u2_1.l,u2_2.b,u2_2.l]) (u2_1,u2_2) rfl rfl rfl (fun g hr=>Holds.get 2 rfl hr) (.c (x:=(Cam.sumL ([((Cam.hin (Cam.rsA l jj) i).getD i (0:Rat)),((Cam.hin (Cam.rsA l jj) i).getD (i+1) (0:Rat))]))) (cs:=[u13_1.b,u13_1.l,u13_2.b,u13_2.l]) (u13_1,u13_2) rfl rfl rfl (fun g hr=>Holds.get 0 rfl hr) .n))) (fun u14_1 _=> ?_)
         refine zla 0 rfl .z ?_
         exact zua (hD2 (u2_1,u2_2,u12_1,u13_1,u13_2,u14_1)) kr (mR rfl) .rfl .rfl ((.of [0,1,2,3,4,5,6,7,8] rfl):SelR _ _ _)
       refine zQa (X:=Wd×Wd×Nat) (k':=5) (L':=(lb 18 8191)) (fun (u2_1,u2_2,u12_1)=>([(62,.slice (some ⟨u12_1,0,none⟩) 2 2),(52,.agg (cw [u2_1,u2_2]).toArray),(51,.int .i64 ((i:Nat):Int)),(50,.slice p210 (l.length) c211),(47,.int .i64 ((i:Nat):Int)),(46,.int .i64 (((n - jj - 1):Nat):Int)),(6,.slice p16 (jj+1) c17),(7,.int .i64 (((n - jj):Nat):Int)),(5,.slice p210 (l.length) c211),(4,.int .i64 0),(1,.int .i64 (((d1+1):Nat):Int))],[rowA 32 rQ p210 c211 (Cam.hin (Cam.rsA l jj) i)],[emA,rowA 32 rQ p16 c17 ((Cam.lfA l jj)++([((Cam.rsA l jj).getD 0 (0:Rat))]))],[slF rQ (some ⟨u12_1,0,none⟩) 2 ([((Cam.hin (Cam.rsA l jj) i).getD i (0:Rat)),((Cam.hin (Cam.rsA l jj) i).getD (i+1) (0:Rat))]),qF true u2_1 u2_2 (Rat.divInt 1 2),qF true w23 w24 ((Cam.hin (Cam.rsA l jj) i).getD (i+1) (0:Rat)),qF true w20 w21 ((Cam.hin (Cam.rsA l jj) i).getD i (0:Rat)),slF rQ (some ⟨b15,0,none⟩) 1 ([((Cam.rsA l jj).getD 0 (0:Rat))]),qF true w13 w14 ((Cam.rsA l jj).getD 0 (0:Rat)),slF rQ p cap l])) ?_ (fun hD4=> ?_)
       ·
        rintro ⟨u2_1,u2_2,u12_1⟩
        dsimp only [cw]
        refine zPb 13 kr ?_
        ·
         refine zp rfl rfl rfl rfl (.c rfl .n) ce59 (zAb (p:=some ⟨u12_1,0,none⟩) (n:=2) (cap:=2) (l:=[((Cam.hin (Cam.rsA l jj) i).getD i (0:Rat)),((Cam.hin (Cam.rsA l jj) i).getD (i+1) (0:Rat))]) (hn:=by first|rfl|assumption|omega|exact hlq _) (hn9:=by first|rfl|assumption|omega|exact hlq _) (hl:=by exact Cam.hqA_cons (by have h9:=hrq i;omega) (Cam.hqA_cons (by have h9:=hrq (i+1);omega) (Cam.hqA_nil dd)))) (.c (j:=0) rfl .n) ?_
         rintro ⟨u13_1,u13_2⟩ -
         dsimp only [aq,nq,cq]
         exact zua (hD3 (u2_1,u2_2,u12_1,u13_1,u13_2)) kr (mR rfl) .rfl .rfl ((.of [0,1,2,3,4,5,6,7] rfl):SelR _ _ _)
       refine zQa (X:=Wd×Wd) (k':=6) (L':=(lb 18 4095)) (fun (u2_1,u2_2)=>([(52,.agg (cw [u2_1,u2_2]).toArray),(61,.agg (cw [w23,w24]).toArray),(56,.agg (cw [w20,w21]).toArray),(51,.int .i64 ((i:Nat):Int)),(50,.slice p210 (l.length) c211),(47,.int .i64 ((i:Nat):Int)),(46,.int .i64 (((n - jj - 1):Nat):Int)),(6,.slice p16 (jj+1) c17),(7,.int .i64 (((n - jj):Nat):Int)),(5,.slice p210 (l.length) c211),(4,.int .i64 0),(1,.int .i64 (((d1+1):Nat):Int))],[rowA 32 rQ p210 c211 (Cam.hin (Cam.rsA l jj) i)],[rowA 32 rQ p16 c17 ((Cam.lfA l jj)++([((Cam.rsA l jj).getD 0 (0:Rat))]))],[qF true u2_1 u2_2 (Rat.divInt 1 2),qF true w23 w24 ((Cam.hin (Cam.rsA l jj) i).getD (i+1) (0:Rat)),qF true w20 w21 ((Cam.hin (Cam.rsA l jj) i).getD i (0:Rat)),slF rQ (some ⟨b15,0,none⟩) 1 ([((Cam.rsA l jj).getD 0 (0:Rat))]),qF true w13 w14 ((Cam.rsA l jj).getD 0 (0:Rat)),slF rQ p cap l])) ?_ (fun hD5=> ?_)
       ·
        rintro ⟨u2_1,u2_2⟩
        dsimp only [cw]
        refine zPb 12 kr ?_
        ·
         refine zIa rfl rfl rfl rfl (zA (r:=rQ) (k:=2) ya inf32 rfl dd dd dd (.c (x:=((Cam.hin (Cam.rsA l jj) i).getD i (0:Rat))) (cs:=[w20.b,w20.l,w21.b,w21.l]) (w20,w21) rfl rfl rfl (fun g hr=>Holds.get 2 rfl hr) (.c (x:=((Cam.hin (Cam.rsA l jj) i).getD (i+1) (0:Rat))) (cs:=[w23.b,w23.l,w24.b,w24.l]) (w23,w24) rfl rfl rfl (fun g hr=>Holds.get 1 rfl hr) .n))) (fun u12_1 _=> ?_)
         refine zla 0 rfl .z ?_
         exact zua (hD4 (u2_1,u2_2,u12_1)) kr (mR rfl) .rfl .rfl ((.of [0,1,2,3,4,5,6] rfl):SelR _ _ _)
       refine zQa (X:=Nat) (k':=6) (L':=(lb 18 8187)) (fun u12_1=>([(62,.slice (some ⟨u12_1,0,none⟩) 2 2),(51,.int .i64 ((i:Nat):Int)),(50,.slice p210 (l.length) c211),(47,.int .i64 ((i:Nat):Int)),(46,.int .i64 (((n - jj - 1):Nat):Int)),(6,.slice p16 (jj+1) c17),(7,.int .i64 (((n - jj):Nat):Int)),(5,.slice p210 (l.length) c211),(4,.int .i64 0),(1,.int .i64 (((d1+1):Nat):Int))],[rowA 32 rQ p210 c211 (Cam.hin (Cam.rsA l jj) i)],[emA,rowA 32 rQ p16 c17 ((Cam.lfA l jj)++([((Cam.rsA l jj).getD 0 (0:Rat))]))],[slF rQ (some ⟨u12_1,0,none⟩) 2 ([((Cam.hin (Cam.rsA l jj) i).getD i (0:Rat)),((Cam.hin (Cam.rsA l jj) i).getD (i+1) (0:Rat))]),qF true w23 w24 ((Cam.hin (Cam.rsA l jj) i).getD (i+1) (0:Rat)),qF true w20 w21 ((Cam.hin (Cam.rsA l jj) i).getD i (0:Rat)),slF rQ (some ⟨b15,0,none⟩) 1 ([((Cam.rsA l jj).getD 0 (0:Rat))]),qF true w13 w14 ((Cam.rsA l jj).getD 0 (0:Rat)),slF rQ p cap l])) ?_ (fun hD6=> ?_)
       ·
        rintro u12_1
        dsimp only
        refine zPb 2 kr ?_
        ·
         refine zp rfl rfl rfl rfl (.c rfl (.c rfl .n)) ce47 (zwb (z1:=1) (z2:=2) (hz1:=by first|rfl|assumption|omega|exact hlq _) (hz2:=by first|rfl|assumption|omega|exact hlq _) (hy:=by first|rfl|assumption|omega|exact hlq _)) (.n) ?_
         rintro ⟨u2_1,u2_2⟩ -
         dsimp only [aq,nq,cq]
         exact zua (hD4 (u2_1,u2_2,u12_1)) kr (mR rfl) .rfl .rfl ((.of [1,0,2,3,4,5,6] rfl):SelR _ _ _)
       refine zQe 2 12 kr ?_ ?_
       ·
        refine zp rfl rfl rfl rfl (.c rfl (.c rfl .n)) ce47 (zwb (z1:=1) (z2:=2) (hz1:=by first|rfl|assumption|omega|exact hlq _) (hz2:=by first|rfl|assumption|omega|exact hlq _) (hy:=by first|rfl|assumption|omega|exact hlq _)) (.n) ?_
        rintro ⟨u2_1,u2_2⟩ -
        dsimp only [aq,nq,cq]
        exact zua (hD5 (u2_1,u2_2)) kr (mR rfl) .rfl .rfl ((.of [0,1,2,3,4,5] rfl):SelR _ _ _)
       ·
        refine zIa rfl rfl rfl rfl (zA (r:=rQ) (k:=2) ya inf32 rfl dd dd dd (.c (x:=((Cam.hin (Cam.rsA l jj) i).getD i (0:Rat))) (cs:=[w20.b,w20.l,w21.b,w21.l]) (w20,w21) rfl rfl rfl (fun g hr=>Holds.get 1 rfl hr) (.c (x:=((Cam.hin (Cam.rsA l jj) i).getD (i+1) (0:Rat))) (cs:=[w23.b,w23.l,w24.b,w24.l]) (w23,w24) rfl rfl rfl (fun g hr=>Holds.get 0 rfl hr) .n))) (fun u12_1 _=> ?_)
        refine zla 0 rfl .z ?_
        exact zua (hD6 u12_1) kr (mR rfl) .rfl .rfl ((.of [0,1,2,3,4,5] rfl):SelR _ _ _)
      ·
       refine zfa<|zi<|zi<|zw<|zP<|zd<|za<|e_mv rfl<|e_p (zca (z:=((((n - jj):Nat):Int) - 1)) rfl rfl (w64 om))<|e_p (zb rfl)<|zf<|zda ((jj+1),p16,c17) (show (jj+1)≤n from by show jj+1≤n;omega) (by show n - (jj+1)<n - jj;omega) ((.e rfl (by rfl) (.e rfl (by first|rfl|(congr 1;done)|(congr 1;omega)) (.of rfl))):SubM _ _) (ho:=((.e (i:=0) rfl (by first|rfl|(rw [show i=l.length - jj - 1 by omega];rfl)) (.e (i:=0) rfl (by first|rfl|(rw [show i=l.length - jj - 1 by omega];rfl)) .n)):PickO _ _ _)) ((.c (j:=2) rfl .n):SelR _ _ _)
     ·
      refine zfa<|zi<|zi<|zw<|zd<|ze ?_
      have hjn:jj=n:=by omega
      refine zjb 0 rfl .z<|zjb 1 rfl (.s .z) ?_
      have hs1:=Cam.sure_rng d1 (Cam.lfA l jj)
      have hs2:=Cam.sure_rng d1 (Cam.rsA l jj)
      refine za<|e_mv rfl<|e_mv rfl<|e_p (zca (z:=((((d1+1):Nat):Int) - 1)) rfl rfl (w64 om)) ?_
      have e25:(((((d1+1):Nat):Int) - 1):Int)=((d1:Nat):Int):=by omega
      rw [e25]
      refine zJ rfl rfl (.c rfl (.c rfl .n)) ce105 (ih (d2:=d1) (p:=pR) (n:=jj) (cap:=cR) (l:=(Cam.lfA l jj)) (K:=(K+jj)) (hd2:=by first|rfl|assumption|omega|exact hlq _) (hn:=by exact Cam.lfA_len _ _) (hn1:=by first|rfl|assumption|omega|exact hlq _) (hn9:=by first|rfl|assumption|omega|exact hlq _) (hc:=by exact Cam.lf_cb hc jj) (hK:=by first|rfl|assumption|omega|exact hlq _)) (.c (j:=1) rfl .n)<|e_mv rfl<|e_mv rfl<|e_p (zca (z:=((((d1+1):Nat):Int) - 1)) rfl rfl (w64 om)) ?_
      have e26:(((((d1+1):Nat):Int) - 1):Int)=((d1:Nat):Int):=by omega
      rw [e26]
      refine zJ rfl rfl (.c rfl (.c rfl .n)) ce105 (ih (d2:=d1) (p:=p210) (n:=l.length) (cap:=c211) (l:=(Cam.rsA l jj)) (K:=(K+jj)) (hd2:=by first|rfl|assumption|omega|exact hlq _) (hn:=by exact Cam.rsA_len _ _) (hn1:=by first|rfl|assumption|omega|exact hlq _) (hn9:=by first|rfl|assumption|omega|exact hlq _) (hc:=by exact Cam.rs_cb hc jj) (hK:=by first|rfl|assumption|omega|exact hlq _)) (.c (j:=0) rfl .n)<|e_p (zb rfl)<|e_p (zb rfl)<|zf<|zd<|ze<|zOa (X:=Unit) (fun x=>True) (fun x=>[(81,.bool (decide (((Cam.sure d1 (Cam.lfA l jj))<0)∨((Cam.sure d1 (Cam.rsA l jj))<0)))),(10,.int .i64 (Cam.sure d1 (Cam.rsA l jj))),(9,.int .i64 (Cam.sure d1 (Cam.lfA l jj))),(4,.int .i64 0)]) (fun x=>[]) (fun x=>[slF rQ p210 c211 (Cam.rsA l jj),slF rQ pR cR (Cam.lfA l jj),slF rQ p cap l]) ?_ ?_
      ·
       refine za<|e_mv rfl<|e_p (zX rfl rfl)<|zha rfl rfl (zga rfl) (fun h27=> ?_) (fun h27=> ?_)
       ·
        refine e_no<|e_no<|e_p (zE rfl rfl)<|zf ?_
        exact zT () tt9 ((.e rfl (congrArg Value.bool cbu) (.of rfl)):SubM _ _) (ho:=oN) ((.of [0,1,2] rfl):SelR _ _ _)
       ·
        refine e_mv rfl<|e_p (zX rfl rfl)<|e_p (zE rfl rfl)<|zf ?_
        exact zT () tt9 ((.e rfl (congrArg Value.bool cbu) (.of rfl)):SubM _ _) (ho:=oN) ((.of [0,1,2] rfl):SelR _ _ _)
      ·
       rintro ⟨⟩ -
       try dsimp only
       refine zG rfl (fun h81=> ?_) (fun h81=> ?_)
       ·
        refine ze<|za<|e_p (zb rfl)<|zf<|zd<|zC<|zk ?_
        exact zu yu () trivial (zn rfl) (by rw [Cam.sure_neg h25 (by simpa using h28) (by rw [hn,←hjn];exact h81)]) (ho:=oN) sN
       ·
        refine zB<|zd<|ze<|za<|e_mv rfl<|e_mv rfl<|e_p (zqg rfl rfl)<|e_p (zb rfl)<|zf<|zd<|zC ?_
        exact zu yu () trivial (zn rfl) (by rw [Cam.sure_min h25 (by simpa using h28) (by rw [hn,←hjn];exact h81),hn,←hjn]) (ho:=oN) sN
theorem zff {p:Option Addr} {n:Nat} {cap:Nat} {l:List Rat} {K:Nat} {d:Nat} (hn:l.length=n) (hn1:1≤n) (hn9:n≤9) (hc:Po.cb K l) (hK:K+10*d+20≤100000000):Con yd 105 [.slice (p) (n) (cap),.int .i64 (((d:Nat):Int))] [] [slF (rQ) (p) (cap) (l)] (Y:=Unit) (fun y=>True) (fun y=> .int .i64 ((Cam.sure d l))) (fun y=>[]) (fun y=>[]):=by
  induction d using Nat.strongRecOn generalizing p n cap l K with
  |_ d ih=>exact zze hn hn1 hn9 hc hK (fun d2 hd2 p n cap l K hn hn1 hn9 hc hK=>by apply ih <;> assumption)
end Go.Proofs.YtahiajepeodhoaaGreat.Sp
namespace Go.Proofs.YtahiajepeodhoaaGreat.Sp
open Go
set_option linter.unusedVariables false
set_option maxRecDepth 100000
set_option maxHeartbeats 8000000
theorem zId {p1:Option Addr} {n1:Nat} {c1:Nat} {l1:List (Option Rat)} {i:Nat} (hn1:l1.length=n1) (hm1:n1≤1000) (hi:i≤3000):Con yd 126 [.slice p1 n1 c1,.int .i64 ((i:Nat):Int)] [] [slF rE p1 c1 l1] (Y:=Wd×Wd×Bool) (fun y=>True) (fun y=> .agg #[y.1.b,y.1.l,y.2.1.b,y.2.1.l]) (fun y=>[]) (fun y=>[qF y.2.2 y.1 y.2.1 ((l1.getD i none).getD 0)]):=by
 refine zl Tryz.func126 rfl rfl rfl (fun c=> ?_)
 show RunC _ _ _ _ _ [(0,.slice p1 n1 c1),(1,.int .i64 ((i:Nat):Int))] [] [slF rE p1 c1 l1]
 refine zU 0 rfl (fun hL0=> ?_)
 refine ze<|za<|zI rfl rfl (zr zr32 rfl) (fun b1=> ?_)
 refine zf<|zd<|ze<|ze<|za<|e_mv rfl<|e_mv rfl<|e_p (zK ye rfl)<|e_p (zX rfl rfl)<|zf<|zd<|zG rfl (fun hlt=> ?_) (fun hlt=> ?_)
 ·
  refine ze<|za<|e_mv rfl<|e_mv rfl<|r_vl rfl rfl (zpa (x0:=(l1.getD i (none:Option Rat))) 0 i rfl ye sz32 rfl (by first|rfl|assumption|(simp;done)|omega) rfl rfl (gD (d:=(none:Option Rat)) om)) ?_
  rintro ⟨b2,o3,w4,w5⟩ -
  dsimp only [aq,nq,cq]
  refine zna open_rE<|e_ru (zQ (j:=0) 0 ty32 rfl rfl rfl (.t4 .nil))<|zj 0 rfl rfl rfl rfl rfl sz32 rfl (.t4 .nil) .z<|zf<|zd<|zC<|zk ?_
  exact zu Tryz.results126 (w4,w5,((l1.getD i none).isSome)) trivial (zo 0 ty32 rfl rfl (.t4 .nil)) rfl (ho:=oN) ((.c (j:=1) rfl .n):SelR _ _ _)
 ·
  refine zB<|zd<|ze<|za<|zm rfl rfl (.n) ce101 (zzc) (.n) ?_
  rintro ⟨w36,w47⟩ -
  dsimp only [aq,nq,cq]
  refine zj 0 rfl rfl rfl rfl rfl sz32 rfl (.t4 .nil) .z<|zf<|zd<|zC ?_
  exact zu Tryz.results126 (w36,w47,true) trivial (zo 0 ty32 rfl rfl (.t4 .nil)) rfl (ho:=oN) ((.e (j:=0) rfl (by rw [Po.at_end om]) .n):SelR _ _ _)
theorem zgf {p1:Option Addr} {n1:Nat} {c1:Nat} {l1:List (Option Rat)} {p2:Option Addr} {n2:Nat} {c2:Nat} {l2:List (Option Rat)} (hn1:l1.length=n1) (hm1:n1≤1000) (hn2:l2.length=n2) (hm2:n2≤1000) (hb:∀i,ym ((l1.getD i none).getD 0)+ym ((l2.getD i none).getD 0)+1≤1099511627776):Con yd 104 [.slice p1 n1 c1,.slice p2 n2 c2,.func (.func 102) #[] #[]] [] [slF rE p1 c1 l1,slF rE p2 c2 l2] (Y:=(Option Addr)×Nat) (fun y=>True) (fun y=> .slice (y.1) ((Po.add (Po.vals l1) (Po.vals l2)).length) (y.2)) (fun y=>[]) (fun y=>[slF rQ (y.1) (y.2) (Po.add (Po.vals l1) (Po.vals l2))]):=by
 refine zl Tryz.func104 rfl rfl rfl (fun c=> ?_)
 show RunC _ _ _ _ _ [(0,.slice p1 n1 c1),(1,.slice p2 n2 c2),(2,.func (.func 102) #[] #[])] [] [slF rE p1 c1 l1,slF rE p2 c2 l2]
 refine zU 0 rfl (fun hL0=> ?_)
 refine zU 1 rfl (fun hL1=> ?_)
 refine ze<|za<|e_p (zb rfl)<|zf<|zd<|ze<|za<|e_mv rfl<|e_p (zK ye rfl)<|e_mv rfl<|e_p (zK ye rfl)<|e_p (v:= .int .i64 (((max n1 n2):Nat):Int)) (by rw [show ((((max n1 n2):Nat):Int):Int)=max ((n1:Nat):Int) ((n2:Nat):Int) by omega];exact zAe rfl rfl) ?_
 have e1:((((max n1 n2):Nat):Int):Int)=(((max n1 n2):Nat):Int):=by omega
 rw [e1]
 refine zva rfl rfl (zab (r:=rE) (k:=(max n1 n2)) (x0:=none) (γ0:=(wz,wz)) ya inf32 rfl rfl rfl rfl om om rfl (fun g _=>eF_wz g) dd) (fun b2 _=> ?_)
 refine e_p (zb rfl)<|zf<|zd<|ze<|ze<|za<|e_mv rfl<|e_p (zK ya rfl)<|e_mv rfl<|zf<|zd<|zx<|zja (X:=Nat×(List (Option Rat))) (fun x:Nat×(List (Option Rat))=>x.1≤max n1 n2∧x.2.length=max n1 n2∧∀j,j<x.1→x.2.getD j none=some (((l1.getD j none).getD 0)+((l2.getD j none).getD 0))) (fun x=>[(17,.int .i64 ((x.1:Nat):Int)),(16,.int .i64 (((max n1 n2):Nat):Int)),(7,.slice (some ⟨b2,0,none⟩) (max n1 n2) (max n1 n2)),(6,.slice none 0 0),(0,.slice p1 n1 c1),(1,.slice p2 n2 c2),(2,.func (.func 102) #[] #[])]) (fun x=>[rowA 32 rE (some ⟨b2,0,none⟩) (max n1 n2) (x.2)]) (fun x=>[slF rE p1 c1 l1,slF rE p2 c2 l2]) (fun x:Nat×(List (Option Rat))=>max n1 n2 - x.1) (0,List.replicate (max n1 n2) none) (show 0≤max n1 n2∧(List.replicate (max n1 n2) none).length=max n1 n2∧∀j,j<0→(List.replicate (max n1 n2) none).getD j none=some (((l1.getD j none).getD 0)+((l2.getD j none).getD 0)) from by exact ⟨Nat.zero_le _,List.length_replicate,fun j hj=>by omega⟩) ((.e rfl cgs (.of rfl)):SubM _ _) (ho:=((.e (i:=0) rfl cgs .n):PickO _ _ _)) ((.of [0,1] rfl):SelR _ _ _) ?_
 rintro ⟨i,A⟩ hI
 replace hI:i≤max n1 n2∧A.length=max n1 n2∧∀j,j<i→A.getD j none=some (((l1.getD j none).getD 0)+((l2.getD j none).getD 0)):=hI
 try dsimp only
 obtain ⟨hi,hAl,hA⟩:=hI
 refine ze<|za<|e_p (zX rfl rfl)<|zf<|zd<|ze<|zG rfl (fun h3=> ?_) (fun h3=> ?_)
 ·
  refine zB<|zd<|ze<|zx<|ze<|za<|e_mv rfl<|e_p (zb rfl)<|zf<|zd<|za<|e_mv rfl<|e_mv rfl<|e_mv rfl<|e_mv rfl<|e_mv rfl<|zm rfl rfl (.c rfl (.c rfl .n)) ce126 (zId (p1:=p1) (n1:=n1) (c1:=c1) (l1:=l1) (i:=i) (hn1:=ass) (hm1:=ass) (hi:=by first|rfl|assumption|exact hb _|omega)) (.c (j:=0) rfl .n) ?_
  rintro ⟨w34,w45,k96⟩ -
  dsimp only [aq,nq,cq]
  refine e_mv rfl<|e_mv rfl<|zm rfl rfl (.c rfl (.c rfl .n)) ce126 (zId (p1:=p2) (n1:=n2) (c1:=c2) (l1:=l2) (i:=i) (hn1:=ass) (hm1:=ass) (hi:=by first|rfl|assumption|exact hb _|omega)) (.c (j:=2) rfl .n) ?_
  rintro ⟨w37,w48,k99⟩ -
  dsimp only [aq,nq,cq]
  refine zKc (first:=[]) (cap:=[]) rfl rfl rfl (.c rfl (.c rfl .n)) ce102 (zvc (k1:=k96) (u1:=w34) (v1:=w45) (q1:=((l1.getD i none).getD 0)) (k2:=k99) (u2:=w37) (v2:=w48) (q2:=((l2.getD i none).getD 0)) (hl:=by first|rfl|assumption|exact hb _|omega)) (.c (j:=1) rfl (.c (j:=0) rfl .n)) ?_
  rintro ⟨w310,w411⟩ -
  dsimp only [aq,nq,cq]
  refine e_p (zZ (j:=i) ya sz32 rfl rfl rfl om)<|zEa 0 rfl rfl rfl (zS (r:=rE) (j:=i) (x0:=(some (((l1.getD i none).getD 0)+((l2.getD i none).getD 0)))) (γ0:=(w310,w411)) rfl rfl (by first|omega|(rw [List.length_map];omega)|(simp only [List.length_set];omega)|(simp;done)|(simp;omega)) rfl rfl sz32 (fun g hr=>qF_e (Holds.get 0 rfl hr))) (fun _=> .z) (fun _ _=> ?_)
  refine zf<|zP<|zd<|za<|e_p (zL (z:=(((i+1):Nat):Int)) rfl rfl (w64 om))<|e_mv rfl<|zf<|zda ((i+1),(A.set i (some (((l1.getD i none).getD 0)+((l2.getD i none).getD 0))))) (show (i+1)≤max n1 n2∧(A.set i (some (((l1.getD i none).getD 0)+((l2.getD i none).getD 0)))).length=max n1 n2∧∀j,j<(i+1)→(A.set i (some (((l1.getD i none).getD 0)+((l2.getD i none).getD 0)))).getD j none=some (((l1.getD j none).getD 0)+((l2.getD j none).getD 0)) from by exact ⟨by omega,by rw [List.length_set];exact hAl,Po.set_step hA om rfl⟩) (by show max n1 n2 - (i+1)<max n1 n2 - i;omega) (mR rfl) (ho:=(o0 rfl)) ((.of [3,4] rfl):SelR _ _ _)
 ·
  refine zfa<|zi<|zi<|zw<|zd<|ze<|za<|e_mv rfl<|zba 0 rfl .z<|zm rfl rfl (.c rfl .n) ce67 (zLa (p1:=some ⟨b2,0,none⟩) (n1:=(max n1 n2)) (c1:=(max n1 n2)) (l1:=A) (hn1:=by first|rfl|assumption|exact hb _|omega) (hm1:=by first|rfl|assumption|exact hb _|omega)) (.c (j:=0) rfl .n) ?_
  rintro ⟨p912,c913⟩ -
  dsimp only [aq,nq,cq]
  refine e_p (zb rfl)<|zf<|zd<|zC ?_
  have hv9:=Po.vals_add (l:=l1) (m:=l2) (n:=max n1 n2) (by rw [hn1,hn2]) hAl (fun j hj=>hA j om)
  exact zu Tryz.results104 (p912,c913) trivial (zn rfl) (by rw [hv9]) (ho:=oN) ((.e (j:=0) rfl (by rw [hv9]) .n):SelR _ _ _)
theorem zhf {p1:Option Addr} {n1:Nat} {c1:Nat} {l1:List (Option Rat)} {p2:Option Addr} {n2:Nat} {c2:Nat} {l2:List (Option Rat)} (hn1:l1.length=n1) (hm1:n1≤1000) (hn2:l2.length=n2) (hm2:n2≤1000) (hb:∀i,ym ((l1.getD i none).getD 0)+ym ((l2.getD i none).getD 0)+1≤1099511627776):Con yd 104 [.slice p1 n1 c1,.slice p2 n2 c2,.func (.func 90) #[] #[]] [] [slF rE p1 c1 l1,slF rE p2 c2 l2] (Y:=(Option Addr)×Nat) (fun y=>True) (fun y=> .slice (y.1) ((Po.sub (Po.vals l1) (Po.vals l2)).length) (y.2)) (fun y=>[]) (fun y=>[slF rQ (y.1) (y.2) (Po.sub (Po.vals l1) (Po.vals l2))]):=by
 refine zl Tryz.func104 rfl rfl rfl (fun c=> ?_)
 show RunC _ _ _ _ _ [(0,.slice p1 n1 c1),(1,.slice p2 n2 c2),(2,.func (.func 90) #[] #[])] [] [slF rE p1 c1 l1,slF rE p2 c2 l2]
 refine zU 0 rfl (fun hL0=> ?_)
 refine zU 1 rfl (fun hL1=> ?_)
 refine ze<|za<|e_p (zb rfl)<|zf<|zd<|ze<|za<|e_mv rfl<|e_p (zK ye rfl)<|e_mv rfl<|e_p (zK ye rfl)<|e_p (v:= .int .i64 (((max n1 n2):Nat):Int)) (by rw [show ((((max n1 n2):Nat):Int):Int)=max ((n1:Nat):Int) ((n2:Nat):Int) by omega];exact zAe rfl rfl) ?_
 have e1:((((max n1 n2):Nat):Int):Int)=(((max n1 n2):Nat):Int):=by omega
 rw [e1]
 refine zva rfl rfl (zab (r:=rE) (k:=(max n1 n2)) (x0:=none) (γ0:=(wz,wz)) ya inf32 rfl rfl rfl rfl om om rfl (fun g _=>eF_wz g) dd) (fun b2 _=> ?_)
 refine e_p (zb rfl)<|zf<|zd<|ze<|ze<|za<|e_mv rfl<|e_p (zK ya rfl)<|e_mv rfl<|zf<|zd<|zx<|zja (X:=Nat×(List (Option Rat))) (fun x:Nat×(List (Option Rat))=>x.1≤max n1 n2∧x.2.length=max n1 n2∧∀j,j<x.1→x.2.getD j none=some (((l1.getD j none).getD 0) - ((l2.getD j none).getD 0))) (fun x=>[(17,.int .i64 ((x.1:Nat):Int)),(16,.int .i64 (((max n1 n2):Nat):Int)),(7,.slice (some ⟨b2,0,none⟩) (max n1 n2) (max n1 n2)),(6,.slice none 0 0),(0,.slice p1 n1 c1),(1,.slice p2 n2 c2),(2,.func (.func 90) #[] #[])]) (fun x=>[rowA 32 rE (some ⟨b2,0,none⟩) (max n1 n2) (x.2)]) (fun x=>[slF rE p1 c1 l1,slF rE p2 c2 l2]) (fun x:Nat×(List (Option Rat))=>max n1 n2 - x.1) (0,List.replicate (max n1 n2) none) (show 0≤max n1 n2∧(List.replicate (max n1 n2) none).length=max n1 n2∧∀j,j<0→(List.replicate (max n1 n2) none).getD j none=some (((l1.getD j none).getD 0) - ((l2.getD j none).getD 0)) from by exact ⟨Nat.zero_le _,List.length_replicate,fun j hj=>by omega⟩) ((.e rfl cgs (.of rfl)):SubM _ _) (ho:=((.e (i:=0) rfl cgs .n):PickO _ _ _)) ((.of [0,1] rfl):SelR _ _ _) ?_
 rintro ⟨i,A⟩ hI
 replace hI:i≤max n1 n2∧A.length=max n1 n2∧∀j,j<i→A.getD j none=some (((l1.getD j none).getD 0) - ((l2.getD j none).getD 0)):=hI
 try dsimp only
 obtain ⟨hi,hAl,hA⟩:=hI
 refine ze<|za<|e_p (zX rfl rfl)<|zf<|zd<|ze<|zG rfl (fun h3=> ?_) (fun h3=> ?_)
 ·
  refine zB<|zd<|ze<|zx<|ze<|za<|e_mv rfl<|e_p (zb rfl)<|zf<|zd<|za<|e_mv rfl<|e_mv rfl<|e_mv rfl<|e_mv rfl<|e_mv rfl<|zm rfl rfl (.c rfl (.c rfl .n)) ce126 (zId (p1:=p1) (n1:=n1) (c1:=c1) (l1:=l1) (i:=i) (hn1:=ass) (hm1:=ass) (hi:=by first|rfl|assumption|exact hb _|omega)) (.c (j:=0) rfl .n) ?_
  rintro ⟨w34,w45,k96⟩ -
  dsimp only [aq,nq,cq]
  refine e_mv rfl<|e_mv rfl<|zm rfl rfl (.c rfl (.c rfl .n)) ce126 (zId (p1:=p2) (n1:=n2) (c1:=c2) (l1:=l2) (i:=i) (hn1:=ass) (hm1:=ass) (hi:=by first|rfl|assumption|exact hb _|omega)) (.c (j:=2) rfl .n) ?_
  rintro ⟨w37,w48,k99⟩ -
  dsimp only [aq,nq,cq]
  refine zKc (first:=[]) (cap:=[]) rfl rfl rfl (.c rfl (.c rfl .n)) ce90 (zcg (k1:=k96) (u1:=w34) (v1:=w45) (q1:=((l1.getD i none).getD 0)) (k2:=k99) (u2:=w37) (v2:=w48) (q2:=((l2.getD i none).getD 0)) (hl:=by first|rfl|assumption|exact hb _|omega)) (.c (j:=1) rfl (.c (j:=0) rfl .n)) ?_
  rintro ⟨w310,w411⟩ -
  dsimp only [aq,nq,cq]
  refine e_p (zZ (j:=i) ya sz32 rfl rfl rfl om)<|zEa 0 rfl rfl rfl (zS (r:=rE) (j:=i) (x0:=(some (((l1.getD i none).getD 0) - ((l2.getD i none).getD 0)))) (γ0:=(w310,w411)) rfl rfl (by first|omega|(rw [List.length_map];omega)|(simp only [List.length_set];omega)|(simp;done)|(simp;omega)) rfl rfl sz32 (fun g hr=>qF_e (Holds.get 0 rfl hr))) (fun _=> .z) (fun _ _=> ?_)
  refine zf<|zP<|zd<|za<|e_p (zL (z:=(((i+1):Nat):Int)) rfl rfl (w64 om))<|e_mv rfl<|zf<|zda ((i+1),(A.set i (some (((l1.getD i none).getD 0) - ((l2.getD i none).getD 0))))) (show (i+1)≤max n1 n2∧(A.set i (some (((l1.getD i none).getD 0) - ((l2.getD i none).getD 0)))).length=max n1 n2∧∀j,j<(i+1)→(A.set i (some (((l1.getD i none).getD 0) - ((l2.getD i none).getD 0)))).getD j none=some (((l1.getD j none).getD 0) - ((l2.getD j none).getD 0)) from by exact ⟨by omega,by rw [List.length_set];exact hAl,Po.set_step hA om rfl⟩) (by show max n1 n2 - (i+1)<max n1 n2 - i;omega) (mR rfl) (ho:=(o0 rfl)) ((.of [3,4] rfl):SelR _ _ _)
 ·
  refine zfa<|zi<|zi<|zw<|zd<|ze<|za<|e_mv rfl<|zba 0 rfl .z<|zm rfl rfl (.c rfl .n) ce67 (zLa (p1:=some ⟨b2,0,none⟩) (n1:=(max n1 n2)) (c1:=(max n1 n2)) (l1:=A) (hn1:=by first|rfl|assumption|exact hb _|omega) (hm1:=by first|rfl|assumption|exact hb _|omega)) (.c (j:=0) rfl .n) ?_
  rintro ⟨p912,c913⟩ -
  dsimp only [aq,nq,cq]
  refine e_p (zb rfl)<|zf<|zd<|zC ?_
  have hv9:=Po.vals_sub (l:=l1) (m:=l2) (n:=max n1 n2) (by rw [hn1,hn2]) hAl (fun j hj=>hA j om)
  exact zu Tryz.results104 (p912,c913) trivial (zn rfl) (by rw [hv9]) (ho:=oN) ((.e (j:=0) rfl (by rw [hv9]) .n):SelR _ _ _)
theorem zMe {p1:Option Addr} {n1:Nat} {c1:Nat} {l1:List (Option Rat)} {p2:Option Addr} {n2:Nat} {c2:Nat} {l2:List (Option Rat)} (hn1:l1.length=n1) (hm1:n1≤1000) (hn2:l2.length=n2) (hm2:n2≤1000) (hb:∀i,ym ((l1.getD i none).getD 0)+ym ((l2.getD i none).getD 0)+1≤1099511627776):Con yd 73 [.slice p1 n1 c1,.slice p2 n2 c2] [] [slF rE p1 c1 l1,slF rE p2 c2 l2] (Y:=(Option Addr)×Nat) (fun y=>True) (fun y=> .slice (y.1) ((Po.add (Po.vals l1) (Po.vals l2)).length) (y.2)) (fun y=>[]) (fun y=>[slF rQ (y.1) (y.2) (Po.add (Po.vals l1) (Po.vals l2))]):=by
 refine zl Tryz.func73 rfl rfl rfl (fun c=> ?_)
 show RunC _ _ _ _ _ [(0,.slice p1 n1 c1),(1,.slice p2 n2 c2)] [] [slF rE p1 c1 l1,slF rE p2 c2 l2]
 refine zU 0 rfl (fun hL0=> ?_)
 refine zU 1 rfl (fun hL1=> ?_)
 refine ze<|za<|e_p (zb rfl)<|zf<|zd<|ze<|za<|e_mv rfl<|e_mv rfl<|zm rfl rfl (.c rfl (.c rfl (.c rfl .n))) ce104 (zgf (p1:=p1) (n1:=n1) (c1:=c1) (l1:=l1) (p2:=p2) (n2:=n2) (c2:=c2) (l2:=l2) (hn1:=ass) (hm1:=ass) (hn2:=ass) (hm2:=ass) (hb:=ass)) (.c (j:=0) rfl (.c (j:=1) rfl .n)) ?_
 rintro ⟨p91,c92⟩ -
 dsimp only [aq,nq,cq]
 refine e_p (zb rfl)<|zf<|zd<|zC ?_
 exact zu Tryz.results73 (p91,c92) trivial (zn rfl) rfl (ho:=oN) (s0 rfl)
theorem zJd {p1:Option Addr} {n1:Nat} {c1:Nat} {l1:List (Option Rat)} {p2:Option Addr} {n2:Nat} {c2:Nat} {l2:List (Option Rat)} (hn1:l1.length=n1) (hm1:n1≤1000) (hn2:l2.length=n2) (hm2:n2≤1000) (hb:∀i,ym ((l1.getD i none).getD 0)+ym ((l2.getD i none).getD 0)+1≤1099511627776):Con yd 77 [.slice p1 n1 c1,.slice p2 n2 c2] [] [slF rE p1 c1 l1,slF rE p2 c2 l2] (Y:=(Option Addr)×Nat) (fun y=>True) (fun y=> .slice (y.1) ((Po.sub (Po.vals l1) (Po.vals l2)).length) (y.2)) (fun y=>[]) (fun y=>[slF rQ (y.1) (y.2) (Po.sub (Po.vals l1) (Po.vals l2))]):=by
 refine zl Tryz.func77 rfl rfl rfl (fun c=> ?_)
 show RunC _ _ _ _ _ [(0,.slice p1 n1 c1),(1,.slice p2 n2 c2)] [] [slF rE p1 c1 l1,slF rE p2 c2 l2]
 refine zU 0 rfl (fun hL0=> ?_)
 refine zU 1 rfl (fun hL1=> ?_)
 refine ze<|za<|e_p (zb rfl)<|zf<|zd<|ze<|za<|e_mv rfl<|e_mv rfl<|zm rfl rfl (.c rfl (.c rfl (.c rfl .n))) ce104 (zhf (p1:=p1) (n1:=n1) (c1:=c1) (l1:=l1) (p2:=p2) (n2:=n2) (c2:=c2) (l2:=l2) (hn1:=ass) (hm1:=ass) (hn2:=ass) (hm2:=ass) (hb:=ass)) (.c (j:=0) rfl (.c (j:=1) rfl .n)) ?_
 rintro ⟨p91,c92⟩ -
 dsimp only [aq,nq,cq]
 refine e_p (zb rfl)<|zf<|zd<|zC ?_
 exact zu Tryz.results77 (p91,c92) trivial (zn rfl) rfl (ho:=oN) (s0 rfl)
end Go.Proofs.YtahiajepeodhoaaGreat.Sp
