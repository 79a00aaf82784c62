/- Lemmas on the walk and plain lemmas that the claim of this folder uses; each states its own conditions. Lines were printed by a program of ours. -/
import Derived.Test.YtpdbimfnhglhpaaGreatZ4B
set_option linter.unusedVariables false
set_option linter.unusedSimpArgs false
set_option linter.unusedSectionVars false
open Go.Value renaming int → ya, pointer → yc
open Go.IntKind renaming i64 → yb
open Go.Proofs.YtpdbimfnhglhpaaGreat.Big renaming digs → yd, valL → yf, raw → yh, ln → ym, okL_getD → yn, trimL → yo, zS → yp, digs_ok → yq, raw_big → yr, sg → yt, okL → yu, valL_digs → yx, fq → yz, pw → yA, len_digs_nil → yB, hq_num → yC, hq_den → yD, ln_mono' → yE, zta → yF, nn → yG, cmp → yH, fr → yI, digs_zero → yJ, two_lt → yK, getD_set_ne → yL, hq → yN, okL_snoc → yO, zWa → yP, okL_set → yQ, sign_zero → yR, gcd_rest → yS, qv → yT, sg_raw → yU, den_ne → yV, LgI → yW
open Go.Proofs.Tryz renaming underlying28 → ye, underlying133 → yg, underlying182 → yi, underlying32 → yj, prog → yk, underlying30 → yl, underlying4 → yv, underlying2 → yw, results221 → yM
namespace Go.Proofs.YtpdbimfnhglhpaaGreat.Sp
open Go
set_option linter.unusedVariables false
set_option maxRecDepth 100000
set_option maxHeartbeats 8000000
theorem zLe {s:Bool} {p1:Option Addr} {n1:Nat} {c1:Nat} {l1:List Int} {t:Bool} {p2:Option Addr} {n2:Nat} {c2:Nat} {l2:List Int} (hn1:l1.length=n1) (hn2:l2.length=n2) (hm1:n1≤2199023255552) (hm2:n2≤2199023255552):Con yk 152 [.agg #[.bool s,.slice p1 n1 c1],.agg #[.bool t,.slice p2 n2 c2]] [] [slF (rI .u32) p1 c1 l1,slF (rI .u32) p2 c2 l2] (Y:=(Option Addr)×Nat) (fun y=>True) (fun y=> .agg #[.bool (decide (((Nat.gcd (yh s l1).natAbs (yh t l2).natAbs:Nat):Int)<0)),.slice (y.1) ((yd (((Nat.gcd (yh s l1).natAbs (yh t l2).natAbs:Nat):Int).natAbs)).length) (y.2)]) (fun y=>[]) (fun y=>[slF (rI .u32) (y.1) (y.2) (yd (((Nat.gcd (yh s l1).natAbs (yh t l2).natAbs:Nat):Int).natAbs))]):=by
 refine zk Tryz.func152 rfl rfl rfl (fun c=> ?_)
 show RunC _ _ _ _ _ [(0,.agg #[.bool s,.slice p1 n1 c1]),(1,.agg #[.bool t,.slice p2 n2 c2])] [] [slF (rI .u32) p1 c1 l1,slF (rI .u32) p2 c2 l2]
 refine zP 0 rfl (fun hL0=> ?_)
 refine zOa 0 rfl (fun hE0=> ?_)
 refine zP 1 rfl (fun hL1=> ?_)
 refine zOa 1 rfl (fun hE1=> ?_)
 have hnn1:yG l1:=fun g hg=>(zy.1 (hE0 g hg)).1
 have hnn2:yG l2:=fun g hg=>(zy.1 (hE1 g hg)).1
 have hb1:ym (yh s l1)≤n1:=by have:=yP (s:=s) hnn1;omega
 have hb2:ym (yh t l2)≤n2:=by have:=yP (s:=t) hnn2;omega
 unfold ym at hb1 hb2
 refine ze<|za<|zM rfl rfl (zT rfl rfl) (fun b1=> ?_)
 refine zM rfl rfl (zT rfl rfl) (fun b2=> ?_)
 refine zM rfl rfl (zA zr30 rfl) (fun b3=> ?_)
 refine zf<|zc<|ze<|zW (OW:=[]) (O:=[boxA b3 30 [wz.b,wz.l],boxA b2 30 [.bool t,.slice p2 n2 c2],boxA b1 30 [.bool s,.slice p1 n1 c1]]) 100000 mixed (.then .ret) kr<|e_u 0 rfl rfl (zd 2 ty30 rfl rfl (.t2 .nil))<|e_u 3 rfl rfl (zd 1 ty30 rfl rfl (.t2 .nil))<|e_one 1 (zB rfl rfl rfl rfl (.c rfl .n) ce149 (zSa (s:=s) (p:=p1) (n:=n1) (cap:=c1) (l:=l1) (hn:=ass) (hln:=cbo)) (.c (j:=0) rfl .n) ?_)
 rintro ⟨p24,c25⟩ -
 dsimp only [aq,nq,cq]
 refine e_pv 2 rfl rfl (zAa yl rfl ty28 rfl rfl)<|e_one 4 (zB rfl rfl rfl rfl (.c rfl .n) ce149 (zSa (s:=t) (p:=p2) (n:=n2) (cap:=c2) (l:=l2) (hn:=ass) (hln:=cbo)) (.c (j:=2) rfl .n) ?_)
 rintro ⟨p26,c27⟩ -
 dsimp only [aq,nq,cq]
 refine e_pv 5 rfl rfl (zAa yl rfl ty28 rfl rfl)<|e_pv 6 rfl rfl (zb rfl)<|e_pv 7 rfl rfl (zb rfl)<|zU kr<|zc<|ze<|zt<|zca (X:=Nat×Nat×(Option Addr)×Nat×(Option Addr)×Nat) (fun x:Nat×Nat×(Option Addr)×Nat×(Option Addr)×Nat=>Nat.gcd x.1 x.2.1=Nat.gcd (yh s l1).natAbs (yh t l2).natAbs∧(yd x.1).length≤2199023255552∧(yd x.2.1).length≤2199023255552) (fun x=>[(6,.slice (x.2.2.2.2.1) ((yd (x.2.1)).length) (x.2.2.2.2.2)),(5,.slice (x.2.2.1) ((yd (x.1)).length) (x.2.2.2.1)),(4,yc (some ⟨b3,0,none⟩))]) (fun x=>[boxA b3 30 [wz.b,wz.l],boxA b2 30 [.bool t,.slice p2 n2 c2],boxA b1 30 [.bool s,.slice p1 n1 c1]]) (fun x=>[slF (rI .u32) (x.2.2.1) (x.2.2.2.1) (yd (x.1)),slF (rI .u32) (x.2.2.2.2.1) (x.2.2.2.2.2) (yd (x.2.1)),slF (rI .u32) p26 c27 (yd ((yh t l2).natAbs)),slF (rI .u32) p24 c25 (yd ((yh s l1).natAbs)),slF (rI .u32) p1 c1 l1,slF (rI .u32) p2 c2 l2]) (fun x:Nat×Nat×(Option Addr)×Nat×(Option Addr)×Nat=>x.2.1) ((yh s l1).natAbs,(yh t l2).natAbs,p24,c25,p26,c27) (show Nat.gcd ((yh s l1).natAbs) ((yh t l2).natAbs)=Nat.gcd (yh s l1).natAbs (yh t l2).natAbs∧(yd ((yh s l1).natAbs)).length≤2199023255552∧(yd ((yh t l2).natAbs)).length≤2199023255552 from by exact ⟨rfl,by omega,by omega⟩) (mR rfl) (ho:=((.of [0,0,0] rfl):PickO _ _ _)) ((.of [1,0,0,1,2,3] rfl):SelR _ _ _) ?_
 rintro ⟨a,b,pa,ca,pb,cb⟩ hI
 replace hI:Nat.gcd a b=Nat.gcd (yh s l1).natAbs (yh t l2).natAbs∧(yd a).length≤2199023255552∧(yd b).length≤2199023255552:=hI
 try dsimp only
 obtain ⟨hgc,hba,hbb⟩:=hI
 refine ze<|zab (X:=Unit) (fun x=>True) (fun x=>[(29,.bool (decide (0<(yd b).length∧(2<(yd a).length∨2<(yd b).length)))),(6,.slice pb ((yd b).length) cb),(5,.slice pa ((yd a).length) ca),(4,yc (some ⟨b3,0,none⟩))]) (fun x=>[boxA b3 30 [wz.b,wz.l],boxA b2 30 [.bool t,.slice p2 n2 c2],boxA b1 30 [.bool s,.slice p1 n1 c1]]) (fun x=>[slF (rI .u32) pa ca (yd a),slF (rI .u32) pb cb (yd b),slF (rI .u32) p26 c27 (yd ((yh t l2).natAbs)),slF (rI .u32) p24 c25 (yd ((yh s l1).natAbs)),slF (rI .u32) p1 c1 l1,slF (rI .u32) p2 c2 l2]) ?_ ?_
 ·
  refine za<|e_mv rfl<|e_p (zv ye rfl)<|e_p (zra rfl rfl)<|zga rfl rfl (zja rfl) (fun h8=> ?_) (fun h8=> ?_)
  ·
   refine e_mv rfl<|e_p (zv ye rfl)<|e_p (zra rfl rfl)<|zga rfl rfl (zja rfl) (fun h9=> ?_) (fun h9=> ?_)
   ·
    refine e_no<|e_no<|e_no<|e_p (zE rfl rfl)<|e_p (zE rfl rfl)<|zf ?_
    exact zla () tt9 ((.e rfl (congrArg Value.bool (by first|(simp;omega)|exact decide_eq_decide.2 ⟨fun h=>⟨by omega,.inr om⟩,fun h=>by omega⟩)) (.of rfl)):SubM _ _) (ho:=((.of [0,0,0] rfl):PickO _ _ _)) ((.of [0,1,2,3,4,5] rfl):SelR _ _ _)
   ·
    refine e_mv rfl<|e_p (zv ye rfl)<|e_p (zra rfl rfl)<|e_p (zE rfl rfl)<|e_p (zE rfl rfl)<|zf ?_
    exact zla () tt9 ((.e rfl (congrArg Value.bool (by first|(simp;omega)|exact decide_eq_decide.2 ⟨fun h=>⟨by omega,.inr om⟩,fun h=>by omega⟩)) (.of rfl)):SubM _ _) (ho:=((.of [0,0,0] rfl):PickO _ _ _)) ((.of [0,1,2,3,4,5] rfl):SelR _ _ _)
  ·
   refine e_no<|e_no<|e_no<|e_no<|e_no<|e_no<|e_no<|e_no<|e_p (zE rfl rfl)<|zf ?_
   exact zla () tt9 ((.e rfl (congrArg Value.bool (by first|(simp;omega)|exact decide_eq_decide.2 ⟨fun h=>⟨by omega,.inr om⟩,fun h=>by omega⟩)) (.of rfl)):SubM _ _) (ho:=((.of [0,0,0] rfl):PickO _ _ _)) ((.of [0,1,2,3,4,5] rfl):SelR _ _ _)
 ·
  rintro ⟨⟩ -
  try dsimp only
  refine zD rfl (fun hw=> ?_) (fun hw=> ?_)
  ·
   have hb0:0<b:=Nat.pos_of_ne_zero (fun e=>by rw [e] at hw;simp [yJ] at hw)
   refine zw<|zc<|zt<|ze<|za<|e_mv rfl<|e_mv rfl<|zm rfl rfl (.c rfl (.c rfl .n)) ce218 (zbd (a:=a) (b:=b) (p1:=pa) (c1:=ca) (p2:=pb) (c2:=cb) (hb1:=cbo) (hb2:=cbo) (hb0:=cbo)) (.c (j:=0) rfl (.c (j:=1) rfl .n)) ?_
   rintro ⟨p310,c311,p412,c413⟩ -
   dsimp only [aq,nq,cq]
   refine e_mv rfl<|e_p (zn rfl rfl)<|e_p (zn rfl rfl)<|e_p (zb rfl)<|e_p (zb rfl)<|zf<|zc<|za<|e_mv rfl<|e_mv rfl<|e_p (zb rfl)<|e_p (zb rfl)<|zf<|zK<|zV (b,(a%b),pb,cb,p412,c413) (show Nat.gcd b (a%b)=Nat.gcd (yh s l1).natAbs (yh t l2).natAbs∧(yd b).length≤2199023255552∧(yd (a%b)).length≤2199023255552 from by exact ⟨by rw [yS,hgc],hbb,Nat.le_trans (yE (Nat.le_of_lt (Nat.mod_lt a hb0))) hbb⟩) (by exact Nat.mod_lt a hb0) ((.e rfl cgs (.c rfl (.c rfl .n))):SubM _ _) (ho:=((.of [0,0,0] rfl):PickO _ _ _)) ((.c (j:=3) rfl (.e (j:=1) rfl (by first|rfl|simp_all) (.of [4,5,6,7] rfl))):SelR _ _ _)
  ·
   refine zaa<|zg<|zg<|zp<|zc<|ze<|ze<|za<|e_mv rfl<|e_p (zv ye rfl)<|e_p (zna rfl rfl)<|zf<|zc<|zD rfl (fun hbz=> ?_) (fun hbz=> ?_)
   ·
    have hbz0:b=0:=yB.1 om
    have hfin:a=Nat.gcd (yh s l1).natAbs (yh t l2).natAbs:=by rw [← hgc,hbz0,Nat.gcd_zero_right]
    refine ze<|za<|e_mv rfl<|zm rfl rfl (.c rfl (.c rfl .n)) ce168 (zmb (s:=false) (a:=a) (p:=pa) (cap:=ca) (hln:=cbo)) (.c (j:=0) rfl .n) ?_
    rintro ⟨p214,c215⟩ -
    dsimp only [aq,nq,cq]
    refine zl 0 rfl rfl rfl rfl rfl sz30 rfl (.t2 .nil) .z<|zf<|zc<|zG<|zu ?_
    exact zx Tryz.results152 (p214,c215) trivial (zq 0 ty30 rfl rfl (.t2 .nil)) (by rw [← hfin];rfl) (ho:=oN) ((.e (j:=0) rfl (by rw [← hfin];rfl) .n):SelR _ _ _)
   ·
    have ha2:(yd a).length≤2:=by omega
    have hb2:(yd b).length≤2:=by omega
    have ha18:=yK ha2
    have hb18:=yK hb2
    refine zw<|zc<|ze<|za<|e_mv rfl<|zR rfl rfl (.c rfl .n) ce219 (zFd (a:=a) (p:=pa) (cap:=ca) (hb:=cbo)) (.c (j:=0) rfl .n)<|e_mv rfl<|zR rfl rfl (.c rfl .n) ce219 (zFd (a:=b) (p:=pb) (cap:=cb) (hb:=cbo)) (.c (j:=1) rfl .n)<|e_p (zb rfl)<|e_p (zb rfl)<|zf<|zc<|ze<|zt<|zca (X:=Nat×Nat) (fun x:Nat×Nat=>Nat.gcd x.1 x.2=Nat.gcd a b∧x.1<1000000000000000000∧x.2<1000000000000000000) (fun x=>[(10,.int .u64 ((x.2:Nat):Int)),(9,.int .u64 ((x.1:Nat):Int)),(4,yc (some ⟨b3,0,none⟩))]) (fun x=>[boxA b3 30 [wz.b,wz.l],boxA b2 30 [.bool t,.slice p2 n2 c2],boxA b1 30 [.bool s,.slice p1 n1 c1]]) (fun x=>[slF (rI .u32) pa ca (yd a),slF (rI .u32) pb cb (yd b),slF (rI .u32) p26 c27 (yd ((yh t l2).natAbs)),slF (rI .u32) p24 c25 (yd ((yh s l1).natAbs)),slF (rI .u32) p1 c1 l1,slF (rI .u32) p2 c2 l2]) (fun x:Nat×Nat=>x.2) (a,b) (show Nat.gcd a b=Nat.gcd a b∧a<1000000000000000000∧b<1000000000000000000 from by exact ⟨rfl,ha18,hb18⟩) (mR rfl) (ho:=((.of [0,0,0] rfl):PickO _ _ _)) ((.of [0,1,2,3,4,5] rfl):SelR _ _ _) ?_
    rintro ⟨q,r⟩ hJ
    replace hJ:Nat.gcd q r=Nat.gcd a b∧q<1000000000000000000∧r<1000000000000000000:=hJ
    try dsimp only
    obtain ⟨hgq,hq18,hr18⟩:=hJ
    have hmr:=Nat.mod_le q r
    refine ze<|ze<|za<|e_mv rfl<|e_p (zra rfl rfl)<|zf<|zc<|zD rfl (fun hy=> ?_) (fun hy=> ?_)
    ·
     refine zw<|zc<|zt<|zW (OW:=[]) (O:=[boxA b3 30 [wz.b,wz.l],boxA b2 30 [.bool t,.slice p2 n2 c2],boxA b1 30 [.bool s,.slice p1 n1 c1]]) 100000 mixed (.block (.then (.block (.then .ret)))) kr<|e_dm 0 rfl rfl rfl<|e_dm 1 rfl rfl rfl<|e_dm 2 rfl rfl rfl<|e_pv 3 rfl rfl (zbb (z:=(((q%r):Nat):Int)) rfl rfl om (remN om om))<|e_pv 4 rfl rfl (zb rfl)<|e_pv 5 rfl rfl (zb rfl)<|zU kr<|zK<|zV (r,(q%r)) (show Nat.gcd r (q%r)=Nat.gcd a b∧r<1000000000000000000∧(q%r)<1000000000000000000 from by exact ⟨by rw [yS,hgq],hr18,by omega⟩) (by exact Nat.mod_lt q om) (mR rfl) (ho:=((.of [0,0,0] rfl):PickO _ _ _)) ((.of [0,1,2,3,4,5] rfl):SelR _ _ _)
    ·
     have hrz:r=0:=by omega
     have hfin:q=Nat.gcd (yh s l1).natAbs (yh t l2).natAbs:=by rw [← hgc,←hgq,hrz,Nat.gcd_zero_right]
     obtain ⟨ht1,ht2⟩:=Big.two_val hq18
     refine zaa<|zg<|zg<|zp<|zc<|ze<|za<|e_mv rfl<|e_p (zbb (z:=(((q%1000000000):Nat):Int)) rfl rfl om (remN om om))<|e_p (zH (z:=(((q%1000000000):Nat):Int)) rfl (by rw [yi];rfl) yg (wu32 om))<|e_mv rfl<|e_p (zfb (z:=(((q / 1000000000):Nat):Int)) rfl rfl om (by rw [quoN (z:=(((q / 1000000000):Nat):Int)) om om];exact wu64 om))<|e_p (zH (z:=(((q / 1000000000):Nat):Int)) rfl (by rw [yi];rfl) yg (wu32 om))<|zma rfl rfl (zda (enc:=fun z:Int=>[.int .u32 z]) (ok:=InK .u32) (h1:=fun _=>rfl) (h2:=fun _=>rfl) (k:=2) ye inf133 rfl dd dd dd (.c (x:=(((q%1000000000):Nat):Int)) rfl rfl (fun _ _=>by exact zy.2 om) (.c (x:=(((q / 1000000000):Nat):Int)) rfl rfl (fun _ _=>by exact zy.2 om) .n))) (fun b16 _=> ?_)
     refine zea 0 rfl .z<|zm rfl rfl (.c rfl (.c rfl .n)) ce168 (zIa (s:=false) (p:=some ⟨b16,0,none⟩) (n:=2) (cap:=2) (l:=[(((q%1000000000):Nat):Int),(((q / 1000000000):Nat):Int)]) (hn:=by first|rfl|omega|(simp;done)|(simp;omega)) (ho:=by exact ht1) (hln:=by first|rfl|omega|(simp;done)|(simp;omega))) (.c (j:=0) rfl .n) ?_
     rintro ⟨p217,c218⟩ -
     dsimp only [aq,nq,cq]
     refine zl 1 rfl rfl rfl rfl rfl sz30 rfl (.t2 .nil) (.s .z)<|zf<|zc<|zG ?_
     exact zx Tryz.results152 (p217,c218) trivial (zq 1 ty30 rfl rfl (.t2 .nil)) (by rw [ht2,←hfin];rfl) (ho:=oN) ((.e (j:=0) rfl (by rw [ht2,←hfin];rfl) .n):SelR _ _ _)
theorem zOf {x1:Int} {x2:Int} {p1:Option Addr} {c1:Nat} {p2:Option Addr} {c2:Nat} (hb1:ym x1≤2199023255552) (hb2:ym x2≤2199023255552):Con yk 152 [.agg #[.bool (decide ((x1)<0)),.slice (p1) ((yd ((x1).natAbs)).length) (c1)],.agg #[.bool (decide ((x2)<0)),.slice (p2) ((yd ((x2).natAbs)).length) (c2)]] [] [slF (rI .u32) (p1) (c1) (yd ((x1).natAbs)),slF (rI .u32) (p2) (c2) (yd ((x2).natAbs))] (Y:=(Option Addr)×(Nat)) (fun y=>True) (fun y=> .agg #[.bool (decide ((((Nat.gcd x1.natAbs x2.natAbs:Nat):Int))<0)),.slice (y.1) ((yd ((((Nat.gcd x1.natAbs x2.natAbs:Nat):Int)).natAbs)).length) (y.2)]) (fun y=>[]) (fun y=>[slF (rI .u32) (y.1) (y.2) (yd ((((Nat.gcd x1.natAbs x2.natAbs:Nat):Int)).natAbs))]):=by
  have h:= @zLe (decide ((x1)<0)) p1 (yd (x1).natAbs).length c1 (yd (x1).natAbs) (decide ((x2)<0)) p2 (yd (x2).natAbs).length c2 (yd (x2).natAbs) rfl rfl hb1 hb2
  rw [yr,yr] at h
  exact h
theorem zPf {w1:Wd} {w2:Wd} {x1:Int} {x2:Int} (hb1:ym x1≤2199023255552) (hb2:ym x2≤2199023255552):Con yk 152 [.agg #[w1.b,w1.l],.agg #[w2.b,w2.l]] [] [zF w1 (x1),zF w2 (x2)] (Y:=(Wd)) (fun y=>True) (fun y=> .agg #[y.b,y.l]) (fun y=>[]) (fun y=>[zF y (((Nat.gcd x1.natAbs x2.natAbs:Nat):Int))]):=by
  exact zIb (zZb (fun p1 c1 p2 c2=>zOf hb1 hb2))
theorem zGd {s:Bool} {p1:Option Addr} {n1:Nat} {c1:Nat} {l1:List Int} {t:Bool} {p2:Option Addr} {n2:Nat} {c2:Nat} {l2:List Int} (hn1:l1.length=n1) (hn2:l2.length=n2) (hm1:n1≤2199023255552) (hm2:n2≤2199023255552):Con yk 151 [.agg #[.bool s,.slice p1 n1 c1],.agg #[.bool t,.slice p2 n2 c2]] [] [slF (rI .u32) p1 c1 l1,slF (rI .u32) p2 c2 l2] (Y:=Unit) (fun y=>True) (fun y=> ya yb ((yh s l1 - yh t l2).sign)) (fun y=>[]) (fun y=>[]):=by
 refine zk Tryz.func151 rfl rfl rfl (fun c=> ?_)
 show RunC _ _ _ _ _ [(0,.agg #[.bool s,.slice p1 n1 c1]),(1,.agg #[.bool t,.slice p2 n2 c2])] [] [slF (rI .u32) p1 c1 l1,slF (rI .u32) p2 c2 l2]
 refine zP 0 rfl (fun hL0=> ?_)
 refine zOa 0 rfl (fun hE0=> ?_)
 refine zP 1 rfl (fun hL1=> ?_)
 refine zOa 1 rfl (fun hE1=> ?_)
 have hnn1:yG l1:=fun g hg=>(zy.1 (hE0 g hg)).1
 have hnn2:yG l2:=fun g hg=>(zy.1 (hE1 g hg)).1
 have hb1:ym (yh s l1)≤n1:=by have:=yP (s:=s) hnn1;omega
 have hb2:ym (yh t l2)≤n2:=by have:=yP (s:=t) hnn2;omega
 unfold ym at hb1 hb2
 have hls:=Big.zQg (yh s l1) (yh t l2)
 unfold ym at hls
 refine ze<|za<|zM rfl rfl (zT rfl rfl) (fun b1=> ?_)
 refine zM rfl rfl (zT rfl rfl) (fun b2=> ?_)
 refine e_p (zb rfl)<|zf<|zc<|ze<|za<|e_ru (zd 1 ty30 rfl rfl (.t2 .nil))<|e_ru (zd 0 ty30 rfl rfl (.t2 .nil))<|zm rfl rfl (.c rfl (.c rfl .n)) ce217 (zKe (s:=s) (p1:=p1) (n1:=n1) (c1:=c1) (l1:=l1) (t:=t) (p2:=p2) (n2:=n2) (c2:=c2) (l2:=l2) (hn1:=ass) (hn2:=ass) (hm1:=by first|rfl|assumption|omega|(unfold ym;omega)) (hm2:=by first|rfl|assumption|omega|(unfold ym;omega))) (.c (j:=0) rfl (.c (j:=1) rfl .n)) ?_
 rintro ⟨p33,c34⟩ -
 dsimp only [aq,nq,cq]
 refine zR rfl rfl (.c rfl .n) ce62 (zZc (z:=yh s l1 - yh t l2) (p:=p33) (cap:=c34) (hln:=by first|rfl|assumption|omega|(unfold ym;omega))) (.c (j:=0) rfl .n)<|e_p (zb rfl)<|zf<|zc<|zG ?_
 exact zx Tryz.results151 () trivial (zo rfl) rfl (ho:=oN) sN
theorem zld {x1:Int} {x2:Int} {p1:Option Addr} {c1:Nat} {p2:Option Addr} {c2:Nat} (hb1:ym x1≤2199023255552) (hb2:ym x2≤2199023255552):Con yk 151 [.agg #[.bool (decide ((x1)<0)),.slice (p1) ((yd ((x1).natAbs)).length) (c1)],.agg #[.bool (decide ((x2)<0)),.slice (p2) ((yd ((x2).natAbs)).length) (c2)]] [] [slF (rI .u32) (p1) (c1) (yd ((x1).natAbs)),slF (rI .u32) (p2) (c2) (yd ((x2).natAbs))] (Y:=Unit) (fun y=>True) (fun y=> ya yb ((x1 - x2).sign)) (fun y=>[]) (fun y=>[]):=by
  have h:= @zGd (decide ((x1)<0)) p1 (yd (x1).natAbs).length c1 (yd (x1).natAbs) (decide ((x2)<0)) p2 (yd (x2).natAbs).length c2 (yd (x2).natAbs) rfl rfl hb1 hb2
  rw [yr,yr] at h
  exact h
theorem zHd {x1:Int} {x2:Int} {p1:Option Addr} {c1:Nat} {p2:Option Addr} {c2:Nat} (hb1:ym x1≤1099511627776) (hb2:ym x2≤1099511627776) (hy:x2≠0):Con yk 206 [.agg #[.bool (decide (x1<0)),.slice p1 ((yd ((x1).natAbs)).length) c1],.agg #[.bool (decide (x2<0)),.slice p2 ((yd ((x2).natAbs)).length) c2]] [] [slF (rI .u32) p1 c1 (yd ((x1).natAbs)),slF (rI .u32) p2 c2 (yd ((x2).natAbs))] (Y:=(Option Addr)×Nat×(Option Addr)×Nat) (fun y=>True) (fun y=> .tuple #[.agg #[.bool (decide ((yz x1 x2)<0)),.slice (y.1) ((yd ((yz x1 x2).natAbs)).length) (y.2.1)],.agg #[.bool (decide ((yI x1 x2)<0)),.slice (y.2.2.1) ((yd ((yI x1 x2).natAbs)).length) (y.2.2.2)],ya yb 0]) (fun y=>[]) (fun y=>[slF (rI .u32) (y.1) (y.2.1) (yd ((yz x1 x2).natAbs)),slF (rI .u32) (y.2.2.1) (y.2.2.2) (yd ((yI x1 x2).natAbs))]):=by
 refine zk Tryz.func206 rfl rfl rfl (fun c=> ?_)
 show RunC _ _ _ _ _ [(0,.agg #[.bool (decide (x1<0)),.slice p1 ((yd ((x1).natAbs)).length) c1]),(1,.agg #[.bool (decide (x2<0)),.slice p2 ((yd ((x2).natAbs)).length) c2])] [] [slF (rI .u32) p1 c1 (yd ((x1).natAbs)),slF (rI .u32) p2 c2 (yd ((x2).natAbs))]
 refine zP 0 rfl (fun hL0=> ?_)
 refine zP 1 rfl (fun hL1=> ?_)
 have hfl:=Big.ln_fq (x:=x1) hy
 have hml:=yF (yz x1 x2) x2
 unfold ym at hb1 hb2 hfl hml
 have hd1:=Nat.div_le_self x1.natAbs x2.natAbs
 have hd2:=Nat.mod_lt x1.natAbs (show 0<x2.natAbs by omega)
 have hl1:=yE hd1
 have hl2:=yE (Nat.le_of_lt hd2)
 refine ze<|za<|zM rfl rfl (zT rfl rfl) (fun b1=> ?_)
 refine zM rfl rfl (zT rfl rfl) (fun b2=> ?_)
 refine zM rfl rfl (zA zr30 rfl) (fun b3=> ?_)
 refine zM rfl rfl (zA zr30 rfl) (fun b4=> ?_)
 refine e_p (zb rfl)<|zf<|zc<|ze<|zpa (.c (i:=3) rfl (.c (i:=2) rfl (.c (i:=0) rfl (.c (i:=0) rfl .n))))<|zW (OW:=[boxA b1 30 [.bool (decide (x1<0)),.slice p1 ((yd ((x1).natAbs)).length) c1],boxA b2 30 [.bool (decide (x2<0)),.slice p2 ((yd ((x2).natAbs)).length) c2]]) (O:=[boxA b4 30 [wz.b,wz.l],boxA b3 30 [wz.b,wz.l]]) 4 mixed (.then .ret) kr<|e_uw 0 rfl rfl (zd 0 ty30 rfl rfl (.t2 .nil))<|e_uw 2 rfl rfl (zd 1 ty30 rfl rfl (.t2 .nil))<|e_one 1 (zB rfl rfl rfl rfl (.c rfl .n) ce149 (zKc (z:=x1) (p:=p1) (cap:=c1) (hln:=by first|rfl|assumption|omega|(unfold ym;omega)|(unfold ym;rw [hsq];omega)|(decide +kernel))) (.c (j:=0) rfl .n) ?_)
 rintro ⟨p25,c26⟩ -
 dsimp only [aq,nq,cq]
 refine e_one 3 (zB rfl rfl rfl rfl (.c rfl .n) ce149 (zKc (z:=x2) (p:=p2) (cap:=c2) (hln:=by first|rfl|assumption|omega|(unfold ym;omega)|(unfold ym;rw [hsq];omega)|(decide +kernel))) (.c (j:=2) rfl .n) ?_)
 rintro ⟨p27,c28⟩ -
 dsimp only [aq,nq,cq]
 refine e_one 4 (zC kr rfl rfl rfl rfl rfl sz30 rfl (.t2 .nil) ?_)
 refine zPa (zfa (i:=1) rfl)<|e_one 5 (zC kr rfl rfl rfl rfl rfl sz30 rfl (.t2 .nil) ?_)
 refine zU kr<|zc<|ze<|ze<|za<|e_p (zj yl rfl sz28 rfl rfl)<|e_ru (zi 0 ty28 rfl rfl rfl)<|e_p (zv ye rfl)<|e_p (zna rfl rfl)<|zf<|zc<|zD rfl (fun h9=> ?_) (fun h9=> ?_)
 ·
  exact absurd (yB.1 (show (yd x2.natAbs).length=0 by omega)) om
 ·
  refine zw<|zc<|ze<|za<|e_p (zj yl rfl sz28 rfl rfl)<|e_ru (zi 1 ty28 rfl rfl rfl)<|e_p (zj yl rfl sz28 rfl rfl)<|e_ru (zi 0 ty28 rfl rfl rfl)<|zm rfl rfl (.c rfl (.c rfl .n)) ce218 (zbd (a:=(x1).natAbs) (b:=(x2).natAbs) (p1:=p25) (c1:=c26) (p2:=p27) (c2:=c28) (hb1:=by first|rfl|assumption|omega|(unfold ym;omega)|(unfold ym;rw [hsq];omega)|(decide +kernel)) (hb2:=by first|rfl|assumption|omega|(unfold ym;omega)|(unfold ym;rw [hsq];omega)|(decide +kernel)) (hb0:=by first|rfl|assumption|omega|(unfold ym;omega)|(unfold ym;rw [hsq];omega)|(decide +kernel))) (.c (j:=1) rfl (.c (j:=0) rfl .n)) ?_
  rintro ⟨p310,c311,p412,c413⟩ -
  dsimp only [aq,nq,cq]
  refine e_mv rfl<|e_p (zn rfl rfl)<|e_p (zn rfl rfl)<|e_p (zb rfl)<|e_p (zb rfl)<|zf<|zc<|ze ?_
  obtain ⟨Q,hQ⟩:∃z,z=((x1).natAbs) / ((x2).natAbs):=⟨_,rfl⟩
  rw [← hQ]
  obtain ⟨R0,hR0⟩:∃z,z=((x1).natAbs)%((x2).natAbs):=⟨_,rfl⟩
  rw [← hR0]
  rw [← hQ] at hl1
  rw [← hR0] at hl2
  have hsq:(yt (decide (decide (x1<0)≠decide (x2<0))) (Q:Int)).natAbs=Q:=by rw [Big.sg_abs om];exact Int.toNat_natCast _
  refine za<|e_p (zj yl rfl sz4 rfl rfl)<|e_ru (zi 1 ty4 rfl rfl rfl)<|e_p (zj yl rfl sz4 rfl rfl)<|e_ru (zi 0 ty4 rfl rfl rfl)<|e_p (zNa yv rfl rfl)<|e_mv rfl<|zm rfl rfl (.c rfl (.c rfl .n)) ce168 (zmb (s:=decide (decide (x1<0)≠decide (x2<0))) (a:=Q) (p:=p310) (cap:=c311) (hln:=by first|rfl|assumption|omega|(unfold ym;omega)|(unfold ym;rw [hsq];omega)|(decide +kernel))) (.c (j:=0) rfl .n) ?_
  rintro ⟨p214,c215⟩ -
  dsimp only [aq,nq,cq]
  refine zM rfl rfl (zA zr30 rfl) (fun b16=> ?_)
  refine zl 0 rfl rfl rfl rfl rfl sz30 rfl (.t2 .nil) .z<|zf<|zc<|ze<|ze<|za<|e_p (zj yl rfl sz4 rfl rfl)<|e_ru (zi 2 ty4 rfl rfl rfl)<|e_p (zj yl rfl sz4 rfl rfl)<|e_ru (zi 1 ty4 rfl rfl rfl)<|e_p (zNa yv rfl rfl)<|zga rfl rfl (zja rfl) (fun hsd=> ?_) (fun hsd=> ?_)
  ·
   refine e_mv rfl<|e_p (zv ye rfl)<|e_p (zra rfl rfl)<|e_p (zE rfl rfl)<|zf<|zc<|zD rfl (fun hadj=> ?_) (fun hadj=> ?_)
   ·
    have hr0:x1.natAbs%x2.natAbs≠0:=fun e=>by rw [hR0,e,yJ] at hadj;exact absurd hadj dd
    have hqz:yt (decide (decide (x1<0)≠decide (x2<0))) (Q:Int) - 1=yz x1 x2:=by have h9:=(Big.fq_odd hy hsd hr0).1;rw [← h9,decide_eq_true hsd,hQ,Big.sg_t,Big.sg_t];omega
    refine zW (OW:=[boxA b16 30 [.bool (decide ((yt (decide (decide (x1<0)≠decide (x2<0))) (Q:Int))<0)),.slice p214 ((yd ((yt (decide (decide (x1<0)≠decide (x2<0))) (Q:Int)).natAbs)).length) c215]]) (O:=[boxA b2 30 [.bool (decide (x2<0)),.slice p27 ((yd ((x2).natAbs)).length) c28],boxA b1 30 [.bool (decide (x1<0)),.slice p25 ((yd ((x1).natAbs)).length) c26],boxA b4 30 [wz.b,wz.l],boxA b3 30 [wz.b,wz.l]]) 3 mixed (.then .ret) kr<|e_uw 0 rfl rfl (zd 0 ty30 rfl rfl (.t2 .nil))<|e_one 1 (zB rfl rfl rfl rfl (.c rfl .n) ce148 (zJf (z:=1) (hz:=by first|rfl|assumption|omega|(unfold ym;omega)|(unfold ym;rw [hsq];omega)|(decide +kernel))) (.n) ?_)
    rintro ⟨p217,c218⟩ -
    dsimp only [aq,nq,cq]
    refine e_one 2 (zB rfl rfl rfl rfl (.c rfl (.c rfl .n)) ce217 (zac (x1:=yt (decide (decide (x1<0)≠decide (x2<0))) (Q:Int)) (x2:=1) (p1:=p214) (c1:=c215) (p2:=p217) (c2:=c218) (hb1:=by first|rfl|assumption|omega|(unfold ym;omega)|(unfold ym;rw [hsq];omega)|(decide +kernel)) (hb2:=by first|rfl|assumption|omega|(unfold ym;omega)|(unfold ym;rw [hsq];omega)|(decide +kernel))) (.c (j:=1) rfl (.c (j:=0) rfl .n)) ?_)
    rintro ⟨p319,c320⟩ -
    dsimp only [aq,nq,cq]
    refine e_one 3 (zC kr rfl rfl rfl rfl rfl sz30 rfl (.t2 .nil) ?_)
    refine zU kr<|zc<|ze ?_
    have e21:(yt (decide (decide (x1<0)≠decide (x2<0))) (Q:Int)) - 1=yz x1 x2:=by exact hqz
    rw [e21]
    refine zpa (.c (i:=4) rfl (.c (i:=3) rfl (.c (i:=0) rfl (.c (i:=0) rfl (.c (i:=0) rfl .n)))))<|zW (OW:=[boxA b3 30 [wz.b,wz.l],boxA b4 30 [wz.b,wz.l]]) (O:=[boxA b16 30 [.bool (decide ((yz x1 x2)<0)),.slice p319 ((yd ((yz x1 x2).natAbs)).length) c320],boxA b2 30 [.bool (decide (x2<0)),.slice p27 ((yd ((x2).natAbs)).length) c28],boxA b1 30 [.bool (decide (x1<0)),.slice p25 ((yd ((x1).natAbs)).length) c26]]) 6 mixed (.then .ret) kr<|e_uw 0 rfl rfl (zd 2 ty30 rfl rfl (.t2 .nil))<|e_uw 1 rfl rfl (zd 4 ty30 rfl rfl (.t2 .nil))<|e_uw 2 rfl rfl (zd 2 ty30 rfl rfl (.t2 .nil))<|e_uw 3 rfl rfl (zd 3 ty30 rfl rfl (.t2 .nil))<|e_one 4 (zB rfl rfl rfl rfl (.c rfl (.c rfl .n)) ce127 (zbc (x1:=yz x1 x2) (x2:=x2) (p1:=p319) (c1:=c320) (p2:=p27) (c2:=c28) (hb1:=by first|rfl|assumption|omega|(unfold ym;omega)|(unfold ym;rw [hsq];omega)|(decide +kernel)) (hb2:=by first|rfl|assumption|omega|(unfold ym;omega)|(unfold ym;rw [hsq];omega)|(decide +kernel))) (.c (j:=0) rfl (.c (j:=5) rfl .n)) ?_)
    rintro ⟨p322,c323⟩ -
    dsimp only [aq,nq,cq]
    refine e_one 5 (zB rfl rfl rfl rfl (.c rfl (.c rfl .n)) ce217 (zac (x1:=x1) (x2:=(yz x1 x2)*x2) (p1:=p25) (c1:=c26) (p2:=p322) (c2:=c323) (hb1:=by first|rfl|assumption|omega|(unfold ym;omega)|(unfold ym;rw [hsq];omega)|(decide +kernel)) (hb2:=by first|rfl|assumption|omega|(unfold ym;omega)|(unfold ym;rw [hsq];omega)|(decide +kernel))) (.c (j:=7) rfl (.c (j:=0) rfl .n)) ?_)
    rintro ⟨p324,c325⟩ -
    dsimp only [aq,nq,cq]
    refine e_one 6 (zC kr rfl rfl rfl rfl rfl sz30 rfl (.t2 .nil) ?_)
    refine zPa (zfa (i:=1) rfl)<|e_one 7 (zC kr rfl rfl rfl rfl rfl sz30 rfl (.t2 .nil) ?_)
    refine e_pv 8 rfl rfl (zb rfl)<|zU kr<|zc<|zG ?_
    have hz2:x1 - yz x1 x2*x2=yI x1 x2:=by unfold yI;rw [Int.mul_comm]
    exact zoc Tryz.results206 (p319,c320,p324,c325) trivial (zq 1 ty30 rfl rfl (.t2 .nil)) (zq 0 ty30 rfl rfl (.t2 .nil)) (zo rfl) (by rw [hz2]) (ho:=oN) ((.c (j:=2) rfl (.e (j:=0) rfl (by rw [hz2]) .n)):SelR _ _ _)
   ·
    have hr0:x1.natAbs%x2.natAbs=0:=yB.1 (by rw [← hR0];omega)
    have hqz:yt (decide (decide (x1<0)≠decide (x2<0))) (Q:Int)=yz x1 x2:=by rw [decide_eq_true hsd,hQ];exact (Big.fq_even hy hsd hr0).1
    refine zw<|zc<|ze ?_
    have e26:yt (decide (decide (x1<0)≠decide (x2<0))) (Q:Int)=yz x1 x2:=by exact hqz
    rw [e26]
    refine zpa (.c (i:=4) rfl (.c (i:=3) rfl (.c (i:=0) rfl (.c (i:=0) rfl (.c (i:=0) rfl .n)))))<|zW (OW:=[boxA b3 30 [wz.b,wz.l],boxA b4 30 [wz.b,wz.l]]) (O:=[boxA b16 30 [.bool (decide ((yz x1 x2)<0)),.slice p214 ((yd ((yz x1 x2).natAbs)).length) c215],boxA b2 30 [.bool (decide (x2<0)),.slice p27 ((yd ((x2).natAbs)).length) c28],boxA b1 30 [.bool (decide (x1<0)),.slice p25 ((yd ((x1).natAbs)).length) c26]]) 6 mixed (.then .ret) kr<|e_uw 0 rfl rfl (zd 2 ty30 rfl rfl (.t2 .nil))<|e_uw 1 rfl rfl (zd 4 ty30 rfl rfl (.t2 .nil))<|e_uw 2 rfl rfl (zd 2 ty30 rfl rfl (.t2 .nil))<|e_uw 3 rfl rfl (zd 3 ty30 rfl rfl (.t2 .nil))<|e_one 4 (zB rfl rfl rfl rfl (.c rfl (.c rfl .n)) ce127 (zbc (x1:=yz x1 x2) (x2:=x2) (p1:=p214) (c1:=c215) (p2:=p27) (c2:=c28) (hb1:=by first|rfl|assumption|omega|(unfold ym;omega)|(unfold ym;rw [hsq];omega)|(decide +kernel)) (hb2:=by first|rfl|assumption|omega|(unfold ym;omega)|(unfold ym;rw [hsq];omega)|(decide +kernel))) (.c (j:=0) rfl (.c (j:=3) rfl .n)) ?_)
    rintro ⟨p327,c328⟩ -
    dsimp only [aq,nq,cq]
    refine e_one 5 (zB rfl rfl rfl rfl (.c rfl (.c rfl .n)) ce217 (zac (x1:=x1) (x2:=(yz x1 x2)*x2) (p1:=p25) (c1:=c26) (p2:=p327) (c2:=c328) (hb1:=by first|rfl|assumption|omega|(unfold ym;omega)|(unfold ym;rw [hsq];omega)|(decide +kernel)) (hb2:=by first|rfl|assumption|omega|(unfold ym;omega)|(unfold ym;rw [hsq];omega)|(decide +kernel))) (.c (j:=5) rfl (.c (j:=0) rfl .n)) ?_)
    rintro ⟨p329,c330⟩ -
    dsimp only [aq,nq,cq]
    refine e_one 6 (zC kr rfl rfl rfl rfl rfl sz30 rfl (.t2 .nil) ?_)
    refine zPa (zfa (i:=1) rfl)<|e_one 7 (zC kr rfl rfl rfl rfl rfl sz30 rfl (.t2 .nil) ?_)
    refine e_pv 8 rfl rfl (zb rfl)<|zU kr<|zc<|zG ?_
    have hz2:x1 - yz x1 x2*x2=yI x1 x2:=by unfold yI;rw [Int.mul_comm]
    exact zoc Tryz.results206 (p214,c215,p329,c330) trivial (zq 1 ty30 rfl rfl (.t2 .nil)) (zq 0 ty30 rfl rfl (.t2 .nil)) (zo rfl) (by rw [hz2]) (ho:=oN) ((.c (j:=2) rfl (.e (j:=0) rfl (by rw [hz2]) .n)):SelR _ _ _)
  ·
   have hs9:=Decidable.not_not.1 hsd
   have hqz:yt (decide (decide (x1<0)≠decide (x2<0))) (Q:Int)=yz x1 x2:=by rw [decide_eq_false hsd,hQ];exact (Big.fq_same hy hs9).1
   refine e_no<|e_no<|e_no<|e_p (zE rfl rfl)<|zf<|zc<|zoa rfl rfl<|zw<|zc<|ze ?_
   have e31:yt (decide (decide (x1<0)≠decide (x2<0))) (Q:Int)=yz x1 x2:=by exact hqz
   rw [e31]
   refine zpa (.c (i:=4) rfl (.c (i:=3) rfl (.c (i:=0) rfl (.c (i:=0) rfl (.c (i:=0) rfl .n)))))<|zW (OW:=[boxA b3 30 [wz.b,wz.l],boxA b4 30 [wz.b,wz.l]]) (O:=[boxA b16 30 [.bool (decide ((yz x1 x2)<0)),.slice p214 ((yd ((yz x1 x2).natAbs)).length) c215],boxA b2 30 [.bool (decide (x2<0)),.slice p27 ((yd ((x2).natAbs)).length) c28],boxA b1 30 [.bool (decide (x1<0)),.slice p25 ((yd ((x1).natAbs)).length) c26]]) 6 mixed (.then .ret) kr<|e_uw 0 rfl rfl (zd 2 ty30 rfl rfl (.t2 .nil))<|e_uw 1 rfl rfl (zd 4 ty30 rfl rfl (.t2 .nil))<|e_uw 2 rfl rfl (zd 2 ty30 rfl rfl (.t2 .nil))<|e_uw 3 rfl rfl (zd 3 ty30 rfl rfl (.t2 .nil))<|e_one 4 (zB rfl rfl rfl rfl (.c rfl (.c rfl .n)) ce127 (zbc (x1:=yz x1 x2) (x2:=x2) (p1:=p214) (c1:=c215) (p2:=p27) (c2:=c28) (hb1:=by first|rfl|assumption|omega|(unfold ym;omega)|(unfold ym;rw [hsq];omega)|(decide +kernel)) (hb2:=by first|rfl|assumption|omega|(unfold ym;omega)|(unfold ym;rw [hsq];omega)|(decide +kernel))) (.c (j:=0) rfl (.c (j:=3) rfl .n)) ?_)
   rintro ⟨p332,c333⟩ -
   dsimp only [aq,nq,cq]
   refine e_one 5 (zB rfl rfl rfl rfl (.c rfl (.c rfl .n)) ce217 (zac (x1:=x1) (x2:=(yz x1 x2)*x2) (p1:=p25) (c1:=c26) (p2:=p332) (c2:=c333) (hb1:=by first|rfl|assumption|omega|(unfold ym;omega)|(unfold ym;rw [hsq];omega)|(decide +kernel)) (hb2:=by first|rfl|assumption|omega|(unfold ym;omega)|(unfold ym;rw [hsq];omega)|(decide +kernel))) (.c (j:=5) rfl (.c (j:=0) rfl .n)) ?_)
   rintro ⟨p334,c335⟩ -
   dsimp only [aq,nq,cq]
   refine e_one 6 (zC kr rfl rfl rfl rfl rfl sz30 rfl (.t2 .nil) ?_)
   refine zPa (zfa (i:=1) rfl)<|e_one 7 (zC kr rfl rfl rfl rfl rfl sz30 rfl (.t2 .nil) ?_)
   refine e_pv 8 rfl rfl (zb rfl)<|zU kr<|zc<|zG ?_
   have hz2:x1 - yz x1 x2*x2=yI x1 x2:=by unfold yI;rw [Int.mul_comm]
   exact zoc Tryz.results206 (p214,c215,p334,c335) trivial (zq 1 ty30 rfl rfl (.t2 .nil)) (zq 0 ty30 rfl rfl (.t2 .nil)) (zo rfl) (by rw [hz2]) (ho:=oN) ((.c (j:=2) rfl (.e (j:=0) rfl (by rw [hz2]) .n)):SelR _ _ _)
theorem zqb {w1:Wd} {w2:Wd} {x1:Int} {x2:Int} (hb1:ym x1≤1099511627776) (hb2:ym x2≤1099511627776) (hy:x2≠0):Con yk 206 [.agg #[w1.b,w1.l],.agg #[w2.b,w2.l]] [] [zF w1 (x1),zF w2 (x2)] (Y:=(Wd)×(Wd)) (fun y=>True) (fun y=> .tuple #[.agg #[y.1.b,y.1.l],.agg #[y.2.b,y.2.l],ya yb (0)]) (fun y=>[]) (fun y=>[zF y.1 (yz x1 x2),zF y.2 (yI x1 x2)]):=by
  exact zIf (zZb (fun p1 c1 p2 c2=>zHd hb1 hb2 hy))
end Go.Proofs.YtpdbimfnhglhpaaGreat.Sp
namespace Go.Proofs.YtpdbimfnhglhpaaGreat.Sp
open Go
set_option linter.unusedVariables false
set_option maxRecDepth 100000
set_option maxHeartbeats 8000000
theorem zAb {p:Option Addr} {n:Nat} {cap:Nat} {l:List Int} (hn:l.length=n):Con yk 250 [.slice p n cap] [] [slF (rI .u32) p cap l] (Y:=Unit) (fun y=>True) (fun y=> .slice p ((yo l).length) cap) (fun y=>[]) (fun y=>[slF (rI .u32) p cap (yo l)]):=by
 refine zk Tryz.func250 rfl rfl rfl (fun c=> ?_)
 show RunC _ _ _ _ _ [(0,.slice p n cap)] [] [slF (rI .u32) p cap l]
 refine zP 0 rfl (fun hL0=> ?_)
 refine ze<|za<|e_p (zb rfl)<|zf<|zc<|ze<|zt<|zca (X:=Nat) (fun x:Nat=>x≤l.length∧yo (l.take x)=yo l) (fun x=>[(0,.slice p x cap),(2,.slice none 0 0)]) (fun x=>[]) (fun x=>[slF (rI .u32) p cap (l.take x),slF (rI .u32) p cap l]) (fun x:Nat=>x) n (show n≤l.length∧yo (l.take n)=yo l from by exact ⟨by omega,by rw [List.take_of_length_le om]⟩) ((.c rfl (.c rfl .n)):SubM _ _) (ho:=oN) ((.e (j:=0) rfl (by rw [List.take_of_length_le om]) (.c (j:=0) rfl .n)):SelR _ _ _) ?_
 rintro k hI
 replace hI:k≤l.length∧yo (l.take k)=yo l:=hI
 try dsimp only
 obtain ⟨hk,hT⟩:=hI
 have hlt:(l.take k).length=k:=by rw [List.length_take];omega
 refine ze<|zab (X:=Unit) (fun x=>True) (fun x=>[(14,.bool (decide (0<k∧l.getD (k - 1) 0=0))),(0,.slice p k cap),(2,.slice none 0 0)]) (fun x=>[]) (fun x=>[slF (rI .u32) p cap (l.take k),slF (rI .u32) p cap l]) ?_ ?_
 ·
  refine za<|e_mv rfl<|e_p (zv ye rfl)<|e_p (zra rfl rfl)<|zga rfl rfl (zja rfl) (fun h1=> ?_) (fun h1=> ?_)
  ·
   refine e_mv rfl<|e_mv rfl<|e_p (zv ye rfl)<|e_p (zha (z:=(((k:Nat):Int) - 1)) rfl rfl (w64 om))<|zba (x0:=((l.take k).getD ((((k:Nat):Int) - 1).toNat) 0)) 0 ((((k:Nat):Int) - 1).toNat) rfl ye sz133 rfl rfl rfl cbs rfl om (gD (d:=0) om) (fun b2 o3 hok4=> ?_)
   replace hok4:=zy.1 hok4
   refine e_ru (zh (j:=0) 0 ty133 rfl rfl rfl rfl)<|e_p (zna rfl rfl)<|e_p (zE rfl rfl)<|zf ?_
   exact zla () tt9 ((.e rfl (congrArg Value.bool (by rw [Big.getD_take l om];have h1:0<k:=om;have h2:((k:Int) - 1).toNat=k - 1:=om;simp [h1,h2])) (.c rfl (.c rfl .n))):SubM _ _) (ho:=oN) ((.of [1,2] rfl):SelR _ _ _)
  ·
   refine e_no<|e_no<|e_no<|e_no<|e_no<|e_no<|e_no<|e_p (zE rfl rfl)<|zf ?_
   exact zla () tt9 ((.e rfl (congrArg Value.bool (by have h1:¬0<k:=om;simp [h1])) (.c rfl (.c rfl .n))):SubM _ _) (ho:=oN) ((.of [0,1] rfl):SelR _ _ _)
 ·
  rintro ⟨⟩ -
  try dsimp only
  refine zD rfl (fun hc=> ?_) (fun hc=> ?_)
  ·
   refine zw<|zc<|zt<|za<|e_mv rfl<|e_mv rfl<|e_p (zv ye rfl)<|e_p (zha (z:=(((k - 1):Nat):Int)) rfl rfl (w64 om))<|e_p (zub (hi:=(k - 1)) ye sz133 rfl (.s rfl) (.inr ⟨_,rfl⟩) om)<|zUb (zWb 0 rfl (k - 1) om) (fun _ _=> ?_)
   refine e_p (zb rfl)<|zf<|zK<|zV (k - 1) (show (k - 1)≤l.length∧yo (l.take (k - 1))=yo l from by exact ⟨by omega,by rw [← hT,Big.trim_go l hc.1 hk hc.2]⟩) (by show k - 1<k;omega) ((.e rfl cgs (.c rfl .n)):SubM _ _) (ho:=oN) ((.e (j:=0) rfl (by rw [List.take_take];congr 2;omega) (.c (j:=2) rfl .n)):SelR _ _ _)
  ·
   refine zaa<|zg<|zg<|zp<|zc<|ze<|za<|e_mv rfl<|e_p (zb rfl)<|zf<|zc<|zG ?_
   have hfin:yo l=l.take k:=by rw [← hT];exact Big.trim_stop l hk hc
   exact zx Tryz.results250 () trivial (zo rfl) (by rw [hfin,hlt]) (ho:=oN) ((.e (j:=0) rfl (by rw [hfin]) .n):SelR _ _ _)
theorem zMe {p:Option Addr} {n:Nat} {cap:Nat} {l:List Int} {i:Nat} (hn:l.length=n) (hi:i≤4611686018427387904):Con yk 257 [.slice p n cap,ya yb ((i:Nat):Int)] [] [slF (rI .u32) p cap l] (Y:=Unit) (fun y=>True) (fun y=> .int .u32 (l.getD i 0)) (fun y=>[]) (fun y=>[]):=by
 refine zk Tryz.func257 rfl rfl rfl (fun c=> ?_)
 show RunC _ _ _ _ _ [(0,.slice p n cap),(1,ya yb ((i:Nat):Int))] [] [slF (rI .u32) p cap l]
 refine zP 0 rfl (fun hL0=> ?_)
 refine ze<|za<|e_p (zb rfl)<|zf<|zc<|ze<|ze<|za<|e_mv rfl<|e_mv rfl<|e_p (zv ye rfl)<|e_p (zY rfl rfl)<|zf<|zc<|zD rfl (fun h1=> ?_) (fun h1=> ?_)
 ·
  refine ze<|za<|e_mv rfl<|e_mv rfl<|zba (x0:=(l.getD i 0)) 0 i rfl ye sz133 rfl rfl rfl cbs rfl rfl (gD (d:=0) om) (fun b2 o3 hok4=> ?_)
  replace hok4:=zy.1 hok4
  refine e_ru (zh (j:=0) 0 ty133 rfl rfl rfl rfl)<|e_p (zb rfl)<|zf<|zc<|zG<|zu ?_
  exact zx Tryz.results257 () trivial (zo rfl) rfl (ho:=oN) sN
 ·
  refine zw<|zc<|ze<|za<|e_p (zb rfl)<|zf<|zc<|zG ?_
  exact zx Tryz.results257 () trivial (zo rfl) (by rw [show l.getD i 0=0 by simp [List.getD,List.getElem?_eq_none (show l.length≤i by omega)]]) (ho:=oN) sN
theorem zrg {p1:Option Addr} {n1:Nat} {c1:Nat} {l1:List Int} {p2:Option Addr} {n2:Nat} {c2:Nat} {l2:List Int} (hn1:l1.length=n1) (hn2:l2.length=n2) (hb1:n1≤4398046511104) (hb2:n2≤4398046511104) (ho1:yu l1) (ho2:yu l2):Con yk 222 [.slice p1 n1 c1,.slice p2 n2 c2] [] [slF (rI .u32) p1 c1 l1,slF (rI .u32) p2 c2 l2] (Y:=(Option Addr)×Nat) (fun y=>True) (fun y=> .slice (y.1) ((yd (yf l1+yf l2).toNat).length) (y.2)) (fun y=>[]) (fun y=>[slF (rI .u32) (y.1) (y.2) (yd (yf l1+yf l2).toNat)]):=by
 refine zk Tryz.func222 rfl rfl rfl (fun c=> ?_)
 show RunC _ _ _ _ _ [(0,.slice p1 n1 c1),(1,.slice p2 n2 c2)] [] [slF (rI .u32) p1 c1 l1,slF (rI .u32) p2 c2 l2]
 refine zP 0 rfl (fun hL0=> ?_)
 refine zP 1 rfl (fun hL1=> ?_)
 refine ze<|za<|e_p (zb rfl)<|zf<|zc<|ze<|za<|e_mv rfl<|e_p (zv ye rfl)<|e_mv rfl<|e_p (zv ye rfl)<|e_p (v:= ya yb (((max n1 n2):Nat):Int)) (by rw [show ((((max n1 n2):Nat):Int):Int)=max ((n1:Nat):Int) ((n2:Nat):Int) by omega];exact zBe rfl rfl)<|e_p (zJ (z:=((((max n1 n2)+1):Nat):Int)) rfl rfl (w64 om))<|zma rfl rfl (zua (r:=rI .u32) (k:=((max n1 n2)+1)) (x0:=0) (γ0:=()) ye inf133 rfl rfl rfl rfl om om rfl (fun g _=>by exact zy.2 dd) dd) (fun b1 _=> ?_)
 refine e_p (zb rfl)<|zf<|zc<|ze<|za<|e_p (zb rfl)<|zf<|zc<|ze<|ze<|za<|e_mv rfl<|e_p (zv ye rfl)<|e_mv rfl<|zf<|zc<|zt<|zca (X:=Nat×(List Int)×Int) (fun x:Nat×(List Int)×Int=>x.1≤max n1 n2+1∧x.2.1.length=x.1∧0≤x.2.2∧x.2.2≤1∧yu x.2.1∧yf x.2.1+yA x.1*x.2.2=yf (l1.take x.1)+yf (l2.take x.1)) (fun x=>[(6,.int .u32 (x.2.2)),(18,ya yb ((x.1:Nat):Int)),(17,ya yb ((((max n1 n2)+1):Nat):Int)),(5,.slice (some ⟨b1,0,none⟩) ((max n1 n2)+1) ((max n1 n2)+1)),(4,.slice none 0 0),(0,.slice p1 n1 c1),(1,.slice p2 n2 c2)]) (fun x=>[rowA 133 (rI .u32) (some ⟨b1,0,none⟩) ((max n1 n2)+1) (x.2.1++List.replicate (max n1 n2+1 - x.1) 0)]) (fun x=>[slF (rI .u32) p1 c1 l1,slF (rI .u32) p2 c2 l2]) (fun x:Nat×(List Int)×Int=>max n1 n2+1 - x.1) (0,[],0) (show 0≤max n1 n2+1∧([]).length=0∧0≤0∧0≤1∧yu ([])∧yf ([])+yA 0*0=yf (l1.take 0)+yf (l2.take 0) from by exact ⟨by omega,rfl,by decide,by decide,Big.okL_nil,by simp [yf]⟩) ((.c rfl (.e rfl cgs (.of rfl))):SubM _ _) (ho:=((.e (i:=0) rfl (by simp) .n):PickO _ _ _)) ((.of [0,1] rfl):SelR _ _ _) ?_
 rintro ⟨i,os,cy⟩ hI
 replace hI:i≤max n1 n2+1∧os.length=i∧0≤cy∧cy≤1∧yu os∧yf os+yA i*cy=yf (l1.take i)+yf (l2.take i):=hI
 try dsimp only
 obtain ⟨hi,hol,hc0,hc1,hok,hv⟩:=hI
 have hg1:=yn ho1 i
 have hg2:=yn ho2 i
 refine ze<|za<|e_p (zY rfl rfl)<|zf<|zc<|ze<|zD rfl (fun h2=> ?_) (fun h2=> ?_)
 ·
  refine zw<|zc<|ze<|zt<|ze<|za<|e_mv rfl<|e_p (zb rfl)<|zf<|zc<|ze<|za<|e_mv rfl<|e_mv rfl<|zR rfl rfl (.c rfl (.c rfl .n)) ce257 (zMe (p:=p1) (n:=n1) (cap:=c1) (l:=l1) (i:=i) (hn:=ass) (hi:=cbb)) (.c (j:=0) rfl .n)<|e_mv rfl<|e_mv rfl<|zR rfl rfl (.c rfl (.c rfl .n)) ce257 (zMe (p:=p2) (n:=n2) (cap:=c2) (l:=l2) (i:=i) (hn:=ass) (hi:=cbb)) (.c (j:=1) rfl .n)<|e_p (zJ (z:=(l1.getD i 0+l2.getD i 0)) rfl rfl (wu32 om))<|e_mv rfl<|e_p (zJ (z:=((l1.getD i 0+l2.getD i 0)+cy)) rfl rfl (wu32 om))<|e_p (zb rfl)<|zf<|zc<|ze<|za<|e_p (zb rfl)<|zf<|zc<|ze<|ze<|za<|e_mv rfl<|e_p (zTa rfl rfl)<|zf<|zc<|zD rfl (fun hc=> ?_) (fun hc=> ?_)
  ·
   refine za<|e_mv rfl<|e_p (zha (z:=(((l1.getD i 0+l2.getD i 0)+cy) - 1000000000)) rfl rfl (wu32 om))<|e_p (zb rfl)<|e_p (zb rfl)<|zf<|zc<|za<|e_mv rfl<|e_mv rfl<|e_mv rfl<|e_p (zI (j:=i) ye sz133 rfl rfl rfl om)<|zya 0 rfl rfl rfl (zL (j:=i) (x0:=(((l1.getD i 0+l2.getD i 0)+cy) - 1000000000)) (γ0:=()) rfl rfl (by first|omega|(rw [List.length_map];omega)|(simp only [List.length_set];omega)|(simp;done)|(simp;omega)) rfl rfl sz133 (fun _ _=>by exact zy.2 om)) (fun _=> .z) (fun _ _=> ?_)
   refine zf<|zK<|zc<|za<|e_p (zJ (z:=(((i+1):Nat):Int)) rfl rfl (w64 om))<|e_mv rfl<|zf<|zV ((i+1),os++[l1.getD i 0+l2.getD i 0+cy - 1000000000],1) (show (i+1)≤max n1 n2+1∧(os++[l1.getD i 0+l2.getD i 0+cy - 1000000000]).length=(i+1)∧0≤1∧1≤1∧yu (os++[l1.getD i 0+l2.getD i 0+cy - 1000000000])∧yf (os++[l1.getD i 0+l2.getD i 0+cy - 1000000000])+yA (i+1)*1=yf (l1.take (i+1))+yf (l2.take (i+1)) from by exact ⟨by omega,by simp [hol],by decide,by decide,yO hok om om,Big.plus_step hol hv om⟩) (by show max n1 n2+1 - (i+1)<max n1 n2+1 - i;omega) (mR rfl) (ho:=((.e (i:=0) rfl (by rw [Big.set_pad hol om]) .n):PickO _ _ _)) ((.of [0,1] rfl):SelR _ _ _)
  ·
   refine zw<|zc<|za<|e_mv rfl<|e_mv rfl<|e_mv rfl<|e_p (zI (j:=i) ye sz133 rfl rfl rfl om)<|zya 0 rfl rfl rfl (zL (j:=i) (x0:=((l1.getD i 0+l2.getD i 0)+cy)) (γ0:=()) rfl rfl (by first|omega|(rw [List.length_map];omega)|(simp only [List.length_set];omega)|(simp;done)|(simp;omega)) rfl rfl sz133 (fun _ _=>by exact zy.2 om)) (fun _=> .z) (fun _ _=> ?_)
   refine zf<|zK<|zc<|za<|e_p (zJ (z:=(((i+1):Nat):Int)) rfl rfl (w64 om))<|e_mv rfl<|zf<|zV ((i+1),os++[l1.getD i 0+l2.getD i 0+cy],0) (show (i+1)≤max n1 n2+1∧(os++[l1.getD i 0+l2.getD i 0+cy]).length=(i+1)∧0≤0∧0≤1∧yu (os++[l1.getD i 0+l2.getD i 0+cy])∧yf (os++[l1.getD i 0+l2.getD i 0+cy])+yA (i+1)*0=yf (l1.take (i+1))+yf (l2.take (i+1)) from by exact ⟨by omega,by simp [hol],by decide,by decide,yO hok om om,Big.plus_step hol hv om⟩) (by show max n1 n2+1 - (i+1)<max n1 n2+1 - i;omega) (mR rfl) (ho:=((.e (i:=0) rfl (by rw [Big.set_pad hol om]) .n):PickO _ _ _)) ((.of [0,1] rfl):SelR _ _ _)
 ·
  have e3:os++List.replicate (max n1 n2+1 - i) 0=os:=by rw [show max n1 n2+1 - i=0 by omega];simp
  rw [e3]
  have hfin:=Big.plus_fin ho1 ho2 hok hc0 hol om hv
  have htr:yo os=yd (yf l1+yf l2).toNat:=by rw [Big.digs_valL hok,hfin]
  refine zaa<|zg<|zg<|zp<|zc<|ze<|za<|e_mv rfl<|zea 0 rfl .z<|zm rfl rfl (.c rfl .n) ce250 (zAb (p:=some ⟨b1,0,none⟩) (n:=((max n1 n2)+1)) (cap:=((max n1 n2)+1)) (l:=os) (hn:=cbb)) (.c (j:=0) rfl .n) ?_
  rintro ⟨⟩ -
  dsimp only [aq,nq,cq]
  refine e_p (zb rfl)<|zf<|zc<|zG ?_
  exact zx Tryz.results222 ((some ⟨b1,0,none⟩),((max n1 n2)+1)) trivial (zo rfl) (by rw [htr]) (ho:=oN) ((.e (j:=0) rfl (by rw [htr]) .n):SelR _ _ _)
theorem zId {a:Nat} {b:Nat} {p1:Option Addr} {c1:Nat} {p2:Option Addr} {c2:Nat} (hb1:(yd (a)).length≤4398046511104) (hb2:(yd (b)).length≤4398046511104):Con yk 222 [.slice (p1) ((yd (a)).length) (c1),.slice (p2) ((yd (b)).length) (c2)] [] [slF (rI .u32) (p1) (c1) (yd (a)),slF (rI .u32) (p2) (c2) (yd (b))] (Y:=(Option Addr)×(Nat)) (fun y=>True) (fun y=> .slice (y.1) ((yd (a+b)).length) (y.2)) (fun y=>[]) (fun y=>[slF (rI .u32) (y.1) (y.2) (yd (a+b))]):=by
  have h:= @zrg p1 (yd a).length c1 (yd a) p2 (yd b).length c2 (yd b) rfl rfl hb1 hb2 (yq a) (yq b)
  rw [yx,yx,show ((a:Int)+(b:Int)).toNat=a+b by omega] at h
  exact h
theorem zcc {x:Int}:Con yk 259 [ya yb x] [] [] (Y:=Unit) (fun y=>True) (fun y=> .bool false) (fun y=>[]) (fun y=>[]):=by
 refine zk Tryz.func259 rfl rfl rfl (fun c=> ?_)
 show RunC _ _ _ _ _ [(0,ya yb x)] [] []
 refine ze<|za<|e_p (zb rfl)<|zf<|zc<|ze<|za<|e_mv rfl<|e_mv rfl<|e_p (zxa rfl rfl)<|e_p (zb rfl)<|zf<|zc<|zG ?_
 exact zx Tryz.results259 () trivial (zo rfl) (by simp) (ho:=oN) sN
theorem zdc {x:Int}:Con yk 265 [.int .u32 x] [] [] (Y:=Unit) (fun y=>True) (fun y=> .bool false) (fun y=>[]) (fun y=>[]):=by
 refine zk Tryz.func265 rfl rfl rfl (fun c=> ?_)
 show RunC _ _ _ _ _ [(0,.int .u32 x)] [] []
 refine ze<|za<|e_p (zb rfl)<|zf<|zc<|ze<|za<|e_mv rfl<|e_mv rfl<|e_p (zxa rfl rfl)<|e_p (zb rfl)<|zf<|zc<|zG ?_
 exact zx Tryz.results265 () trivial (zo rfl) (by simp) (ho:=oN) sN
theorem zNc {u:Int} {v:Int}:Con yk 230 [ya yb u,ya yb v] [] [] (Y:=Unit) (fun y=>True) (fun y=> ya yb (yH u v)) (fun y=>[]) (fun y=>[]):=by
 refine zk Tryz.func230 rfl rfl rfl (fun c=> ?_)
 show RunC _ _ _ _ _ [(0,ya yb u),(1,ya yb v)] [] []
 refine ze<|za<|e_p (zb rfl)<|zf<|zc<|ze<|za<|e_mv rfl<|zR rfl rfl (.c rfl .n) ce259 (zcc (x:=u)) (.n)<|e_p (zb rfl)<|zf<|zc<|ze<|za<|e_mv rfl<|zR rfl rfl (.c rfl .n) ce259 (zcc (x:=v)) (.n)<|e_p (zb rfl)<|zf<|zc<|ze<|ze<|za<|e_mv rfl<|zf<|zc<|zoa rfl rfl<|zw<|zc<|ze<|ze<|za<|e_mv rfl<|zf<|zc<|zoa rfl rfl<|zw<|zc<|ze<|ze<|za<|e_mv rfl<|e_mv rfl<|e_p (zY rfl rfl)<|zf<|zc<|zD rfl (fun h1=> ?_) (fun h1=> ?_)
 ·
  refine ze<|za<|e_p (zb rfl)<|zf<|zc<|zG<|zu ?_
  exact zx Tryz.results230 () trivial (zo rfl) (by rw [Big.cmp_lt om]) (ho:=oN) sN
 ·
  refine zw<|zc<|ze<|ze<|za<|e_mv rfl<|e_mv rfl<|e_p (zra rfl rfl)<|zf<|zc<|zD rfl (fun h2=> ?_) (fun h2=> ?_)
  ·
   refine ze<|za<|e_p (zb rfl)<|zf<|zc<|zG<|zu ?_
   exact zx Tryz.results230 () trivial (zo rfl) (by rw [Big.cmp_gt om]) (ho:=oN) sN
  ·
   refine zw<|zc<|ze<|za<|e_p (zb rfl)<|zf<|zc<|zG ?_
   exact zx Tryz.results230 () trivial (zo rfl) (by rw [show yH u v=0 by simp [yH];omega]) (ho:=oN) sN
theorem zfe {u:Int} {v:Int}:Con yk 260 [.int .u32 u,.int .u32 v] [] [] (Y:=Unit) (fun y=>True) (fun y=> ya yb (yH u v)) (fun y=>[]) (fun y=>[]):=by
 refine zk Tryz.func260 rfl rfl rfl (fun c=> ?_)
 show RunC _ _ _ _ _ [(0,.int .u32 u),(1,.int .u32 v)] [] []
 refine ze<|za<|e_p (zb rfl)<|zf<|zc<|ze<|za<|e_mv rfl<|zR rfl rfl (.c rfl .n) ce265 (zdc (x:=u)) (.n)<|e_p (zb rfl)<|zf<|zc<|ze<|za<|e_mv rfl<|zR rfl rfl (.c rfl .n) ce265 (zdc (x:=v)) (.n)<|e_p (zb rfl)<|zf<|zc<|ze<|ze<|za<|e_mv rfl<|zf<|zc<|zoa rfl rfl<|zw<|zc<|ze<|ze<|za<|e_mv rfl<|zf<|zc<|zoa rfl rfl<|zw<|zc<|ze<|ze<|za<|e_mv rfl<|e_mv rfl<|e_p (zY rfl rfl)<|zf<|zc<|zD rfl (fun h1=> ?_) (fun h1=> ?_)
 ·
  refine ze<|za<|e_p (zb rfl)<|zf<|zc<|zG<|zu ?_
  exact zx Tryz.results260 () trivial (zo rfl) (by rw [Big.cmp_lt om]) (ho:=oN) sN
 ·
  refine zw<|zc<|ze<|ze<|za<|e_mv rfl<|e_mv rfl<|e_p (zra rfl rfl)<|zf<|zc<|zD rfl (fun h2=> ?_) (fun h2=> ?_)
  ·
   refine ze<|za<|e_p (zb rfl)<|zf<|zc<|zG<|zu ?_
   exact zx Tryz.results260 () trivial (zo rfl) (by rw [Big.cmp_gt om]) (ho:=oN) sN
  ·
   refine zw<|zc<|ze<|za<|e_p (zb rfl)<|zf<|zc<|zG ?_
   exact zx Tryz.results260 () trivial (zo rfl) (by rw [show yH u v=0 by simp [yH];omega]) (ho:=oN) sN
theorem back_u32 {b:Nat} {p:Option Addr} {n cap:Nat} {l:List Int} (hn:l.length=n):Back yk 220 [yc (some ⟨b,0,none⟩)] [atF b 0 [.slice p n cap],slF (rI .u32) p cap l] n (fun k=>[ya yb ((k:Nat):Int),.int .u32 (l.getD k 0)]):=by
  refine back_intro Tryz.func220 rfl rfl rfl (fun l0 c X Y φ ψ OO RR OS RS H x0 hx0=> ?_)
  show RunC _ _ _ _ _ [(0,.func (.yield l0) #[] #[]),(1,yc (some ⟨b,0,none⟩))] (OO x0) (atF b 0 [.slice p n cap] :: slF (rI .u32) p cap l :: RR x0)
  refine zP 1 rfl (fun hL=> ?_)
  refine ze<|za<|e_ru (zh (j:=0) 0 ty28 rfl rfl rfl rfl)<|e_p (zv ye rfl)<|e_p (zha (z:=(((n:Nat):Int) - 1)) rfl rfl (w64 om))<|e_p (zb rfl)<|zf<|zc<|zt<|zuf (X:=X×Nat) (fun z=>φ z.1 z.2∧z.2≤n) (fun z=>[(3,ya yb (((z.2:Nat):Int) - 1)),(1,yc (some ⟨b,0,none⟩)),(0,.func (.yield l0) #[] #[])]) (fun z=>OO z.1) (fun z=>atF b 0 [.slice p n cap] :: slF (rI .u32) p cap l :: RR z.1) (fun z=>z.2) (x0,n) ⟨hx0,Nat.le_refl _⟩ (.c rfl (.c rfl (.c rfl .n)):SubM _ _) (fun w m=>m) ?_
  rintro ⟨x,k⟩ ⟨hx,hk⟩
  dsimp only at hx hk
  try dsimp only
  refine ze<|ze<|za<|e_mv rfl<|e_p (zTa rfl rfl)<|zf<|zc<|zD rfl (fun h=> ?_) (fun h=> ?_)
  · refine zw ?_
    refine zc ?_
    obtain ⟨j,rfl⟩:∃j,k=j+1:=⟨k - 1,by omega⟩
    rw [show (((j+1:Nat):Int) - 1)=(j:Int) by omega]
    refine ze<|zt<|ze<|za<|e_mv rfl<|e_mv rfl<|e_ru (zh (j:=0) 0 ty28 rfl rfl rfl rfl)<|e_mv rfl<|zba (x0:=l.getD j 0) 1 j rfl ye sz133 rfl rfl rfl hn rfl rfl (gD (d:=0) om) (fun b2 o3 hok=> ?_)
    refine e_ru (zh (j:=0) 0 ty133 rfl rfl rfl rfl)<|zWg (X:=X) (Y:=Y) (φ:=fun x'=>φ x' j) (ψ:=ψ) (OO:=OO) (RR:=fun x'=>[atF b 0 [.slice p n cap],slF (rI .u32) p cap l]++RR x') (OS:=OS) (RS:=RS) (vs:=[ya yb ((j:Nat):Int),.int .u32 (l.getD j 0)]) rfl rfl rfl (.c rfl (.c rfl .n)) (fun w m=>H x j w om hx (m.weaken fun h g s r a=>⟨h,g,s,r.2,Hp.le_refl _,Hp.le_refl _,a,fun _ _ e=> .inl e⟩)) (fun x' hx'=> ?_) (fun y hy=> ?_)
    · refine e_p (zUa rfl) ?_
      refine zf<|zc<|zoa rfl rfl<|zw<|zK<|zc<|za<|e_mv rfl<|e_p (zha (z:=((j:Int) - 1)) rfl rfl (w64 om))<|e_p (zb rfl)<|zf ?_
      exact zVg (x',j) ⟨hx',by show j≤n;omega⟩ (by show j<j+1;omega) (.c rfl (.c rfl (.c rfl .n)):SubM _ _) (fun w m=>m)
    · refine e_p (zUa rfl) ?_
      refine zf<|zc<|zDe rfl rfl<|zG<|zX<|zu<|zu<|zX ?_
      exact zVd rfl y hy (fun w m=>m)
  · have hk0 : k = 0 := by omega
    subst hk0
    refine zaa<|zg<|zg<|zp<|p_endI ?_
    exact zUd rfl x hx (fun w m=>m)
theorem zJb {p:Option Addr} {n:Nat} {cap:Nat}:Con yk 156 [.slice p n cap] [] [] (Y:=Nat) (fun y=>True) (fun y=> .func (.func 220) #[] #[yc (some ⟨y,0,none⟩)]) (fun y=>[]) (fun y=>[atF y 0 [.slice p n cap]]):=by
 refine zk Tryz.func156 rfl rfl rfl (fun c=> ?_)
 show RunC _ _ _ _ _ [(0,.slice p n cap)] [] []
 refine ze<|za<|zM rfl rfl (zT rfl rfl) (fun b1=> ?_)
 refine e_p (zb rfl)<|zf<|zc<|ze<|za<|e_p (zEa .n (.c rfl .n))<|e_p (zb rfl)<|zf<|zc<|zG<|zwf 0 rfl .z ?_
 exact zx Tryz.results156 b1 trivial (zo rfl) rfl (ho:=oN) (s0 rfl)
theorem zSb {a:Nat} {b:Nat} {p1:Option Addr} {c1:Nat} {p2:Option Addr} {c2:Nat}:Con yk 231 [.slice p1 ((yd a).length) c1,.slice p2 ((yd b).length) c2] [] [slF (rI .u32) p1 c1 (yd a),slF (rI .u32) p2 c2 (yd b)] (Y:=Unit) (fun y=>True) (fun y=> ya yb (yH (a:Int) (b:Int))) (fun y=>[]) (fun y=>[]):=by
 refine zhc Tryz.func231 rfl rfl rfl (fun c=> ?_)
 show RunC _ _ _ _ _ [(0,.slice p1 ((yd a).length) c1),(1,.slice p2 ((yd b).length) c2)] [] [slF (rI .u32) p1 c1 (yd a),slF (rI .u32) p2 c2 (yd b)]
 refine zP 0 rfl (fun hL0=> ?_)
 refine zP 1 rfl (fun hL1=> ?_)
 refine ze<|za<|zM rfl rfl (zT rfl rfl) (fun b1=> ?_)
 refine zM rfl rfl (zA zr3 rfl) (fun b2=> ?_)
 refine zf<|zc<|ze<|ze<|za<|e_mv rfl<|e_p (zv ye rfl)<|e_ru (zi 1 ty28 rfl rfl rfl)<|e_p (zv ye rfl)<|e_p (zxa rfl rfl)<|zf<|zc<|zD rfl (fun hlen=> ?_) (fun hlen=> ?_)
 ·
  refine ze<|za<|e_mv rfl<|e_p (zv ye rfl)<|e_ru (zi 1 ty28 rfl rfl rfl)<|e_p (zv ye rfl)<|zR rfl rfl (.c rfl (.c rfl .n)) ce230 (zNc (u:=(((yd a).length:Nat):Int)) (v:=(((yd b).length:Nat):Int))) (.n)<|zl 0 rfl rfl rfl rfl rfl sz3 rfl (.take .nil) .z<|zf<|zc<|zG<|zu<|zxf ?_
  exact zx Tryz.results231 () trivial (zyb 0 ty3 rfl rfl rfl) (by rw [Big.cmp_len om]) (ho:=oN) sN
 ·
  replace hlen:(yd a).length=(yd b).length:=by omega
  refine zw<|zc<|ze<|ze<|za<|e_mv rfl<|zm rfl rfl (.c rfl .n) ce156 (zJb (p:=p1) (n:=(yd a).length) (cap:=c1)) (.n) ?_
  rintro b3 -
  dsimp only [aq,nq,cq]
  refine zf<|zc<|zt<|zYd (fa:=[atF b3 0 [.slice p1 ((yd a).length) c1],slF (rI .u32) p1 c1 (yd a)]) (N:=((yd a).length)) (encs:=fun k=>[ya yb ((k:Nat):Int),.int .u32 ((yd a).getD k 0)]) rfl ce220 (back_u32 cbs) (fun _=>rfl) rfl (X:=Unit) (Y:=Unit) (fun x k=>k≤(yd a).length∧(yd a).drop k=(yd b).drop k) (fun y=>True) (fun x=>[boxA b2 3 [ya yb 0],boxA b1 28 [.slice p2 ((yd b).length) c2]]) (fun x=>[slF (rI .u32) p2 c2 (yd b)]) (fun y=>[boxA b2 3 [ya yb (yH (a:Int) (b:Int))],boxA b1 28 [.slice p2 ((yd b).length) c2]]) (fun y=>[atF b3 0 [.slice p1 ((yd a).length) c1],slF (rI .u32) p1 c1 (yd a),slF (rI .u32) p2 c2 (yd b)]) (fun k=>[(6,.int .u32 ((yd a).getD k 0)),(5,ya yb ((k:Nat):Int)),(20,.int .u32 ((yd a).getD k 0)),(19,ya yb ((k:Nat):Int)),(18,.func (.func 220) #[] #[yc (some ⟨b3,0,none⟩)]),(17,.slice p1 ((yd a).length) c1),(11,.bool (decide ((((yd a).length:Nat):Int)≠(((yd b).length:Nat):Int)))),(10,ya yb (((yd b).length:Nat):Int)),(9,.slice p2 ((yd b).length) c2),(8,ya yb (((yd a).length:Nat):Int)),(7,.slice p1 ((yd a).length) c1),(4,yc (some ⟨b2,0,none⟩)),(3,yc (some ⟨b1,0,none⟩)),(0,.slice p1 ((yd a).length) c1),(1,.slice p2 ((yd b).length) c2)]) () (show ((yd a).length)≤(yd a).length∧(yd a).drop ((yd a).length)=(yd b).drop ((yd a).length) from by exact ⟨Nat.le_refl _,by rw [List.drop_length,hlen,List.drop_length]⟩) (ho:=((.of [0,0] rfl):PickO _ _ _)) ((.of [0,1,2] rfl):SelR _ _ _) ?_ ?_ ?_ ?_
  ·
   intro l k O' R' Q' hP
   refine ze<|za<|e_p (zb rfl)<|zf<|zc<|za<|e_p (zb rfl)<|zf ?_
   exact hP
  ·
   rintro l4 D5 o6 o7 ⟨⟩ k hkN hI
   replace hI:(k+1)≤(yd a).length∧(yd a).drop (k+1)=(yd b).drop (k+1):=hI
   try dsimp only
   have hg1:=yn (yq a) k
   have hg2:=yn (yq b) k
   refine zt<|ze<|za<|e_mv rfl<|e_ru (zi 3 ty28 rfl rfl rfl)<|e_mv rfl<|zba (x0:=((yd b).getD k 0)) 2 k rfl ye sz133 rfl rfl rfl cbs rfl rfl (gD (d:=0) om) (fun b8 o9 hok10=> ?_)
   replace hok10:=zy.1 hok10
   refine e_ru (zh (j:=0) 0 ty133 rfl rfl rfl rfl)<|e_p (zxa rfl rfl)<|zf<|zc<|zD rfl (fun hne=> ?_) (fun hne=> ?_)
   ·
    refine ze<|za<|e_mv rfl<|e_ru (zi 3 ty28 rfl rfl rfl)<|e_mv rfl<|zba (x0:=((yd b).getD k 0)) 3 k rfl ye sz133 rfl rfl rfl cbs rfl rfl (gD (d:=0) om) (fun b11 o12 hok13=> ?_)
    replace hok13:=zy.1 hok13
    refine e_ru (zh (j:=0) 0 ty133 rfl rfl rfl rfl)<|zR rfl rfl (.c rfl (.c rfl .n)) ce260 (zfe (u:=((yd a).getD k 0)) (v:=((yd b).getD k 0))) (.n)<|zl 2 rfl rfl rfl rfl rfl sz3 rfl (.take .nil) (.s (.s .z))<|zf<|zc<|zG<|zX ?_
    exact zXd () (show True from by first|trivial|omega) (ho:=((.c (i:=0) rfl (.c (i:=0) rfl (.e (i:=0) rfl (by rw [Big.cmp_at hlen om hI.2 hne]) (.c (i:=0) rfl .n)))):PickO _ _ _)) ((.of [2,3,4] rfl):SelR _ _ _)
   ·
    refine zw<|zK ?_
    exact zWd () (show k≤(yd a).length∧(yd a).drop k=(yd b).drop k from by exact ⟨by omega,Big.drop_more om om hI.2 (Decidable.not_not.1 hne)⟩) (ho:=((.of [0,0,0,0] rfl):PickO _ _ _)) ((.of [1,2,3] rfl):SelR _ _ _)
  ·
   rintro D14 ⟨⟩ hI
   replace hI:0≤(yd a).length∧(yd a).drop 0=(yd b).drop 0:=hI
   try dsimp only
   have heq:(yd a)=(yd b):=by simpa using hI.2
   have hab:=Big.cmp_eq heq
   refine zK<|zc<|ze<|za<|zl 1 rfl rfl rfl rfl rfl sz3 rfl (.take .nil) (.s .z)<|zf<|zc<|zG<|zGe 0 rfl rfl ?_
   exact zx Tryz.results231 () trivial (zyb 0 ty3 rfl rfl rfl) (by rw [hab];simp [yH]) (ho:=oN) sN
  ·
   rintro D15 ⟨⟩ hS
   replace hS:True:=hS
   try dsimp only
   refine zX<|zu<|zGe 0 rfl rfl ?_
   exact zx Tryz.results231 () trivial (zyb 0 ty3 rfl rfl rfl) rfl (ho:=oN) sN
theorem zUe {g:Int}:Con yk 229 [.int .u32 g] [] [] (Y:=Unit) (fun y=>True) (fun y=> .bool (decide (1000000000≤g))) (fun y=>[]) (fun y=>[]):=by
 refine zk Tryz.func229 rfl rfl rfl (fun c=> ?_)
 show RunC _ _ _ _ _ [(0,.int .u32 g)] [] []
 refine ze<|za<|e_p (zb rfl)<|zf<|zc<|ze<|za<|e_mv rfl<|e_p (zTa rfl rfl)<|e_p (zb rfl)<|zf<|zc<|zG ?_
 exact zx Tryz.results229 () trivial (zo rfl) rfl (ho:=oN) sN
theorem zVc {p:Option Addr} {n:Nat} {cap:Nat} {l:List Int} (hn:l.length=n):Con yk 258 [.slice p n cap,.func (.func 229) #[] #[]] [] [slF (rI .u32) p cap l] (Y:=Int) (fun y=>(0≤y↔∃g∈l,1000000000≤g)) (fun y=> ya yb y) (fun y=>[]) (fun y=>[]):=by
 refine zk Tryz.func258 rfl rfl rfl (fun c=> ?_)
 show RunC _ _ _ _ _ [(0,.slice p n cap),(1,.func (.func 229) #[] #[])] [] [slF (rI .u32) p cap l]
 refine zP 0 rfl (fun hL0=> ?_)
 refine ze<|za<|e_p (zb rfl)<|zf<|zc<|ze<|ze<|za<|e_mv rfl<|e_p (zv ye rfl)<|e_mv rfl<|zf<|zc<|zt<|zca (X:=Nat) (fun x:Nat=>x≤n∧∀j,j<x→l.getD j 0<1000000000) (fun x=>[(8,ya yb ((x:Nat):Int)),(7,ya yb ((n:Nat):Int)),(0,.slice p n cap),(1,.func (.func 229) #[] #[])]) (fun x=>[]) (fun x=>[slF (rI .u32) p cap l]) (fun x:Nat=>n - x) 0 (show 0≤n∧∀j,j<0→l.getD j 0<1000000000 from by exact ⟨by omega,fun j h=>by omega⟩) ((.e rfl cgs (.of rfl)):SubM _ _) (ho:=oN) (s0 rfl) ?_
 rintro i hI
 replace hI:i≤n∧∀j,j<i→l.getD j 0<1000000000:=hI
 try dsimp only
 obtain ⟨hi,hall⟩:=hI
 refine ze<|za<|e_p (zY rfl rfl)<|zf<|zc<|ze<|zD rfl (fun h1=> ?_) (fun h1=> ?_)
 ·
  refine zw<|zc<|ze<|zt<|ze<|za<|e_mv rfl<|e_p (zb rfl)<|zf<|zc<|ze<|za<|e_mv rfl<|e_mv rfl<|e_mv rfl<|zba (x0:=(l.getD i 0)) 0 i rfl ye sz133 rfl rfl rfl cbs rfl rfl (gD (d:=0) om) (fun b2 o3 hok4=> ?_)
  replace hok4:=zy.1 hok4
  refine e_ru (zh (j:=0) 0 ty133 rfl rfl rfl rfl)<|zsc (first:=[]) (cap:=[]) rfl rfl rfl (.c rfl .n) ce229 (zUe (g:=(l.getD i 0))) (.n) ?_
  rintro ⟨⟩ -
  dsimp only [aq,nq,cq]
  refine zf<|zc<|zD rfl (fun hb=> ?_) (fun hb=> ?_)
  ·
   refine ze<|za<|e_mv rfl<|e_p (zb rfl)<|zf<|zc<|zG<|zX<|zu<|zu<|zX<|zu ?_
   exact zx Tryz.results258 ((i:Nat):Int) (⟨fun _=>⟨l.getD i 0,Big.getD_mem om,hb⟩,fun _=>by omega⟩) (zo rfl) rfl (ho:=oN) sN
  ·
   refine zw<|zK<|zc<|za<|e_p (zJ (z:=(((i+1):Nat):Int)) rfl rfl (w64 om))<|e_mv rfl<|zf<|zV (i+1) (show (i+1)≤n∧∀j,j<(i+1)→l.getD j 0<1000000000 from by refine ⟨by omega,fun j hj=> ?_⟩;by_cases e:j=i;subst e;omega;exact hall j om) (by show n - (i+1)<n - i;omega) (mR rfl) (ho:=oN) ((.c (j:=1) rfl .n):SelR _ _ _)
 ·
  refine zaa<|zg<|zg<|zp<|zc<|ze<|za<|e_p (zb rfl)<|zf<|zc<|zG ?_
  exact zx Tryz.results258 (-1) (⟨fun h=>by omega,fun ⟨g,hg,hb⟩=>by obtain ⟨j,hj,e⟩:=Big.mem_getD hg;have:=hall j om;omega⟩) (zo rfl) rfl (ho:=oN) sN
theorem zkc {p:Option Addr} {n:Nat} {cap:Nat} {l:List Int} (hn:l.length=n):Con yk 228 [.slice p n cap,.func (.func 229) #[] #[]] [] [slF (rI .u32) p cap l] (Y:=Unit) (fun y=>True) (fun y=> .bool (decide (∃g∈l,1000000000≤g))) (fun y=>[]) (fun y=>[]):=by
 refine zk Tryz.func228 rfl rfl rfl (fun c=> ?_)
 show RunC _ _ _ _ _ [(0,.slice p n cap),(1,.func (.func 229) #[] #[])] [] [slF (rI .u32) p cap l]
 refine zP 0 rfl (fun hL0=> ?_)
 refine ze<|za<|e_p (zb rfl)<|zf<|zc<|ze<|za<|e_mv rfl<|e_mv rfl<|zm rfl rfl (.c rfl (.c rfl .n)) ce258 (zVc (p:=p) (n:=n) (cap:=cap) (l:=l) (hn:=ass)) (.c (j:=0) rfl .n) ?_
 rintro r1 hr
 dsimp only [aq,nq,cq]
 replace hr:(0≤r1↔∃g∈l,1000000000≤g):=hr
 refine e_p (zTa rfl rfl)<|e_p (zb rfl)<|zf<|zc<|zG ?_
 exact zx Tryz.results228 () trivial (zo rfl) (congrArg Value.bool (decide_eq_decide.2 hr.symm)) (ho:=oN) sN
theorem zec {s:Bool} {p:Option Addr} {n:Nat} {cap:Nat} {l:List Int} (hn:l.length=n):Con yk 170 [.agg #[.bool s,.slice p n cap]] [] [slF (rI .u32) p cap l] (Y:=Unit) (fun y=>True) (fun y=> .bool (decide (Big.canon s l))) (fun y=>[]) (fun y=>[]):=by
 refine zk Tryz.func170 rfl rfl rfl (fun c=> ?_)
 show RunC _ _ _ _ _ [(0,.agg #[.bool s,.slice p n cap])] [] [slF (rI .u32) p cap l]
 refine zP 0 rfl (fun hL0=> ?_)
 refine ze<|za<|zM rfl rfl (zT rfl rfl) (fun b1=> ?_)
 refine e_p (zb rfl)<|zf<|zc<|ze<|za<|e_p (zj yl rfl sz28 rfl rfl)<|e_ru (zi 0 ty28 rfl rfl rfl)<|e_p (zv ye rfl)<|e_p (zb rfl)<|zf<|zc<|ze<|ze<|za<|e_mv rfl<|e_p (zna rfl rfl)<|zf<|zc<|zD rfl (fun h0=> ?_) (fun h0=> ?_)
 ·
  refine ze<|za<|e_p (zj yl rfl sz4 rfl rfl)<|e_ru (zi 0 ty4 rfl rfl rfl)<|e_p (zUa rfl)<|e_p (zb rfl)<|zf<|zc<|zG<|zu ?_
  exact zx Tryz.results170 () trivial (zo rfl) (congrArg Value.bool (by have:l.length=0:=om;cases s <;> simp [Big.canon,this])) (ho:=oN) sN
 ·
  refine zw<|zc<|zab (X:=Unit) (fun x=>True) (fun x=>[(2,.bool (decide (((l.getD ((((n:Nat):Int) - 1).toNat) 0)≠0)∧(¬(∃g∈l,1000000000≤g)))))]) (fun x=>[boxA b1 30 [.bool s,.slice p n cap]]) (fun x=>[slF (rI .u32) p cap l]) ?_ ?_
  ·
   refine za<|e_p (zj yl rfl sz28 rfl rfl)<|e_ru (zi 0 ty28 rfl rfl rfl)<|e_mv rfl<|e_p (zha (z:=(((n:Nat):Int) - 1)) rfl rfl (w64 om))<|zba (x0:=(l.getD ((((n:Nat):Int) - 1).toNat) 0)) 0 ((((n:Nat):Int) - 1).toNat) rfl ye sz133 rfl rfl rfl cbs rfl om (gD (d:=0) om) (fun b2 o3 hok4=> ?_)
   replace hok4:=zy.1 hok4
   refine e_ru (zh (j:=0) 0 ty133 rfl rfl rfl rfl)<|e_p (zxa rfl rfl)<|zga rfl rfl (zja rfl) (fun h5=> ?_) (fun h5=> ?_)
   ·
    refine e_p (zj yl rfl sz28 rfl rfl)<|e_ru (zi 0 ty28 rfl rfl rfl)<|zR rfl rfl (.c rfl (.c rfl .n)) ce228 (zkc (p:=p) (n:=n) (cap:=cap) (l:=l) (hn:=ass)) (.c (j:=1) rfl .n)<|e_p (zPb rfl)<|e_p (zE rfl rfl)<|e_p (zb rfl)<|zf ?_
    exact zla () tt9 ((.e rfl (congrArg Value.bool (by simp_all)) .n):SubM _ _) (ho:=(o0 rfl)) ((.c (j:=1) rfl .n):SelR _ _ _)
   ·
    refine e_no<|e_no<|e_no<|e_no<|e_p (zE rfl rfl)<|e_p (zb rfl)<|zf ?_
    exact zla () tt9 ((.e rfl (congrArg Value.bool (by simp_all)) .n):SubM _ _) (ho:=(o0 rfl)) ((.c (j:=1) rfl .n):SelR _ _ _)
  ·
   rintro ⟨⟩ -
   try dsimp only
   refine zG ?_
   exact zx Tryz.results170 () trivial (zo rfl) (congrArg Value.bool (decide_eq_decide.2 (by rw [Big.canon_more om,hn];have e:((n:Int) - 1).toNat=n - 1:=om;simp [e]))) (ho:=oN) sN
theorem zVe {z:Int} {p:Option Addr} {cap:Nat}:Con yk 170 [.agg #[.bool (decide ((z)<0)),.slice (p) ((yd ((z).natAbs)).length) (cap)]] [] [slF (rI .u32) (p) (cap) (yd ((z).natAbs))] (Y:=Unit) (fun y=>True) (fun y=> .bool true) (fun y=>[]) (fun y=>[]):=by
  have h:= @zec (decide ((z)<0)) p (yd (z).natAbs).length cap (yd (z).natAbs) rfl
  rw [decide_eq_true (Big.canon_digs z)] at h
  exact h
theorem zWe {w1:Wd} {x1:Int}:Con yk 170 [.agg #[w1.b,w1.l]] [] [zF w1 (x1)] (Y:=Unit) (fun y=>True) (fun y=> .bool true) (fun y=>[]) (fun y=>[]):=by
  exact zYc (fun p c=>zVe)
theorem zLa {s:Bool} {p:Option Addr} {n:Nat} {cap:Nat} {l:List Int} (hn:l.length=n):Con yk 155 [.agg #[.bool s,.slice p n cap]] [] [slF (rI .u32) p cap l] (Y:=(Option Addr)×Nat) (fun y=>True) (fun y=> .slice (y.1) ((yd ((yh s l).natAbs)).length) (y.2)) (fun y=>[]) (fun y=>[slF (rI .u32) (y.1) (y.2) (yd ((yh s l).natAbs))]):=by
 refine zk Tryz.func155 rfl rfl rfl (fun c=> ?_)
 show RunC _ _ _ _ _ [(0,.agg #[.bool s,.slice p n cap])] [] [slF (rI .u32) p cap l]
 refine zP 0 rfl (fun hL0=> ?_)
 refine zOa 0 rfl (fun hE0=> ?_)
 have hnn:yG l:=fun g hg=>(zy.1 (hE0 g hg)).1
 refine ze<|za<|zM rfl rfl (zT rfl rfl) (fun b1=> ?_)
 refine e_p (zb rfl)<|zf<|zc<|ze<|ze<|za<|e_ru (zd 0 ty30 rfl rfl (.t2 .nil))<|zR rfl rfl (.c rfl .n) ce170 (zec (s:=s) (p:=p) (n:=n) (cap:=cap) (l:=l) (hn:=ass)) (.c (j:=0) rfl .n)<|e_p (zPb rfl)<|zf<|zc<|zD rfl (fun hc=> ?_) (fun hc=> ?_)
 ·
  refine ze<|za<|e_p (zb rfl)<|zf<|zc<|zG<|zu ?_
  have hd:yd (yh s l).natAbs=[]:=by rw [Big.raw_digs hnn,if_neg hc]
  refine zOb (rI .u32) ?_
  exact zx Tryz.results155 (none,0) trivial (zo rfl) (by rw [hd];rfl) (ho:=oN) ((.e (j:=0) rfl (by rw [hd]) .n):SelR _ _ _)
 ·
  refine zw<|zc<|ze<|za<|e_p (zj yl rfl sz28 rfl rfl)<|e_ru (zi 0 ty28 rfl rfl rfl)<|e_p (zb rfl)<|zf<|zc<|zG ?_
  have hd:yd (yh s l).natAbs=l:=by rw [Big.raw_digs hnn,if_pos (Decidable.not_not.1 hc)]
  exact zx Tryz.results155 (p,cap) trivial (zo rfl) (by rw [hd,hn]) (ho:=oN) ((.e (j:=0) rfl (by rw [hd]) .n):SelR _ _ _)
theorem zBb {z:Int} {p:Option Addr} {cap:Nat}:Con yk 155 [.agg #[.bool (decide ((z)<0)),.slice (p) ((yd ((z).natAbs)).length) (cap)]] [] [slF (rI .u32) (p) (cap) (yd ((z).natAbs))] (Y:=(Option Addr)×(Nat)) (fun y=>True) (fun y=> .slice (y.1) ((yd ((z).natAbs)).length) (y.2)) (fun y=>[]) (fun y=>[slF (rI .u32) (y.1) (y.2) (yd ((z).natAbs))]):=by
  have h:= @zLa (decide ((z)<0)) p (yd (z).natAbs).length cap (yd (z).natAbs) rfl
  rw [yr] at h
  exact h
theorem zsg {s:Bool} {p:Option Addr} {n:Nat} {cap:Nat} {l:List Int} (hn:l.length=n) (ho:yu l):Con yk 208 [.bool s,.slice p n cap] [] [slF (rI .u32) p cap l] (Y:=(Option Addr)×Nat) (fun y=>True) (fun y=> .agg #[.bool (decide ((yt s (yf l))<0)),.slice (y.1) ((yd ((yt s (yf l)).natAbs)).length) (y.2)]) (fun y=>[]) (fun y=>[slF (rI .u32) (y.1) (y.2) (yd ((yt s (yf l)).natAbs))]):=by
 refine zk Tryz.func208 rfl rfl rfl (fun c=> ?_)
 show RunC _ _ _ _ _ [(0,.bool s),(1,.slice p n cap)] [] [slF (rI .u32) p cap l]
 refine zP 0 rfl (fun hL0=> ?_)
 have htr:yo l=yd (yt s (yf l)).natAbs:=by rw [Big.sg_abs (Big.valL_nonneg ho),Big.digs_valL ho]
 refine ze<|za<|zM rfl rfl (zA zr30 rfl) (fun b1=> ?_)
 refine zf<|zc<|ze<|za<|e_mv rfl<|zm rfl rfl (.c rfl .n) ce250 (zAb (p:=p) (n:=n) (cap:=cap) (l:=l) (hn:=ass)) (.c (j:=0) rfl .n) ?_
 rintro ⟨⟩ -
 dsimp only [aq,nq,cq]
 refine e_p (zb rfl)<|zf<|zc<|ze<|ze<|za<|e_mv rfl<|e_p (zv ye rfl)<|e_p (zna rfl rfl)<|zf<|zc<|zD rfl (fun h0=> ?_) (fun h0=> ?_)
 ·
  refine ze<|za<|e_p (zZ zr30 rfl yl (.c sz4 (.c sz28 .n)) .n .n)<|zl 0 rfl rfl rfl rfl rfl sz30 rfl (.t2 .nil) .z<|zf<|zc<|zG<|zu ?_
  have hz:yf l=0:=Big.trim_zero ho om
  refine zOb (rI .u32) ?_
  exact zx Tryz.results208 (none,0) trivial (zq 0 ty30 rfl rfl (.t2 .nil)) (by rw [hz,Big.sg_zero];rfl) (ho:=oN) ((.e (j:=0) rfl (by rw [hz,Big.sg_zero];rfl) .n):SelR _ _ _)
 ·
  refine zw<|zc<|ze<|za<|e_mv rfl<|e_mv rfl<|e_p (zZ zr30 rfl yl (.c sz4 (.c sz28 .n)) (.c rfl (.c rfl .n)) (.c rfl rfl rfl (.take .nil) (.c rfl rfl rfl (.skip (.take .nil)) .n)))<|zl 0 rfl rfl rfl rfl rfl sz30 rfl (.t2 .nil) .z<|zf<|zc<|zG ?_
  have hp:0<yf l:=Big.valL_pos ho (fun e=>h0 (by rw [e];rfl))
  exact zx Tryz.results208 (p,cap) trivial (zq 0 ty30 rfl rfl (.t2 .nil)) (by rw [Big.sg_pos hp,htr]) (ho:=oN) ((.e (j:=0) rfl (by rw [htr]) .n):SelR _ _ _)
theorem zza {s:Bool} {a:Nat} {p:Option Addr} {cap:Nat}:Con yk 208 [.bool (s),.slice (p) ((yd (a)).length) (cap)] [] [slF (rI .u32) (p) (cap) (yd (a))] (Y:=(Option Addr)×(Nat)) (fun y=>True) (fun y=> .agg #[.bool (decide ((yt s (a:Int))<0)),.slice (y.1) ((yd ((yt s (a:Int)).natAbs)).length) (y.2)]) (fun y=>[]) (fun y=>[slF (rI .u32) (y.1) (y.2) (yd ((yt s (a:Int)).natAbs))]):=by
  have h:= @zsg s p (yd a).length cap (yd a) rfl (yq a)
  rw [yx] at h
  exact h
theorem zxb {n0:Nat} (hn0:n0<18446744073709551616):Con yk 209 [.int .u64 ((n0:Nat):Int)] [] [] (Y:=(Option Addr)×Nat) (fun y=>True) (fun y=> .slice (y.1) ((yd n0).length) (y.2)) (fun y=>[]) (fun y=>[slF (rI .u32) (y.1) (y.2) (yd n0)]):=by
 refine zk Tryz.func209 rfl rfl rfl (fun c=> ?_)
 show RunC _ _ _ _ _ [(0,.int .u64 ((n0:Nat):Int))] [] []
 refine ze<|za<|e_p (zb rfl)<|zf<|zc<|ze<|za<|e_p (zb rfl)<|zf<|zc<|ze<|zt<|zXb 133 (rI .u32)<|zca (X:=Nat×(Option Addr)×Nat×(List Int)) (fun x:Nat×(Option Addr)×Nat×(List Int)=>x.1≤n0∧x.2.2.2++yd x.1=yd n0) (fun x=>[(3,.slice (x.2.1) (x.2.2.2.length) (x.2.2.1)),(0,.int .u64 ((x.1:Nat):Int)),(2,.slice none 0 0)]) (fun x=>[rowA 133 (rI .u32) (x.2.1) (x.2.2.1) (x.2.2.2)]) (fun x=>[]) (fun x:Nat×(Option Addr)×Nat×(List Int)=>x.1) (n0,none,0,[]) (show n0≤n0∧([])++yd n0=yd n0 from by exact ⟨Nat.le_refl _,rfl⟩) ((.e rfl cgs (.c rfl (.c rfl .n))):SubM _ _) (ho:=(o0 rfl)) sN ?_
 rintro ⟨n,p,c,os⟩ hI
 replace hI:n≤n0∧os++yd n=yd n0:=hI
 try dsimp only
 obtain ⟨hnn,hos⟩:=hI
 have hlen:os.length+(yd n).length≤3:=by have:=congrArg List.length hos;rw [List.length_append] at this;have:=Big.zEf hn0;omega
 refine ze<|ze<|za<|e_mv rfl<|e_p (zra rfl rfl)<|zf<|zc<|zD rfl (fun hc=> ?_) (fun hc=> ?_)
 ·
  refine zw<|zc<|ze<|zt<|za<|e_mv rfl<|e_mv rfl<|e_p (zbb (z:=(((n%1000000000):Nat):Int)) rfl rfl om (remN om om))<|e_p (zH (z:=(((n%1000000000):Nat):Int)) rfl (by rw [yi];rfl) yg (wu32 om))<|zma rfl rfl (zda (enc:=fun z:Int=>[.int .u32 z]) (ok:=InK .u32) (h1:=fun _=>rfl) (h2:=fun _=>rfl) (k:=1) ye inf133 rfl dd dd dd (.c (x:=(((n%1000000000):Nat):Int)) rfl rfl (fun _ _=>by exact zy.2 om) .n)) (fun b1 _=> ?_)
  refine zea 0 rfl .z<|zya 1 rfl rfl rfl (zsa 0 rfl ye inf133 dd rfl rfl cbs rfl cbs om om) (fun _=>(.s .z)) ?_
  rintro ⟨p2,c3⟩ -
  dsimp only [aq,nq,cq]
  refine e_p (zb rfl)<|zf<|zK<|zc<|za<|e_mv rfl<|e_p (zfb (z:=(((n / 1000000000):Nat):Int)) rfl rfl om (by rw [quoN (z:=(((n / 1000000000):Nat):Int)) om om];exact wu64 om))<|e_p (zb rfl)<|zf<|zV ((n / 1000000000),p2,c3,os++[((n%1000000000:Nat):Int)]) (show (n / 1000000000)≤n0∧(os++[((n%1000000000:Nat):Int)])++yd (n / 1000000000)=yd n0 from by exact ⟨by omega,Big.split_step om hos⟩) (by show n / 1000000000<n;omega) ((.e rfl (by simp) (.c rfl (.c rfl .n))):SubM _ _) (ho:=((.e (i:=1) rfl cgs .n):PickO _ _ _)) sN
 ·
  refine zaa<|zg<|zg<|zp<|zc<|ze<|za<|e_mv rfl<|e_p (zb rfl)<|zf<|zc<|zG ?_
  have hz:n=0:=by omega
  subst hz
  have hd:os=yd n0:=by simpa [yJ] using hos
  refine zjb 0 rfl .z ?_
  exact zx Tryz.results209 (p,c) trivial (zo rfl) (by rw [hd]) (ho:=oN) ((.e (j:=0) rfl (by rw [hd]) .n):SelR _ _ _)
theorem zUg {z:Int} (hz: -9223372036854775808≤z∧z≤9223372036854775807):Con yk 130 [ya yb z] [] [] (Y:=(Option Addr)×Nat) (fun y=>True) (fun y=> .agg #[.bool (decide (z<0)),.slice (y.1) ((yd ((z).natAbs)).length) (y.2)]) (fun y=>[]) (fun y=>[slF (rI .u32) (y.1) (y.2) (yd ((z).natAbs))]):=by
 refine zk Tryz.func130 rfl rfl rfl (fun c=> ?_)
 show RunC _ _ _ _ _ [(0,ya yb z)] [] []
 refine ze<|za<|zM rfl rfl (zA zr30 rfl) (fun b1=> ?_)
 refine zf<|zc<|ze<|za<|e_mv rfl<|e_p (zH (z:=(z%18446744073709551616)) rfl (by rw [Tryz.underlying3];rfl) yi (wu64m om))<|e_p (zb rfl)<|zf<|zc<|ze<|ze<|za<|e_mv rfl<|e_p (zY rfl rfl)<|zf<|zc<|zD rfl (fun hs=> ?_) (fun hs=> ?_)
 ·
  refine za<|e_mv rfl<|e_p (zAe (z:=((z.natAbs:Nat):Int)) rfl (wu64m om))<|e_p (zb rfl)<|zf<|zc<|ze<|za<|e_mv rfl<|e_p (zY rfl rfl)<|e_mv rfl<|zm rfl rfl (.c rfl .n) ce209 (zxb (n0:=z.natAbs) (hn0:=om)) (.n) ?_
  rintro ⟨p22,c23⟩ -
  dsimp only [aq,nq,cq]
  refine zm rfl rfl (.c rfl (.c rfl .n)) ce208 (zza (s:=decide (z<0)) (a:=z.natAbs) (p:=p22) (cap:=c23)) (.c (j:=0) rfl .n) ?_
  rintro ⟨p24,c25⟩ -
  dsimp only [aq,nq,cq]
  refine zl 0 rfl rfl rfl rfl rfl sz30 rfl (.t2 .nil) .z<|zf<|zc<|zG ?_
  have hsg:yt (decide (z<0)) (z.natAbs:Int)=z:=Big.sg_big z
  exact zx Tryz.results130 (p24,c25) trivial (zq 0 ty30 rfl rfl (.t2 .nil)) (by rw [hsg]) (ho:=oN) ((.e (j:=0) rfl (by rw [hsg]) .n):SelR _ _ _)
 ·
  have e6:((z%18446744073709551616):Int)=((z.natAbs:Nat):Int):=by omega
  rw [e6]
  refine zw<|zc<|ze<|za<|e_mv rfl<|e_p (zY rfl rfl)<|e_mv rfl<|zm rfl rfl (.c rfl .n) ce209 (zxb (n0:=z.natAbs) (hn0:=om)) (.n) ?_
  rintro ⟨p27,c28⟩ -
  dsimp only [aq,nq,cq]
  refine zm rfl rfl (.c rfl (.c rfl .n)) ce208 (zza (s:=decide (z<0)) (a:=z.natAbs) (p:=p27) (cap:=c28)) (.c (j:=0) rfl .n) ?_
  rintro ⟨p29,c210⟩ -
  dsimp only [aq,nq,cq]
  refine zl 0 rfl rfl rfl rfl rfl sz30 rfl (.t2 .nil) .z<|zf<|zc<|zG ?_
  have hsg:yt (decide (z<0)) (z.natAbs:Int)=z:=Big.sg_big z
  exact zx Tryz.results130 (p29,c210) trivial (zq 0 ty30 rfl rfl (.t2 .nil)) (by rw [hsg]) (ho:=oN) ((.e (j:=0) rfl (by rw [hsg]) .n):SelR _ _ _)
theorem zmd {z:Int} (hz: -9223372036854775808≤z∧z≤9223372036854775807):Con yk 130 [ya yb (z)] [] [] (Y:=(Wd)) (fun y=>True) (fun y=> .agg #[y.b,y.l]) (fun y=>[]) (fun y=>[zF y (z)]):=by
  exact zIb (zUg hz)
theorem zOc {a:Nat} {b:Nat} {p1:Option Addr} {c1:Nat} {p2:Option Addr} {c2:Nat} (hb1:(yd a).length≤4398046511104) (hb2:(yd b).length≤4398046511104) (hab:b≤a):Con yk 223 [.slice p1 ((yd a).length) c1,.slice p2 ((yd b).length) c2] [] [slF (rI .u32) p1 c1 (yd a),slF (rI .u32) p2 c2 (yd b)] (Y:=(Option Addr)×Nat) (fun y=>True) (fun y=> .slice (y.1) ((yd (a - b)).length) (y.2)) (fun y=>[]) (fun y=>[slF (rI .u32) (y.1) (y.2) (yd (a - b))]):=by
 refine zk Tryz.func223 rfl rfl rfl (fun c=> ?_)
 show RunC _ _ _ _ _ [(0,.slice p1 ((yd a).length) c1),(1,.slice p2 ((yd b).length) c2)] [] [slF (rI .u32) p1 c1 (yd a),slF (rI .u32) p2 c2 (yd b)]
 refine zP 0 rfl (fun hL0=> ?_)
 refine zP 1 rfl (fun hL1=> ?_)
 refine ze<|za<|e_p (zb rfl)<|zf<|zc<|ze<|za<|e_mv rfl<|e_p (zv ye rfl)<|zma rfl rfl (zua (r:=rI .u32) (k:=(yd a).length) (x0:=0) (γ0:=()) ye inf133 rfl rfl rfl rfl om om rfl (fun g _=>by exact zy.2 dd) dd) (fun b1 _=> ?_)
 refine e_p (zb rfl)<|zf<|zc<|ze<|za<|e_p (zb rfl)<|zf<|zc<|ze<|ze<|za<|e_mv rfl<|e_p (zv ye rfl)<|e_mv rfl<|zf<|zc<|zt<|zca (X:=Nat×(List Int)×Int) (fun x:Nat×(List Int)×Int=>x.1≤(yd a).length∧x.2.1.length=x.1∧0≤x.2.2∧x.2.2≤1∧yu x.2.1∧yf x.2.1+yf ((yd b).take x.1)=yf ((yd a).take x.1)+yA x.1*x.2.2) (fun x=>[(6,.int .u32 (x.2.2)),(14,ya yb ((x.1:Nat):Int)),(13,ya yb (((yd a).length:Nat):Int)),(5,.slice (some ⟨b1,0,none⟩) ((yd a).length) ((yd a).length)),(4,.slice none 0 0),(0,.slice p1 ((yd a).length) c1),(1,.slice p2 ((yd b).length) c2)]) (fun x=>[rowA 133 (rI .u32) (some ⟨b1,0,none⟩) ((yd a).length) (x.2.1++List.replicate ((yd a).length - x.1) 0)]) (fun x=>[slF (rI .u32) p1 c1 (yd a),slF (rI .u32) p2 c2 (yd b)]) (fun x:Nat×(List Int)×Int=>(yd a).length - x.1) (0,[],0) (show 0≤(yd a).length∧([]).length=0∧0≤0∧0≤1∧yu ([])∧yf ([])+yf ((yd b).take 0)=yf ((yd a).take 0)+yA 0*0 from by exact ⟨by omega,rfl,by decide,by decide,Big.okL_nil,by simp [yf]⟩) ((.c rfl (.e rfl cgs (.of rfl))):SubM _ _) (ho:=((.e (i:=0) rfl (by simp) .n):PickO _ _ _)) ((.of [0,1] rfl):SelR _ _ _) ?_
 rintro ⟨i,os,bo⟩ hI
 replace hI:i≤(yd a).length∧os.length=i∧0≤bo∧bo≤1∧yu os∧yf os+yf ((yd b).take i)=yf ((yd a).take i)+yA i*bo:=hI
 try dsimp only
 obtain ⟨hi,hol,hc0,hc1,hok,hv⟩:=hI
 have hg1:=yn (yq a) i
 have hg2:=yn (yq b) i
 refine ze<|za<|e_p (zY rfl rfl)<|zf<|zc<|ze<|zD rfl (fun h2=> ?_) (fun h2=> ?_)
 ·
  refine zw<|zc<|ze<|zt<|ze<|za<|e_mv rfl<|e_p (zb rfl)<|zf<|zc<|ze<|za<|e_mv rfl<|e_mv rfl<|zR rfl rfl (.c rfl (.c rfl .n)) ce257 (zMe (p:=p2) (n:=(yd b).length) (cap:=c2) (l:=yd b) (i:=i) (hn:=cbb) (hi:=cbb)) (.c (j:=1) rfl .n)<|e_mv rfl<|e_p (zJ (z:=((yd b).getD i 0+bo)) rfl rfl (wu32 om))<|e_p (zb rfl)<|zf<|zc<|ze<|za<|e_p (zb rfl)<|zf<|zc<|ze<|za<|e_mv rfl<|e_mv rfl<|zba (x0:=((yd a).getD i 0)) 0 i rfl ye sz133 rfl rfl rfl (by first|rfl|assumption|(simp;omega)) rfl rfl (gD (d:=0) om) (fun b3 o4 hok5=> ?_)
  replace hok5:=zy.1 hok5
  refine e_ru (zh (j:=0) 0 ty133 rfl rfl rfl rfl)<|e_mv rfl<|e_p (zY rfl rfl)<|zf<|zc<|zD rfl (fun hc=> ?_) (fun hc=> ?_)
  ·
   refine za<|e_mv rfl<|e_mv rfl<|e_mv rfl<|e_mv rfl<|zba (x0:=((yd a).getD i 0)) 1 i rfl ye sz133 rfl rfl rfl (by first|rfl|assumption|(simp;omega)) rfl rfl (gD (d:=0) om) (fun b6 o7 hok8=> ?_)
   replace hok8:=zy.1 hok8
   refine e_ru (zh (j:=0) 0 ty133 rfl rfl rfl rfl)<|e_p (zJ (z:=(((yd a).getD i 0)+1000000000)) rfl rfl (wu32 om))<|e_mv rfl<|e_p (zha (z:=((((yd a).getD i 0)+1000000000) - ((yd b).getD i 0+bo))) rfl rfl (wu32 om))<|e_p (zI (j:=i) ye sz133 rfl rfl rfl om)<|zya 0 rfl rfl rfl (zL (j:=i) (x0:=((((yd a).getD i 0)+1000000000) - ((yd b).getD i 0+bo))) (γ0:=()) rfl rfl (by first|omega|(rw [List.length_map];omega)|(simp only [List.length_set];omega)|(simp;done)|(simp;omega)) rfl rfl sz133 (fun _ _=>by exact zy.2 om)) (fun _=> .z) (fun _ _=> ?_)
   refine e_p (zb rfl)<|zf<|zK<|zc<|za<|e_p (zJ (z:=(((i+1):Nat):Int)) rfl rfl (w64 om))<|e_mv rfl<|zf<|zV ((i+1),os++[(yd a).getD i 0+1000000000 - ((yd b).getD i 0+bo)],1) (show (i+1)≤(yd a).length∧(os++[(yd a).getD i 0+1000000000 - ((yd b).getD i 0+bo)]).length=(i+1)∧0≤1∧1≤1∧yu (os++[(yd a).getD i 0+1000000000 - ((yd b).getD i 0+bo)])∧yf (os++[(yd a).getD i 0+1000000000 - ((yd b).getD i 0+bo)])+yf ((yd b).take (i+1))=yf ((yd a).take (i+1))+yA (i+1)*1 from by exact ⟨by omega,by simp [hol],by decide,by decide,yO hok om om,Big.minus_step hol hv om⟩) (by show (yd a).length - (i+1)<(yd a).length - i;omega) (mR rfl) (ho:=((.e (i:=0) rfl (by rw [Big.set_pad hol om]) .n):PickO _ _ _)) ((.of [2,3] rfl):SelR _ _ _)
  ·
   refine za<|e_mv rfl<|e_mv rfl<|e_mv rfl<|e_mv rfl<|zba (x0:=((yd a).getD i 0)) 1 i rfl ye sz133 rfl rfl rfl (by first|rfl|assumption|(simp;omega)) rfl rfl (gD (d:=0) om) (fun b9 o10 hok11=> ?_)
   replace hok11:=zy.1 hok11
   refine e_ru (zh (j:=0) 0 ty133 rfl rfl rfl rfl)<|e_mv rfl<|e_p (zha (z:=(((yd a).getD i 0) - ((yd b).getD i 0+bo))) rfl rfl (wu32 om))<|e_p (zI (j:=i) ye sz133 rfl rfl rfl om)<|zya 0 rfl rfl rfl (zL (j:=i) (x0:=(((yd a).getD i 0) - ((yd b).getD i 0+bo))) (γ0:=()) rfl rfl (by first|omega|(rw [List.length_map];omega)|(simp only [List.length_set];omega)|(simp;done)|(simp;omega)) rfl rfl sz133 (fun _ _=>by exact zy.2 om)) (fun _=> .z) (fun _ _=> ?_)
   refine zf<|zK<|zc<|za<|e_p (zJ (z:=(((i+1):Nat):Int)) rfl rfl (w64 om))<|e_mv rfl<|zf<|zV ((i+1),os++[(yd a).getD i 0 - ((yd b).getD i 0+bo)],0) (show (i+1)≤(yd a).length∧(os++[(yd a).getD i 0 - ((yd b).getD i 0+bo)]).length=(i+1)∧0≤0∧0≤1∧yu (os++[(yd a).getD i 0 - ((yd b).getD i 0+bo)])∧yf (os++[(yd a).getD i 0 - ((yd b).getD i 0+bo)])+yf ((yd b).take (i+1))=yf ((yd a).take (i+1))+yA (i+1)*0 from by exact ⟨by omega,by simp [hol],by decide,by decide,yO hok om om,Big.minus_step hol hv om⟩) (by show (yd a).length - (i+1)<(yd a).length - i;omega) (mR rfl) (ho:=((.e (i:=0) rfl (by rw [Big.set_pad hol om]) .n):PickO _ _ _)) ((.of [2,3] rfl):SelR _ _ _)
 ·
  have e12:os++List.replicate ((yd a).length - i) 0=os:=by rw [show (yd a).length - i=0 by omega];simp
  rw [e12]
  have htr:yo os=yd (a - b):=Big.minus_fin hab hok hc0 hol om hv
  refine zaa<|zg<|zg<|zp<|zc<|ze<|za<|e_mv rfl<|zea 0 rfl .z<|zm rfl rfl (.c rfl .n) ce250 (zAb (p:=some ⟨b1,0,none⟩) (n:=(yd a).length) (cap:=(yd a).length) (l:=os) (hn:=cbb)) (.c (j:=0) rfl .n) ?_
  rintro ⟨⟩ -
  dsimp only [aq,nq,cq]
  refine e_p (zb rfl)<|zf<|zc<|zG ?_
  exact zx Tryz.results223 ((some ⟨b1,0,none⟩),((yd a).length)) trivial (zo rfl) (by rw [htr]) (ho:=oN) ((.e (j:=0) rfl (by rw [htr]) .n):SelR _ _ _)
theorem zYg {s:Bool} {t:Bool} {a:Nat} {b:Nat} {p1:Option Addr} {c1:Nat} {p2:Option Addr} {c2:Nat} (hb1:(yd a).length≤4398046511104) (hb2:(yd b).length≤4398046511104):Con yk 215 [.bool s,.slice p1 ((yd a).length) c1,.bool t,.slice p2 ((yd b).length) c2] [] [slF (rI .u32) p1 c1 (yd a),slF (rI .u32) p2 c2 (yd b)] (Y:=(Option Addr)×Nat) (fun y=>True) (fun y=> .agg #[.bool (decide ((yt s (a:Int)+yt t (b:Int))<0)),.slice (y.1) ((yd ((yt s (a:Int)+yt t (b:Int)).natAbs)).length) (y.2)]) (fun y=>[]) (fun y=>[slF (rI .u32) (y.1) (y.2) (yd ((yt s (a:Int)+yt t (b:Int)).natAbs))]):=by
 refine zk Tryz.func215 rfl rfl rfl (fun c=> ?_)
 show RunC _ _ _ _ _ [(0,.bool s),(1,.slice p1 ((yd a).length) c1),(2,.bool t),(3,.slice p2 ((yd b).length) c2)] [] [slF (rI .u32) p1 c1 (yd a),slF (rI .u32) p2 c2 (yd b)]
 refine zP 0 rfl (fun hL0=> ?_)
 refine zP 1 rfl (fun hL1=> ?_)
 refine ze<|za<|zM rfl rfl (zA zr30 rfl) (fun b1=> ?_)
 refine zf<|zc<|ze<|zt<|ze<|za<|e_mv rfl<|e_mv rfl<|e_p (zDc yv rfl rfl)<|e_p (zb rfl)<|zf<|zc<|zD rfl (fun hst=> ?_) (fun hst=> ?_)
 ·
  refine ze<|za<|e_mv rfl<|e_mv rfl<|e_mv rfl<|zm rfl rfl (.c rfl (.c rfl .n)) ce222 (zId (a:=a) (b:=b) (p1:=p1) (c1:=c1) (p2:=p2) (c2:=c2) (hb1:=ass) (hb2:=ass)) (.c (j:=0) rfl (.c (j:=1) rfl .n)) ?_
  rintro ⟨p32,c33⟩ -
  dsimp only [aq,nq,cq]
  refine zm rfl rfl (.c rfl (.c rfl .n)) ce208 (zza (s:=s) (a:=a+b) (p:=p32) (cap:=c33)) (.c (j:=0) rfl .n) ?_
  rintro ⟨p24,c25⟩ -
  dsimp only [aq,nq,cq]
  refine zl 0 rfl rfl rfl rfl rfl sz30 rfl (.t2 .nil) .z<|zf<|zc<|zG<|zX<|zu ?_
  have hz:yt s ((a+b:Nat):Int)=yt s (a:Int)+yt t (b:Int):=by rw [← hst];unfold yt;split <;> omega
  exact zx Tryz.results215 (p24,c25) trivial (zq 0 ty30 rfl rfl (.t2 .nil)) (by rw [hz]) (ho:=oN) ((.e (j:=0) rfl (by rw [hz]) .n):SelR _ _ _)
 ·
  refine ze<|za<|e_mv rfl<|e_mv rfl<|zR rfl rfl (.c rfl (.c rfl .n)) ce231 (zSb (a:=a) (b:=b) (p1:=p1) (c1:=c1) (p2:=p2) (c2:=c2)) (.c (j:=0) rfl (.c (j:=1) rfl .n))<|e_p (zTa rfl rfl)<|e_p (zb rfl)<|zf<|zc<|zD rfl (fun hcmp=> ?_) (fun hcmp=> ?_)
  ·
   have hab:b≤a:=by have:=Big.cmp_ge.1 hcmp;omega
   refine ze<|za<|e_mv rfl<|e_mv rfl<|e_mv rfl<|zm rfl rfl (.c rfl (.c rfl .n)) ce223 (zOc (a:=a) (b:=b) (p1:=p1) (c1:=c1) (p2:=p2) (c2:=c2) (hb1:=ass) (hb2:=ass) (hab:=cbb)) (.c (j:=0) rfl (.c (j:=1) rfl .n)) ?_
   rintro ⟨p36,c37⟩ -
   dsimp only [aq,nq,cq]
   refine zm rfl rfl (.c rfl (.c rfl .n)) ce208 (zza (s:=s) (a:=a - b) (p:=p36) (cap:=c37)) (.c (j:=0) rfl .n) ?_
   rintro ⟨p28,c29⟩ -
   dsimp only [aq,nq,cq]
   refine zl 0 rfl rfl rfl rfl rfl sz30 rfl (.t2 .nil) .z<|zf<|zc<|zG<|zX<|zu ?_
   have hz:yt s ((a - b:Nat):Int)=yt s (a:Int)+yt t (b:Int):=by revert hst;unfold yt;cases s <;> cases t <;> simp <;> omega
   exact zx Tryz.results215 (p28,c29) trivial (zq 0 ty30 rfl rfl (.t2 .nil)) (by rw [hz]) (ho:=oN) ((.e (j:=0) rfl (by rw [hz]) .n):SelR _ _ _)
  ·
   have hab:a≤b:=by have:¬(b:Int)≤a:=fun h=>hcmp (Big.cmp_ge.2 h);omega
   refine zw<|zK<|zc<|ze<|za<|e_mv rfl<|e_mv rfl<|e_mv rfl<|zm rfl rfl (.c rfl (.c rfl .n)) ce223 (zOc (a:=b) (b:=a) (p1:=p2) (c1:=c2) (p2:=p1) (c2:=c1) (hb1:=ass) (hb2:=ass) (hab:=cbb)) (.c (j:=1) rfl (.c (j:=0) rfl .n)) ?_
   rintro ⟨p310,c311⟩ -
   dsimp only [aq,nq,cq]
   refine zm rfl rfl (.c rfl (.c rfl .n)) ce208 (zza (s:=t) (a:=b - a) (p:=p310) (cap:=c311)) (.c (j:=0) rfl .n) ?_
   rintro ⟨p212,c213⟩ -
   dsimp only [aq,nq,cq]
   refine zl 0 rfl rfl rfl rfl rfl sz30 rfl (.t2 .nil) .z<|zf<|zc<|zG ?_
   have hz:yt t ((b - a:Nat):Int)=yt s (a:Int)+yt t (b:Int):=by revert hst;unfold yt;cases s <;> cases t <;> simp <;> omega
   exact zx Tryz.results215 (p212,c213) trivial (zq 0 ty30 rfl rfl (.t2 .nil)) (by rw [hz]) (ho:=oN) ((.e (j:=0) rfl (by rw [hz]) .n):SelR _ _ _)
theorem zJd {a:Nat} {b:Nat} {p1:Option Addr} {c1:Nat} {p2:Option Addr} {c2:Nat} (hb1:(yd a).length≤4398046511104) (hb2:(yd b).length≤4398046511104):Con yk 214 [.slice p1 ((yd a).length) c1,.slice p2 ((yd b).length) c2] [] [slF (rI .u32) p1 c1 (yd a),slF (rI .u32) p2 c2 (yd b)] (Y:=(Option Addr)×Nat) (fun y=>True) (fun y=> .slice (y.1) ((yd (a*b)).length) (y.2)) (fun y=>[]) (fun y=>[slF (rI .u32) (y.1) (y.2) (yd (a*b))]):=by
 refine zk Tryz.func214 rfl rfl rfl (fun c=> ?_)
 show RunC _ _ _ _ _ [(0,.slice p1 ((yd a).length) c1),(1,.slice p2 ((yd b).length) c2)] [] [slF (rI .u32) p1 c1 (yd a),slF (rI .u32) p2 c2 (yd b)]
 refine zP 0 rfl (fun hL0=> ?_)
 refine zP 1 rfl (fun hL1=> ?_)
 have hoa:=yq a
 have hob:=yq b
 refine ze<|za<|e_p (zb rfl)<|zf<|zc<|ze<|za<|e_mv rfl<|e_p (zv ye rfl)<|e_mv rfl<|e_p (zv ye rfl)<|e_p (zJ (z:=(((((yd a).length)+((yd b).length)):Nat):Int)) rfl rfl (w64 om))<|zma rfl rfl (zua (r:=rI .u32) (k:=(((yd a).length)+((yd b).length))) (x0:=0) (γ0:=()) ye inf133 rfl rfl rfl rfl om om rfl (fun g _=>by exact zy.2 dd) dd) (fun b1 _=> ?_)
 refine e_p (zb rfl)<|zf<|zc<|ze<|ze<|za<|e_mv rfl<|e_p (zv ye rfl)<|e_mv rfl<|zf<|zc<|zt<|zca (X:=Nat×(List Int)) (fun x:Nat×(List Int)=>x.1≤(yd a).length∧x.2.length=(yd a).length+(yd b).length∧yu x.2∧(∀k,x.1+(yd b).length≤k→x.2.getD k 0=0)∧yf x.2=yf ((yd a).take x.1)*yf (yd b)) (fun x=>[(20,ya yb ((x.1:Nat):Int)),(19,ya yb (((yd a).length:Nat):Int)),(18,.slice p1 ((yd a).length) c1),(5,.slice (some ⟨b1,0,none⟩) (((yd a).length)+((yd b).length)) (((yd a).length)+((yd b).length))),(4,.slice none 0 0),(1,.slice p2 ((yd b).length) c2)]) (fun x=>[rowA 133 (rI .u32) (some ⟨b1,0,none⟩) (((yd a).length)+((yd b).length)) (x.2)]) (fun x=>[slF (rI .u32) p1 c1 (yd a),slF (rI .u32) p2 c2 (yd b)]) (fun x:Nat×(List Int)=>(yd a).length - x.1) (0,List.replicate ((yd a).length+(yd b).length) 0) (show 0≤(yd a).length∧(List.replicate ((yd a).length+(yd b).length) 0).length=(yd a).length+(yd b).length∧yu (List.replicate ((yd a).length+(yd b).length) 0)∧(∀k,0+(yd b).length≤k→(List.replicate ((yd a).length+(yd b).length) 0).getD k 0=0)∧yf (List.replicate ((yd a).length+(yd b).length) 0)=yf ((yd a).take 0)*yf (yd b) from by exact ⟨by omega,by simp,Big.okL_zeros _,fun k _=>Big.getD_zeros _ k,by simp [Big.valL_zeros,yf]⟩) ((.e rfl cgs (.of rfl)):SubM _ _) (ho:=((.e (i:=0) rfl cgs .n):PickO _ _ _)) ((.of [0,1] rfl):SelR _ _ _) ?_
 rintro ⟨i,os⟩ hI
 replace hI:i≤(yd a).length∧os.length=(yd a).length+(yd b).length∧yu os∧(∀k,i+(yd b).length≤k→os.getD k 0=0)∧yf os=yf ((yd a).take i)*yf (yd b):=hI
 try dsimp only
 obtain ⟨hi,hol,hok,hz,hv⟩:=hI
 have hg1:=yn hoa i
 refine ze<|za<|e_p (zY rfl rfl)<|zf<|zc<|ze<|zD rfl (fun h2=> ?_) (fun h2=> ?_)
 ·
  refine zw<|zc<|ze<|zt<|ze<|za<|e_mv rfl<|zba (x0:=((yd a).getD i 0)) 0 i rfl ye sz133 rfl rfl rfl (by first|rfl|assumption|(simp;omega)|omega) rfl rfl (gD (d:=0) om) (fun b3 o4 hok5=> ?_)
  replace hok5:=zy.1 hok5
  refine e_ru (zh (j:=0) 0 ty133 rfl rfl rfl rfl)<|e_p (zb rfl)<|e_p (zb rfl)<|zf<|zc<|ze<|za<|e_p (zb rfl)<|zf<|zc<|ze<|ze<|za<|e_mv rfl<|e_p (zv ye rfl)<|e_mv rfl<|zf<|zc<|zt<|zca (X:=Nat×(List Int)×Int) (fun x:Nat×(List Int)×Int=>x.1≤(yd b).length∧x.2.1.length=(yd a).length+(yd b).length∧yu x.2.1∧0≤x.2.2∧x.2.2<1000000000∧(∀k,i+(yd b).length≤k→x.2.1.getD k 0=0)∧yf x.2.1+yA (i+x.1)*x.2.2=yf ((yd a).take i)*yf (yd b)+yA i*(yd a).getD i 0*yf ((yd b).take x.1)) (fun x=>[(8,.int .u64 (x.2.2)),(27,ya yb ((x.1:Nat):Int)),(26,ya yb (((yd b).length:Nat):Int)),(25,.slice p2 ((yd b).length) c2),(7,.int .u32 ((yd a).getD i 0)),(6,ya yb ((i:Nat):Int)),(20,ya yb ((i:Nat):Int)),(19,ya yb (((yd a).length:Nat):Int)),(18,.slice p1 ((yd a).length) c1),(5,.slice (some ⟨b1,0,none⟩) (((yd a).length)+((yd b).length)) (((yd a).length)+((yd b).length))),(4,.slice none 0 0),(1,.slice p2 ((yd b).length) c2)]) (fun x=>[rowA 133 (rI .u32) (some ⟨b1,0,none⟩) (((yd a).length)+((yd b).length)) (x.2.1)]) (fun x=>[atF b3 o4 [.int .u32 ((yd a).getD i 0)],slF (rI .u32) p1 c1 (yd a),slF (rI .u32) p2 c2 (yd b)]) (fun x:Nat×(List Int)×Int=>(yd b).length - x.1) (0,os,0) (show 0≤(yd b).length∧os.length=(yd a).length+(yd b).length∧yu os∧0≤0∧0<1000000000∧(∀k,i+(yd b).length≤k→os.getD k 0=0)∧yf os+yA (i+0)*0=yf ((yd a).take i)*yf (yd b)+yA i*(yd a).getD i 0*yf ((yd b).take 0) from by exact ⟨by omega,hol,hok,by decide,by decide,hz,by rw [hv];simp [yf]⟩) ((.c rfl (.e rfl cgs (.of rfl))):SubM _ _) (ho:=(o0 rfl)) ((.of [0,1,2] rfl):SelR _ _ _) ?_
  rintro ⟨j,os2,cy⟩ hJ
  replace hJ:j≤(yd b).length∧os2.length=(yd a).length+(yd b).length∧yu os2∧0≤cy∧cy<1000000000∧(∀k,i+(yd b).length≤k→os2.getD k 0=0)∧yf os2+yA (i+j)*cy=yf ((yd a).take i)*yf (yd b)+yA i*(yd a).getD i 0*yf ((yd b).take j):=hJ
  try dsimp only
  obtain ⟨hj,hol2,hok2,hcy0,hcy1,hz2,hv2⟩:=hJ
  have hg2:=yn hob j
  have hg3:=yn hok2 (i+j)
  have hpq:=Big.mul_lim hg1 hg2
  refine ze<|za<|e_p (zY rfl rfl)<|zf<|zc<|ze<|zD rfl (fun h6=> ?_) (fun h6=> ?_)
  ·
   refine zw<|zc<|ze<|zt<|ze<|za<|e_mv rfl<|zba (x0:=((yd b).getD j 0)) 2 j rfl ye sz133 rfl rfl rfl (by first|rfl|assumption|(simp;omega)|omega) rfl rfl (gD (d:=0) om) (fun b7 o8 hok9=> ?_)
   replace hok9:=zy.1 hok9
   refine e_ru (zh (j:=0) 0 ty133 rfl rfl rfl rfl)<|e_p (zb rfl)<|e_p (zb rfl)<|zf<|zc<|ze<|za<|e_mv rfl<|e_mv rfl<|e_mv rfl<|e_p (zJ (z:=(((i+j):Nat):Int)) rfl rfl (w64 om))<|e_p (zI (j:=(i+j)) ye sz133 rfl rfl rfl om)<|r_vl rfl rfl (zN 0 (i+j) rfl ty133 rfl rfl (gD (d:=0) om) rfl) (fun _ hok10=> ?_)
   replace hok10:=zy.1 hok10
   refine e_p (zH (z:=(os2.getD (i+j) 0)) rfl (by rw [yg];rfl) yi (wu64 om))<|e_mv rfl<|e_p (zH (z:=((yd a).getD i 0)) rfl (by rw [yg];rfl) yi (wu64 om))<|e_mv rfl<|e_p (zH (z:=((yd b).getD j 0)) rfl (by rw [yg];rfl) yi (wu64 om))<|e_p (zob (z:=(((yd a).getD i 0)*((yd b).getD j 0))) rfl rfl (wu64 om))<|e_p (zJ (z:=((os2.getD (i+j) 0)+(((yd a).getD i 0)*((yd b).getD j 0)))) rfl rfl (wu64 om))<|e_mv rfl<|e_p (zJ (z:=(((os2.getD (i+j) 0)+(((yd a).getD i 0)*((yd b).getD j 0)))+cy)) rfl rfl (wu64 om))<|e_p (zb rfl)<|zf<|zc<|za<|e_mv rfl<|e_mv rfl<|e_mv rfl<|e_p (zJ (z:=(((i+j):Nat):Int)) rfl rfl (w64 om))<|e_mv rfl<|e_p (zbb (z:=((((os2.getD (i+j) 0)+(((yd a).getD i 0)*((yd b).getD j 0)))+cy)%1000000000)) rfl rfl om (remN om om))<|e_p (zH (z:=((((os2.getD (i+j) 0)+(((yd a).getD i 0)*((yd b).getD j 0)))+cy)%1000000000)) rfl (by rw [yi];rfl) yg (wu32 om))<|e_mv rfl<|e_p (zfb (z:=((((os2.getD (i+j) 0)+(((yd a).getD i 0)*((yd b).getD j 0)))+cy) / 1000000000)) rfl rfl om (by rw [quoN (z:=((((os2.getD (i+j) 0)+(((yd a).getD i 0)*((yd b).getD j 0)))+cy) / 1000000000)) om om];exact wu64 om))<|e_p (zI (j:=(i+j)) ye sz133 rfl rfl rfl om)<|zya 0 rfl rfl rfl (zL (j:=(i+j)) (x0:=((((os2.getD (i+j) 0)+(((yd a).getD i 0)*((yd b).getD j 0)))+cy)%1000000000)) (γ0:=()) rfl rfl (by first|omega|(rw [List.length_map];omega)|(simp only [List.length_set];omega)|(simp;done)|(simp;omega)) rfl rfl sz133 (fun _ _=>by exact zy.2 om)) (fun _=> .z) (fun _ _=> ?_)
   refine e_p (zb rfl)<|zf<|zK<|zc<|za<|e_p (zJ (z:=(((j+1):Nat):Int)) rfl rfl (w64 om))<|e_mv rfl<|zf<|zV ((j+1),os2.set (i+j) ((os2.getD (i+j) 0+(yd a).getD i 0*(yd b).getD j 0+cy)%1000000000),(os2.getD (i+j) 0+(yd a).getD i 0*(yd b).getD j 0+cy) / 1000000000) (show (j+1)≤(yd b).length∧(os2.set (i+j) ((os2.getD (i+j) 0+(yd a).getD i 0*(yd b).getD j 0+cy)%1000000000)).length=(yd a).length+(yd b).length∧yu (os2.set (i+j) ((os2.getD (i+j) 0+(yd a).getD i 0*(yd b).getD j 0+cy)%1000000000))∧0≤((os2.getD (i+j) 0+(yd a).getD i 0*(yd b).getD j 0+cy) / 1000000000)∧((os2.getD (i+j) 0+(yd a).getD i 0*(yd b).getD j 0+cy) / 1000000000)<1000000000∧(∀k,i+(yd b).length≤k→(os2.set (i+j) ((os2.getD (i+j) 0+(yd a).getD i 0*(yd b).getD j 0+cy)%1000000000)).getD k 0=0)∧yf (os2.set (i+j) ((os2.getD (i+j) 0+(yd a).getD i 0*(yd b).getD j 0+cy)%1000000000))+yA (i+(j+1))*((os2.getD (i+j) 0+(yd a).getD i 0*(yd b).getD j 0+cy) / 1000000000)=yf ((yd a).take i)*yf (yd b)+yA i*(yd a).getD i 0*yf ((yd b).take (j+1)) from by exact ⟨by omega,by simpa using hol2,yQ hok2 om om,by omega,by omega,fun k hk=>by rw [yL om];exact hz2 k om,Big.mul_step hv2 om om⟩) (by show (yd b).length - (j+1)<(yd b).length - j;omega) ((.e rfl cgs (.of rfl)):SubM _ _) (ho:=((.e (i:=0) rfl cgs .n):PickO _ _ _)) ((.of [1,2,3] rfl):SelR _ _ _)
  ·
   have hjb:j=(yd b).length:=by omega
   subst hjb
   have hv3:=hv2
   refine zaa<|zg<|zg<|zp<|zc<|za<|e_mv rfl<|e_mv rfl<|e_mv rfl<|e_p (zv ye rfl)<|e_p (zJ (z:=(((i+((yd b).length)):Nat):Int)) rfl rfl (w64 om))<|e_mv rfl<|e_p (zH (z:=cy) rfl (by rw [yi];rfl) yg (wu32 om))<|e_p (zI (j:=(i+((yd b).length))) ye sz133 rfl rfl rfl om)<|zya 0 rfl rfl rfl (zL (j:=(i+((yd b).length))) (x0:=cy) (γ0:=()) rfl rfl (by first|omega|(rw [List.length_map];omega)|(simp only [List.length_set];omega)|(simp;done)|(simp;omega)) rfl rfl sz133 (fun _ _=>by exact zy.2 om)) (fun _=> .z) (fun _ _=> ?_)
   refine zf<|zK<|zc<|za<|e_p (zJ (z:=(((i+1):Nat):Int)) rfl rfl (w64 om))<|e_mv rfl<|zf<|zV ((i+1),os2.set (i+(yd b).length) cy) (show (i+1)≤(yd a).length∧(os2.set (i+(yd b).length) cy).length=(yd a).length+(yd b).length∧yu (os2.set (i+(yd b).length) cy)∧(∀k,(i+1)+(yd b).length≤k→(os2.set (i+(yd b).length) cy).getD k 0=0)∧yf (os2.set (i+(yd b).length) cy)=yf ((yd a).take (i+1))*yf (yd b) from by exact ⟨by omega,by simpa using hol2,yQ hok2 om om,fun k hk=>by rw [yL om];exact hz2 k om,Big.mul_round hv3 om (hz2 _ (Nat.le_refl _))⟩) (by show (yd a).length - (i+1)<(yd a).length - i;omega) (mR rfl) (ho:=((.e (i:=0) rfl cgs .n):PickO _ _ _)) ((.of [1,2] rfl):SelR _ _ _)
 ·
  have hia:i=(yd a).length:=by omega
  have hfin:yo os=yd (a*b):=Big.trimL_of hok (by rw [hv,hia,List.take_length,yx,yx,Int.natCast_mul])
  refine zaa<|zg<|zg<|zp<|zc<|ze<|za<|e_mv rfl<|zea 0 rfl .z<|zm rfl rfl (.c rfl .n) ce250 (zAb (p:=some ⟨b1,0,none⟩) (n:=(((yd a).length)+((yd b).length))) (cap:=(((yd a).length)+((yd b).length))) (l:=os) (hn:=cbb)) (.c (j:=0) rfl .n) ?_
  rintro ⟨⟩ -
  dsimp only [aq,nq,cq]
  refine e_p (zb rfl)<|zf<|zc<|zG ?_
  exact zx Tryz.results214 ((some ⟨b1,0,none⟩),(((yd a).length)+((yd b).length))) trivial (zo rfl) (by rw [hfin]) (ho:=oN) ((.e (j:=0) rfl (by rw [hfin]) .n):SelR _ _ _)
theorem zNe {s:Bool} {p:Option Addr} {n:Nat} {cap:Nat} {l:List Int} (hn:l.length=n):Con yk 167 [.agg #[.bool s,.slice p n cap]] [] [slF (rI .u32) p cap l] (Y:=Unit) (fun y=>True) (fun y=> ya yb ((yh s l).sign)) (fun y=>[]) (fun y=>[]):=by
 refine zk Tryz.func167 rfl rfl rfl (fun c=> ?_)
 show RunC _ _ _ _ _ [(0,.agg #[.bool s,.slice p n cap])] [] [slF (rI .u32) p cap l]
 refine zP 0 rfl (fun hL0=> ?_)
 refine zOa 0 rfl (fun hE0=> ?_)
 have hnn:yG l:=fun g hg=>(zy.1 (hE0 g hg)).1
 refine ze<|za<|zM rfl rfl (zT rfl rfl) (fun b1=> ?_)
 refine e_p (zb rfl)<|zf<|zc<|ze<|zt<|ze<|za<|e_ru (zd 0 ty30 rfl rfl (.t2 .nil))<|zm rfl rfl (.c rfl .n) ce155 (zLa (s:=s) (p:=p) (n:=n) (cap:=cap) (l:=l) (hn:=ass)) (.c (j:=0) rfl .n) ?_
 rintro ⟨p22,c23⟩ -
 dsimp only [aq,nq,cq]
 refine e_p (zv ye rfl)<|e_p (zna rfl rfl)<|e_p (zb rfl)<|zf<|zc<|zD rfl (fun h0=> ?_) (fun h0=> ?_)
 ·
  refine ze<|za<|e_p (zb rfl)<|zf<|zc<|zG<|zX<|zu ?_
  exact zx Tryz.results167 () trivial (zo rfl) (by rw [show yh s l=0 by have:=yB.1 (show (yd (yh s l).natAbs).length=0 by omega);omega];rfl) (ho:=oN) sN
 ·
  refine ze<|za<|e_p (zj yl rfl sz4 rfl rfl)<|e_ru (zi 0 ty4 rfl rfl rfl)<|e_p (zb rfl)<|zf<|zc<|zXa rfl (fun hs=> ?_) (fun hs=> ?_)
  ·
   refine ze<|za<|e_p (zb rfl)<|zf<|zc<|zG<|zX<|zu ?_
   exact zx Tryz.results167 () trivial (zo rfl) (by rw [Big.sign_neg hnn hs (by intro e;rw [e] at h0;exact h0 rfl)]) (ho:=oN) sN
  ·
   refine zw<|zK<|zc<|ze<|za<|e_p (zb rfl)<|zf<|zc<|zG ?_
   exact zx Tryz.results167 () trivial (zo rfl) (by rw [Big.sign_pos hnn hs (by intro e;rw [e] at h0;exact h0 rfl)]) (ho:=oN) sN
theorem zPc {z:Int} {p:Option Addr} {cap:Nat}:Con yk 167 [.agg #[.bool (decide ((z)<0)),.slice (p) ((yd ((z).natAbs)).length) (cap)]] [] [slF (rI .u32) (p) (cap) (yd ((z).natAbs))] (Y:=Unit) (fun y=>True) (fun y=> ya yb ((z).sign)) (fun y=>[]) (fun y=>[]):=by
  have h:= @zNe (decide ((z)<0)) p (yd (z).natAbs).length cap (yd (z).natAbs) rfl
  rw [yr] at h
  exact h
theorem zfc {w1:Wd} {x1:Int}:Con yk 167 [.agg #[w1.b,w1.l]] [] [zF w1 (x1)] (Y:=Unit) (fun y=>True) (fun y=> ya yb ((x1).sign)) (fun y=>[]) (fun y=>[]):=by
  exact zYc (fun p c=>zPc)
theorem zZg {s:Bool} {p1:Option Addr} {n1:Nat} {c1:Nat} {l1:List Int} {t:Bool} {p2:Option Addr} {n2:Nat} {c2:Nat} {l2:List Int} (hn1:l1.length=n1) (hn2:l2.length=n2) (hb1:ym (yh s l1)≤4398046511104) (hb2:ym (yh t l2)≤4398046511104):Con yk 142 [.agg #[.bool s,.slice p1 n1 c1],.agg #[.bool t,.slice p2 n2 c2]] [] [slF (rI .u32) p1 c1 l1,slF (rI .u32) p2 c2 l2] (Y:=(Option Addr)×Nat) (fun y=>True) (fun y=> .agg #[.bool (decide ((yh s l1+yh t l2)<0)),.slice (y.1) ((yd ((yh s l1+yh t l2).natAbs)).length) (y.2)]) (fun y=>[]) (fun y=>[slF (rI .u32) (y.1) (y.2) (yd ((yh s l1+yh t l2).natAbs))]):=by
 refine zk Tryz.func142 rfl rfl rfl (fun c=> ?_)
 show RunC _ _ _ _ _ [(0,.agg #[.bool s,.slice p1 n1 c1]),(1,.agg #[.bool t,.slice p2 n2 c2])] [] [slF (rI .u32) p1 c1 l1,slF (rI .u32) p2 c2 l2]
 refine zP 0 rfl (fun hL0=> ?_)
 refine zOa 0 rfl (fun hE0=> ?_)
 refine zP 1 rfl (fun hL1=> ?_)
 refine zOa 1 rfl (fun hE1=> ?_)
 have hnn1:yG l1:=fun g hg=>(zy.1 (hE0 g hg)).1
 have hnn2:yG l2:=fun g hg=>(zy.1 (hE1 g hg)).1
 refine ze<|za<|zM rfl rfl (zT rfl rfl) (fun b1=> ?_)
 refine zM rfl rfl (zT rfl rfl) (fun b2=> ?_)
 refine zM rfl rfl (zA zr30 rfl) (fun b3=> ?_)
 refine zf<|zc<|ze<|zW (OW:=[boxA b3 30 [wz.b,wz.l]]) (O:=[boxA b2 30 [.bool t,.slice p2 n2 c2],boxA b1 30 [.bool s,.slice p1 n1 c1]]) 9 mixed (.then .ret) kr<|e_pv 0 rfl rfl (zj yl rfl sz4 rfl rfl)<|e_uw 1 rfl rfl (zi 2 ty4 rfl rfl rfl)<|e_uw 2 rfl rfl (zd 2 ty30 rfl rfl (.t2 .nil))<|e_pv 4 rfl rfl (zj yl rfl sz4 rfl rfl)<|e_uw 5 rfl rfl (zi 1 ty4 rfl rfl rfl)<|e_uw 6 rfl rfl (zd 1 ty30 rfl rfl (.t2 .nil))<|e_one 3 (zB rfl rfl rfl rfl (.c rfl .n) ce155 (zLa (s:=s) (p:=p1) (n:=n1) (cap:=c1) (l:=l1) (hn:=ass)) (.c (j:=0) rfl .n) ?_)
 rintro ⟨p24,c25⟩ -
 dsimp only [aq,nq,cq]
 refine e_one 7 (zB rfl rfl rfl rfl (.c rfl .n) ce155 (zLa (s:=t) (p:=p2) (n:=n2) (cap:=c2) (l:=l2) (hn:=ass)) (.c (j:=2) rfl .n) ?_)
 rintro ⟨p26,c27⟩ -
 dsimp only [aq,nq,cq]
 refine e_one 8 (zB rfl rfl rfl rfl (.c rfl (.c rfl (.c rfl (.c rfl .n)))) ce215 (zYg (s:=s) (t:=t) (a:=(yh s l1).natAbs) (b:=(yh t l2).natAbs) (p1:=p24) (c1:=c25) (p2:=p26) (c2:=c27) (hb1:=cbb) (hb2:=cbb)) (.c (j:=1) rfl (.c (j:=0) rfl .n)) ?_)
 rintro ⟨p38,c39⟩ -
 dsimp only [aq,nq,cq]
 refine e_one 9 (zC kr rfl rfl rfl rfl rfl sz30 rfl (.t2 .nil) ?_)
 refine zU kr<|zc<|zG ?_
 have hz:yt s ((yh s l1).natAbs:Int)+yt t ((yh t l2).natAbs:Int)=yh s l1+yh t l2:=by rw [yU hnn1,yU hnn2]
 exact zx Tryz.results142 (p38,c39) trivial (zq 0 ty30 rfl rfl (.t2 .nil)) (by rw [hz]) (ho:=oN) ((.e (j:=0) rfl (by rw [hz]) .n):SelR _ _ _)
theorem ztg {x1:Int} {x2:Int} {p1:Option Addr} {c1:Nat} {p2:Option Addr} {c2:Nat} (hb1:ym x1≤4398046511104) (hb2:ym x2≤4398046511104):Con yk 142 [.agg #[.bool (decide ((x1)<0)),.slice (p1) ((yd ((x1).natAbs)).length) (c1)],.agg #[.bool (decide ((x2)<0)),.slice (p2) ((yd ((x2).natAbs)).length) (c2)]] [] [slF (rI .u32) (p1) (c1) (yd ((x1).natAbs)),slF (rI .u32) (p2) (c2) (yd ((x2).natAbs))] (Y:=(Option Addr)×(Nat)) (fun y=>True) (fun y=> .agg #[.bool (decide ((x1+x2)<0)),.slice (y.1) ((yd ((x1+x2).natAbs)).length) (y.2)]) (fun y=>[]) (fun y=>[slF (rI .u32) (y.1) (y.2) (yd ((x1+x2).natAbs))]):=by
  have h:= @zZg (decide ((x1)<0)) p1 (yd (x1).natAbs).length c1 (yd (x1).natAbs) (decide ((x2)<0)) p2 (yd (x2).natAbs).length c2 (yd (x2).natAbs) rfl rfl (by rw [yr];exact hb1) (by rw [yr];exact hb2)
  rw [yr,yr] at h
  exact h
theorem zug {w1:Wd} {w2:Wd} {x1:Int} {x2:Int} (hb1:ym x1≤4398046511104) (hb2:ym x2≤4398046511104):Con yk 142 [.agg #[w1.b,w1.l],.agg #[w2.b,w2.l]] [] [zF w1 (x1),zF w2 (x2)] (Y:=(Wd)) (fun y=>True) (fun y=> .agg #[y.b,y.l]) (fun y=>[]) (fun y=>[zF y (x1+x2)]):=by
  exact zIb (zZb (fun p1 c1 p2 c2=>ztg hb1 hb2))
theorem zah {s:Bool} {p1:Option Addr} {n1:Nat} {c1:Nat} {l1:List Int} {t:Bool} {p2:Option Addr} {n2:Nat} {c2:Nat} {l2:List Int} (hn1:l1.length=n1) (hn2:l2.length=n2) (hb1:ym (yh s l1)≤4398046511104) (hb2:ym (yh t l2)≤4398046511104):Con yk 141 [.agg #[.bool s,.slice p1 n1 c1],.agg #[.bool t,.slice p2 n2 c2]] [] [slF (rI .u32) p1 c1 l1,slF (rI .u32) p2 c2 l2] (Y:=(Option Addr)×Nat) (fun y=>True) (fun y=> .agg #[.bool (decide ((yh s l1*yh t l2)<0)),.slice (y.1) ((yd ((yh s l1*yh t l2).natAbs)).length) (y.2)]) (fun y=>[]) (fun y=>[slF (rI .u32) (y.1) (y.2) (yd ((yh s l1*yh t l2).natAbs))]):=by
 refine zk Tryz.func141 rfl rfl rfl (fun c=> ?_)
 show RunC _ _ _ _ _ [(0,.agg #[.bool s,.slice p1 n1 c1]),(1,.agg #[.bool t,.slice p2 n2 c2])] [] [slF (rI .u32) p1 c1 l1,slF (rI .u32) p2 c2 l2]
 refine zP 0 rfl (fun hL0=> ?_)
 refine zOa 0 rfl (fun hE0=> ?_)
 refine zP 1 rfl (fun hL1=> ?_)
 refine zOa 1 rfl (fun hE1=> ?_)
 have hnn1:yG l1:=fun g hg=>(zy.1 (hE0 g hg)).1
 have hnn2:yG l2:=fun g hg=>(zy.1 (hE1 g hg)).1
 refine ze<|za<|zM rfl rfl (zT rfl rfl) (fun b1=> ?_)
 refine zM rfl rfl (zT rfl rfl) (fun b2=> ?_)
 refine zM rfl rfl (zA zr30 rfl) (fun b3=> ?_)
 refine zf<|zc<|ze<|zW (OW:=[boxA b3 30 [wz.b,wz.l]]) (O:=[boxA b2 30 [.bool t,.slice p2 n2 c2],boxA b1 30 [.bool s,.slice p1 n1 c1]]) 11 mixed (.then .ret) kr<|e_pv 0 rfl rfl (zj yl rfl sz4 rfl rfl)<|e_uw 1 rfl rfl (zi 2 ty4 rfl rfl rfl)<|e_pv 2 rfl rfl (zj yl rfl sz4 rfl rfl)<|e_uw 3 rfl rfl (zi 1 ty4 rfl rfl rfl)<|e_pv 4 rfl rfl (zNa yv rfl rfl)<|e_uw 5 rfl rfl (zd 2 ty30 rfl rfl (.t2 .nil))<|e_uw 7 rfl rfl (zd 1 ty30 rfl rfl (.t2 .nil))<|e_one 6 (zB rfl rfl rfl rfl (.c rfl .n) ce155 (zLa (s:=s) (p:=p1) (n:=n1) (cap:=c1) (l:=l1) (hn:=ass)) (.c (j:=0) rfl .n) ?_)
 rintro ⟨p24,c25⟩ -
 dsimp only [aq,nq,cq]
 refine e_one 8 (zB rfl rfl rfl rfl (.c rfl .n) ce155 (zLa (s:=t) (p:=p2) (n:=n2) (cap:=c2) (l:=l2) (hn:=ass)) (.c (j:=2) rfl .n) ?_)
 rintro ⟨p26,c27⟩ -
 dsimp only [aq,nq,cq]
 refine e_one 9 (zB rfl rfl rfl rfl (.c rfl (.c rfl .n)) ce214 (zJd (a:=(yh s l1).natAbs) (b:=(yh t l2).natAbs) (p1:=p24) (c1:=c25) (p2:=p26) (c2:=c27) (hb1:=cbb) (hb2:=cbb)) (.c (j:=1) rfl (.c (j:=0) rfl .n)) ?_)
 rintro ⟨p38,c39⟩ -
 dsimp only [aq,nq,cq]
 refine e_one 10 (zB rfl rfl rfl rfl (.c rfl (.c rfl .n)) ce208 (zza (s:=decide (s≠t)) (a:=((yh s l1).natAbs)*((yh t l2).natAbs)) (p:=p38) (cap:=c39)) (.c (j:=0) rfl .n) ?_)
 rintro ⟨p210,c211⟩ -
 dsimp only [aq,nq,cq]
 refine e_one 11 (zC kr rfl rfl rfl rfl rfl sz30 rfl (.t2 .nil) ?_)
 refine zU kr<|zc<|zG ?_
 have hz:yt (decide (s≠t)) (((yh s l1).natAbs*(yh t l2).natAbs:Nat):Int)=yh s l1*yh t l2:=by rw [Big.sg_mul,yU hnn1,yU hnn2]
 exact zx Tryz.results141 (p210,c211) trivial (zq 0 ty30 rfl rfl (.t2 .nil)) (by rw [hz]) (ho:=oN) ((.e (j:=0) rfl (by rw [hz]) .n):SelR _ _ _)
theorem zvg {x1:Int} {x2:Int} {p1:Option Addr} {c1:Nat} {p2:Option Addr} {c2:Nat} (hb1:ym x1≤4398046511104) (hb2:ym x2≤4398046511104):Con yk 141 [.agg #[.bool (decide ((x1)<0)),.slice (p1) ((yd ((x1).natAbs)).length) (c1)],.agg #[.bool (decide ((x2)<0)),.slice (p2) ((yd ((x2).natAbs)).length) (c2)]] [] [slF (rI .u32) (p1) (c1) (yd ((x1).natAbs)),slF (rI .u32) (p2) (c2) (yd ((x2).natAbs))] (Y:=(Option Addr)×(Nat)) (fun y=>True) (fun y=> .agg #[.bool (decide ((x1*x2)<0)),.slice (y.1) ((yd ((x1*x2).natAbs)).length) (y.2)]) (fun y=>[]) (fun y=>[slF (rI .u32) (y.1) (y.2) (yd ((x1*x2).natAbs))]):=by
  have h:= @zah (decide ((x1)<0)) p1 (yd (x1).natAbs).length c1 (yd (x1).natAbs) (decide ((x2)<0)) p2 (yd (x2).natAbs).length c2 (yd (x2).natAbs) rfl rfl (by rw [yr];exact hb1) (by rw [yr];exact hb2)
  rw [yr,yr] at h
  exact h
theorem zkb {w1:Wd} {w2:Wd} {x1:Int} {x2:Int} (hb1:ym x1≤4398046511104) (hb2:ym x2≤4398046511104):Con yk 141 [.agg #[w1.b,w1.l],.agg #[w2.b,w2.l]] [] [zF w1 (x1),zF w2 (x2)] (Y:=(Wd)) (fun y=>True) (fun y=> .agg #[y.b,y.l]) (fun y=>[]) (fun y=>[zF y (x1*x2)]):=by
  exact zIb (zZb (fun p1 c1 p2 c2=>zvg hb1 hb2))
end Go.Proofs.YtpdbimfnhglhpaaGreat.Sp
namespace Go.Proofs.YtpdbimfnhglhpaaGreat.Sp
open Go
set_option linter.unusedVariables false
set_option maxRecDepth 100000
set_option maxHeartbeats 8000000
theorem zbh {p:Option Addr} {n:Nat} {cap:Nat} {l:List Int} (hn:l.length=n) (hb:n≤8796093022208):Con yk 213 [.slice p n cap] [] [slF (rI .u32) p cap l] (Y:=(Option Addr)×Nat) (fun y=>True) (fun y=> .slice (y.1) (l.length) (y.2)) (fun y=>[]) (fun y=>[slF (rI .u32) (y.1) (y.2) l]):=by
 refine zk Tryz.func213 rfl rfl rfl (fun c=> ?_)
 show RunC _ _ _ _ _ [(0,.slice p n cap)] [] [slF (rI .u32) p cap l]
 refine zP 0 rfl (fun hL0=> ?_)
 refine c_nil 0 rfl (fun hnil=> ?_)
 refine ze<|za<|e_p (zb rfl)<|zf<|zc<|ze<|ze<|za<|e_mv rfl<|e_p (zAd ye rfl rfl)<|zf<|zc<|zXa rfl (fun h0=> ?_) (fun h0=> ?_)
 ·
  refine ze<|za<|e_p (zb rfl)<|zf<|zc<|zG<|zu ?_
  obtain rfl:l=[]:=hnil (by simpa using h0)
  refine zOb (rI .u32) ?_
  exact zx Tryz.results213 (none,0) trivial (zo rfl) rfl (ho:=oN) (s0 rfl)
 ·
  refine zw<|zc<|ze<|za<|zma rfl rfl (zwa (rI .u32) ye inf133) (fun b1 _=> ?_)
  refine e_mv rfl<|zya 0 rfl rfl rfl (zsa 0 rfl ye inf133 dd rfl rfl cbs rfl cbs (by first|omega|(simp;omega)) (by first|omega|(simp;omega))) (fun _=> .z) ?_
  rintro ⟨p2,c3⟩ -
  dsimp only [aq,nq,cq]
  refine e_p (zb rfl)<|zf<|zc<|zG<|zjb 0 rfl .z ?_
  exact zx Tryz.results213 (p2,c3) trivial (zo rfl) (by simp [hn]) (ho:=oN) (s0 rfl)
theorem zzc {a:Nat} {p:Option Addr} {cap:Nat} (hb:(yd (a)).length≤8796093022208):Con yk 213 [.slice (p) ((yd (a)).length) (cap)] [] [slF (rI .u32) (p) (cap) (yd (a))] (Y:=(Option Addr)×(Nat)) (fun y=>True) (fun y=> .slice (y.1) ((yd (a)).length) (y.2)) (fun y=>[]) (fun y=>[slF (rI .u32) (y.1) (y.2) (yd (a))]):=by
  exact zbh rfl hb
theorem zAc {a:Nat} {p:Option Addr} {cap:Nat}:Con yk 232 [.slice p ((yd a).length) cap] [] [slF (rI .u32) p cap (yd a)] (Y:=Unit) (fun y=>True) (fun y=> .tuple #[.int .u64 (((if (yd a).length≤2 then a else 0):Nat):Int),.bool (decide ((yd a).length≤2))]) (fun y=>[]) (fun y=>[]):=by
 refine zhc Tryz.func232 rfl rfl rfl (fun c=> ?_)
 show RunC _ _ _ _ _ [(0,.slice p ((yd a).length) cap)] [] [slF (rI .u32) p cap (yd a)]
 refine zP 0 rfl (fun hL0=> ?_)
 refine ze<|za<|e_p (zb rfl)<|e_p (zb rfl)<|zf<|zc<|ze<|ze<|za<|e_mv rfl<|e_p (zv ye rfl)<|e_p (zra rfl rfl)<|zf<|zc<|zD rfl (fun hgt=> ?_) (fun hgt=> ?_)
 ·
  refine ze<|za<|e_p (zb rfl)<|e_p (zb rfl)<|zf<|zc<|zG<|zu<|zxf ?_
  exact zBa Tryz.results232 () trivial (zo rfl) (zo rfl) (by rw [if_neg om,decide_eq_false (show ¬(yd a).length≤2 by omega)];rfl) (ho:=oN) sN
 ·
  have hle:(yd a).length≤2:=by omega
  have h18:=yK hle
  refine zw<|zc<|ze<|za<|zM rfl rfl (zA zr182 rfl) (fun b1=> ?_)
  refine zl 0 rfl rfl rfl rfl rfl sz182 rfl (.take .nil) .z<|zf<|zc<|ze<|ze<|za<|e_mv rfl<|zm rfl rfl (.c rfl .n) ce156 (zJb (p:=p) (n:=(yd a).length) (cap:=cap)) (.n) ?_
  rintro b2 -
  dsimp only [aq,nq,cq]
  refine zf<|zc<|zt<|zYd (fa:=[atF b2 0 [.slice p ((yd a).length) cap],slF (rI .u32) p cap (yd a)]) (N:=((yd a).length)) (encs:=fun k=>[ya yb ((k:Nat):Int),.int .u32 ((yd a).getD k 0)]) rfl ce220 (back_u32 cbs) (fun _=>rfl) rfl (X:=Int) (Y:=Unit) (fun x k=>k≤(yd a).length∧x=yf ((yd a).drop k)∧0≤x∧x*yA k≤(a:Int)) (fun y=>False) (fun x=>[boxA b1 182 [.int .u64 x]]) (fun x=>[]) (fun y=>[]) (fun y=>[]) (fun k=>[(6,.int .u32 ((yd a).getD k 0)),(13,.int .u32 ((yd a).getD k 0)),(12,ya yb ((k:Nat):Int)),(11,.func (.func 220) #[] #[yc (some ⟨b2,0,none⟩)]),(10,.slice p ((yd a).length) cap),(4,yc (some ⟨b1,0,none⟩)),(9,.bool (decide (2<(((yd a).length:Nat):Int)))),(8,ya yb (((yd a).length:Nat):Int)),(7,.slice p ((yd a).length) cap),(3,.bool false),(2,.int .u64 0),(0,.slice p ((yd a).length) cap)]) (0:Int) (show ((yd a).length)≤(yd a).length∧(0:Int)=yf ((yd a).drop ((yd a).length))∧0≤(0:Int)∧(0:Int)*yA ((yd a).length)≤(a:Int) from by exact ⟨Nat.le_refl _,by simp [yf],Int.le_refl _,by simp⟩) (ho:=((.e (i:=0) rfl cgs .n):PickO _ _ _)) ((.of [0,1] rfl):SelR _ _ _) ?_ ?_ ?_ ?_
  ·
   intro l k O' R' Q' hP
   refine za<|e_p (zb rfl)<|zf ?_
   exact hP
  ·
   rintro l3 D4 o5 o6 z k hkN hI
   replace hI:(k+1)≤(yd a).length∧z=yf ((yd a).drop (k+1))∧0≤z∧z*yA (k+1)≤(a:Int):=hI
   try dsimp only
   obtain ⟨hk,hz,hz0,hzp⟩:=hI
   have hg:=yn (yq a) k
   have hlim:=Big.word_lim hle (show k+1≤(yd a).length by omega) hz0 hzp
   refine zt<|za<|e_ru (zi 2 ty182 rfl rfl rfl)<|e_p (zob (z:=(z*1000000000)) rfl rfl (wu64 om))<|e_mv rfl<|e_p (zH (z:=((yd a).getD k 0)) rfl (by rw [yg];rfl) yi (wu64 om))<|e_p (zJ (z:=((z*1000000000)+((yd a).getD k 0))) rfl rfl (wu64 om))<|zl 2 rfl rfl rfl rfl rfl sz182 rfl (.take .nil) (.s (.s .z))<|zf<|zK ?_
   exact zWd (z*1000000000+(yd a).getD k 0) (show k≤(yd a).length∧(z*1000000000+(yd a).getD k 0)=yf ((yd a).drop k)∧0≤(z*1000000000+(yd a).getD k 0)∧(z*1000000000+(yd a).getD k 0)*yA k≤(a:Int) from by exact ⟨by omega,by rw [hz];exact Big.word_step k,by omega,Big.word_keep (show k+1≤(yd a).length by omega) hz⟩) (ho:=((.c (i:=0) rfl (.c (i:=0) rfl (.e (i:=0) rfl cgs .n))):PickO _ _ _)) ((.of [0,1] rfl):SelR _ _ _)
  ·
   rintro D7 z hI
   replace hI:0≤(yd a).length∧z=yf ((yd a).drop 0)∧0≤z∧z*yA 0≤(a:Int):=hI
   try dsimp only
   have hz9:z=(a:Int):=by rw [hI.2.1,List.drop_zero,yx]
   refine zK<|zc<|ze<|za<|e_ru (zi 1 ty182 rfl rfl rfl)<|e_p (zb rfl)<|e_p (zb rfl)<|zf<|zc<|zG<|zGe 0 rfl rfl ?_
   exact zBa Tryz.results232 () trivial (zo rfl) (zo rfl) (by rw [if_pos hle,decide_eq_true hle,hz9]) (ho:=oN) sN
  ·
   intro _ _ h;exact h.elim
theorem zKd {a:Nat} {mm:Nat} {p:Option Addr} {cap:Nat} (hb:(yd a).length≤4398046511104) (hm0:0<mm) (hm1:mm<4294967296):Con yk 255 [.slice p ((yd a).length) cap,.int .u32 ((mm:Nat):Int)] [] [slF (rI .u32) p cap (yd a)] (Y:=(Option Addr)×Nat) (fun y=>True) (fun y=> .tuple #[.slice (y.1) ((yd (a / mm)).length) (y.2),.int .u32 (((a%mm):Nat):Int)]) (fun y=>[]) (fun y=>[slF (rI .u32) (y.1) (y.2) (yd (a / mm))]):=by
 refine zhc Tryz.func255 rfl rfl rfl (fun c=> ?_)
 show RunC _ _ _ _ _ [(0,.slice p ((yd a).length) cap),(1,.int .u32 ((mm:Nat):Int))] [] [slF (rI .u32) p cap (yd a)]
 refine zP 0 rfl (fun hL0=> ?_)
 refine ze<|za<|zM rfl rfl (zT rfl rfl) (fun b1=> ?_)
 refine zM rfl rfl (zA zr28 rfl) (fun b2=> ?_)
 refine e_p (zb rfl)<|zf<|zc<|ze<|za<|e_mv rfl<|e_p (zv ye rfl)<|zma rfl rfl (zua (r:=rI .u32) (k:=(yd a).length) (x0:=0) (γ0:=()) ye inf133 rfl rfl rfl rfl om om rfl (fun g _=>by exact zy.2 dd) dd) (fun b3 _=> ?_)
 refine zl 1 rfl rfl rfl rfl rfl sz28 rfl (.take .nil) (.s .z)<|zf<|zc<|ze<|za<|zM rfl rfl (zA zr182 rfl) (fun b4=> ?_)
 refine zl 0 rfl rfl rfl rfl rfl sz182 rfl (.take .nil) .z<|zf<|zc<|ze<|ze<|za<|e_mv rfl<|zm rfl rfl (.c rfl .n) ce156 (zJb (p:=p) (n:=(yd a).length) (cap:=cap)) (.n) ?_
 rintro b5 -
 dsimp only [aq,nq,cq]
 refine zf<|zc<|zt<|zYd (fa:=[atF b5 0 [.slice p ((yd a).length) cap],slF (rI .u32) p cap (yd a)]) (N:=((yd a).length)) (encs:=fun k=>[ya yb ((k:Nat):Int),.int .u32 ((yd a).getD k 0)]) rfl ce220 (back_u32 (by first|rfl|assumption|(simp;done)|omega)) (fun _=>rfl) rfl (X:=(List Int)×(List Int)×Int) (Y:=Unit) (fun x k=>x.1=List.replicate k 0++x.2.1∧Big.ShI (yd a) (mm:Int) k x.2.1 x.2.2) (fun y=>False) (fun x=>[boxA b4 182 [.int .u64 (x.2.2)],rowA 133 (rI .u32) (some ⟨b3,0,none⟩) ((yd a).length) (x.1),boxA b2 28 [.slice (some ⟨b3,0,none⟩) ((yd a).length) ((yd a).length)],boxA b1 133 [.int .u32 ((mm:Nat):Int)]]) (fun x=>[]) (fun y=>[]) (fun y=>[]) (fun k=>[(8,.int .u32 ((yd a).getD k 0)),(7,ya yb ((k:Nat):Int)),(16,.int .u32 ((yd a).getD k 0)),(15,ya yb ((k:Nat):Int)),(14,.func (.func 220) #[] #[yc (some ⟨b5,0,none⟩)]),(13,.slice p ((yd a).length) cap),(6,yc (some ⟨b4,0,none⟩)),(12,.slice (some ⟨b3,0,none⟩) ((yd a).length) ((yd a).length)),(11,ya yb (((yd a).length:Nat):Int)),(10,.slice p ((yd a).length) cap),(5,.int .u32 0),(4,yc (some ⟨b2,0,none⟩)),(3,yc (some ⟨b1,0,none⟩)),(0,.slice p ((yd a).length) cap),(1,.int .u32 ((mm:Nat):Int))]) ((List.replicate (yd a).length 0),([]:List Int),(0:Int)) (show (List.replicate (yd a).length 0)=List.replicate ((yd a).length) 0++([]:List Int)∧Big.ShI (yd a) (mm:Int) ((yd a).length) ([]:List Int) (0:Int) from by exact ⟨by simp,Big.ShI.start om⟩) (ho:=((.e (i:=0) rfl cgs (.e (i:=0) rfl cgs (.of [0,0] rfl))):PickO _ _ _)) ((.of [0,1] rfl):SelR _ _ _) ?_ ?_ ?_ ?_
 ·
  intro l k O' R' Q' hP
  refine ze<|za<|e_p (zb rfl)<|zf<|zc<|za<|e_p (zb rfl)<|zf ?_
  exact hP
 ·
  rintro l6 D7 o8 o9 ⟨os,qs,z⟩ k hkN hI
  replace hI:os=List.replicate (k+1) 0++qs∧Big.ShI (yd a) (mm:Int) (k+1) qs z:=hI
  try dsimp only
  obtain ⟨hos,hS⟩:=hI
  have hz0:=hS.r0
  have hz1:=hS.r1
  have hkle:=hS.le
  have hosl:os.length=(yd a).length:=by rw [hos,List.length_append,List.length_replicate,hS.len];omega
  have hg:=yn (yq a) k
  have hdg:=Big.sh_digit hz0 hz1 hg
  have hrm:=Int.emod_lt_of_pos (z*1000000000+(yd a).getD k 0) (show 0<(mm:Int) by omega)
  have hrm0:=Int.emod_nonneg (z*1000000000+(yd a).getD k 0) (show (mm:Int)≠0 by omega)
  refine zt<|ze<|za<|e_ru (zi 2 ty182 rfl rfl rfl)<|e_p (zob (z:=(z*1000000000)) rfl rfl (wu64 om))<|e_mv rfl<|e_p (zH (z:=((yd a).getD k 0)) rfl (by rw [yg];rfl) yi (wu64 om))<|e_p (zJ (z:=((z*1000000000)+((yd a).getD k 0))) rfl rfl (wu64 om))<|e_p (zb rfl)<|zf<|zc<|zpa (.c (i:=3) rfl (.c (i:=2) rfl (.c (i:=0) rfl (.c (i:=0) rfl (.c (i:=0) rfl (.c (i:=0) rfl .n))))))<|zCf (OW:=[rowA 133 (rI .u32) (some ⟨b3,0,none⟩) ((yd a).length) os,boxA b4 182 [.int .u64 z]]) (O:=[objA l6 o8,objA D7 o9,boxA b2 28 [.slice (some ⟨b3,0,none⟩) ((yd a).length) ((yd a).length)],boxA b1 133 [.int .u32 ((mm:Nat):Int)]]) 12 mixed kr kr<|e_uw 0 rfl rfl (zi 4 ty28 rfl rfl rfl)<|e_dm 1 rfl rfl rfl<|e_dm 2 rfl rfl rfl<|e_uw 3 rfl rfl (zi 5 ty133 rfl rfl rfl)<|e_pv 4 rfl rfl (zH (z:=((mm:Nat):Int)) rfl (by rw [yg];rfl) yi (wu64 om))<|e_pv 5 rfl rfl (zfb (z:=(((z*1000000000)+((yd a).getD k 0)) / ((mm:Nat):Int))) rfl rfl om (by rw [quoN (z:=(((z*1000000000)+((yd a).getD k 0)) / ((mm:Nat):Int))) om om];exact wu64 om))<|e_pv 6 rfl rfl (zH (z:=(((z*1000000000)+((yd a).getD k 0)) / ((mm:Nat):Int))) rfl (by rw [yi];rfl) yg (wu32 om))<|e_dm 7 rfl rfl rfl<|e_u 8 rfl rfl (zi 3 ty133 rfl rfl rfl)<|e_pv 9 rfl rfl (zH (z:=((mm:Nat):Int)) rfl (by rw [yg];rfl) yi (wu64 om))<|e_pv 10 rfl rfl (zbb (z:=(((z*1000000000)+((yd a).getD k 0))%((mm:Nat):Int))) rfl rfl om (remN om om))<|e_pv 11 rfl rfl (zI (j:=k) ye sz133 rfl rfl rfl om)<|e_one 12 (zQb (A':=fun _=>rowA 133 (rI .u32) (some ⟨b3,0,none⟩) ((yd a).length) (os.set k (((z*1000000000)+((yd a).getD k 0)) / ((mm:Nat):Int)))) kr rfl rfl rfl (zL (j:=k) (x0:=(((z*1000000000)+((yd a).getD k 0)) / ((mm:Nat):Int))) (γ0:=()) rfl rfl (by first|omega|(rw [List.length_map];omega)|(simp only [List.length_set];omega)|(simp;done)|(simp;omega)) rfl rfl sz133 (fun _ _=>by exact zy.2 om)) (fun _ _=> ?_))
  refine zPa (zfa (i:=1) rfl)<|e_one 13 (zC kr rfl rfl rfl rfl rfl sz182 rfl (.take .nil) ?_)
  refine zDf kr<|zK ?_
  exact zWd ((os.set k (((z*1000000000)+((yd a).getD k 0)) / ((mm:Nat):Int))),((z*1000000000+(yd a).getD k 0) / (mm:Int) :: qs),((z*1000000000+(yd a).getD k 0)%(mm:Int))) (show (os.set k (((z*1000000000)+((yd a).getD k 0)) / ((mm:Nat):Int)))=List.replicate k 0++((z*1000000000+(yd a).getD k 0) / (mm:Int) :: qs)∧Big.ShI (yd a) (mm:Int) k ((z*1000000000+(yd a).getD k 0) / (mm:Int) :: qs) ((z*1000000000+(yd a).getD k 0)%(mm:Int)) from by exact ⟨by rw [hos];exact Big.pad_set _,hS.step (yq a)⟩) (ho:=((.c (i:=2) rfl (.c (i:=2) rfl (.e (i:=0) rfl cgs (.of [0,0,0] rfl)))):PickO _ _ _)) ((.of [0,1] rfl):SelR _ _ _)
 ·
  rintro D10 ⟨os,qs,z⟩ hI
  replace hI:os=List.replicate 0 0++qs∧Big.ShI (yd a) (mm:Int) 0 qs z:=hI
  try dsimp only
  obtain ⟨hos,hS⟩:=hI
  obtain ⟨hf1,hf2⟩:=hS.fin
  have hoq:os=qs:=by simpa using hos
  have htr:yo os=yd (a / mm):=by rw [hoq];exact hf1
  have hosl:os.length=(yd a).length:=by rw [hoq,hS.len];omega
  have hzr:=hS.r1
  have hzr0:=hS.r0
  refine zK<|zc<|ze<|zpa (.c (i:=3) rfl (.c (i:=0) rfl (.c (i:=0) rfl (.c (i:=0) rfl (.c (i:=0) rfl .n)))))<|zCf (OW:=[boxA b2 28 [.slice (some ⟨b3,0,none⟩) ((yd a).length) ((yd a).length)]]) (O:=[objA D10 (.deferred (some [])),boxA b4 182 [.int .u64 z],rowA 133 (rI .u32) (some ⟨b3,0,none⟩) ((yd a).length) os,boxA b1 133 [.int .u32 ((mm:Nat):Int)]]) 4 mixed kr kr<|e_uw 0 rfl rfl (zi 0 ty28 rfl rfl rfl)<|e_u 2 rfl rfl (zi 1 ty182 rfl rfl rfl)<|e_pv 3 rfl rfl (zH (z:=z) rfl (by rw [yi];rfl) yg (wu32 om))<|zFe 2 rfl (.s (.s .z))<|e_one 1 (zB rfl rfl rfl rfl (.c rfl .n) ce250 (zAb (p:=some ⟨b3,0,none⟩) (n:=(yd a).length) (cap:=(yd a).length) (l:=os) (hn:=cbb)) (.c (j:=0) rfl .n) ?_)
  rintro ⟨⟩ -
  dsimp only [aq,nq,cq]
  refine e_one 4 (zC kr rfl rfl rfl rfl rfl sz28 rfl (.take .nil) ?_)
  refine e_pv 5 rfl rfl (zb rfl)<|zDf kr<|zc<|zG<|zGe 1 rfl rfl ?_
  exact zBa Tryz.results255 ((some ⟨b3,0,none⟩),((yd a).length)) trivial (zyb 0 ty28 rfl rfl rfl) (zo rfl) (by rw [htr,hf2]) (ho:=oN) ((.e (j:=0) rfl (by rw [htr]) .n):SelR _ _ _)
 ·
  intro _ _ h;exact h.elim
theorem zQf {p:Option Addr} {n:Nat} {cap:Nat} {l:List Int} (hn:l.length=n):Con yk 250 [.slice p n cap] [rowA 133 (rI .u32) p cap l] [] (Y:=Unit) (fun y=>True) (fun y=> .slice p ((yo l).length) cap) (fun y=>[rowA 133 (rI .u32) p cap (yo l)]) (fun y=>[]):=by
 refine zk Tryz.func250 rfl rfl rfl (fun c=> ?_)
 show RunC _ _ _ _ _ [(0,.slice p n cap)] [rowA 133 (rI .u32) p cap l] []
 refine zog 0 rfl (fun hcl=> ?_)
 refine ze<|za<|e_p (zb rfl)<|zf<|zc<|ze<|zt<|zca (X:=Nat) (fun x:Nat=>x≤l.length∧yo (l.take x)=yo l) (fun x=>[(0,.slice p x cap),(2,.slice none 0 0)]) (fun x=>[rowA 133 (rI .u32) p cap l]) (fun x=>[]) (fun x:Nat=>x) n (show n≤l.length∧yo (l.take n)=yo l from by exact ⟨by omega,by rw [List.take_of_length_le om]⟩) ((.c rfl (.c rfl .n)):SubM _ _) (ho:=(o0 rfl)) sN ?_
 rintro k hI
 replace hI:k≤l.length∧yo (l.take k)=yo l:=hI
 try dsimp only
 obtain ⟨hk,hT⟩:=hI
 refine ze<|zab (X:=Unit) (fun x=>True) (fun x=>[(14,.bool (decide (0<k∧l.getD (k - 1) 0=0))),(0,.slice p k cap),(2,.slice none 0 0)]) (fun x=>[rowA 133 (rI .u32) p cap l]) (fun x=>[]) ?_ ?_
 ·
  refine za<|e_mv rfl<|e_p (zv ye rfl)<|e_p (zra rfl rfl)<|zga rfl rfl (zja rfl) (fun h1=> ?_) (fun h1=> ?_)
  ·
   refine e_mv rfl<|e_mv rfl<|e_p (zv ye rfl)<|e_p (zha (z:=(((k - 1):Nat):Int)) rfl rfl (w64 om))<|e_ru (zkd 0 (k - 1) rfl ye sz133 rfl cbo rfl rfl om)<|r_vl rfl rfl (zN 0 (k - 1) rfl ty133 rfl rfl (gD (d:=0) om) rfl) (fun _ hok2=> ?_)
   replace hok2:=zy.1 hok2
   refine e_p (zna rfl rfl)<|e_p (zE rfl rfl)<|zf ?_
   exact zla () tt9 ((.e rfl (congrArg Value.bool (by have h1:0<k:=om;have h2:((k:Int) - 1).toNat=k - 1:=om;simp [h1,h2])) (.c rfl (.c rfl .n))):SubM _ _) (ho:=(o0 rfl)) sN
  ·
   refine e_no<|e_no<|e_no<|e_no<|e_no<|e_no<|e_no<|e_p (zE rfl rfl)<|zf ?_
   exact zla () tt9 ((.e rfl (congrArg Value.bool (by have h1:¬0<k:=om;simp [h1])) (.c rfl (.c rfl .n))):SubM _ _) (ho:=(o0 rfl)) sN
 ·
  rintro ⟨⟩ -
  try dsimp only
  refine zD rfl (fun hc=> ?_) (fun hc=> ?_)
  ·
   refine zw<|zc<|zt<|za<|e_mv rfl<|e_mv rfl<|e_p (zv ye rfl)<|e_p (zha (z:=(((k - 1):Nat):Int)) rfl rfl (w64 om))<|e_p (zub (hi:=(k - 1)) ye sz133 rfl (.s rfl) (.inr ⟨_,rfl⟩) om)<|e_p (zb rfl)<|zf<|zK<|zV (k - 1) (show (k - 1)≤l.length∧yo (l.take (k - 1))=yo l from by exact ⟨by omega,by rw [← hT,Big.trim_go l hc.1 hk hc.2]⟩) (by show k - 1<k;omega) ((.e rfl cgs (.c rfl .n)):SubM _ _) (ho:=(o0 rfl)) sN
  ·
   refine zaa<|zg<|zg<|zp<|zc<|ze<|za<|e_mv rfl<|e_p (zb rfl)<|zf<|zc<|zG ?_
   have hfin:l.take k=yo l:=by rw [← hT];exact (Big.trim_stop l hk hc).symm
   have hlk:(l.take k).length=k:=by rw [List.length_take];omega
   refine zib (fun w mm=>mm.rowTake 0 rfl k) ?_
   dsimp only [List.set]
   have e3:l.take k=yo l:=by exact hfin
   rw [e3]
   exact zx Tryz.results250 () trivial (zo rfl) (by rw [← hfin,hlk]) (ho:=(o0 rfl)) sN
theorem zXe {a:Nat} {b:Nat} {p1:Option Addr} {c1:Nat} {p2:Option Addr} {c2:Nat} (hb1:(yd a).length≤4398046511104) (hb2:(yd b).length≤4398046511104):Con yk 214 [.slice p1 ((yd a).length) c1,.slice p2 ((yd b).length) c2] [] [slF (rI .u32) p1 c1 (yd a),slF (rI .u32) p2 c2 (yd b)] (Y:=(Option Addr)×Nat) (fun y=>True) (fun y=> .slice (y.1) ((yd (a*b)).length) (y.2)) (fun y=>[rowA 133 (rI .u32) (y.1) (y.2) (yd (a*b))]) (fun y=>[]):=by
 refine zk Tryz.func214 rfl rfl rfl (fun c=> ?_)
 show RunC _ _ _ _ _ [(0,.slice p1 ((yd a).length) c1),(1,.slice p2 ((yd b).length) c2)] [] [slF (rI .u32) p1 c1 (yd a),slF (rI .u32) p2 c2 (yd b)]
 refine zP 0 rfl (fun hL0=> ?_)
 refine zP 1 rfl (fun hL1=> ?_)
 have hoa:=yq a
 have hob:=yq b
 refine ze<|za<|e_p (zb rfl)<|zf<|zc<|ze<|za<|e_mv rfl<|e_p (zv ye rfl)<|e_mv rfl<|e_p (zv ye rfl)<|e_p (zJ (z:=(((((yd a).length)+((yd b).length)):Nat):Int)) rfl rfl (w64 om))<|zma rfl rfl (zua (r:=rI .u32) (k:=(((yd a).length)+((yd b).length))) (x0:=0) (γ0:=()) ye inf133 rfl rfl rfl rfl om om rfl (fun g _=>by exact zy.2 dd) dd) (fun b1 _=> ?_)
 refine e_p (zb rfl)<|zf<|zc<|ze<|ze<|za<|e_mv rfl<|e_p (zv ye rfl)<|e_mv rfl<|zf<|zc<|zt<|zca (X:=Nat×(List Int)) (fun x:Nat×(List Int)=>x.1≤(yd a).length∧x.2.length=(yd a).length+(yd b).length∧yu x.2∧(∀k,x.1+(yd b).length≤k→x.2.getD k 0=0)∧yf x.2=yf ((yd a).take x.1)*yf (yd b)) (fun x=>[(20,ya yb ((x.1:Nat):Int)),(19,ya yb (((yd a).length:Nat):Int)),(18,.slice p1 ((yd a).length) c1),(5,.slice (some ⟨b1,0,none⟩) (((yd a).length)+((yd b).length)) (((yd a).length)+((yd b).length))),(4,.slice none 0 0),(1,.slice p2 ((yd b).length) c2)]) (fun x=>[rowA 133 (rI .u32) (some ⟨b1,0,none⟩) (((yd a).length)+((yd b).length)) (x.2)]) (fun x=>[slF (rI .u32) p1 c1 (yd a),slF (rI .u32) p2 c2 (yd b)]) (fun x:Nat×(List Int)=>(yd a).length - x.1) (0,List.replicate ((yd a).length+(yd b).length) 0) (show 0≤(yd a).length∧(List.replicate ((yd a).length+(yd b).length) 0).length=(yd a).length+(yd b).length∧yu (List.replicate ((yd a).length+(yd b).length) 0)∧(∀k,0+(yd b).length≤k→(List.replicate ((yd a).length+(yd b).length) 0).getD k 0=0)∧yf (List.replicate ((yd a).length+(yd b).length) 0)=yf ((yd a).take 0)*yf (yd b) from by exact ⟨by omega,by simp,Big.okL_zeros _,fun k _=>Big.getD_zeros _ k,by simp [Big.valL_zeros,yf]⟩) ((.e rfl cgs (.of rfl)):SubM _ _) (ho:=((.e (i:=0) rfl cgs .n):PickO _ _ _)) ((.of [0,1] rfl):SelR _ _ _) ?_
 rintro ⟨i,os⟩ hI
 replace hI:i≤(yd a).length∧os.length=(yd a).length+(yd b).length∧yu os∧(∀k,i+(yd b).length≤k→os.getD k 0=0)∧yf os=yf ((yd a).take i)*yf (yd b):=hI
 try dsimp only
 obtain ⟨hi,hol,hok,hz,hv⟩:=hI
 have hg1:=yn hoa i
 refine ze<|za<|e_p (zY rfl rfl)<|zf<|zc<|ze<|zD rfl (fun h2=> ?_) (fun h2=> ?_)
 ·
  refine zw<|zc<|ze<|zt<|ze<|za<|e_mv rfl<|zba (x0:=((yd a).getD i 0)) 0 i rfl ye sz133 rfl rfl rfl (by first|rfl|assumption|(simp;omega)|omega) rfl rfl (gD (d:=0) om) (fun b3 o4 hok5=> ?_)
  replace hok5:=zy.1 hok5
  refine e_ru (zh (j:=0) 0 ty133 rfl rfl rfl rfl)<|e_p (zb rfl)<|e_p (zb rfl)<|zf<|zc<|ze<|za<|e_p (zb rfl)<|zf<|zc<|ze<|ze<|za<|e_mv rfl<|e_p (zv ye rfl)<|e_mv rfl<|zf<|zc<|zt<|zca (X:=Nat×(List Int)×Int) (fun x:Nat×(List Int)×Int=>x.1≤(yd b).length∧x.2.1.length=(yd a).length+(yd b).length∧yu x.2.1∧0≤x.2.2∧x.2.2<1000000000∧(∀k,i+(yd b).length≤k→x.2.1.getD k 0=0)∧yf x.2.1+yA (i+x.1)*x.2.2=yf ((yd a).take i)*yf (yd b)+yA i*(yd a).getD i 0*yf ((yd b).take x.1)) (fun x=>[(8,.int .u64 (x.2.2)),(27,ya yb ((x.1:Nat):Int)),(26,ya yb (((yd b).length:Nat):Int)),(25,.slice p2 ((yd b).length) c2),(7,.int .u32 ((yd a).getD i 0)),(6,ya yb ((i:Nat):Int)),(20,ya yb ((i:Nat):Int)),(19,ya yb (((yd a).length:Nat):Int)),(18,.slice p1 ((yd a).length) c1),(5,.slice (some ⟨b1,0,none⟩) (((yd a).length)+((yd b).length)) (((yd a).length)+((yd b).length))),(4,.slice none 0 0),(1,.slice p2 ((yd b).length) c2)]) (fun x=>[rowA 133 (rI .u32) (some ⟨b1,0,none⟩) (((yd a).length)+((yd b).length)) (x.2.1)]) (fun x=>[atF b3 o4 [.int .u32 ((yd a).getD i 0)],slF (rI .u32) p1 c1 (yd a),slF (rI .u32) p2 c2 (yd b)]) (fun x:Nat×(List Int)×Int=>(yd b).length - x.1) (0,os,0) (show 0≤(yd b).length∧os.length=(yd a).length+(yd b).length∧yu os∧0≤0∧0<1000000000∧(∀k,i+(yd b).length≤k→os.getD k 0=0)∧yf os+yA (i+0)*0=yf ((yd a).take i)*yf (yd b)+yA i*(yd a).getD i 0*yf ((yd b).take 0) from by exact ⟨by omega,hol,hok,by decide,by decide,hz,by rw [hv];simp [yf]⟩) ((.c rfl (.e rfl cgs (.of rfl))):SubM _ _) (ho:=(o0 rfl)) ((.of [0,1,2] rfl):SelR _ _ _) ?_
  rintro ⟨j,os2,cy⟩ hJ
  replace hJ:j≤(yd b).length∧os2.length=(yd a).length+(yd b).length∧yu os2∧0≤cy∧cy<1000000000∧(∀k,i+(yd b).length≤k→os2.getD k 0=0)∧yf os2+yA (i+j)*cy=yf ((yd a).take i)*yf (yd b)+yA i*(yd a).getD i 0*yf ((yd b).take j):=hJ
  try dsimp only
  obtain ⟨hj,hol2,hok2,hcy0,hcy1,hz2,hv2⟩:=hJ
  have hg2:=yn hob j
  have hg3:=yn hok2 (i+j)
  have hpq:=Big.mul_lim hg1 hg2
  refine ze<|za<|e_p (zY rfl rfl)<|zf<|zc<|ze<|zD rfl (fun h6=> ?_) (fun h6=> ?_)
  ·
   refine zw<|zc<|ze<|zt<|ze<|za<|e_mv rfl<|zba (x0:=((yd b).getD j 0)) 2 j rfl ye sz133 rfl rfl rfl (by first|rfl|assumption|(simp;omega)|omega) rfl rfl (gD (d:=0) om) (fun b7 o8 hok9=> ?_)
   replace hok9:=zy.1 hok9
   refine e_ru (zh (j:=0) 0 ty133 rfl rfl rfl rfl)<|e_p (zb rfl)<|e_p (zb rfl)<|zf<|zc<|ze<|za<|e_mv rfl<|e_mv rfl<|e_mv rfl<|e_p (zJ (z:=(((i+j):Nat):Int)) rfl rfl (w64 om))<|e_p (zI (j:=(i+j)) ye sz133 rfl rfl rfl om)<|r_vl rfl rfl (zN 0 (i+j) rfl ty133 rfl rfl (gD (d:=0) om) rfl) (fun _ hok10=> ?_)
   replace hok10:=zy.1 hok10
   refine e_p (zH (z:=(os2.getD (i+j) 0)) rfl (by rw [yg];rfl) yi (wu64 om))<|e_mv rfl<|e_p (zH (z:=((yd a).getD i 0)) rfl (by rw [yg];rfl) yi (wu64 om))<|e_mv rfl<|e_p (zH (z:=((yd b).getD j 0)) rfl (by rw [yg];rfl) yi (wu64 om))<|e_p (zob (z:=(((yd a).getD i 0)*((yd b).getD j 0))) rfl rfl (wu64 om))<|e_p (zJ (z:=((os2.getD (i+j) 0)+(((yd a).getD i 0)*((yd b).getD j 0)))) rfl rfl (wu64 om))<|e_mv rfl<|e_p (zJ (z:=(((os2.getD (i+j) 0)+(((yd a).getD i 0)*((yd b).getD j 0)))+cy)) rfl rfl (wu64 om))<|e_p (zb rfl)<|zf<|zc<|za<|e_mv rfl<|e_mv rfl<|e_mv rfl<|e_p (zJ (z:=(((i+j):Nat):Int)) rfl rfl (w64 om))<|e_mv rfl<|e_p (zbb (z:=((((os2.getD (i+j) 0)+(((yd a).getD i 0)*((yd b).getD j 0)))+cy)%1000000000)) rfl rfl om (remN om om))<|e_p (zH (z:=((((os2.getD (i+j) 0)+(((yd a).getD i 0)*((yd b).getD j 0)))+cy)%1000000000)) rfl (by rw [yi];rfl) yg (wu32 om))<|e_mv rfl<|e_p (zfb (z:=((((os2.getD (i+j) 0)+(((yd a).getD i 0)*((yd b).getD j 0)))+cy) / 1000000000)) rfl rfl om (by rw [quoN (z:=((((os2.getD (i+j) 0)+(((yd a).getD i 0)*((yd b).getD j 0)))+cy) / 1000000000)) om om];exact wu64 om))<|e_p (zI (j:=(i+j)) ye sz133 rfl rfl rfl om)<|zya 0 rfl rfl rfl (zL (j:=(i+j)) (x0:=((((os2.getD (i+j) 0)+(((yd a).getD i 0)*((yd b).getD j 0)))+cy)%1000000000)) (γ0:=()) rfl rfl (by first|omega|(rw [List.length_map];omega)|(simp only [List.length_set];omega)|(simp;done)|(simp;omega)) rfl rfl sz133 (fun _ _=>by exact zy.2 om)) (fun _=> .z) (fun _ _=> ?_)
   refine e_p (zb rfl)<|zf<|zK<|zc<|za<|e_p (zJ (z:=(((j+1):Nat):Int)) rfl rfl (w64 om))<|e_mv rfl<|zf<|zV ((j+1),os2.set (i+j) ((os2.getD (i+j) 0+(yd a).getD i 0*(yd b).getD j 0+cy)%1000000000),(os2.getD (i+j) 0+(yd a).getD i 0*(yd b).getD j 0+cy) / 1000000000) (show (j+1)≤(yd b).length∧(os2.set (i+j) ((os2.getD (i+j) 0+(yd a).getD i 0*(yd b).getD j 0+cy)%1000000000)).length=(yd a).length+(yd b).length∧yu (os2.set (i+j) ((os2.getD (i+j) 0+(yd a).getD i 0*(yd b).getD j 0+cy)%1000000000))∧0≤((os2.getD (i+j) 0+(yd a).getD i 0*(yd b).getD j 0+cy) / 1000000000)∧((os2.getD (i+j) 0+(yd a).getD i 0*(yd b).getD j 0+cy) / 1000000000)<1000000000∧(∀k,i+(yd b).length≤k→(os2.set (i+j) ((os2.getD (i+j) 0+(yd a).getD i 0*(yd b).getD j 0+cy)%1000000000)).getD k 0=0)∧yf (os2.set (i+j) ((os2.getD (i+j) 0+(yd a).getD i 0*(yd b).getD j 0+cy)%1000000000))+yA (i+(j+1))*((os2.getD (i+j) 0+(yd a).getD i 0*(yd b).getD j 0+cy) / 1000000000)=yf ((yd a).take i)*yf (yd b)+yA i*(yd a).getD i 0*yf ((yd b).take (j+1)) from by exact ⟨by omega,by simpa using hol2,yQ hok2 om om,by omega,by omega,fun k hk=>by rw [yL om];exact hz2 k om,Big.mul_step hv2 om om⟩) (by show (yd b).length - (j+1)<(yd b).length - j;omega) ((.e rfl cgs (.of rfl)):SubM _ _) (ho:=((.e (i:=0) rfl cgs .n):PickO _ _ _)) ((.of [1,2,3] rfl):SelR _ _ _)
  ·
   have hjb:j=(yd b).length:=by omega
   subst hjb
   have hv3:=hv2
   refine zaa<|zg<|zg<|zp<|zc<|za<|e_mv rfl<|e_mv rfl<|e_mv rfl<|e_p (zv ye rfl)<|e_p (zJ (z:=(((i+((yd b).length)):Nat):Int)) rfl rfl (w64 om))<|e_mv rfl<|e_p (zH (z:=cy) rfl (by rw [yi];rfl) yg (wu32 om))<|e_p (zI (j:=(i+((yd b).length))) ye sz133 rfl rfl rfl om)<|zya 0 rfl rfl rfl (zL (j:=(i+((yd b).length))) (x0:=cy) (γ0:=()) rfl rfl (by first|omega|(rw [List.length_map];omega)|(simp only [List.length_set];omega)|(simp;done)|(simp;omega)) rfl rfl sz133 (fun _ _=>by exact zy.2 om)) (fun _=> .z) (fun _ _=> ?_)
   refine zf<|zK<|zc<|za<|e_p (zJ (z:=(((i+1):Nat):Int)) rfl rfl (w64 om))<|e_mv rfl<|zf<|zV ((i+1),os2.set (i+(yd b).length) cy) (show (i+1)≤(yd a).length∧(os2.set (i+(yd b).length) cy).length=(yd a).length+(yd b).length∧yu (os2.set (i+(yd b).length) cy)∧(∀k,(i+1)+(yd b).length≤k→(os2.set (i+(yd b).length) cy).getD k 0=0)∧yf (os2.set (i+(yd b).length) cy)=yf ((yd a).take (i+1))*yf (yd b) from by exact ⟨by omega,by simpa using hol2,yQ hok2 om om,fun k hk=>by rw [yL om];exact hz2 k om,Big.mul_round hv3 om (hz2 _ (Nat.le_refl _))⟩) (by show (yd a).length - (i+1)<(yd a).length - i;omega) (mR rfl) (ho:=((.e (i:=0) rfl cgs .n):PickO _ _ _)) ((.of [1,2] rfl):SelR _ _ _)
 ·
  have hia:i=(yd a).length:=by omega
  have hfin:yo os=yd (a*b):=Big.trimL_of hok (by rw [hv,hia,List.take_length,yx,yx,Int.natCast_mul])
  refine zaa<|zg<|zg<|zp<|zc<|ze<|za<|e_mv rfl<|zZd (A:=[rowA 133 (rI .u32) (some ⟨b1,0,none⟩) (((yd a).length)+((yd b).length)) os]) (F:=[]) (first:=[]) (cap:=[]) rfl rfl rfl (.c rfl .n) ce250 (zQf (p:=some ⟨b1,0,none⟩) (n:=(((yd a).length)+((yd b).length))) (cap:=(((yd a).length)+((yd b).length))) (l:=os) (hn:=cbb)) (.n) ?_
  rintro ⟨⟩ -
  dsimp only [aq,nq,cq]
  refine e_p (zb rfl)<|zf<|zc<|zG ?_
  have e11:yo os=yd (a*b):=by exact hfin
  rw [e11]
  exact zx Tryz.results214 ((some ⟨b1,0,none⟩),(((yd a).length)+((yd b).length))) trivial (zo rfl) rfl (ho:=(o0 rfl)) sN
end Go.Proofs.YtpdbimfnhglhpaaGreat.Sp
namespace Go.Proofs.YtpdbimfnhglhpaaGreat.Sp
open Go
set_option linter.unusedVariables false
set_option maxRecDepth 100000
set_option maxHeartbeats 8000000
theorem zwg {a:Nat} {b:Nat} {p1:Option Addr} {c1:Nat} {p2:Option Addr} {c2:Nat} (hb1:(yd a).length≤4398046511104) (hb2:(yd b).length≤4398046511104) (hb3:2≤(yd b).length) (hab:b≤a):Con yk 256 [.slice p1 ((yd a).length) c1,.slice p2 ((yd b).length) c2] [] [slF (rI .u32) p1 c1 (yd a),slF (rI .u32) p2 c2 (yd b)] (Y:=(Option Addr)×Nat×(Option Addr)×Nat) (fun y=>True) (fun y=> .tuple #[.slice (y.1) ((yd (a / b)).length) (y.2.1),.slice (y.2.2.1) ((yd (a%b)).length) (y.2.2.2)]) (fun y=>[]) (fun y=>[slF (rI .u32) (y.1) (y.2.1) (yd (a / b)),slF (rI .u32) (y.2.2.1) (y.2.2.2) (yd (a%b))]):=by
 refine zk Tryz.func256 rfl rfl rfl (fun c=> ?_)
 show RunC _ _ _ _ _ [(0,.slice p1 ((yd a).length) c1),(1,.slice p2 ((yd b).length) c2)] [] [slF (rI .u32) p1 c1 (yd a),slF (rI .u32) p2 c2 (yd b)]
 refine zP 0 rfl (fun hL0=> ?_)
 refine zP 1 rfl (fun hL1=> ?_)
 have hob:=yq b
 have htop:=yn hob ((yd b).length - 1)
 have hdt:=Big.digs_top (b:=b) (n:=(yd b).length - 1) om
 have hab2:=yE hab
 have hq1:0≤1000000000 / ((yd b).getD ((yd b).length - 1) 0+1):=Int.ediv_nonneg om om
 have hq2:1000000000 / ((yd b).getD ((yd b).length - 1) 0+1)≤500000000:=Int.ediv_le_of_le_mul om om
 refine ze<|za<|e_p (zb rfl)<|e_p (zb rfl)<|zf<|zc<|ze<|za<|e_mv rfl<|e_mv rfl<|e_p (zv ye rfl)<|e_p (zha (z:=((((yd b).length - 1):Nat):Int)) rfl rfl (w64 om))<|zba (x0:=((yd b).getD ((yd b).length - 1) 0)) 1 ((yd b).length - 1) rfl ye sz133 rfl rfl rfl (by first|rfl|assumption|(simp;done)|omega) rfl rfl (gD (d:=0) om) (fun b1 o2 hok3=> ?_)
 replace hok3:=zy.1 hok3
 refine e_ru (zh (j:=0) 0 ty133 rfl rfl rfl rfl)<|e_p (zH (z:=((yd b).getD ((yd b).length - 1) 0)) rfl (by rw [yg];rfl) yi (wu64 om))<|e_p (zJ (z:=(((yd b).getD ((yd b).length - 1) 0)+1)) rfl rfl (wu64 om))<|e_p (zfb (z:=(1000000000 / (((yd b).getD ((yd b).length - 1) 0)+1))) rfl rfl om (by rw [quoN (z:=(1000000000 / (((yd b).getD ((yd b).length - 1) 0)+1))) om om];exact wu64 om))<|e_p (zH (z:=(1000000000 / (((yd b).getD ((yd b).length - 1) 0)+1))) rfl (by rw [yi];rfl) yg (wu32 om))<|e_p (zb rfl)<|zf<|zc<|ze ?_
 obtain ⟨s,hs⟩:∃s:Nat,s=(1000000000 / ((yd b).getD ((yd b).length - 1) 0+1)).toNat:=⟨_,rfl⟩
 obtain ⟨hs1,hs2,hs3⟩:=Big.scale_len (n:=(yd b).length - 1) om hs
 have hsd:=Big.digs_one hs1 (by omega:s<1000000000)
 have hsl:(yd s).length=1:=by rw [hsd];rfl
 have e4:((1000000000 / (((yd b).getD ((yd b).length - 1) 0)+1)):Int)=((s:Nat):Int):=by omega
 rw [e4]
 refine za<|e_mv rfl<|e_mv rfl<|zma rfl rfl (zda (enc:=fun z:Int=>[.int .u32 z]) (ok:=InK .u32) (h1:=fun _=>rfl) (h2:=fun _=>rfl) (k:=1) ye inf133 rfl dd dd dd (.c (x:=((s:Nat):Int)) rfl rfl (fun _ _=>by exact zy.2 om) .n)) (fun b5 _=> ?_)
 refine zea 0 rfl .z ?_
 have e6:[((s:Nat):Int)]=yd s:=by exact hsd.symm
 rw [e6]
 have e7:(.slice (some ⟨b5,0,none⟩) 1 1:Value)= .slice (some ⟨b5,0,none⟩) ((yd s).length) 1:=by rw [hsl]
 rw [e7]
 refine zm rfl rfl (.c rfl (.c rfl .n)) ce214 (zXe (a:=a) (b:=s) (p1:=p1) (c1:=c1) (p2:=some ⟨b5,0,none⟩) (c2:=1) (hb1:=ass) (hb2:=cbb)) (.c (j:=2) rfl (.c (j:=0) rfl .n)) ?_
 rintro ⟨p38,c39⟩ -
 dsimp only [aq,nq,cq]
 refine e_p (zb rfl)<|zf<|zc<|ze<|za<|e_mv rfl<|e_mv rfl<|zma rfl rfl (zda (enc:=fun z:Int=>[.int .u32 z]) (ok:=InK .u32) (h1:=fun _=>rfl) (h2:=fun _=>rfl) (k:=1) ye inf133 rfl dd dd dd (.c (x:=((s:Nat):Int)) rfl rfl (fun _ _=>by exact zy.2 om) .n)) (fun b10 _=> ?_)
 refine zea 0 rfl .z ?_
 have e11:[((s:Nat):Int)]=yd s:=by exact hsd.symm
 rw [e11]
 have e12:(.slice (some ⟨b10,0,none⟩) 1 1:Value)= .slice (some ⟨b10,0,none⟩) ((yd s).length) 1:=by rw [hsl]
 rw [e12]
 refine zm rfl rfl (.c rfl (.c rfl .n)) ce214 (zJd (a:=b) (b:=s) (p1:=p2) (c1:=c2) (p2:=some ⟨b10,0,none⟩) (c2:=1) (hb1:=ass) (hb2:=cbb)) (.c (j:=4) rfl (.c (j:=0) rfl .n)) ?_
 rintro ⟨p313,c314⟩ -
 dsimp only [aq,nq,cq]
 refine e_p (zb rfl)<|zf<|zc<|ze ?_
 obtain ⟨A,hA⟩:∃z,z=a*s:=⟨_,rfl⟩
 rw [← hA]
 obtain ⟨V,hV⟩:∃z,z=b*s:=⟨_,rfl⟩
 rw [← hV]
 have hAl:(yd a).length≤(yd A).length:=by rw [hA];exact Big.len_mul_ge hs1
 have hAl2:(yd A).length≤(yd a).length+1:=by have h8:=Big.len_mul_le a s;rw [hsl] at h8;rw [hA];exact h8
 obtain ⟨m,hm⟩:∃z,(yd V).length=z+2:=⟨(yd b).length - 2,by rw [hV,hs3];omega⟩
 have hmb:(yd b).length=m+2:=by rw [hV,hs3] at hm;omega
 have e15:(yd V).length=(m+2):=by exact hm
 rw [e15]
 refine za<|e_mv rfl<|e_p (zv ye rfl)<|e_p (zb rfl)<|zf<|zc<|ze<|za<|e_mv rfl<|zma rfl rfl (zda (enc:=fun z:Int=>[.int .u32 z]) (ok:=InK .u32) (h1:=fun _=>rfl) (h2:=fun _=>rfl) (k:=1) ye inf133 rfl dd dd dd (.c (x:=0) rfl rfl (fun _ _=>by exact zy.2 om) .n)) (fun b16 _=> ?_)
 refine zea 0 rfl .z<|zya 2 rfl rfl rfl (zsa 0 rfl ye inf133 dd rfl rfl (by first|rfl|assumption|(simp;done)|omega) rfl (by first|rfl|assumption|(simp;done)|omega) om om) (fun _=>(.s (.s .z))) ?_
 rintro ⟨p17,c18⟩ -
 dsimp only [aq,nq,cq]
 refine e_p (zb rfl)<|zf<|zc<|ze<|ze<|za<|e_mv rfl<|e_p (zv ye rfl)<|e_mv rfl<|e_p (zv ye rfl)<|e_p (zpc rfl rfl)<|zf<|zc<|zD rfl (fun h19=> ?_) (fun h19=> ?_)
 ·
  exact absurd ‹_› om
 ·
  refine zw<|zc<|ze ?_
  obtain ⟨M,hM⟩:∃z,z=((yd A).length)+1:=⟨_,rfl⟩
  rw [← hM]
  refine za<|e_mv rfl<|e_p (zv ye rfl)<|e_mv rfl<|e_p (zha (z:=(((M - (m+2)):Nat):Int)) rfl rfl (w64 om))<|zma rfl rfl (zua (r:=rI .u32) (k:=(M - (m+2))) (x0:=0) (γ0:=()) ye inf133 rfl rfl rfl rfl om om rfl (fun g _=>by exact zy.2 dd) dd) (fun b20 _=> ?_)
  refine e_p (zb rfl)<|zf<|zc<|ze<|ze ?_
  have hMl:m+3≤M:=by omega
  have hLg:yW M (m+2) ((A:Nat):Int) ((V:Nat):Int) (M - (m+2)) (yd A++[0]) []:=yW.start (yO (yq A) dd dd) (by simp [hM]) (by rw [Big.valL_snoc,yx];simp) hm om (by rw [Big.valL_snoc,yx,hM,Nat.add_sub_cancel];simpa using Big.digs_lt A) om
  refine za<|e_mv rfl<|e_p (zv ye rfl)<|e_mv rfl<|e_p (zha (z:=(((M:Nat):Int) - (((m+2):Nat):Int))) rfl rfl (w64 om))<|e_p (zha (z:=((((M:Nat):Int) - (((m+2):Nat):Int)) - 1)) rfl rfl (w64 om))<|e_p (zb rfl)<|zf<|zc<|zt<|zca (X:=Nat×(List Int)×(List Int)) (fun x:Nat×(List Int)×(List Int)=>yW M (m+2) ((A:Nat):Int) ((V:Nat):Int) x.1 x.2.1 x.2.2) (fun x=>[(10,ya yb (((x.1:Nat):Int) - 1)),(4,.slice (some ⟨b20,0,none⟩) (M - (m+2)) (M - (m+2))),(7,.slice p17 M c18),(9,ya yb (((m+2):Nat):Int)),(8,.slice p313 (m+2) c314),(6,.int .u32 ((s:Nat):Int)),(5,.slice none 0 0)]) (fun x=>[rowA 133 (rI .u32) (some ⟨b20,0,none⟩) (M - (m+2)) (List.replicate x.1 0++x.2.2),rowA 133 (rI .u32) p17 c18 (x.2.1)]) (fun x=>[slF (rI .u32) (some ⟨b16,0,none⟩) 1 ([0]),slF (rI .u32) p313 c314 (yd V),slF (rI .u32) (some ⟨b10,0,none⟩) 1 (yd s),slF (rI .u32) (some ⟨b5,0,none⟩) 1 (yd s),atF b1 o2 [.int .u32 ((yd b).getD ((yd b).length - 1) 0)],slF (rI .u32) p1 c1 (yd a),slF (rI .u32) p2 c2 (yd b)]) (fun x:Nat×(List Int)×(List Int)=>x.1) ((M - (m+2)),(yd A++[0]),([]:List Int)) (show yW M (m+2) ((A:Nat):Int) ((V:Nat):Int) (M - (m+2)) (yd A++[0]) ([]:List Int) from by exact hLg) ((.e rfl (congrArg (Value.int .i64) om) (.of rfl)):SubM _ _) (ho:=((.e (i:=0) rfl (by simp) (.e (i:=2) rfl (by simp) .n)):PickO _ _ _)) ((.of [0,1,2,3,4,5,6] rfl):SelR _ _ _) ?_
  rintro ⟨jj,u,qs⟩ hI
  replace hI:yW M (m+2) ((A:Nat):Int) ((V:Nat):Int) jj u qs:=hI
  try dsimp only
  refine ze<|ze<|za<|e_mv rfl<|e_p (zTa rfl rfl)<|zf<|zc<|zD rfl (fun hj=> ?_) (fun hj=> ?_)
  ·
   obtain ⟨j,rfl⟩:∃j,jj=j+1:=⟨jj - 1,by omega⟩
   have e21:(((((j+1):Nat):Int) - 1):Int)=((j:Nat):Int):=by omega
   rw [e21]
   have hjM:=hI.jle
   have hul:=hI.ul
   have hT:=hI.tp hm
   have hu2:=hT.a2
   have hu1:=hT.a1
   have hu0:=hT.a0
   have hvt1:=hT.vt1
   have hvt2:=hT.vt2
   have hvs0:=hT.vs0
   have hvs1:=hT.vs1
   have hgst:=hT.start
   have hgl0:=Big.Gs.le hT hgst
   have hg00:=hgst.g0
   have hg01:=hgst.r0
   have hrlt:=Int.emod_lt_of_pos ((u.getD (j+(m+2)) 0)*1000000000+(u.getD (j+(m+1)) 0)) (show 0<((yd V).getD (m+1) 0) by omega)
   refine zw<|zc<|ze<|zt<|ze<|zW (OW:=[]) (O:=[rowA 133 (rI .u32) (some ⟨b20,0,none⟩) (M - (m+2)) (List.replicate (j+1) 0++qs),rowA 133 (rI .u32) p17 c18 u]) 100000 mixed (.then (.block (.then (.then (.block (.then .ret)))))) kr<|e_dm 0 rfl rfl rfl<|e_dm 1 rfl rfl rfl<|e_dm 2 rfl rfl rfl<|e_pv 3 rfl rfl (zJ (z:=(((j+(m+2)):Nat):Int)) rfl rfl (w64 om))<|e_dm 7 rfl rfl rfl<|e_dm 8 rfl rfl rfl<|e_dm 9 rfl rfl rfl<|e_pv 10 rfl rfl (zJ (z:=(((j+(m+2)):Nat):Int)) rfl rfl (w64 om))<|e_pv 11 rfl rfl (zha (z:=(((j+(m+1)):Nat):Int)) rfl rfl (w64 om))<|e_u 12 rfl rfl (zia 1 (j+(m+1)) rfl ye sz133 rfl (by first|rfl|assumption|(simp;done)|omega) rfl rfl om)<|d_vl 13 rfl rfl kr kr rfl rfl (zN 1 (j+(m+1)) rfl ty133 rfl rfl (gD (d:=0) om) rfl) (fun _ hok22=> ?_)
   replace hok22:=zy.1 hok22
   refine e_pv 14 rfl rfl (zH (z:=(u.getD (j+(m+1)) 0)) rfl (by rw [yg];rfl) yi (wu64 om))<|e_one 4 (zpg 1 rfl rfl rfl rfl rfl (.c rfl (.c rfl .n)) ce257 (zMe (p:=p17) (n:=M) (cap:=c18) (l:=u) (i:=(j+(m+2))) (hn:=cbb) (hi:=cbb)) (.c (j:=0) rfl .n) ?_)
   refine e_pv 5 rfl rfl (zH (z:=u.getD (j+(m+2)) 0) rfl (by rw [yg];rfl) yi (wu64 om))<|e_pv 6 rfl rfl (zob (z:=(u.getD (j+(m+2)) 0*1000000000)) rfl rfl (wu64 om))<|e_pv 15 rfl rfl (zJ (z:=((u.getD (j+(m+2)) 0*1000000000)+(u.getD (j+(m+1)) 0))) rfl rfl (wu64 om))<|e_pv 16 rfl rfl (zb rfl)<|zU kr<|zc<|ze<|zW (OW:=[]) (O:=[rowA 133 (rI .u32) (some ⟨b20,0,none⟩) (M - (m+2)) (List.replicate (j+1) 0++qs),rowA 133 (rI .u32) p17 c18 u]) 100000 mixed (.then (.block (.then (.then (.block (.then .ret)))))) kr<|e_dm 0 rfl rfl rfl<|e_dm 1 rfl rfl rfl<|e_dm 2 rfl rfl rfl<|e_pv 3 rfl rfl (zha (z:=(((m+1):Nat):Int)) rfl rfl (w64 om))<|zFa (x0:=((yd V).getD (m+1) 0)) 4 rfl rfl kr kr 1 (m+1) rfl ye sz133 rfl rfl rfl (by first|rfl|assumption|(simp;done)|omega) rfl rfl (gD (d:=0) om) (fun b23 o24 hok25=> ?_)
   replace hok25:=zy.1 hok25
   refine e_u 5 rfl rfl (zh (j:=0) 0 ty133 rfl rfl rfl rfl)<|e_pv 6 rfl rfl (zH (z:=((yd V).getD (m+1) 0)) rfl (by rw [yg];rfl) yi (wu64 om))<|e_pv 7 rfl rfl (zfb (z:=(((u.getD (j+(m+2)) 0*1000000000)+(u.getD (j+(m+1)) 0)) / ((yd V).getD (m+1) 0))) rfl rfl om (by rw [quoN (z:=(((u.getD (j+(m+2)) 0*1000000000)+(u.getD (j+(m+1)) 0)) / ((yd V).getD (m+1) 0))) om om];exact wu64 om))<|e_dm 8 rfl rfl rfl<|e_dm 9 rfl rfl rfl<|e_dm 10 rfl rfl rfl<|e_pv 11 rfl rfl (zha (z:=(((m+1):Nat):Int)) rfl rfl (w64 om))<|zFa (x0:=((yd V).getD (m+1) 0)) 12 rfl rfl kr kr 2 (m+1) rfl ye sz133 rfl rfl rfl (by first|rfl|assumption|(simp;done)|omega) rfl rfl (gD (d:=0) om) (fun b26 o27 hok28=> ?_)
   replace hok28:=zy.1 hok28
   refine e_u 13 rfl rfl (zh (j:=0) 0 ty133 rfl rfl rfl rfl)<|e_pv 14 rfl rfl (zH (z:=((yd V).getD (m+1) 0)) rfl (by rw [yg];rfl) yi (wu64 om))<|e_pv 15 rfl rfl (zbb (z:=(((u.getD (j+(m+2)) 0*1000000000)+(u.getD (j+(m+1)) 0))%((yd V).getD (m+1) 0))) rfl rfl om (remN om om))<|e_pv 16 rfl rfl (zb rfl)<|e_pv 17 rfl rfl (zb rfl)<|zU kr<|zc<|zab (X:=Int) (fun x=>(0≤x∧x<1000000000)∧(yf (u.drop j))<(x+1)*(V:Int)∧x*(V:Int)<(yf (u.drop j))+(V:Int)) (fun x=>[(12,.int .u64 x),(10,ya yb ((j:Nat):Int)),(4,.slice (some ⟨b20,0,none⟩) (M - (m+2)) (M - (m+2))),(7,.slice p17 M c18),(9,ya yb (((m+2):Nat):Int)),(8,.slice p313 (m+2) c314),(6,.int .u32 ((s:Nat):Int)),(5,.slice none 0 0)]) (fun x=>[rowA 133 (rI .u32) (some ⟨b20,0,none⟩) (M - (m+2)) (List.replicate (j+1) 0++qs),rowA 133 (rI .u32) p17 c18 u]) (fun x=>[atF b26 o27 [.int .u32 ((yd V).getD (m+1) 0)],atF b23 o24 [.int .u32 ((yd V).getD (m+1) 0)],slF (rI .u32) (some ⟨b16,0,none⟩) 1 ([0]),slF (rI .u32) p313 c314 (yd V),slF (rI .u32) (some ⟨b10,0,none⟩) 1 (yd s),slF (rI .u32) (some ⟨b5,0,none⟩) 1 (yd s),atF b1 o2 [.int .u32 ((yd b).getD ((yd b).length - 1) 0)],slF (rI .u32) p1 c1 (yd a),slF (rI .u32) p2 c2 (yd b)]) ?_ ?_
   ·
    refine zt<|zca (X:=Int×Int) (fun x:Int×Int=>Big.Gs (yf (u.drop j)) (V:Int) ((yd V).getD (m+1) 0) ((u.getD (j+(m+2)) 0)*1000000000+(u.getD (j+(m+1)) 0)) x.1 x.2∧x.2<1000000000) (fun x=>[(13,.int .u64 (x.2)),(12,.int .u64 (x.1)),(10,ya yb ((j:Nat):Int)),(4,.slice (some ⟨b20,0,none⟩) (M - (m+2)) (M - (m+2))),(7,.slice p17 M c18),(9,ya yb (((m+2):Nat):Int)),(8,.slice p313 (m+2) c314),(6,.int .u32 ((s:Nat):Int)),(5,.slice none 0 0)]) (fun x=>[rowA 133 (rI .u32) (some ⟨b20,0,none⟩) (M - (m+2)) (List.replicate (j+1) 0++qs),rowA 133 (rI .u32) p17 c18 u]) (fun x=>[atF b26 o27 [.int .u32 ((yd V).getD (m+1) 0)],atF b23 o24 [.int .u32 ((yd V).getD (m+1) 0)],slF (rI .u32) (some ⟨b16,0,none⟩) 1 ([0]),slF (rI .u32) p313 c314 (yd V),slF (rI .u32) (some ⟨b10,0,none⟩) 1 (yd s),slF (rI .u32) (some ⟨b5,0,none⟩) 1 (yd s),atF b1 o2 [.int .u32 ((yd b).getD ((yd b).length - 1) 0)],slF (rI .u32) p1 c1 (yd a),slF (rI .u32) p2 c2 (yd b)]) (fun x:Int×Int=>x.1.toNat) ((((u.getD (j+(m+2)) 0*1000000000)+(u.getD (j+(m+1)) 0)) / ((yd V).getD (m+1) 0)),(((u.getD (j+(m+2)) 0*1000000000)+(u.getD (j+(m+1)) 0))%((yd V).getD (m+1) 0))) (show Big.Gs (yf (u.drop j)) (V:Int) ((yd V).getD (m+1) 0) ((u.getD (j+(m+2)) 0)*1000000000+(u.getD (j+(m+1)) 0)) (((u.getD (j+(m+2)) 0*1000000000)+(u.getD (j+(m+1)) 0)) / ((yd V).getD (m+1) 0)) (((u.getD (j+(m+2)) 0*1000000000)+(u.getD (j+(m+1)) 0))%((yd V).getD (m+1) 0))∧(((u.getD (j+(m+2)) 0*1000000000)+(u.getD (j+(m+1)) 0))%((yd V).getD (m+1) 0))<1000000000 from by exact ⟨hgst,by omega⟩) (mR rfl) (ho:=((.of [0,0] rfl):PickO _ _ _)) ((.of [0,1,2,3,4,5,6,7,8] rfl):SelR _ _ _) ?_
    rintro ⟨g,r⟩ hG
    replace hG:Big.Gs (yf (u.drop j)) (V:Int) ((yd V).getD (m+1) 0) ((u.getD (j+(m+2)) 0)*1000000000+(u.getD (j+(m+1)) 0)) g r∧r<1000000000:=hG
    try dsimp only
    obtain ⟨hGs,hr9⟩:=hG
    have hgl:=Big.Gs.le hT hGs
    have hg0:=hGs.g0
    have hr0:=hGs.r0
    have hgm:=Big.mul_lim3 hg0 hgl.1 hvs0 hvs1
    refine ze<|zab (X:=Unit) (fun x=>True) (fun x=>[(123,.bool (decide ((1000000000≤g)∨(((r*1000000000)+(u.getD (j+m) 0))<(g*((yd V).getD m 0)))))),(13,.int .u64 r),(12,.int .u64 g),(10,ya yb ((j:Nat):Int)),(4,.slice (some ⟨b20,0,none⟩) (M - (m+2)) (M - (m+2))),(7,.slice p17 M c18),(9,ya yb (((m+2):Nat):Int)),(8,.slice p313 (m+2) c314),(6,.int .u32 ((s:Nat):Int)),(5,.slice none 0 0)]) (fun x=>[rowA 133 (rI .u32) (some ⟨b20,0,none⟩) (M - (m+2)) (List.replicate (j+1) 0++qs),rowA 133 (rI .u32) p17 c18 u]) (fun x=>[atF b26 o27 [.int .u32 ((yd V).getD (m+1) 0)],atF b23 o24 [.int .u32 ((yd V).getD (m+1) 0)],slF (rI .u32) (some ⟨b16,0,none⟩) 1 ([0]),slF (rI .u32) p313 c314 (yd V),slF (rI .u32) (some ⟨b10,0,none⟩) 1 (yd s),slF (rI .u32) (some ⟨b5,0,none⟩) 1 (yd s),atF b1 o2 [.int .u32 ((yd b).getD ((yd b).length - 1) 0)],slF (rI .u32) p1 c1 (yd a),slF (rI .u32) p2 c2 (yd b)]) ?_ ?_
    ·
     refine zW (OW:=[]) (O:=[rowA 133 (rI .u32) (some ⟨b20,0,none⟩) (M - (m+2)) (List.replicate (j+1) 0++qs),rowA 133 (rI .u32) p17 c18 u]) 100000 mixed (.then (.then (.then (.block (.then (.block (.then (.then (.block (.then .ret)))))))))) kr<|e_dm 0 rfl rfl rfl<|e_pv 1 rfl rfl (zTa rfl rfl)<|zEe 2 rfl rfl kr kr rfl rfl (zja rfl) (fun hge=> ?_) (fun hge=> ?_)
     ·
      refine e_skip 3 rfl rfl<|e_skip 4 rfl rfl<|e_skip 5 rfl rfl<|e_skip 6 rfl rfl<|e_skip 7 rfl rfl<|e_skip 8 rfl rfl<|e_skip 9 rfl rfl<|e_skip 10 rfl rfl<|e_skip 11 rfl rfl<|e_skip 12 rfl rfl<|e_skip 13 rfl rfl<|e_skip 14 rfl rfl<|e_skip 15 rfl rfl<|e_skip 16 rfl rfl<|e_skip 17 rfl rfl<|e_skip 18 rfl rfl<|e_skip 19 rfl rfl<|e_skip 20 rfl rfl<|e_skip 21 rfl rfl<|e_skip 22 rfl rfl<|e_pv 23 rfl rfl (zE rfl rfl)<|zU kr ?_
      exact zla () tt9 ((.e rfl (congrArg Value.bool (by exact (decide_eq_true (.inl hge)).symm)) (.of rfl)):SubM _ _) (ho:=((.of [0,0] rfl):PickO _ _ _)) ((.of [0,1,2,3,4,5,6,7,8] rfl):SelR _ _ _)
     ·
      refine e_dm 3 rfl rfl rfl<|e_dm 4 rfl rfl rfl<|e_dm 5 rfl rfl rfl<|e_pv 6 rfl rfl (zha (z:=((m:Nat):Int)) rfl rfl (w64 om))<|zFa (x0:=((yd V).getD m 0)) 7 rfl rfl kr kr 3 m rfl ye sz133 rfl rfl rfl (by first|rfl|assumption|(simp;done)|omega) rfl rfl (gD (d:=0) om) (fun b29 o30 hok31=> ?_)
      replace hok31:=zy.1 hok31
      refine e_u 8 rfl rfl (zh (j:=0) 0 ty133 rfl rfl rfl rfl)<|e_pv 9 rfl rfl (zH (z:=((yd V).getD m 0)) rfl (by rw [yg];rfl) yi (wu64 om))<|e_pv 10 rfl rfl (zob (z:=(g*((yd V).getD m 0))) rfl rfl (wu64 om))<|e_dm 11 rfl rfl rfl<|e_pv 12 rfl rfl (zob (z:=(r*1000000000)) rfl rfl (wu64 om))<|e_dm 13 rfl rfl rfl<|e_dm 14 rfl rfl rfl<|e_dm 15 rfl rfl rfl<|e_pv 16 rfl rfl (zJ (z:=(((j+(m+2)):Nat):Int)) rfl rfl (w64 om))<|e_pv 17 rfl rfl (zha (z:=(((j+m):Nat):Int)) rfl rfl (w64 om))<|e_u 18 rfl rfl (zia 1 (j+m) rfl ye sz133 rfl (by first|rfl|assumption|(simp;done)|omega) rfl rfl om)<|d_vl 19 rfl rfl kr kr rfl rfl (zN 1 (j+m) rfl ty133 rfl rfl (gD (d:=0) om) rfl) (fun _ hok32=> ?_)
      replace hok32:=zy.1 hok32
      refine e_pv 20 rfl rfl (zH (z:=(u.getD (j+m) 0)) rfl (by rw [yg];rfl) yi (wu64 om))<|e_pv 21 rfl rfl (zJ (z:=((r*1000000000)+(u.getD (j+m) 0))) rfl rfl (wu64 om))<|e_pv 22 rfl rfl (zra rfl rfl)<|e_pv 23 rfl rfl (zE rfl rfl)<|zU kr ?_
      exact zla () tt9 ((.e rfl (congrArg Value.bool (by exact decide_eq_decide.2 ⟨fun h=> .inr h,fun h=>h.resolve_left hge⟩)) (.of rfl)):SubM _ _) (ho:=((.of [0,0] rfl):PickO _ _ _)) ((.of [1,2,3,4,5,6,7,8,9] rfl):SelR _ _ _)
    ·
     rintro ⟨⟩ -
     try dsimp only
     refine zD rfl (fun hgs=> ?_) (fun hgs=> ?_)
     ·
      have hst:=hGs.step hT hgs
      have hst1:=hst.1
      refine zw<|zc<|zt<|ze<|za<|e_mv rfl<|e_p (zha (z:=(g - 1)) rfl rfl (wu64 om))<|e_p (zb rfl)<|zf<|zc<|ze<|za<|e_mv rfl<|e_mv rfl<|e_mv rfl<|e_p (zha (z:=(((m+1):Nat):Int)) rfl rfl (w64 om))<|zba (x0:=((yd V).getD (m+1) 0)) 3 (m+1) rfl ye sz133 rfl rfl rfl (by first|rfl|assumption|(simp;done)|omega) rfl rfl (gD (d:=0) om) (fun b33 o34 hok35=> ?_)
      replace hok35:=zy.1 hok35
      refine e_ru (zh (j:=0) 0 ty133 rfl rfl rfl rfl)<|e_p (zH (z:=((yd V).getD (m+1) 0)) rfl (by rw [yg];rfl) yi (wu64 om))<|e_p (zJ (z:=(r+((yd V).getD (m+1) 0))) rfl rfl (wu64 om))<|e_p (zb rfl)<|zf<|zc<|ze<|za<|e_mv rfl<|e_p (zTa rfl rfl)<|zf<|zc<|zD rfl (fun hbr=> ?_) (fun hbr=> ?_)
      ·
       refine zaa<|zvd rfl<|zg<|zp ?_
       exact zla (g - 1) (show (0≤(g - 1)∧(g - 1)<1000000000)∧(yf (u.drop j))<((g - 1)+1)*(V:Int)∧(g - 1)*(V:Int)<(yf (u.drop j))+(V:Int) from by have hs9:=(hGs.step hT hgs).2;have hb9:=Big.Gs.broke hT hs9 hbr;exact ⟨⟨hs9.g0,hb9.1⟩,hs9.up,Big.Gs.fin hT hs9 hb9.1 hb9.2⟩) (mR rfl) (ho:=((.of [0,0] rfl):PickO _ _ _)) ((.of [1,2,3,4,5,6,7,8,9] rfl):SelR _ _ _)
      ·
       refine zw<|zK<|zV ((g - 1),(r+((yd V).getD (m+1) 0))) (show Big.Gs (yf (u.drop j)) (V:Int) ((yd V).getD (m+1) 0) ((u.getD (j+(m+2)) 0)*1000000000+(u.getD (j+(m+1)) 0)) (g - 1) (r+((yd V).getD (m+1) 0))∧(r+((yd V).getD (m+1) 0))<1000000000 from by exact ⟨(hGs.step hT hgs).2,by omega⟩) (by have:=(hGs.step hT hgs).1;show (g - 1).toNat<g.toNat;omega) (mR rfl) (ho:=((.of [0,0] rfl):PickO _ _ _)) ((.of [1,2,3,4,5,6,7,8,9] rfl):SelR _ _ _)
     ·
      refine zaa<|zg<|zg<|zp ?_
      exact zla g (show (0≤g∧g<1000000000)∧(yf (u.drop j))<(g+1)*(V:Int)∧g*(V:Int)<(yf (u.drop j))+(V:Int) from by exact ⟨⟨hg0,by omega⟩,hGs.up,Big.Gs.fin hT hGs om om⟩) (mR rfl) (ho:=((.of [0,0] rfl):PickO _ _ _)) ((.of [0,1,2,3,4,5,6,7,8] rfl):SelR _ _ _)
   ·
    rintro g hC
    replace hC:(0≤g∧g<1000000000)∧(yf (u.drop j))<(g+1)*(V:Int)∧g*(V:Int)<(yf (u.drop j))+(V:Int):=hC
    try dsimp only
    obtain ⟨⟨hg0,hg1⟩,hup,hdn⟩:=hC
    refine ze<|za<|e_p (zb rfl)<|e_p (zb rfl)<|zf<|zc<|ze<|ze<|za<|e_mv rfl<|e_mv rfl<|zf<|zc<|zt<|zca (X:=Nat×(List Int)×Int×Int) (fun x:Nat×(List Int)×Int×Int=>x.1≤m+2∧Big.MsI u j g (yd V) x.1 x.2.1 x.2.2.1 x.2.2.2) (fun x=>[(15,.int .u64 (x.2.2.2)),(14,ya yb (x.2.2.1)),(137,ya yb ((x.1:Nat):Int)),(136,ya yb (((m+2):Nat):Int)),(12,.int .u64 g),(10,ya yb ((j:Nat):Int)),(4,.slice (some ⟨b20,0,none⟩) (M - (m+2)) (M - (m+2))),(7,.slice p17 M c18),(9,ya yb (((m+2):Nat):Int)),(8,.slice p313 (m+2) c314),(6,.int .u32 ((s:Nat):Int)),(5,.slice none 0 0)]) (fun x=>[rowA 133 (rI .u32) (some ⟨b20,0,none⟩) (M - (m+2)) (List.replicate (j+1) 0++qs),rowA 133 (rI .u32) p17 c18 (x.2.1)]) (fun x=>[atF b26 o27 [.int .u32 ((yd V).getD (m+1) 0)],atF b23 o24 [.int .u32 ((yd V).getD (m+1) 0)],slF (rI .u32) (some ⟨b16,0,none⟩) 1 ([0]),slF (rI .u32) p313 c314 (yd V),slF (rI .u32) (some ⟨b10,0,none⟩) 1 (yd s),slF (rI .u32) (some ⟨b5,0,none⟩) 1 (yd s),atF b1 o2 [.int .u32 ((yd b).getD ((yd b).length - 1) 0)],slF (rI .u32) p1 c1 (yd a),slF (rI .u32) p2 c2 (yd b)]) (fun x:Nat×(List Int)×Int×Int=>(m+2) - x.1) (0,u,0,0) (show 0≤m+2∧Big.MsI u j g (yd V) 0 u 0 0 from by exact ⟨Nat.zero_le _,Big.MsI.start hI.uo j g _⟩) ((.c rfl (.c rfl (.e rfl cgs (.of rfl)))):SubM _ _) (ho:=((.of [0,0] rfl):PickO _ _ _)) ((.of [0,1,2,3,4,5,6,7,8] rfl):SelR _ _ _) ?_
    rintro ⟨i,w,bo,ca⟩ hMM
    replace hMM:i≤m+2∧Big.MsI u j g (yd V) i w bo ca:=hMM
    try dsimp only
    obtain ⟨hile,hM2⟩:=hMM
    have hb0:=hM2.b0
    have hb1:=hM2.b1
    have hc0:=hM2.c0
    have hc1:=hM2.c1
    have hwl:=hM2.len
    have hwo:=yn hM2.ok (j+i)
    have hvi:=yn (yq V) i
    have hca:=Big.ms_carry ⟨hg0,hg1⟩ hvi ⟨hc0,hc1⟩
    have hgx:=Int.mul_nonneg hg0 hvi.1
    refine ze<|za<|e_p (zY rfl rfl)<|zf<|zc<|ze<|zD rfl (fun hi=> ?_) (fun hi=> ?_)
    ·
     refine zw<|zc<|ze<|zt<|ze<|za<|e_mv rfl<|e_p (zb rfl)<|zf<|zc<|ze<|za<|e_mv rfl<|e_mv rfl<|e_mv rfl<|zba (x0:=((yd V).getD i 0)) 3 i rfl ye sz133 rfl rfl rfl (by first|rfl|assumption|(simp;done)|omega) rfl rfl (gD (d:=0) om) (fun b36 o37 hok38=> ?_)
     replace hok38:=zy.1 hok38
     refine e_ru (zh (j:=0) 0 ty133 rfl rfl rfl rfl)<|e_p (zH (z:=((yd V).getD i 0)) rfl (by rw [yg];rfl) yi (wu64 om))<|e_p (zob (z:=(g*((yd V).getD i 0))) rfl rfl (wu64 om))<|e_mv rfl<|e_p (zJ (z:=((g*((yd V).getD i 0))+ca)) rfl rfl (wu64 om))<|e_p (zb rfl)<|zf<|zc<|ze<|za<|e_mv rfl<|e_p (zfb (z:=(((g*((yd V).getD i 0))+ca) / 1000000000)) rfl rfl om (by rw [quoN (z:=(((g*((yd V).getD i 0))+ca) / 1000000000)) om om];exact wu64 om))<|e_p (zb rfl)<|zf<|zc<|ze<|za<|e_mv rfl<|e_mv rfl<|e_mv rfl<|e_p (zJ (z:=(((j+i):Nat):Int)) rfl rfl (w64 om))<|e_ru (zia 1 (j+i) rfl ye sz133 rfl (by first|rfl|assumption|(simp;done)|omega) rfl rfl om)<|r_vl rfl rfl (zN 1 (j+i) rfl ty133 rfl rfl (gD (d:=0) om) rfl) (fun _ hok39=> ?_)
     replace hok39:=zy.1 hok39
     refine e_p (zH (z:=(w.getD (j+i) 0)) rfl (by rw [yg];rfl) yw (w64 om))<|e_mv rfl<|e_p (zha (z:=((w.getD (j+i) 0) - bo)) rfl rfl (w64 om))<|e_mv rfl<|e_p (zbb (z:=(((g*((yd V).getD i 0))+ca)%1000000000)) rfl rfl om (remN om om))<|e_p (zH (z:=(((g*((yd V).getD i 0))+ca)%1000000000)) rfl (by rw [yi];rfl) yw (w64 om))<|e_p (zha (z:=(((w.getD (j+i) 0) - bo) - (((g*((yd V).getD i 0))+ca)%1000000000))) rfl rfl (w64 om))<|e_p (zb rfl)<|zf<|zc<|ze<|za<|e_p (zb rfl)<|zf<|zc<|ze<|ze<|za<|e_mv rfl<|e_p (zY rfl rfl)<|zf<|zc<|zD rfl (fun hneg=> ?_) (fun hneg=> ?_)
     ·
      refine za<|e_mv rfl<|e_p (zJ (z:=((((w.getD (j+i) 0) - bo) - (((g*((yd V).getD i 0))+ca)%1000000000))+1000000000)) rfl rfl (w64 om))<|e_p (zb rfl)<|e_p (zb rfl)<|zf<|zc<|za<|e_mv rfl<|e_mv rfl<|e_mv rfl<|e_p (zJ (z:=(((j+i):Nat):Int)) rfl rfl (w64 om))<|e_mv rfl<|e_p (zH (z:=((((w.getD (j+i) 0) - bo) - (((g*((yd V).getD i 0))+ca)%1000000000))+1000000000)) rfl (by rw [yw];rfl) yg (wu32 om))<|e_ru (zia 1 (j+i) rfl ye sz133 rfl (by first|rfl|assumption|(simp;done)|omega) rfl rfl om)<|zya 1 rfl rfl rfl (zL (j:=(j+i)) (x0:=((((w.getD (j+i) 0) - bo) - (((g*((yd V).getD i 0))+ca)%1000000000))+1000000000)) (γ0:=()) rfl rfl (by first|omega|(rw [List.length_map];omega)|(simp only [List.length_set];omega)|(simp;done)|(simp;omega)) rfl rfl sz133 (fun _ _=>by exact zy.2 om)) (fun _=>(.s .z)) (fun _ _=> ?_)
      refine zf<|zK<|zc<|za<|e_p (zJ (z:=(((i+1):Nat):Int)) rfl rfl (w64 om))<|e_mv rfl<|zf<|zV ((i+1),(w.set (j+i) ((((w.getD (j+i) 0) - bo) - (((g*((yd V).getD i 0))+ca)%1000000000))+1000000000)),1,(((g*((yd V).getD i 0))+ca) / 1000000000)) (show (i+1)≤m+2∧Big.MsI u j g (yd V) (i+1) (w.set (j+i) ((((w.getD (j+i) 0) - bo) - (((g*((yd V).getD i 0))+ca)%1000000000))+1000000000)) 1 (((g*((yd V).getD i 0))+ca) / 1000000000) from by exact ⟨by omega,hM2.step ⟨hg0,hg1⟩ (yq V) om om ⟨by omega,by omega⟩ ⟨by decide,by decide⟩⟩) (by show (m+2) - (i+1)<(m+2) - i;omega) (mR rfl) (ho:=((.of [0,0] rfl):PickO _ _ _)) ((.of [1,2,3,4,5,6,7,8,9] rfl):SelR _ _ _)
     ·
      refine zw<|zc<|za<|e_mv rfl<|e_mv rfl<|e_mv rfl<|e_p (zJ (z:=(((j+i):Nat):Int)) rfl rfl (w64 om))<|e_mv rfl<|e_p (zH (z:=(((w.getD (j+i) 0) - bo) - (((g*((yd V).getD i 0))+ca)%1000000000))) rfl (by rw [yw];rfl) yg (wu32 om))<|e_ru (zia 1 (j+i) rfl ye sz133 rfl (by first|rfl|assumption|(simp;done)|omega) rfl rfl om)<|zya 1 rfl rfl rfl (zL (j:=(j+i)) (x0:=(((w.getD (j+i) 0) - bo) - (((g*((yd V).getD i 0))+ca)%1000000000))) (γ0:=()) rfl rfl (by first|omega|(rw [List.length_map];omega)|(simp only [List.length_set];omega)|(simp;done)|(simp;omega)) rfl rfl sz133 (fun _ _=>by exact zy.2 om)) (fun _=>(.s .z)) (fun _ _=> ?_)
      refine zf<|zK<|zc<|za<|e_p (zJ (z:=(((i+1):Nat):Int)) rfl rfl (w64 om))<|e_mv rfl<|zf<|zV ((i+1),(w.set (j+i) (((w.getD (j+i) 0) - bo) - (((g*((yd V).getD i 0))+ca)%1000000000))),0,(((g*((yd V).getD i 0))+ca) / 1000000000)) (show (i+1)≤m+2∧Big.MsI u j g (yd V) (i+1) (w.set (j+i) (((w.getD (j+i) 0) - bo) - (((g*((yd V).getD i 0))+ca)%1000000000))) 0 (((g*((yd V).getD i 0))+ca) / 1000000000) from by exact ⟨by omega,hM2.step ⟨hg0,hg1⟩ (yq V) om om ⟨by omega,by omega⟩ ⟨by decide,by decide⟩⟩) (by show (m+2) - (i+1)<(m+2) - i;omega) (mR rfl) (ho:=((.of [0,0] rfl):PickO _ _ _)) ((.of [1,2,3,4,5,6,7,8,9] rfl):SelR _ _ _)
    ·
     have hM3:Big.MsI u j g (yd V) (m+2) w bo ca:=by have h8:i=m+2:=om;exact h8 ▸ hM2
     have hwo2:=yn hM2.ok (j+(m+2))
     refine zaa<|zg<|zg<|zp<|zc<|ze<|za<|e_mv rfl<|e_mv rfl<|e_mv rfl<|e_p (zJ (z:=(((j+(m+2)):Nat):Int)) rfl rfl (w64 om))<|e_ru (zia 1 (j+(m+2)) rfl ye sz133 rfl (by first|rfl|assumption|(simp;done)|omega) rfl rfl om)<|r_vl rfl rfl (zN 1 (j+(m+2)) rfl ty133 rfl rfl (gD (d:=0) om) rfl) (fun _ hok40=> ?_)
     replace hok40:=zy.1 hok40
     refine e_p (zH (z:=(w.getD (j+(m+2)) 0)) rfl (by rw [yg];rfl) yw (w64 om))<|e_mv rfl<|e_p (zha (z:=((w.getD (j+(m+2)) 0) - bo)) rfl rfl (w64 om))<|e_mv rfl<|e_p (zH (z:=ca) rfl (by rw [yi];rfl) yw (w64 om))<|e_p (zha (z:=(((w.getD (j+(m+2)) 0) - bo) - ca)) rfl rfl (w64 om))<|e_p (zb rfl)<|zf<|zc<|ze<|ze<|za<|e_mv rfl<|e_p (zY rfl rfl)<|zf<|zc<|zD rfl (fun hd=> ?_) (fun hd=> ?_)
     ·
      have hg9:=hI.neg1 hM3 hm hd
      refine ze<|za<|e_mv rfl<|e_mv rfl<|e_mv rfl<|e_p (zJ (z:=(((j+(m+2)):Nat):Int)) rfl rfl (w64 om))<|e_mv rfl<|e_p (zJ (z:=((((w.getD (j+(m+2)) 0) - bo) - ca)+1000000000)) rfl rfl (w64 om))<|e_p (zH (z:=((((w.getD (j+(m+2)) 0) - bo) - ca)+1000000000)) rfl (by rw [yw];rfl) yg (wu32 om))<|e_ru (zia 1 (j+(m+2)) rfl ye sz133 rfl (by first|rfl|assumption|(simp;done)|omega) rfl rfl om)<|zya 1 rfl rfl rfl (zL (j:=(j+(m+2))) (x0:=((((w.getD (j+(m+2)) 0) - bo) - ca)+1000000000)) (γ0:=()) rfl rfl (by first|omega|(rw [List.length_map];omega)|(simp only [List.length_set];omega)|(simp;done)|(simp;omega)) rfl rfl sz133 (fun _ _=>by exact zy.2 om)) (fun _=>(.s .z)) (fun _ _=> ?_)
      refine zf<|zc<|ze<|za<|e_mv rfl<|e_p (zha (z:=(g - 1)) rfl rfl (wu64 om))<|e_p (zb rfl)<|zf<|zc<|ze<|za<|e_p (zb rfl)<|zf<|zc<|ze<|ze<|za<|e_mv rfl<|e_mv rfl<|zf<|zc<|zt<|zca (X:=Nat×(List Int)×Int) (fun x:Nat×(List Int)×Int=>x.1≤m+2∧Big.AbI (w.set (j+(m+2)) ((((w.getD (j+(m+2)) 0) - bo) - ca)+1000000000)) j (yd V) x.1 x.2.1 x.2.2) (fun x=>[(20,.int .u32 (x.2.2)),(201,ya yb ((x.1:Nat):Int)),(200,ya yb (((m+2):Nat):Int)),(12,.int .u64 (g - 1)),(10,ya yb ((j:Nat):Int)),(4,.slice (some ⟨b20,0,none⟩) (M - (m+2)) (M - (m+2))),(7,.slice p17 M c18),(9,ya yb (((m+2):Nat):Int)),(8,.slice p313 (m+2) c314),(6,.int .u32 ((s:Nat):Int)),(5,.slice none 0 0)]) (fun x=>[rowA 133 (rI .u32) (some ⟨b20,0,none⟩) (M - (m+2)) (List.replicate (j+1) 0++qs),rowA 133 (rI .u32) p17 c18 (x.2.1)]) (fun x=>[atF b26 o27 [.int .u32 ((yd V).getD (m+1) 0)],atF b23 o24 [.int .u32 ((yd V).getD (m+1) 0)],slF (rI .u32) (some ⟨b16,0,none⟩) 1 ([0]),slF (rI .u32) p313 c314 (yd V),slF (rI .u32) (some ⟨b10,0,none⟩) 1 (yd s),slF (rI .u32) (some ⟨b5,0,none⟩) 1 (yd s),atF b1 o2 [.int .u32 ((yd b).getD ((yd b).length - 1) 0)],slF (rI .u32) p1 c1 (yd a),slF (rI .u32) p2 c2 (yd b)]) (fun x:Nat×(List Int)×Int=>(m+2) - x.1) (0,(w.set (j+(m+2)) ((((w.getD (j+(m+2)) 0) - bo) - ca)+1000000000)),0) (show 0≤m+2∧Big.AbI (w.set (j+(m+2)) ((((w.getD (j+(m+2)) 0) - bo) - ca)+1000000000)) j (yd V) 0 (w.set (j+(m+2)) ((((w.getD (j+(m+2)) 0) - bo) - ca)+1000000000)) 0 from by exact ⟨Nat.zero_le _,Big.AbI.start (yQ hM2.ok om om) _ _⟩) ((.c rfl (.e rfl cgs (.of rfl))):SubM _ _) (ho:=((.c (i:=0) rfl (.e (i:=0) rfl cgs .n)):PickO _ _ _)) ((.of [0,1,2,3,4,5,6,7,8] rfl):SelR _ _ _) ?_
      rintro ⟨i2,xs,cc⟩ hAA
      replace hAA:i2≤m+2∧Big.AbI (w.set (j+(m+2)) ((((w.getD (j+(m+2)) 0) - bo) - ca)+1000000000)) j (yd V) i2 xs cc:=hAA
      try dsimp only
      obtain ⟨hile2,hA2⟩:=hAA
      have hk0:=hA2.c0
      have hk1:=hA2.c1
      have hxl:=hA2.len
      rw [List.length_set] at hxl
      have hxo:=yn hA2.ok (j+i2)
      have hvi2:=yn (yq V) i2
      refine ze<|za<|e_p (zY rfl rfl)<|zf<|zc<|ze<|zD rfl (fun hi=> ?_) (fun hi=> ?_)
      ·
       refine zw<|zc<|ze<|zt<|ze<|za<|e_mv rfl<|e_p (zb rfl)<|zf<|zc<|ze<|zW (OW:=[]) (O:=[rowA 133 (rI .u32) (some ⟨b20,0,none⟩) (M - (m+2)) (List.replicate (j+1) 0++qs),rowA 133 (rI .u32) p17 c18 xs]) 100000 mixed (.then (.block (.then (.then (.block (.then (.then (.block (.then (.then (.block (.then .ret)))))))))))) kr<|e_dm 0 rfl rfl rfl<|e_dm 1 rfl rfl rfl<|e_dm 2 rfl rfl rfl<|e_pv 3 rfl rfl (zJ (z:=(((j+i2):Nat):Int)) rfl rfl (w64 om))<|e_u 4 rfl rfl (zia 1 (j+i2) rfl ye sz133 rfl (by first|rfl|assumption|(simp;done)|omega) rfl rfl om)<|d_vl 5 rfl rfl kr kr rfl rfl (zN 1 (j+i2) rfl ty133 rfl rfl (gD (d:=0) om) rfl) (fun _ hok41=> ?_)
       replace hok41:=zy.1 hok41
       refine e_dm 6 rfl rfl rfl<|e_dm 7 rfl rfl rfl<|zFa (x0:=((yd V).getD i2 0)) 8 rfl rfl kr kr 3 i2 rfl ye sz133 rfl rfl rfl (by first|rfl|assumption|(simp;done)|omega) rfl rfl (gD (d:=0) om) (fun b42 o43 hok44=> ?_)
       replace hok44:=zy.1 hok44
       refine e_u 9 rfl rfl (zh (j:=0) 0 ty133 rfl rfl rfl rfl)<|e_pv 10 rfl rfl (zJ (z:=((xs.getD (j+i2) 0)+((yd V).getD i2 0))) rfl rfl (wu32 om))<|e_dm 11 rfl rfl rfl<|e_pv 12 rfl rfl (zJ (z:=(((xs.getD (j+i2) 0)+((yd V).getD i2 0))+cc)) rfl rfl (wu32 om))<|e_pv 13 rfl rfl (zb rfl)<|zU kr<|zc<|ze<|za<|e_p (zb rfl)<|zf<|zc<|ze<|ze<|za<|e_mv rfl<|e_p (zTa rfl rfl)<|zf<|zc<|zD rfl (fun hcy=> ?_) (fun hcy=> ?_)
       ·
        refine za<|e_mv rfl<|e_p (zha (z:=((((xs.getD (j+i2) 0)+((yd V).getD i2 0))+cc) - 1000000000)) rfl rfl (wu32 om))<|e_p (zb rfl)<|e_p (zb rfl)<|zf<|zc<|za<|e_mv rfl<|e_mv rfl<|e_mv rfl<|e_p (zJ (z:=(((j+i2):Nat):Int)) rfl rfl (w64 om))<|e_mv rfl<|e_ru (zia 1 (j+i2) rfl ye sz133 rfl (by first|rfl|assumption|(simp;done)|omega) rfl rfl om)<|zya 1 rfl rfl rfl (zL (j:=(j+i2)) (x0:=((((xs.getD (j+i2) 0)+((yd V).getD i2 0))+cc) - 1000000000)) (γ0:=()) rfl rfl (by first|omega|(rw [List.length_map];omega)|(simp only [List.length_set];omega)|(simp;done)|(simp;omega)) rfl rfl sz133 (fun _ _=>by exact zy.2 om)) (fun _=>(.s .z)) (fun _ _=> ?_)
        refine zf<|zK<|zc<|za<|e_p (zJ (z:=(((i2+1):Nat):Int)) rfl rfl (w64 om))<|e_mv rfl<|zf<|zV ((i2+1),(xs.set (j+i2) ((((xs.getD (j+i2) 0)+((yd V).getD i2 0))+cc) - 1000000000)),1) (show (i2+1)≤m+2∧Big.AbI (w.set (j+(m+2)) ((((w.getD (j+(m+2)) 0) - bo) - ca)+1000000000)) j (yd V) (i2+1) (xs.set (j+i2) ((((xs.getD (j+i2) 0)+((yd V).getD i2 0))+cc) - 1000000000)) 1 from by exact ⟨by omega,hA2.step (by rw [List.length_set];omega) om ⟨by omega,by omega⟩ ⟨by decide,by decide⟩⟩) (by show (m+2) - (i2+1)<(m+2) - i2;omega) (mR rfl) (ho:=((.of [0,0] rfl):PickO _ _ _)) ((.of [1,2,3,4,5,6,7,8,9] rfl):SelR _ _ _)
       ·
        refine zw<|zc<|za<|e_mv rfl<|e_mv rfl<|e_mv rfl<|e_p (zJ (z:=(((j+i2):Nat):Int)) rfl rfl (w64 om))<|e_mv rfl<|e_ru (zia 1 (j+i2) rfl ye sz133 rfl (by first|rfl|assumption|(simp;done)|omega) rfl rfl om)<|zya 1 rfl rfl rfl (zL (j:=(j+i2)) (x0:=(((xs.getD (j+i2) 0)+((yd V).getD i2 0))+cc)) (γ0:=()) rfl rfl (by first|omega|(rw [List.length_map];omega)|(simp only [List.length_set];omega)|(simp;done)|(simp;omega)) rfl rfl sz133 (fun _ _=>by exact zy.2 om)) (fun _=>(.s .z)) (fun _ _=> ?_)
        refine zf<|zK<|zc<|za<|e_p (zJ (z:=(((i2+1):Nat):Int)) rfl rfl (w64 om))<|e_mv rfl<|zf<|zV ((i2+1),(xs.set (j+i2) (((xs.getD (j+i2) 0)+((yd V).getD i2 0))+cc)),0) (show (i2+1)≤m+2∧Big.AbI (w.set (j+(m+2)) ((((w.getD (j+(m+2)) 0) - bo) - ca)+1000000000)) j (yd V) (i2+1) (xs.set (j+i2) (((xs.getD (j+i2) 0)+((yd V).getD i2 0))+cc)) 0 from by exact ⟨by omega,hA2.step (by rw [List.length_set];omega) om ⟨by omega,by omega⟩ ⟨by decide,by decide⟩⟩) (by show (m+2) - (i2+1)<(m+2) - i2;omega) (mR rfl) (ho:=((.of [0,0] rfl):PickO _ _ _)) ((.of [1,2,3,4,5,6,7,8,9] rfl):SelR _ _ _)
      ·
       have hA3:Big.AbI (w.set (j+(m+2)) ((((w.getD (j+(m+2)) 0) - bo) - ca)+1000000000)) j (yd V) (m+2) xs cc:=by have h8:i2=m+2:=om;exact h8 ▸ hA2
       have hxo2:=yn hA2.ok (j+(m+2))
       refine zaa<|zg<|zg<|zp<|zc<|za<|e_mv rfl<|e_mv rfl<|e_mv rfl<|e_p (zJ (z:=(((j+(m+2)):Nat):Int)) rfl rfl (w64 om))<|e_mv rfl<|e_mv rfl<|e_mv rfl<|e_p (zJ (z:=(((j+(m+2)):Nat):Int)) rfl rfl (w64 om))<|e_ru (zia 1 (j+(m+2)) rfl ye sz133 rfl (by first|rfl|assumption|(simp;done)|omega) rfl rfl om)<|r_vl rfl rfl (zN 1 (j+(m+2)) rfl ty133 rfl rfl (gD (d:=0) om) rfl) (fun _ hok45=> ?_)
       replace hok45:=zy.1 hok45
       refine e_mv rfl<|e_p (zJ (z:=((xs.getD (j+(m+2)) 0)+cc)) rfl rfl (wu32 om))<|e_p (zbb (z:=(((xs.getD (j+(m+2)) 0)+cc)%1000000000)) rfl rfl om (remN om om))<|e_ru (zia 1 (j+(m+2)) rfl ye sz133 rfl (by first|rfl|assumption|(simp;done)|omega) rfl rfl om)<|zya 1 rfl rfl rfl (zL (j:=(j+(m+2))) (x0:=(((xs.getD (j+(m+2)) 0)+cc)%1000000000)) (γ0:=()) rfl rfl (by first|omega|(rw [List.length_map];omega)|(simp only [List.length_set];omega)|(simp;done)|(simp;omega)) rfl rfl sz133 (fun _ _=>by exact zy.2 om)) (fun _=>(.s .z)) (fun _ _=> ?_)
       refine zf<|zc<|za<|e_mv rfl<|e_mv rfl<|e_mv rfl<|e_p (zH (z:=(g - 1)) rfl (by rw [yi];rfl) yg (wu32 om))<|e_p (zI (j:=j) ye sz133 rfl rfl rfl om)<|zya 0 rfl rfl rfl (zL (j:=j) (x0:=(g - 1)) (γ0:=()) rfl rfl (by first|omega|(rw [List.length_map];omega)|(simp only [List.length_set];omega)|(simp;done)|(simp;omega)) rfl rfl sz133 (fun _ _=>by exact zy.2 om)) (fun _=> .z) (fun _ _=> ?_)
       refine zf<|zK<|zc<|za<|e_mv rfl<|e_p (zha (z:=(((j:Nat):Int) - 1)) rfl rfl (w64 om))<|e_p (zb rfl)<|zf<|zV (j,(xs.set (j+(m+2)) (((xs.getD (j+(m+2)) 0)+cc)%1000000000)),((g - 1) :: qs)) (show yW M (m+2) ((A:Nat):Int) ((V:Nat):Int) j (xs.set (j+(m+2)) (((xs.getD (j+(m+2)) 0)+cc)%1000000000)) ((g - 1) :: qs) from by exact (hI.neg ⟨hg0,hg1⟩ hdn hup hM3 hm hd hA3).2) (by show j<j+1;omega) (mR rfl) (ho:=((.e (i:=0) rfl (by rw [Big.pad_set]) (.c (i:=0) rfl .n)):PickO _ _ _)) ((.of [2,3,4,5,6,7,8] rfl):SelR _ _ _)
     ·
      refine za<|e_mv rfl<|e_mv rfl<|e_mv rfl<|e_p (zJ (z:=(((j+(m+2)):Nat):Int)) rfl rfl (w64 om))<|e_mv rfl<|e_p (zH (z:=(((w.getD (j+(m+2)) 0) - bo) - ca)) rfl (by rw [yw];rfl) yg (wu32 om))<|e_ru (zia 1 (j+(m+2)) rfl ye sz133 rfl (by first|rfl|assumption|(simp;done)|omega) rfl rfl om)<|zya 1 rfl rfl rfl (zL (j:=(j+(m+2))) (x0:=(((w.getD (j+(m+2)) 0) - bo) - ca)) (γ0:=()) rfl rfl (by first|omega|(rw [List.length_map];omega)|(simp only [List.length_set];omega)|(simp;done)|(simp;omega)) rfl rfl sz133 (fun _ _=>by exact zy.2 om)) (fun _=>(.s .z)) (fun _ _=> ?_)
      refine zf<|zc<|za<|e_mv rfl<|e_mv rfl<|e_mv rfl<|e_p (zH (z:=g) rfl (by rw [yi];rfl) yg (wu32 om))<|e_p (zI (j:=j) ye sz133 rfl rfl rfl om)<|zya 0 rfl rfl rfl (zL (j:=j) (x0:=g) (γ0:=()) rfl rfl (by first|omega|(rw [List.length_map];omega)|(simp only [List.length_set];omega)|(simp;done)|(simp;omega)) rfl rfl sz133 (fun _ _=>by exact zy.2 om)) (fun _=> .z) (fun _ _=> ?_)
      refine zf<|zK<|zc<|za<|e_mv rfl<|e_p (zha (z:=(((j:Nat):Int) - 1)) rfl rfl (w64 om))<|e_p (zb rfl)<|zf<|zV (j,(w.set (j+(m+2)) (((w.getD (j+(m+2)) 0) - bo) - ca)),(g :: qs)) (show yW M (m+2) ((A:Nat):Int) ((V:Nat):Int) j (w.set (j+(m+2)) (((w.getD (j+(m+2)) 0) - bo) - ca)) (g :: qs) from by exact hI.pos ⟨hg0,hg1⟩ hup hM3 hm om) (by show j<j+1;omega) (mR rfl) (ho:=((.e (i:=0) rfl (by rw [Big.pad_set]) (.c (i:=0) rfl .n)):PickO _ _ _)) ((.of [2,3,4,5,6,7,8] rfl):SelR _ _ _)
  ·
   have hj0:jj=0:=by omega
   have hI0:yW M (m+2) ((A:Nat):Int) ((V:Nat):Int) 0 u qs:=hj0 ▸ hI
   obtain ⟨hf1,hf2⟩:=hI0.fin hm
   have hsc:=Big.scale_div (a:=a) (b:=b) hs1
   have hql:qs.length=M - (m+2):=by have h8:=hI0.ql;omega
   have hul0:=hI0.ul
   refine zaa<|zg<|zg<|zp<|zc<|ze<|zVb 1 rfl (.s .z)<|zP 0 rfl (fun hcu=> ?_)
   have hAV:(yd (A%V)).length≤4398046511104:=Nat.le_trans (yE (Nat.le_of_lt (Nat.mod_lt A (Nat.pos_of_ne_zero (fun e=>by rw [e] at hm;cases hm))))) om
   have e46:List.replicate jj 0++qs=qs:=by rw [hj0];rfl
   rw [e46]
   refine za<|e_mv rfl<|e_mv rfl<|e_p (zub (hi:=(m+2)) ye sz133 rfl (.s rfl) (.inr ⟨_,rfl⟩) om)<|zUb (zWb 0 rfl (m+2) om) (fun _ _=> ?_)
   refine zm rfl rfl (.c rfl .n) ce250 (zAb (p:=p17) (n:=(m+2)) (cap:=c18) (l:=(u.take (m+2))) (hn:=cbb)) (.c (j:=0) rfl .n) ?_
   rintro ⟨⟩ -
   dsimp only [aq,nq,cq]
   refine e_mv rfl ?_
   have e47:yo (u.take (m+2))=yd (A%V):=by exact hf2
   rw [e47]
   refine zm rfl rfl (.c rfl (.c rfl .n)) ce255 (zKd (a:=A%V) (mm:=s) (p:=p17) (cap:=c18) (hb:=om) (hm0:=om) (hm1:=om)) (.c (j:=0) rfl .n) ?_
   rintro ⟨p248,c249⟩ -
   dsimp only [aq,nq,cq]
   refine e_mv rfl<|e_p (zn rfl rfl)<|e_p (zn rfl rfl)<|e_p (zb rfl)<|zf<|zc<|ze<|za<|e_mv rfl<|zea 0 rfl .z<|zm rfl rfl (.c rfl .n) ce250 (zAb (p:=some ⟨b20,0,none⟩) (n:=(M - (m+2))) (cap:=(M - (m+2))) (l:=qs) (hn:=cbb)) (.c (j:=0) rfl .n) ?_
   rintro ⟨⟩ -
   dsimp only [aq,nq,cq]
   refine e_mv rfl<|e_p (zb rfl)<|e_p (zb rfl)<|zf<|zc<|zG ?_
   have e50:yo qs=yd (A / V):=by exact hf1
   rw [e50]
   exact zBa Tryz.results256 ((some ⟨b20,0,none⟩),(M - (m+2)),p248,c249) trivial (zo rfl) (zo rfl) (by rw [hA,hV,hsc.1,hsc.2]) (ho:=oN) ((.e (j:=0) rfl (by rw [hA,hV,hsc.1]) (.e (j:=2) rfl (by rw [hA,hV,hsc.2]) .n)):SelR _ _ _)
end Go.Proofs.YtpdbimfnhglhpaaGreat.Sp
namespace Go.Proofs.YtpdbimfnhglhpaaGreat.Sp
open Go
set_option linter.unusedVariables false
set_option maxRecDepth 100000
set_option maxHeartbeats 8000000
theorem zOe {a:Nat} {b:Nat} {p1:Option Addr} {c1:Nat} {p2:Option Addr} {c2:Nat} (hb1:(yd a).length≤4398046511104) (hb2:(yd b).length≤4398046511104) (hb0:0<b):Con yk 221 [.slice p1 ((yd a).length) c1,.slice p2 ((yd b).length) c2] [] [slF (rI .u32) p1 c1 (yd a),slF (rI .u32) p2 c2 (yd b)] (Y:=(Option Addr)×Nat×(Option Addr)×Nat) (fun y=>True) (fun y=> .tuple #[.slice (y.1) ((yd (a / b)).length) (y.2.1),.slice (y.2.2.1) ((yd (a%b)).length) (y.2.2.2)]) (fun y=>[]) (fun y=>[slF (rI .u32) (y.1) (y.2.1) (yd (a / b)),slF (rI .u32) (y.2.2.1) (y.2.2.2) (yd (a%b))]):=by
 refine zk Tryz.func221 rfl rfl rfl (fun c=> ?_)
 show RunC _ _ _ _ _ [(0,.slice p1 ((yd a).length) c1),(1,.slice p2 ((yd b).length) c2)] [] [slF (rI .u32) p1 c1 (yd a),slF (rI .u32) p2 c2 (yd b)]
 refine zP 0 rfl (fun hL0=> ?_)
 refine zP 1 rfl (fun hL1=> ?_)
 have hd1:=Nat.div_le_self a b
 have hd2:=Nat.mod_le a b
 have hob:=yn (yq b) 0
 refine ze<|za<|e_p (zb rfl)<|e_p (zb rfl)<|zf<|zc<|ze<|ze<|za<|e_mv rfl<|e_mv rfl<|zR rfl rfl (.c rfl (.c rfl .n)) ce231 (zSb (a:=a) (b:=b) (p1:=p1) (c1:=c1) (p2:=p2) (c2:=c2)) (.c (j:=0) rfl (.c (j:=1) rfl .n))<|e_p (zY rfl rfl)<|zf<|zc<|zD rfl (fun hlt=> ?_) (fun hlt=> ?_)
 ·
  have hab9:¬(b:Int)≤a:=fun h=>by have:=Big.cmp_ge.2 h;omega
  have hab:a<b:=by omega
  refine ze<|za<|e_mv rfl<|e_p (zb rfl)<|e_p (zb rfl)<|zf<|zc<|zG<|zu ?_
  have hz1:a / b=0:=Nat.div_eq_of_lt hab
  have hz2:a%b=a:=Nat.mod_eq_of_lt hab
  refine zOb (rI .u32) ?_
  exact zBa yM (none,0,p1,c1) trivial (zo rfl) (zo rfl) (by rw [hz1,hz2];rfl) (ho:=oN) ((.e (j:=0) rfl (by rw [hz1];rfl) (.e (j:=1) rfl (by rw [hz2]) .n)):SelR _ _ _)
 ·
  have hab:b≤a:=by have h9:=Big.cmp_ge.1 (by omega:0≤yH (a:Int) (b:Int));omega
  refine zw<|zc<|ze<|za<|e_mv rfl<|zR rfl rfl (.c rfl .n) ce232 (zAc (a:=a) (p:=p1) (cap:=c1)) (.c (j:=0) rfl .n)<|e_mv rfl<|e_p (zn rfl rfl)<|e_p (zn rfl rfl)<|e_p (zb rfl)<|e_p (zb rfl)<|zf<|zc<|ze<|za<|e_mv rfl<|zR rfl rfl (.c rfl .n) ce232 (zAc (a:=b) (p:=p2) (cap:=c2)) (.c (j:=1) rfl .n)<|e_mv rfl<|e_p (zn rfl rfl)<|e_p (zn rfl rfl)<|e_p (zb rfl)<|e_p (zb rfl)<|zf<|zc<|ze<|zab (X:=Unit) (fun x=>True) (fun x=>[(30,.bool (decide (((yd a).length≤2)∧((yd b).length≤2)))),(8,.int .u64 (((if (yd b).length≤2 then b else 0):Nat):Int)),(6,.int .u64 (((if (yd a).length≤2 then a else 0):Nat):Int)),(5,.slice none 0 0),(4,.slice none 0 0),(0,.slice p1 ((yd a).length) c1),(1,.slice p2 ((yd b).length) c2)]) (fun x=>[]) (fun x=>[slF (rI .u32) p1 c1 (yd a),slF (rI .u32) p2 c2 (yd b)]) ?_ ?_
  ·
   refine za<|e_mv rfl<|zga rfl rfl (zja rfl) (fun h1=> ?_) (fun h1=> ?_)
   ·
    refine e_mv rfl<|e_p (zE rfl rfl)<|zf ?_
    exact zla () tt9 ((.e rfl (congrArg Value.bool cbu) (.of rfl)):SubM _ _) (ho:=oN) ((.of [0,1] rfl):SelR _ _ _)
   ·
    refine e_no<|e_p (zE rfl rfl)<|zf ?_
    exact zla () tt9 ((.e rfl (congrArg Value.bool cbu) (.of rfl)):SubM _ _) (ho:=oN) ((.of [0,1] rfl):SelR _ _ _)
  ·
   rintro ⟨⟩ -
   try dsimp only
   refine zD rfl (fun hw=> ?_) (fun hw=> ?_)
   ·
    have ha18:=yK hw.1
    have hb18:=yK hw.2
    have hdn0:(0:Int)≤(a:Int) / (b:Int):=Int.ediv_nonneg om om
    have hdn1:(a:Int) / (b:Int)≤a:=Int.ediv_le_self _ om
    have hdm0:(0:Int)≤(a:Int)%(b:Int):=Int.emod_nonneg _ om
    have hdm1:(a:Int)%(b:Int)<b:=Int.emod_lt_of_pos _ om
    refine ze ?_
    have e2:(if (yd a).length≤2 then a else 0)=a:=by rw [if_pos hw.1]
    rw [e2]
    have e3:(if (yd b).length≤2 then b else 0)=b:=by rw [if_pos hw.2]
    rw [e3]
    refine zW (OW:=[]) (O:=[]) 100000 mixed (.then (.then .ret)) kr<|e_dm 0 rfl rfl rfl<|e_dm 1 rfl rfl rfl<|e_pv 2 rfl rfl (zfb (z:=(((a / b):Nat):Int)) rfl rfl om (by rw [quoN (z:=(((a / b):Nat):Int)) om om];exact wu64 om))<|e_dm 4 rfl rfl rfl<|e_dm 5 rfl rfl rfl<|e_pv 6 rfl rfl (zbb (z:=(((a%b):Nat):Int)) rfl rfl om (remN om om))<|e_one 3 (zB rfl rfl rfl rfl (.c rfl .n) ce209 (zxb (n0:=(a / b)) (hn0:=cbo)) (.n) ?_)
    rintro ⟨p24,c25⟩ -
    dsimp only [aq,nq,cq]
    refine e_one 7 (zB rfl rfl rfl rfl (.c rfl .n) ce209 (zxb (n0:=(a%b)) (hn0:=cbo)) (.n) ?_)
    rintro ⟨p26,c27⟩ -
    dsimp only [aq,nq,cq]
    refine e_pv 8 rfl rfl (zb rfl)<|e_pv 9 rfl rfl (zb rfl)<|zU kr<|zc<|zG<|zu ?_
    exact zBa yM (p24,c25,p26,c27) trivial (zo rfl) (zo rfl) rfl (ho:=oN) ((.of [1,0] rfl):SelR _ _ _)
   ·
    refine zw<|zc<|ze<|ze<|za<|e_mv rfl<|e_p (zv ye rfl)<|e_p (zna rfl rfl)<|zf<|zc<|zD rfl (fun hl1=> ?_) (fun hl1=> ?_)
    ·
     have hbd:=Big.one_digit (by omega:(yd b).length=1)
     have hln0:=Big.zFf hb0
     have hmlt:=Nat.mod_lt a hb0
     have hdm0:(0:Int)≤(a:Int)%(b:Int):=Int.emod_nonneg _ om
     have hdm1:(a:Int)%(b:Int)<b:=Int.emod_lt_of_pos _ om
     refine ze<|za<|e_mv rfl<|e_mv rfl<|zba (x0:=((yd b).getD 0 0)) 1 0 rfl ye sz133 rfl rfl rfl (by first|rfl|assumption|(simp;done)|omega) rfl rfl (gD (d:=0) om) (fun b8 o9 hok10=> ?_)
     replace hok10:=zy.1 hok10
     refine e_ru (zh (j:=0) 0 ty133 rfl rfl rfl rfl) ?_
     have e11:(((yd b).getD 0 0):Int)=((b:Nat):Int):=by exact hbd
     rw [e11]
     refine zm rfl rfl (.c rfl (.c rfl .n)) ce255 (zKd (a:=a) (mm:=b) (p:=p1) (cap:=c1) (hb:=ass) (hm0:=ass) (hm1:=cbo)) (.c (j:=1) rfl .n) ?_
     rintro ⟨p212,c213⟩ -
     dsimp only [aq,nq,cq]
     refine e_mv rfl<|e_p (zn rfl rfl)<|e_p (zn rfl rfl)<|e_p (zb rfl)<|e_p (zb rfl)<|zf<|zc<|ze<|za<|e_mv rfl<|e_mv rfl<|e_p (zH (z:=(((a%b):Nat):Int)) rfl (by rw [yg];rfl) yi (wu64 om))<|zm rfl rfl (.c rfl .n) ce209 (zxb (n0:=(a%b)) (hn0:=cbo)) (.n) ?_
     rintro ⟨p214,c215⟩ -
     dsimp only [aq,nq,cq]
     refine e_p (zb rfl)<|e_p (zb rfl)<|zf<|zc<|zG<|zu ?_
     exact zBa yM (p212,c213,p214,c215) trivial (zo rfl) (zo rfl) rfl (ho:=oN) ((.of [1,0] rfl):SelR _ _ _)
    ·
     have hln0:=Big.zFf hb0
     refine zw<|zc<|ze<|za<|e_mv rfl<|e_mv rfl<|zm rfl rfl (.c rfl (.c rfl .n)) ce256 (zwg (a:=a) (b:=b) (p1:=p1) (c1:=c1) (p2:=p2) (c2:=c2) (hb1:=ass) (hb2:=ass) (hb3:=cbo) (hab:=cbo)) (.c (j:=0) rfl (.c (j:=1) rfl .n)) ?_
     rintro ⟨p316,c317,p418,c419⟩ -
     dsimp only [aq,nq,cq]
     refine e_p (zn rfl rfl)<|e_p (zn rfl rfl)<|e_p (zb rfl)<|e_p (zb rfl)<|zf<|zc<|zG ?_
     exact zBa yM (p316,c317,p418,c419) trivial (zo rfl) (zo rfl) rfl (ho:=oN) ((.of [0,1] rfl):SelR _ _ _)
theorem zRf {s:Bool} {p1:Option Addr} {n1:Nat} {c1:Nat} {l1:List Int} {t:Bool} {p2:Option Addr} {n2:Nat} {c2:Nat} {l2:List Int} (hn1:l1.length=n1) (hn2:l2.length=n2) (hb1:ym (yh s l1)≤4398046511104) (hb2:ym (yh t l2)≤4398046511104):Con yk 172 [.agg #[.bool s,.slice p1 n1 c1],.agg #[.bool t,.slice p2 n2 c2]] [] [slF (rI .u32) p1 c1 l1,slF (rI .u32) p2 c2 l2] (Y:=(Option Addr)×Nat) (fun y=>True) (fun y=> .agg #[.bool (decide (((Nat.gcd (yh s l1).natAbs (yh t l2).natAbs:Nat):Int)<0)),.slice (y.1) ((yd (((Nat.gcd (yh s l1).natAbs (yh t l2).natAbs:Nat):Int).natAbs)).length) (y.2)]) (fun y=>[]) (fun y=>[slF (rI .u32) (y.1) (y.2) (yd (((Nat.gcd (yh s l1).natAbs (yh t l2).natAbs:Nat):Int).natAbs))]):=by
 refine zk Tryz.func172 rfl rfl rfl (fun c=> ?_)
 show RunC _ _ _ _ _ [(0,.agg #[.bool s,.slice p1 n1 c1]),(1,.agg #[.bool t,.slice p2 n2 c2])] [] [slF (rI .u32) p1 c1 l1,slF (rI .u32) p2 c2 l2]
 refine zP 0 rfl (fun hL0=> ?_)
 refine zOa 0 rfl (fun hE0=> ?_)
 refine zP 1 rfl (fun hL1=> ?_)
 refine zOa 1 rfl (fun hE1=> ?_)
 have hnn1:yG l1:=fun g hg=>(zy.1 (hE0 g hg)).1
 have hnn2:yG l2:=fun g hg=>(zy.1 (hE1 g hg)).1
 obtain ⟨x1,hx1⟩:∃z,z=yh s l1:=⟨_,rfl⟩
 obtain ⟨x2,hx2⟩:∃z,z=yh t l2:=⟨_,rfl⟩
 unfold ym at hb1 hb2
 refine ze<|za<|zM rfl rfl (zT rfl rfl) (fun b1=> ?_)
 refine zM rfl rfl (zT rfl rfl) (fun b2=> ?_)
 refine zM rfl rfl (zA zr30 rfl) (fun b3=> ?_)
 refine zf<|zc<|ze<|zW (OW:=[]) (O:=[boxA b3 30 [wz.b,wz.l],boxA b2 30 [.bool t,.slice p2 n2 c2],boxA b1 30 [.bool s,.slice p1 n1 c1]]) 100000 mixed (.then .ret) kr<|e_u 0 rfl rfl (zd 2 ty30 rfl rfl (.t2 .nil))<|e_u 2 rfl rfl (zd 1 ty30 rfl rfl (.t2 .nil))<|e_one 1 (zB rfl rfl rfl rfl (.c rfl .n) ce155 (zLa (s:=s) (p:=p1) (n:=n1) (cap:=c1) (l:=l1) (hn:=ass)) (.c (j:=0) rfl .n) ?_)
 rintro ⟨p24,c25⟩ -
 dsimp only [aq,nq,cq]
 refine e_one 3 (zB rfl rfl rfl rfl (.c rfl .n) ce155 (zLa (s:=t) (p:=p2) (n:=n2) (cap:=c2) (l:=l2) (hn:=ass)) (.c (j:=2) rfl .n) ?_)
 rintro ⟨p26,c27⟩ -
 dsimp only [aq,nq,cq]
 refine e_pv 4 rfl rfl (zb rfl)<|e_pv 5 rfl rfl (zb rfl)<|zU kr<|zc<|ze<|zt<|zca (X:=Nat×Nat×(Option Addr)×Nat×(Option Addr)×Nat) (fun x:Nat×Nat×(Option Addr)×Nat×(Option Addr)×Nat=>Nat.gcd x.1 x.2.1=Nat.gcd (yh s l1).natAbs (yh t l2).natAbs∧(yd x.1).length≤4398046511104∧(yd x.2.1).length≤4398046511104) (fun x=>[(6,.slice (x.2.2.2.2.1) ((yd (x.2.1)).length) (x.2.2.2.2.2)),(5,.slice (x.2.2.1) ((yd (x.1)).length) (x.2.2.2.1)),(4,yc (some ⟨b3,0,none⟩))]) (fun x=>[boxA b3 30 [wz.b,wz.l],boxA b2 30 [.bool t,.slice p2 n2 c2],boxA b1 30 [.bool s,.slice p1 n1 c1]]) (fun x=>[slF (rI .u32) (x.2.2.1) (x.2.2.2.1) (yd (x.1)),slF (rI .u32) (x.2.2.2.2.1) (x.2.2.2.2.2) (yd (x.2.1)),slF (rI .u32) p26 c27 (yd ((yh t l2).natAbs)),slF (rI .u32) p24 c25 (yd ((yh s l1).natAbs)),slF (rI .u32) p1 c1 l1,slF (rI .u32) p2 c2 l2]) (fun x:Nat×Nat×(Option Addr)×Nat×(Option Addr)×Nat=>x.2.1) ((yh s l1).natAbs,(yh t l2).natAbs,p24,c25,p26,c27) (show Nat.gcd ((yh s l1).natAbs) ((yh t l2).natAbs)=Nat.gcd (yh s l1).natAbs (yh t l2).natAbs∧(yd ((yh s l1).natAbs)).length≤4398046511104∧(yd ((yh t l2).natAbs)).length≤4398046511104 from by exact ⟨rfl,hb1,hb2⟩) (mR rfl) (ho:=((.of [0,0,0] rfl):PickO _ _ _)) ((.of [1,0,0,1,2,3] rfl):SelR _ _ _) ?_
 rintro ⟨a,b,pa,ca,pb,cb⟩ hI
 replace hI:Nat.gcd a b=Nat.gcd (yh s l1).natAbs (yh t l2).natAbs∧(yd a).length≤4398046511104∧(yd b).length≤4398046511104:=hI
 try dsimp only
 obtain ⟨hgc,hba,hbb⟩:=hI
 refine ze<|ze<|za<|e_mv rfl<|e_p (zv ye rfl)<|e_p (zra rfl rfl)<|zf<|zc<|zD rfl (fun hne=> ?_) (fun hne=> ?_)
 ·
  have hb0:0<b:=Nat.pos_of_ne_zero (fun e=>by rw [e] at hne;simp [yJ] at hne)
  refine zw<|zc<|zt<|ze<|za<|e_mv rfl<|zR rfl rfl (.c rfl .n) ce232 (zAc (a:=a) (p:=pa) (cap:=ca)) (.c (j:=0) rfl .n)<|e_mv rfl<|e_p (zn rfl rfl)<|e_p (zn rfl rfl)<|e_p (zb rfl)<|e_p (zb rfl)<|zf<|zc<|ze<|za<|e_mv rfl<|zR rfl rfl (.c rfl .n) ce232 (zAc (a:=b) (p:=pb) (cap:=cb)) (.c (j:=1) rfl .n)<|e_mv rfl<|e_p (zn rfl rfl)<|e_p (zn rfl rfl)<|e_p (zb rfl)<|e_p (zb rfl)<|zf<|zc<|ze<|zab (X:=Unit) (fun x=>True) (fun x=>[(33,.bool (decide (((yd a).length≤2)∧((yd b).length≤2)))),(9,.int .u64 (((if (yd b).length≤2 then b else 0):Nat):Int)),(7,.int .u64 (((if (yd a).length≤2 then a else 0):Nat):Int)),(6,.slice pb ((yd b).length) cb),(5,.slice pa ((yd a).length) ca),(4,yc (some ⟨b3,0,none⟩))]) (fun x=>[boxA b3 30 [wz.b,wz.l],boxA b2 30 [.bool t,.slice p2 n2 c2],boxA b1 30 [.bool s,.slice p1 n1 c1]]) (fun x=>[slF (rI .u32) pa ca (yd a),slF (rI .u32) pb cb (yd b),slF (rI .u32) p26 c27 (yd ((yh t l2).natAbs)),slF (rI .u32) p24 c25 (yd ((yh s l1).natAbs)),slF (rI .u32) p1 c1 l1,slF (rI .u32) p2 c2 l2]) ?_ ?_
  ·
   refine za<|e_mv rfl<|zga rfl rfl (zja rfl) (fun hw1=> ?_) (fun hw1=> ?_)
   ·
    refine e_mv rfl<|e_p (zE rfl rfl)<|zf ?_
    exact zla () tt9 ((.e rfl (congrArg Value.bool cbu) (.of rfl)):SubM _ _) (ho:=((.of [0,0,0] rfl):PickO _ _ _)) ((.of [0,1,2,3,4,5] rfl):SelR _ _ _)
   ·
    refine e_no<|e_p (zE rfl rfl)<|zf ?_
    exact zla () tt9 ((.e rfl (congrArg Value.bool cbu) (.of rfl)):SubM _ _) (ho:=((.of [0,0,0] rfl):PickO _ _ _)) ((.of [0,1,2,3,4,5] rfl):SelR _ _ _)
  ·
   rintro ⟨⟩ -
   try dsimp only
   refine zD rfl (fun hw=> ?_) (fun hw=> ?_)
   ·
    have ha18:=yK hw.1
    have hb18:=yK hw.2
    have e8:(if (yd a).length≤2 then a else 0)=a:=by rw [if_pos hw.1]
    rw [e8]
    have e9:(if (yd b).length≤2 then b else 0)=b:=by rw [if_pos hw.2]
    rw [e9]
    refine ze<|zt<|zca (X:=Nat×Nat) (fun x:Nat×Nat=>Nat.gcd x.1 x.2=Nat.gcd a b∧x.1<1000000000000000000∧x.2<1000000000000000000) (fun x=>[(9,.int .u64 ((x.2:Nat):Int)),(7,.int .u64 ((x.1:Nat):Int)),(6,.slice pb ((yd b).length) cb),(5,.slice pa ((yd a).length) ca),(4,yc (some ⟨b3,0,none⟩))]) (fun x=>[boxA b3 30 [wz.b,wz.l],boxA b2 30 [.bool t,.slice p2 n2 c2],boxA b1 30 [.bool s,.slice p1 n1 c1]]) (fun x=>[slF (rI .u32) pa ca (yd a),slF (rI .u32) pb cb (yd b),slF (rI .u32) p26 c27 (yd ((yh t l2).natAbs)),slF (rI .u32) p24 c25 (yd ((yh s l1).natAbs)),slF (rI .u32) p1 c1 l1,slF (rI .u32) p2 c2 l2]) (fun x:Nat×Nat=>x.2) (a,b) (show Nat.gcd a b=Nat.gcd a b∧a<1000000000000000000∧b<1000000000000000000 from by exact ⟨rfl,ha18,hb18⟩) (mR rfl) (ho:=((.of [0,0,0] rfl):PickO _ _ _)) ((.of [0,1,2,3,4,5] rfl):SelR _ _ _) ?_
    rintro ⟨q,r⟩ hJ
    replace hJ:Nat.gcd q r=Nat.gcd a b∧q<1000000000000000000∧r<1000000000000000000:=hJ
    try dsimp only
    obtain ⟨hgq,hq18,hr18⟩:=hJ
    have hmr:=Nat.mod_le q r
    refine ze<|ze<|za<|e_mv rfl<|e_p (zra rfl rfl)<|zf<|zc<|zD rfl (fun hy=> ?_) (fun hy=> ?_)
    ·
     refine zw<|zc<|zt<|zW (OW:=[]) (O:=[boxA b3 30 [wz.b,wz.l],boxA b2 30 [.bool t,.slice p2 n2 c2],boxA b1 30 [.bool s,.slice p1 n1 c1]]) 100000 mixed (.block (.then (.block (.then (.then (.block (.then (.block (.then .ret))))))))) kr<|e_dm 0 rfl rfl rfl<|e_dm 1 rfl rfl rfl<|e_dm 2 rfl rfl rfl<|e_pv 3 rfl rfl (zbb (z:=(((q%r):Nat):Int)) rfl rfl om (remN om om))<|e_pv 4 rfl rfl (zb rfl)<|e_pv 5 rfl rfl (zb rfl)<|zU kr<|zK<|zV (r,(q%r)) (show Nat.gcd r (q%r)=Nat.gcd a b∧r<1000000000000000000∧(q%r)<1000000000000000000 from by exact ⟨by rw [yS,hgq],hr18,by omega⟩) (by exact Nat.mod_lt q om) (mR rfl) (ho:=((.of [0,0,0] rfl):PickO _ _ _)) ((.of [0,1,2,3,4,5] rfl):SelR _ _ _)
    ·
     have hrz:r=0:=by omega
     have hfin:q=Nat.gcd (yh s l1).natAbs (yh t l2).natAbs:=by rw [← hgc,←hgq,hrz,Nat.gcd_zero_right]
     refine zaa<|zg<|zg<|zp<|zc<|ze<|za<|e_mv rfl<|zm rfl rfl (.c rfl .n) ce209 (zxb (n0:=q) (hn0:=cbo)) (.n) ?_
     rintro ⟨p210,c211⟩ -
     dsimp only [aq,nq,cq]
     refine zm rfl rfl (.c rfl (.c rfl .n)) ce208 (zza (s:=false) (a:=q) (p:=p210) (cap:=c211)) (.c (j:=0) rfl .n) ?_
     rintro ⟨p212,c213⟩ -
     dsimp only [aq,nq,cq]
     refine zl 0 rfl rfl rfl rfl rfl sz30 rfl (.t2 .nil) .z<|zf<|zc<|zG<|zu<|zX<|zu<|zX<|zu ?_
     exact zx Tryz.results172 (p212,c213) trivial (zq 0 ty30 rfl rfl (.t2 .nil)) (by rw [← hfin];rfl) (ho:=oN) ((.e (j:=0) rfl (by rw [← hfin];rfl) .n):SelR _ _ _)
   ·
    refine zw<|zc<|ze<|za<|e_mv rfl<|e_mv rfl<|zm rfl rfl (.c rfl (.c rfl .n)) ce221 (zOe (a:=a) (b:=b) (p1:=pa) (c1:=ca) (p2:=pb) (c2:=cb) (hb1:=cbo) (hb2:=cbo) (hb0:=cbo)) (.c (j:=0) rfl (.c (j:=1) rfl .n)) ?_
    rintro ⟨p314,c315,p416,c417⟩ -
    dsimp only [aq,nq,cq]
    refine e_mv rfl<|e_p (zn rfl rfl)<|e_p (zn rfl rfl)<|e_p (zb rfl)<|e_p (zb rfl)<|zf<|zc<|za<|e_mv rfl<|e_mv rfl<|e_p (zb rfl)<|e_p (zb rfl)<|zf<|zK<|zV (b,(a%b),pb,cb,p416,c417) (show Nat.gcd b (a%b)=Nat.gcd (yh s l1).natAbs (yh t l2).natAbs∧(yd b).length≤4398046511104∧(yd (a%b)).length≤4398046511104 from by exact ⟨by rw [yS,hgc],hbb,Nat.le_trans (yE (Nat.le_of_lt (Nat.mod_lt a hb0))) hbb⟩) (by exact Nat.mod_lt a hb0) ((.e rfl cgs (.c rfl (.c rfl .n))):SubM _ _) (ho:=((.of [0,0,0] rfl):PickO _ _ _)) ((.c (j:=3) rfl (.e (j:=1) rfl (by first|rfl|simp_all) (.of [4,5,6,7] rfl))):SelR _ _ _)
 ·
  have hbz:b=0:=yB.1 om
  have hfin:a=Nat.gcd (yh s l1).natAbs (yh t l2).natAbs:=by rw [← hgc,hbz,Nat.gcd_zero_right]
  refine zaa<|zg<|zg<|zp<|zc<|ze<|za<|e_mv rfl<|zm rfl rfl (.c rfl .n) ce213 (zzc (a:=a) (p:=pa) (cap:=ca) (hb:=cbo)) (.c (j:=0) rfl .n) ?_
  rintro ⟨p218,c219⟩ -
  dsimp only [aq,nq,cq]
  refine zm rfl rfl (.c rfl (.c rfl .n)) ce208 (zza (s:=false) (a:=a) (p:=p218) (cap:=c219)) (.c (j:=0) rfl .n) ?_
  rintro ⟨p220,c221⟩ -
  dsimp only [aq,nq,cq]
  refine zl 0 rfl rfl rfl rfl rfl sz30 rfl (.t2 .nil) .z<|zf<|zc<|zG ?_
  exact zx Tryz.results172 (p220,c221) trivial (zq 0 ty30 rfl rfl (.t2 .nil)) (by rw [← hfin];rfl) (ho:=oN) ((.e (j:=0) rfl (by rw [← hfin];rfl) .n):SelR _ _ _)
theorem zxg {x1:Int} {x2:Int} {p1:Option Addr} {c1:Nat} {p2:Option Addr} {c2:Nat} (hb1:ym x1≤4398046511104) (hb2:ym x2≤4398046511104):Con yk 172 [.agg #[.bool (decide ((x1)<0)),.slice (p1) ((yd ((x1).natAbs)).length) (c1)],.agg #[.bool (decide ((x2)<0)),.slice (p2) ((yd ((x2).natAbs)).length) (c2)]] [] [slF (rI .u32) (p1) (c1) (yd ((x1).natAbs)),slF (rI .u32) (p2) (c2) (yd ((x2).natAbs))] (Y:=(Option Addr)×(Nat)) (fun y=>True) (fun y=> .agg #[.bool (decide ((((Nat.gcd x1.natAbs x2.natAbs:Nat):Int))<0)),.slice (y.1) ((yd ((((Nat.gcd x1.natAbs x2.natAbs:Nat):Int)).natAbs)).length) (y.2)]) (fun y=>[]) (fun y=>[slF (rI .u32) (y.1) (y.2) (yd ((((Nat.gcd x1.natAbs x2.natAbs:Nat):Int)).natAbs))]):=by
  have h:= @zRf (decide ((x1)<0)) p1 (yd (x1).natAbs).length c1 (yd (x1).natAbs) (decide ((x2)<0)) p2 (yd (x2).natAbs).length c2 (yd (x2).natAbs) rfl rfl (by rw [yr];exact hb1) (by rw [yr];exact hb2)
  rw [yr,yr] at h
  exact h
theorem zPe {w1:Wd} {w2:Wd} {x1:Int} {x2:Int} (hb1:ym x1≤4398046511104) (hb2:ym x2≤4398046511104):Con yk 172 [.agg #[w1.b,w1.l],.agg #[w2.b,w2.l]] [] [zF w1 (x1),zF w2 (x2)] (Y:=(Wd)) (fun y=>True) (fun y=> .agg #[y.b,y.l]) (fun y=>[]) (fun y=>[zF y (((Nat.gcd x1.natAbs x2.natAbs:Nat):Int))]):=by
  exact zIb (zZb (fun p1 c1 p2 c2=>zxg hb1 hb2))
end Go.Proofs.YtpdbimfnhglhpaaGreat.Sp
namespace Go.Proofs.YtpdbimfnhglhpaaGreat.Sp
open Go
set_option linter.unusedVariables false
set_option maxRecDepth 100000
set_option maxHeartbeats 8000000
theorem zge {x1:Int} {x2:Int} {p1:Option Addr} {c1:Nat} {p2:Option Addr} {c2:Nat} (hb1:ym x1≤4398046511104) (hb2:ym x2≤4398046511104) (hy:x2≠0):Con yk 157 [.agg #[.bool (decide (x1<0)),.slice p1 ((yd ((x1).natAbs)).length) c1],.agg #[.bool (decide (x2<0)),.slice p2 ((yd ((x2).natAbs)).length) c2]] [] [slF (rI .u32) p1 c1 (yd ((x1).natAbs)),slF (rI .u32) p2 c2 (yd ((x2).natAbs))] (Y:=(Option Addr)×Nat×(Option Addr)×Nat) (fun y=>True) (fun y=> .tuple #[.agg #[.bool (decide ((yz x1 x2)<0)),.slice (y.1) ((yd ((yz x1 x2).natAbs)).length) (y.2.1)],.agg #[.bool (decide ((yI x1 x2)<0)),.slice (y.2.2.1) ((yd ((yI x1 x2).natAbs)).length) (y.2.2.2)],ya yb 0]) (fun y=>[]) (fun y=>[slF (rI .u32) (y.1) (y.2.1) (yd ((yz x1 x2).natAbs)),slF (rI .u32) (y.2.2.1) (y.2.2.2) (yd ((yI x1 x2).natAbs))]):=by
 refine zk Tryz.func157 rfl rfl rfl (fun c=> ?_)
 show RunC _ _ _ _ _ [(0,.agg #[.bool (decide (x1<0)),.slice p1 ((yd ((x1).natAbs)).length) c1]),(1,.agg #[.bool (decide (x2<0)),.slice p2 ((yd ((x2).natAbs)).length) c2])] [] [slF (rI .u32) p1 c1 (yd ((x1).natAbs)),slF (rI .u32) p2 c2 (yd ((x2).natAbs))]
 refine zP 0 rfl (fun hL0=> ?_)
 refine zP 1 rfl (fun hL1=> ?_)
 unfold ym at hb1 hb2
 have hd1:=Nat.div_le_self x1.natAbs x2.natAbs
 have hd2:=Nat.mod_lt x1.natAbs (show 0<x2.natAbs by omega)
 have hl1:=yE hd1
 have hl2:=yE (Nat.le_of_lt hd2)
 refine ze<|za<|zM rfl rfl (zT rfl rfl) (fun b1=> ?_)
 refine zM rfl rfl (zT rfl rfl) (fun b2=> ?_)
 refine zM rfl rfl (zA zr30 rfl) (fun b3=> ?_)
 refine zM rfl rfl (zA zr30 rfl) (fun b4=> ?_)
 refine e_p (zb rfl)<|zf<|zc<|ze<|zW (OW:=[]) (O:=[boxA b4 30 [wz.b,wz.l],boxA b3 30 [wz.b,wz.l],boxA b2 30 [.bool (decide (x2<0)),.slice p2 ((yd ((x2).natAbs)).length) c2],boxA b1 30 [.bool (decide (x1<0)),.slice p1 ((yd ((x1).natAbs)).length) c1]]) 100000 mixed (.then .ret) kr<|e_u 0 rfl rfl (zd 3 ty30 rfl rfl (.t2 .nil))<|e_u 2 rfl rfl (zd 2 ty30 rfl rfl (.t2 .nil))<|e_one 1 (zB rfl rfl rfl rfl (.c rfl .n) ce155 (zBb (z:=x1) (p:=p1) (cap:=c1)) (.c (j:=0) rfl .n) ?_)
 rintro ⟨p25,c26⟩ -
 dsimp only [aq,nq,cq]
 refine e_one 3 (zB rfl rfl rfl rfl (.c rfl .n) ce155 (zBb (z:=x2) (p:=p2) (cap:=c2)) (.c (j:=2) rfl .n) ?_)
 rintro ⟨p27,c28⟩ -
 dsimp only [aq,nq,cq]
 refine e_pv 4 rfl rfl (zb rfl)<|e_pv 5 rfl rfl (zb rfl)<|zU kr<|zc<|ze<|ze<|za<|e_mv rfl<|e_p (zv ye rfl)<|e_p (zna rfl rfl)<|zf<|zc<|zD rfl (fun h9=> ?_) (fun h9=> ?_)
 ·
  exact absurd (yB.1 (show (yd x2.natAbs).length=0 by omega)) om
 ·
  refine zw<|zc<|ze<|za<|e_mv rfl<|e_mv rfl<|zm rfl rfl (.c rfl (.c rfl .n)) ce221 (zOe (a:=(x1).natAbs) (b:=(x2).natAbs) (p1:=p25) (c1:=c26) (p2:=p27) (c2:=c28) (hb1:=by first|rfl|assumption|omega|(decide +kernel)) (hb2:=by first|rfl|assumption|omega|(decide +kernel)) (hb0:=by first|rfl|assumption|omega|(decide +kernel))) (.c (j:=1) rfl (.c (j:=0) rfl .n)) ?_
  rintro ⟨p310,c311,p412,c413⟩ -
  dsimp only [aq,nq,cq]
  refine e_mv rfl<|e_p (zn rfl rfl)<|e_p (zn rfl rfl)<|e_p (zb rfl)<|e_p (zb rfl)<|zf<|zc<|ze<|za<|e_mv rfl<|zm rfl rfl (.c rfl .n) ce213 (zzc (a:=((x1).natAbs)%((x2).natAbs)) (p:=p412) (cap:=c413) (hb:=by first|rfl|assumption|omega|(decide +kernel))) (.c (j:=1) rfl .n) ?_
  rintro ⟨p214,c215⟩ -
  dsimp only [aq,nq,cq]
  refine e_p (zb rfl)<|zf<|zc<|ze<|ze<|za<|e_mv rfl<|e_p (zv ye rfl)<|e_p (zra rfl rfl)<|zga rfl rfl (zja rfl) (fun hpos=> ?_) (fun hpos=> ?_)
  ·
   refine e_p (zj yl rfl sz4 rfl rfl)<|e_ru (zi 3 ty4 rfl rfl rfl)<|e_p (zj yl rfl sz4 rfl rfl)<|e_ru (zi 2 ty4 rfl rfl rfl)<|e_p (zNa yv rfl rfl)<|e_p (zE rfl rfl)<|zf<|zc<|zD rfl (fun hadj=> ?_) (fun hadj=> ?_)
   ·
    have hsg:(decide (decide (x1<0)≠decide (x2<0)))=true:=decide_eq_true hadj
    have hr0:x1.natAbs%x2.natAbs≠0:=fun e=>by have h9:=hpos;rw [e,yJ] at h9;exact absurd h9 dd
    refine za<|e_mv rfl<|zma rfl rfl (zda (enc:=fun z:Int=>[.int .u32 z]) (ok:=InK .u32) (h1:=fun _=>rfl) (h2:=fun _=>rfl) (k:=1) ye inf133 rfl dd dd dd (.c (x:=1) rfl rfl (fun _ _=>by exact zy.2 om) .n)) (fun b16 _=> ?_)
    refine zea 0 rfl .z ?_
    have e17:[1]=yd 1:=by exact (Big.digs_one (s:=1) dd dd).symm
    rw [e17]
    have e18:(.slice (some ⟨b16,0,none⟩) 1 1:Value)= .slice (some ⟨b16,0,none⟩) ((yd 1).length) 1:=by rfl
    rw [e18]
    refine zm rfl rfl (.c rfl (.c rfl .n)) ce222 (zId (a:=((x1).natAbs) / ((x2).natAbs)) (b:=1) (p1:=p310) (c1:=c311) (p2:=some ⟨b16,0,none⟩) (c2:=1) (hb1:=by first|rfl|assumption|omega|(decide +kernel)) (hb2:=by first|rfl|assumption|omega|(decide +kernel))) (.c (j:=2) rfl (.c (j:=0) rfl .n)) ?_
    rintro ⟨p319,c320⟩ -
    dsimp only [aq,nq,cq]
    refine e_mv rfl<|e_mv rfl<|zm rfl rfl (.c rfl (.c rfl .n)) ce223 (zOc (a:=(x2).natAbs) (b:=(((x1).natAbs)%((x2).natAbs))) (p1:=p27) (c1:=c28) (p2:=p214) (c2:=c215) (hb1:=by first|rfl|assumption|omega|(decide +kernel)) (hb2:=by first|rfl|assumption|omega|(decide +kernel)) (hab:=by first|rfl|assumption|omega|(decide +kernel))) (.c (j:=5) rfl (.c (j:=2) rfl .n)) ?_
    rintro ⟨p321,c322⟩ -
    dsimp only [aq,nq,cq]
    refine e_p (zb rfl)<|e_p (zb rfl)<|zf<|zc<|ze<|zpa (.c (i:=2) rfl (.c (i:=1) rfl (.c (i:=0) rfl (.c (i:=0) rfl (.c (i:=0) rfl .n)))))<|zW (OW:=[boxA b3 30 [wz.b,wz.l],boxA b4 30 [wz.b,wz.l]]) (O:=[emA,boxA b2 30 [.bool (decide (x2<0)),.slice p2 ((yd ((x2).natAbs)).length) c2],boxA b1 30 [.bool (decide (x1<0)),.slice p1 ((yd ((x1).natAbs)).length) c1]]) 11 mixed (.then .ret) kr<|e_pv 0 rfl rfl (zj yl rfl sz4 rfl rfl)<|e_uw 1 rfl rfl (zi 4 ty4 rfl rfl rfl)<|e_pv 2 rfl rfl (zj yl rfl sz4 rfl rfl)<|e_uw 3 rfl rfl (zi 3 ty4 rfl rfl rfl)<|e_pv 4 rfl rfl (zNa yv rfl rfl)<|e_dm 5 rfl rfl rfl<|e_pv 7 rfl rfl (zj yl rfl sz4 rfl rfl)<|e_uw 8 rfl rfl (zi 3 ty4 rfl rfl rfl)<|e_dm 9 rfl rfl rfl<|e_one 6 (zB rfl rfl rfl rfl (.c rfl (.c rfl .n)) ce208 (zza (s:=decide (decide (x1<0)≠decide (x2<0))) (a:=(((x1).natAbs) / ((x2).natAbs))+1) (p:=p319) (cap:=c320)) (.c (j:=1) rfl .n) ?_)
    rintro ⟨p223,c224⟩ -
    dsimp only [aq,nq,cq]
    refine e_one 10 (zB rfl rfl rfl rfl (.c rfl (.c rfl .n)) ce208 (zza (s:=decide (x2<0)) (a:=((x2).natAbs) - (((x1).natAbs)%((x2).natAbs))) (p:=p321) (cap:=c322)) (.c (j:=1) rfl .n) ?_)
    rintro ⟨p225,c226⟩ -
    dsimp only [aq,nq,cq]
    refine e_one 11 (zC kr rfl rfl rfl rfl rfl sz30 rfl (.t2 .nil) ?_)
    refine zPa (zfa (i:=1) rfl)<|e_one 12 (zC kr rfl rfl rfl rfl rfl sz30 rfl (.t2 .nil) ?_)
    refine e_pv 13 rfl rfl (zb rfl)<|zU kr<|zc<|zG ?_
    have hz1:yt (decide (decide (x1<0)≠decide (x2<0))) ((x1.natAbs / x2.natAbs+1:Nat):Int)=yz x1 x2:=by rw [hsg];exact (Big.fq_odd hy hadj hr0).1
    have hz2:yt (decide (x2<0)) ((x2.natAbs - x1.natAbs%x2.natAbs:Nat):Int)=yI x1 x2:=(Big.fq_odd hy hadj hr0).2
    exact zoc Tryz.results157 (p223,c224,p225,c226) trivial (zq 1 ty30 rfl rfl (.t2 .nil)) (zq 0 ty30 rfl rfl (.t2 .nil)) (zo rfl) (by rw [hz1,hz2]) (ho:=oN) ((.e (j:=1) rfl (by rw [hz1]) (.e (j:=0) rfl (by rw [hz2]) .n)):SelR _ _ _)
   ·
    refine zw<|zc<|ze<|zpa (.c (i:=1) rfl (.c (i:=0) rfl (.c (i:=0) rfl (.c (i:=0) rfl .n))))<|zW (OW:=[boxA b3 30 [wz.b,wz.l],boxA b4 30 [wz.b,wz.l]]) (O:=[boxA b2 30 [.bool (decide (x2<0)),.slice p2 ((yd ((x2).natAbs)).length) c2],boxA b1 30 [.bool (decide (x1<0)),.slice p1 ((yd ((x1).natAbs)).length) c1]]) 11 mixed (.then .ret) kr<|e_pv 0 rfl rfl (zj yl rfl sz4 rfl rfl)<|e_uw 1 rfl rfl (zi 3 ty4 rfl rfl rfl)<|e_pv 2 rfl rfl (zj yl rfl sz4 rfl rfl)<|e_uw 3 rfl rfl (zi 2 ty4 rfl rfl rfl)<|e_pv 4 rfl rfl (zNa yv rfl rfl)<|e_dm 5 rfl rfl rfl<|e_pv 7 rfl rfl (zj yl rfl sz4 rfl rfl)<|e_uw 8 rfl rfl (zi 2 ty4 rfl rfl rfl)<|e_dm 9 rfl rfl rfl<|e_one 6 (zB rfl rfl rfl rfl (.c rfl (.c rfl .n)) ce208 (zza (s:=decide (decide (x1<0)≠decide (x2<0))) (a:=((x1).natAbs) / ((x2).natAbs)) (p:=p310) (cap:=c311)) (.c (j:=1) rfl .n) ?_)
    rintro ⟨p227,c228⟩ -
    dsimp only [aq,nq,cq]
    refine e_one 10 (zB rfl rfl rfl rfl (.c rfl (.c rfl .n)) ce208 (zza (s:=decide (x2<0)) (a:=(((x1).natAbs)%((x2).natAbs))) (p:=p214) (cap:=c215)) (.c (j:=1) rfl .n) ?_)
    rintro ⟨p229,c230⟩ -
    dsimp only [aq,nq,cq]
    refine e_one 11 (zC kr rfl rfl rfl rfl rfl sz30 rfl (.t2 .nil) ?_)
    refine zPa (zfa (i:=1) rfl)<|e_one 12 (zC kr rfl rfl rfl rfl rfl sz30 rfl (.t2 .nil) ?_)
    refine e_pv 13 rfl rfl (zb rfl)<|zU kr<|zc<|zG ?_
    have hsg:(decide (decide (x1<0)≠decide (x2<0)))=false:=decide_eq_false hadj
    have hz1:yt (decide (decide (x1<0)≠decide (x2<0))) ((x1.natAbs / x2.natAbs:Nat):Int)=yz x1 x2:=by rw [hsg];exact (Big.fq_same hy (Decidable.not_not.1 hadj)).1
    have hz2:yt (decide (x2<0)) ((x1.natAbs%x2.natAbs:Nat):Int)=yI x1 x2:=(Big.fq_same hy (Decidable.not_not.1 hadj)).2
    exact zoc Tryz.results157 (p227,c228,p229,c230) trivial (zq 1 ty30 rfl rfl (.t2 .nil)) (zq 0 ty30 rfl rfl (.t2 .nil)) (zo rfl) (by rw [hz1,hz2]) (ho:=oN) ((.e (j:=1) rfl (by rw [hz1]) (.e (j:=0) rfl (by rw [hz2]) .n)):SelR _ _ _)
  ·
   refine e_no<|e_no<|e_no<|e_no<|e_no<|e_p (zE rfl rfl)<|zf<|zc<|zoa rfl rfl<|zw<|zc<|ze<|zpa (.c (i:=1) rfl (.c (i:=0) rfl (.c (i:=0) rfl (.c (i:=0) rfl .n))))<|zW (OW:=[boxA b3 30 [wz.b,wz.l],boxA b4 30 [wz.b,wz.l]]) (O:=[boxA b2 30 [.bool (decide (x2<0)),.slice p2 ((yd ((x2).natAbs)).length) c2],boxA b1 30 [.bool (decide (x1<0)),.slice p1 ((yd ((x1).natAbs)).length) c1]]) 11 mixed (.then .ret) kr<|e_pv 0 rfl rfl (zj yl rfl sz4 rfl rfl)<|e_uw 1 rfl rfl (zi 3 ty4 rfl rfl rfl)<|e_pv 2 rfl rfl (zj yl rfl sz4 rfl rfl)<|e_uw 3 rfl rfl (zi 2 ty4 rfl rfl rfl)<|e_pv 4 rfl rfl (zNa yv rfl rfl)<|e_dm 5 rfl rfl rfl<|e_pv 7 rfl rfl (zj yl rfl sz4 rfl rfl)<|e_uw 8 rfl rfl (zi 2 ty4 rfl rfl rfl)<|e_dm 9 rfl rfl rfl<|e_one 6 (zB rfl rfl rfl rfl (.c rfl (.c rfl .n)) ce208 (zza (s:=decide (decide (x1<0)≠decide (x2<0))) (a:=((x1).natAbs) / ((x2).natAbs)) (p:=p310) (cap:=c311)) (.c (j:=1) rfl .n) ?_)
   rintro ⟨p231,c232⟩ -
   dsimp only [aq,nq,cq]
   refine e_one 10 (zB rfl rfl rfl rfl (.c rfl (.c rfl .n)) ce208 (zza (s:=decide (x2<0)) (a:=(((x1).natAbs)%((x2).natAbs))) (p:=p214) (cap:=c215)) (.c (j:=1) rfl .n) ?_)
   rintro ⟨p233,c234⟩ -
   dsimp only [aq,nq,cq]
   refine e_one 11 (zC kr rfl rfl rfl rfl rfl sz30 rfl (.t2 .nil) ?_)
   refine zPa (zfa (i:=1) rfl)<|e_one 12 (zC kr rfl rfl rfl rfl rfl sz30 rfl (.t2 .nil) ?_)
   refine e_pv 13 rfl rfl (zb rfl)<|zU kr<|zc<|zG ?_
   have hr0:x1.natAbs%x2.natAbs=0:=yB.1 om
   have hz:yt (decide (decide (x1<0)≠decide (x2<0))) ((x1.natAbs / x2.natAbs:Nat):Int)=yz x1 x2∧yt (decide (x2<0)) ((x1.natAbs%x2.natAbs:Nat):Int)=yI x1 x2:=by by_cases h:decide (x1<0)=decide (x2<0);rw [decide_eq_false (not_not_intro h)];exact Big.fq_same hy h;rw [decide_eq_true h];exact Big.fq_even hy h hr0
   exact zoc Tryz.results157 (p231,c232,p233,c234) trivial (zq 1 ty30 rfl rfl (.t2 .nil)) (zq 0 ty30 rfl rfl (.t2 .nil)) (zo rfl) (by rw [hz.1,hz.2]) (ho:=oN) ((.e (j:=1) rfl (by rw [hz.1]) (.e (j:=0) rfl (by rw [hz.2]) .n)):SelR _ _ _)
theorem zCb {w1:Wd} {w2:Wd} {x1:Int} {x2:Int} (hb1:ym x1≤4398046511104) (hb2:ym x2≤4398046511104) (hy:x2≠0):Con yk 157 [.agg #[w1.b,w1.l],.agg #[w2.b,w2.l]] [] [zF w1 (x1),zF w2 (x2)] (Y:=(Wd)×(Wd)) (fun y=>True) (fun y=> .tuple #[.agg #[y.1.b,y.1.l],.agg #[y.2.b,y.2.l],ya yb (0)]) (fun y=>[]) (fun y=>[zF y.1 (yz x1 x2),zF y.2 (yI x1 x2)]):=by
  exact zIf (zZb (fun p1 c1 p2 c2=>zge hb1 hb2 hy))
theorem zwc {x1:Int} {x2:Int} {p1:Option Addr} {c1:Nat} {p2:Option Addr} {c2:Nat}:Con yk 171 [.agg #[.bool (decide (x1<0)),.slice p1 ((yd ((x1).natAbs)).length) c1],.agg #[.bool (decide (x2<0)),.slice p2 ((yd ((x2).natAbs)).length) c2]] [] [slF (rI .u32) p1 c1 (yd ((x1).natAbs)),slF (rI .u32) p2 c2 (yd ((x2).natAbs))] (Y:=Unit) (fun y=>True) (fun y=> ya yb (yH x1 x2)) (fun y=>[]) (fun y=>[]):=by
 refine zk Tryz.func171 rfl rfl rfl (fun c=> ?_)
 show RunC _ _ _ _ _ [(0,.agg #[.bool (decide (x1<0)),.slice p1 ((yd ((x1).natAbs)).length) c1]),(1,.agg #[.bool (decide (x2<0)),.slice p2 ((yd ((x2).natAbs)).length) c2])] [] [slF (rI .u32) p1 c1 (yd ((x1).natAbs)),slF (rI .u32) p2 c2 (yd ((x2).natAbs))]
 refine zP 0 rfl (fun hL0=> ?_)
 refine zP 1 rfl (fun hL1=> ?_)
 have hcb:=Big.cmp_b (x1.natAbs:Int) (x2.natAbs:Int)
 refine ze<|za<|zM rfl rfl (zT rfl rfl) (fun b1=> ?_)
 refine zM rfl rfl (zT rfl rfl) (fun b2=> ?_)
 refine e_p (zb rfl)<|zf<|zc<|ze<|ze<|zW (OW:=[]) (O:=[boxA b2 30 [.bool (decide (x2<0)),.slice p2 ((yd ((x2).natAbs)).length) c2],boxA b1 30 [.bool (decide (x1<0)),.slice p1 ((yd ((x1).natAbs)).length) c1]]) 100000 mixed (.then (.then .ret)) kr<|e_u 0 rfl rfl (zd 1 ty30 rfl rfl (.t2 .nil))<|e_u 2 rfl rfl (zd 0 ty30 rfl rfl (.t2 .nil))<|e_one 1 (zhb rfl rfl rfl rfl (.c rfl .n) ce167 (zPc (z:=x1) (p:=p1) (cap:=c1)) (.c (j:=0) rfl .n) ?_)
 refine e_one 3 (zhb rfl rfl rfl rfl (.c rfl .n) ce167 (zPc (z:=x2) (p:=p2) (cap:=c2)) (.c (j:=1) rfl .n) ?_)
 refine e_pv 4 rfl rfl (zb rfl)<|e_pv 5 rfl rfl (zb rfl)<|zU kr<|zc<|ze<|za<|e_mv rfl<|e_mv rfl<|e_p (zxa rfl rfl)<|zf<|zc<|zD rfl (fun hs=> ?_) (fun hs=> ?_)
 ·
  refine ze<|za<|e_mv rfl<|e_mv rfl<|zR rfl rfl (.c rfl (.c rfl .n)) ce230 (zNc (u:=(x1).sign) (v:=(x2).sign)) (.n)<|e_p (zb rfl)<|zf<|zc<|zG<|zu ?_
  exact zx Tryz.results171 () trivial (zo rfl) (by rw [Big.cmp_signs hs]) (ho:=oN) sN
 ·
  refine zw<|zc<|ze<|zW (OW:=[]) (O:=[boxA b2 30 [.bool (decide (x2<0)),.slice p2 ((yd ((x2).natAbs)).length) c2],boxA b1 30 [.bool (decide (x1<0)),.slice p1 ((yd ((x1).natAbs)).length) c1]]) 100000 mixed (.then .ret) kr<|e_u 0 rfl rfl (zd 1 ty30 rfl rfl (.t2 .nil))<|e_u 2 rfl rfl (zd 0 ty30 rfl rfl (.t2 .nil))<|e_one 1 (zB rfl rfl rfl rfl (.c rfl .n) ce155 (zBb (z:=x1) (p:=p1) (cap:=c1)) (.c (j:=0) rfl .n) ?_)
  rintro ⟨p23,c24⟩ -
  dsimp only [aq,nq,cq]
  refine e_one 3 (zB rfl rfl rfl rfl (.c rfl .n) ce155 (zBb (z:=x2) (p:=p2) (cap:=c2)) (.c (j:=2) rfl .n) ?_)
  rintro ⟨p25,c26⟩ -
  dsimp only [aq,nq,cq]
  refine e_one 4 (zhb rfl rfl rfl rfl (.c rfl (.c rfl .n)) ce231 (zSb (a:=(x1).natAbs) (b:=(x2).natAbs) (p1:=p23) (c1:=c24) (p2:=p25) (c2:=c26)) (.c (j:=1) rfl (.c (j:=0) rfl .n)) ?_)
  refine e_pv 5 rfl rfl (zb rfl)<|zU kr<|zc<|ze<|ze<|za<|e_p (zj yl rfl sz4 rfl rfl)<|e_ru (zi 1 ty4 rfl rfl rfl)<|zf<|zc<|zXa rfl (fun hn=> ?_) (fun hn=> ?_)
  ·
   refine ze<|za<|e_mv rfl<|e_p (zAe (z:=(-(yH (((x1).natAbs):Int) (((x2).natAbs):Int)))) rfl (w64 om))<|e_p (zb rfl)<|zf<|zc<|zG<|zu ?_
   exact zx Tryz.results171 () trivial (zo rfl) (by rw [Big.cmp_neg hs (by simpa using hn)]) (ho:=oN) sN
  ·
   refine zw<|zc<|ze<|za<|e_mv rfl<|e_p (zb rfl)<|zf<|zc<|zG ?_
   exact zx Tryz.results171 () trivial (zo rfl) (by rw [Big.cmp_pos hs (by simpa using hn)]) (ho:=oN) sN
theorem zLd {w1:Wd} {w2:Wd} {x1:Int} {x2:Int}:Con yk 171 [.agg #[w1.b,w1.l],.agg #[w2.b,w2.l]] [] [zF w1 (x1),zF w2 (x2)] (Y:=Unit) (fun y=>True) (fun y=> ya yb (yH x1 x2)) (fun y=>[]) (fun y=>[]):=by
  exact zZb (fun p1 c1 p2 c2=>zwc)
theorem zhe {s:Bool} {p:Option Addr} {n:Nat} {cap:Nat} {l:List Int} (hn:l.length=n) (hln:ym (yh s l)≤4398046511104):Con yk 138 [.agg #[.bool s,.slice p n cap]] [] [slF (rI .u32) p cap l] (Y:=(Option Addr)×Nat) (fun y=>True) (fun y=> .agg #[.bool (decide ((- yh s l)<0)),.slice (y.1) ((yd ((- yh s l).natAbs)).length) (y.2)]) (fun y=>[]) (fun y=>[slF (rI .u32) (y.1) (y.2) (yd ((- yh s l).natAbs))]):=by
 refine zk Tryz.func138 rfl rfl rfl (fun c=> ?_)
 show RunC _ _ _ _ _ [(0,.agg #[.bool s,.slice p n cap])] [] [slF (rI .u32) p cap l]
 refine zP 0 rfl (fun hL0=> ?_)
 refine zOa 0 rfl (fun hE0=> ?_)
 have hnn:yG l:=fun g hg=>(zy.1 (hE0 g hg)).1
 unfold ym at hln
 refine ze<|za<|zM rfl rfl (zT rfl rfl) (fun b1=> ?_)
 refine zM rfl rfl (zA zr30 rfl) (fun b2=> ?_)
 refine zf<|zc<|ze<|zW (OW:=[boxA b2 30 [wz.b,wz.l]]) (O:=[boxA b1 30 [.bool s,.slice p n cap]]) 7 mixed (.then .ret) kr<|e_pv 0 rfl rfl (zj yl rfl sz4 rfl rfl)<|e_uw 1 rfl rfl (zi 1 ty4 rfl rfl rfl)<|e_pv 2 rfl rfl (zUa rfl)<|e_uw 3 rfl rfl (zd 1 ty30 rfl rfl (.t2 .nil))<|e_one 4 (zB rfl rfl rfl rfl (.c rfl .n) ce155 (zLa (s:=s) (p:=p) (n:=n) (cap:=cap) (l:=l) (hn:=ass)) (.c (j:=0) rfl .n) ?_)
 rintro ⟨p23,c24⟩ -
 dsimp only [aq,nq,cq]
 refine e_one 5 (zB rfl rfl rfl rfl (.c rfl .n) ce213 (zzc (a:=(yh s l).natAbs) (p:=p23) (cap:=c24) (hb:=cbb)) (.c (j:=0) rfl .n) ?_)
 rintro ⟨p25,c26⟩ -
 dsimp only [aq,nq,cq]
 refine e_one 6 (zB rfl rfl rfl rfl (.c rfl (.c rfl .n)) ce208 (zza (s:= !s) (a:=((yh s l).natAbs)) (p:=p25) (cap:=c26)) (.c (j:=0) rfl .n) ?_)
 rintro ⟨p27,c28⟩ -
 dsimp only [aq,nq,cq]
 refine e_one 7 (zC kr rfl rfl rfl rfl rfl sz30 rfl (.t2 .nil) ?_)
 refine zU kr<|zc<|zG ?_
 have hz:yt (!s) ((yh s l).natAbs:Int)= - yh s l:=by rw [Big.sg_not,yU hnn]
 exact zx Tryz.results138 (p27,c28) trivial (zq 0 ty30 rfl rfl (.t2 .nil)) (by rw [hz]) (ho:=oN) ((.e (j:=0) rfl (by rw [hz]) .n):SelR _ _ _)
theorem znd {z:Int} {p:Option Addr} {cap:Nat} (hln:ym z≤4398046511104):Con yk 138 [.agg #[.bool (decide ((z)<0)),.slice (p) ((yd ((z).natAbs)).length) (cap)]] [] [slF (rI .u32) (p) (cap) (yd ((z).natAbs))] (Y:=(Option Addr)×(Nat)) (fun y=>True) (fun y=> .agg #[.bool (decide ((- z)<0)),.slice (y.1) ((yd ((- z).natAbs)).length) (y.2)]) (fun y=>[]) (fun y=>[slF (rI .u32) (y.1) (y.2) (yd ((- z).natAbs))]):=by
  have h:= @zhe (decide ((z)<0)) p (yd (z).natAbs).length cap (yd (z).natAbs) rfl (by rw [yr];exact hln)
  rw [yr] at h
  exact h
theorem zod {w1:Wd} {x1:Int} (hln:ym x1≤4398046511104):Con yk 138 [.agg #[w1.b,w1.l]] [] [zF w1 (x1)] (Y:=(Wd)) (fun y=>True) (fun y=> .agg #[y.b,y.l]) (fun y=>[]) (fun y=>[zF y (- x1)]):=by
  exact zIb (zYc (fun p c=>znd hln))
end Go.Proofs.YtpdbimfnhglhpaaGreat.Sp
namespace Go.Proofs.YtpdbimfnhglhpaaGreat.Sp
open Go
set_option linter.unusedVariables false
set_option maxRecDepth 100000
set_option maxHeartbeats 8000000
theorem zlc {s:Bool} {p1:Option Addr} {n1:Nat} {c1:Nat} {l1:List Int} {t:Bool} {p2:Option Addr} {n2:Nat} {c2:Nat} {l2:List Int} (hn1:l1.length=n1) (hn2:l2.length=n2) (hm1:n1≤1099511627776) (hm2:n2≤1099511627776):Con yk 88 [.agg #[.bool s,.slice p1 n1 c1,.bool t,.slice p2 n2 c2]] [] [slF (rI .u32) p1 c1 l1,slF (rI .u32) p2 c2 l2] (Y:=Unit) (fun y=>True) (fun y=> .bool (decide (Big.qok ((s,l1),(t,l2))))) (fun y=>[]) (fun y=>[]):=by
 refine zk Tryz.func88 rfl rfl rfl (fun c=> ?_)
 show RunC _ _ _ _ _ [(0,.agg #[.bool s,.slice p1 n1 c1,.bool t,.slice p2 n2 c2])] [] [slF (rI .u32) p1 c1 l1,slF (rI .u32) p2 c2 l2]
 refine zP 0 rfl (fun hL0=> ?_)
 refine zOa 0 rfl (fun hE0=> ?_)
 refine zP 1 rfl (fun hL1=> ?_)
 refine zOa 1 rfl (fun hE1=> ?_)
 have hnn1:yG l1:=fun g hg=>(zy.1 (hE0 g hg)).1
 have hnn2:yG l2:=fun g hg=>(zy.1 (hE1 g hg)).1
 have hb1:ym (yh s l1)≤n1:=by have:=yP (s:=s) hnn1;omega
 have hb2:ym (yh t l2)≤n2:=by have:=yP (s:=t) hnn2;omega
 refine ze<|za<|zM rfl rfl (zT rfl rfl) (fun b1=> ?_)
 refine e_p (zb rfl)<|zf<|zc<|ze<|zab (X:=Unit) (fun x=>True) (fun x=>[(18,.bool (decide (¬(Big.canon s l1∧Big.canon t l2∧0<yh t l2)))),(2,.bool false),(1,yc (some ⟨b1,0,none⟩))]) (fun x=>[boxA b1 32 [.bool s,.slice p1 n1 c1,.bool t,.slice p2 n2 c2]]) (fun x=>[slF (rI .u32) p1 c1 l1,slF (rI .u32) p2 c2 l2]) ?_ ?_
 ·
  refine za<|e_p (zj yj rfl sz30 rfl rfl)<|e_ru (zd 0 ty30 rfl rfl (.t2 .nil))<|zR rfl rfl (.c rfl .n) ce170 (zec (s:=s) (p:=p1) (n:=n1) (cap:=c1) (l:=l1) (hn:=ass)) (.c (j:=0) rfl .n)<|e_p (zPb rfl)<|zga rfl rfl (zja rfl) (fun h2=> ?_) (fun h2=> ?_)
  ·
   refine e_no<|e_no<|e_no<|e_no<|e_p (zE rfl rfl)<|e_mv rfl<|e_no<|e_no<|e_no<|e_no<|e_p (zE rfl rfl)<|zf ?_
   exact zla () tt9 ((.e rfl (congrArg Value.bool (by simp_all)) (.c rfl (.c rfl .n))):SubM _ _) (ho:=(o0 rfl)) ((.of [0,1] rfl):SelR _ _ _)
  ·
   refine e_p (zj yj rfl sz30 rfl rfl)<|e_ru (zd 0 ty30 rfl rfl (.s2 (.t2 .nil)))<|zR rfl rfl (.c rfl .n) ce170 (zec (s:=t) (p:=p2) (n:=n2) (cap:=c2) (l:=l2) (hn:=ass)) (.c (j:=1) rfl .n)<|e_p (zPb rfl)<|e_p (zE rfl rfl)<|zga rfl rfl (zja rfl) (fun h3=> ?_) (fun h3=> ?_)
   ·
    refine e_no<|e_no<|e_no<|e_no<|e_p (zE rfl rfl)<|zf ?_
    exact zla () tt9 ((.e rfl (congrArg Value.bool (by simp_all)) (.c rfl (.c rfl .n))):SubM _ _) (ho:=(o0 rfl)) ((.of [0,1] rfl):SelR _ _ _)
   ·
    refine e_p (zj yj rfl sz30 rfl rfl)<|e_ru (zd 0 ty30 rfl rfl (.s2 (.t2 .nil)))<|zR rfl rfl (.c rfl .n) ce167 (zNe (s:=t) (p:=p2) (n:=n2) (cap:=c2) (l:=l2) (hn:=ass)) (.c (j:=1) rfl .n)<|e_p (zpc rfl rfl)<|e_p (zE rfl rfl)<|zf ?_
    exact zla () tt9 ((.e rfl (congrArg Value.bool (by exact decide_eq_decide.2 (Big.sgn_le (Decidable.not_not.1 ‹_›) (Decidable.not_not.1 ‹_›)))) (.c rfl (.c rfl .n))):SubM _ _) (ho:=(o0 rfl)) ((.of [0,1] rfl):SelR _ _ _)
 ·
  rintro ⟨⟩ -
  try dsimp only
  refine zD rfl (fun hc=> ?_) (fun hc=> ?_)
  ·
   refine ze<|za<|e_p (zb rfl)<|zf<|zc<|zG<|zu ?_
   exact zx Tryz.results88 () trivial (zo rfl) (congrArg Value.bool (decide_eq_false (fun h=>hc ⟨h.1,h.2.1,h.2.2.1⟩))) (ho:=oN) sN
  ·
   refine zw<|zc<|ze<|za<|e_p (zj yj rfl sz30 rfl rfl)<|e_ru (zd 0 ty30 rfl rfl (.t2 .nil))<|e_p (zj yj rfl sz30 rfl rfl)<|e_ru (zd 0 ty30 rfl rfl (.s2 (.t2 .nil)))<|zm rfl rfl (.c rfl (.c rfl .n)) ce172 (zRf (s:=s) (p1:=p1) (n1:=n1) (c1:=c1) (l1:=l1) (t:=t) (p2:=p2) (n2:=n2) (c2:=c2) (l2:=l2) (hn1:=ass) (hn2:=ass) (hb1:=by first|rfl|assumption|omega|(rw [yp];omega)|(decide +kernel)) (hb2:=by first|rfl|assumption|omega|(rw [yp];omega)|(decide +kernel))) (.c (j:=0) rfl (.c (j:=1) rfl .n)) ?_
   rintro ⟨p34,c35⟩ -
   dsimp only [aq,nq,cq]
   refine zm rfl rfl (.c rfl .n) ce130 (zUg (z:=1) (hz:=by first|rfl|assumption|omega|(rw [yp];omega)|(decide +kernel))) (.n) ?_
   rintro ⟨p26,c27⟩ -
   dsimp only [aq,nq,cq]
   refine zR rfl rfl (.c rfl (.c rfl .n)) ce171 (zwc (x1:=((Nat.gcd (yh s l1).natAbs (yh t l2).natAbs:Nat):Int)) (x2:=1) (p1:=p34) (c1:=c35) (p2:=p26) (c2:=c27)) (.c (j:=1) rfl (.c (j:=0) rfl .n))<|e_p (zna rfl rfl)<|e_p (zb rfl)<|zf<|zc<|zG ?_
   exact zx Tryz.results88 () trivial (zo rfl) (congrArg Value.bool (decide_eq_decide.2 (Big.qok_gcd (x:=((s,l1),(t,l2))) (Decidable.not_not.1 hc)).symm)) (ho:=oN) sN
theorem zDb {w1:Wd} {w2:Wd} {x1:Int} {x2:Int} (hl1:ym x1≤1099511627776) (hl2:ym x2≤1099511627776) (hd:x2≠0):Con yk 140 [.agg #[w1.b,w1.l],.agg #[w2.b,w2.l]] [] [zF w1 x1,zF w2 x2] (Y:=Wd×Wd) (fun y=>True) (fun y=> .agg #[y.1.b,y.1.l,y.2.b,y.2.l]) (fun y=>[]) (fun y=>[qF true y.1 y.2 (Rat.divInt x1 x2)]):=by
 refine zk Tryz.func140 rfl rfl rfl (fun c=> ?_)
 show RunC _ _ _ _ _ [(0,.agg #[w1.b,w1.l]),(1,.agg #[w2.b,w2.l])] [] [zF w1 x1,zF w2 x2]
 refine ze<|za<|zM rfl rfl (zT rfl rfl) (fun b1=> ?_)
 refine zM rfl rfl (zT rfl rfl) (fun b2=> ?_)
 refine zM rfl rfl (zA zr32 rfl) (fun b3=> ?_)
 refine zf<|zc<|ze<|ze<|za<|e_ru (zd 1 ty30 rfl rfl (.t2 .nil))<|zR rfl rfl (.c rfl .n) ce167 (zfc (w1:=w2) (x1:=x2)) (.c (j:=1) rfl .n)<|e_p (zY rfl rfl)<|zf<|zc<|zD rfl (fun hneg=> ?_) (fun hneg=> ?_)
 ·
  have hs:x2<0:=by rcases Big.sign_le (x:=x2) with h|h|h <;> omega
  have hgp:=Big.gcd_pos_right (n:= -x1) (d:= -x2) om
  have hgl:=Big.zBd (n:= -x1) (d:= -x2) om
  rw [yp] at hgl
  obtain ⟨hr1,hr2⟩:=Big.red_flip (n:=x1) hs
  refine zpa (.c (i:=2) rfl (.c (i:=1) rfl (.c (i:=0) rfl .n)))<|zW (OW:=[boxA b1 30 [w1.b,w1.l],boxA b2 30 [w2.b,w2.l]]) (O:=[boxA b3 32 (cw [wz,wz])]) 4 mixed (.then .ret) kr<|e_uw 0 rfl rfl (zd 0 ty30 rfl rfl (.t2 .nil))<|e_uw 2 rfl rfl (zd 1 ty30 rfl rfl (.t2 .nil))<|e_one 1 (zB rfl rfl rfl rfl (.c rfl .n) ce138 (zod (w1:=w1) (x1:=x1) (hln:=by first|rfl|assumption|omega|(rw [yp];omega)|(decide +kernel))) (.c (j:=0) rfl .n) ?_)
  rintro w34 -
  dsimp only [aq,nq,cq]
  refine e_one 3 (zB rfl rfl rfl rfl (.c rfl .n) ce138 (zod (w1:=w2) (x1:=x2) (hln:=by first|rfl|assumption|omega|(rw [yp];omega)|(decide +kernel))) (.c (j:=2) rfl .n) ?_)
  rintro w35 -
  dsimp only [aq,nq,cq]
  refine e_one 4 (zC kr rfl rfl rfl rfl rfl sz30 rfl (.t2 .nil) ?_)
  refine zPa (zfa (i:=1) rfl)<|e_one 5 (zC kr rfl rfl rfl rfl rfl sz30 rfl (.t2 .nil) ?_)
  refine zU kr<|zc<|ze<|za<|e_ru (zd 1 ty30 rfl rfl (.t2 .nil))<|e_ru (zd 0 ty30 rfl rfl (.t2 .nil))<|zm rfl rfl (.c rfl (.c rfl .n)) ce172 (zPe (w1:=w34) (w2:=w35) (x1:= - x1) (x2:= - x2) (hb1:=by first|rfl|assumption|omega|(rw [yp];omega)|(decide +kernel)) (hb2:=by first|rfl|assumption|omega|(rw [yp];omega)|(decide +kernel))) (.c (j:=1) rfl (.c (j:=0) rfl .n)) ?_
  rintro w36 -
  dsimp only [aq,nq,cq]
  refine zM rfl rfl (zA zr30 rfl) (fun b7=> ?_)
  refine zl 0 rfl rfl rfl rfl rfl sz30 rfl (.t2 .nil) .z<|zf<|zc<|ze<|za<|e_ru (zd 2 ty30 rfl rfl (.t2 .nil))<|e_ru (zd 0 ty30 rfl rfl (.t2 .nil))<|zm rfl rfl (.c rfl (.c rfl .n)) ce157 (zCb (w1:=w34) (w2:=w36) (x1:= - x1) (x2:=((Nat.gcd (- x1).natAbs (- x2).natAbs:Nat):Int)) (hb1:=by first|rfl|assumption|omega|(rw [yp];omega)|(decide +kernel)) (hb2:=by first|rfl|assumption|omega|(rw [yp];omega)|(decide +kernel)) (hy:=by first|rfl|assumption|omega|(rw [yp];omega)|(decide +kernel))) (.c (j:=2) rfl (.c (j:=0) rfl .n)) ?_
  rintro ⟨w38,w49⟩ -
  dsimp only [aq,nq,cq]
  refine e_mv rfl<|e_p (zn rfl rfl)<|e_p (zn rfl rfl)<|e_p (zn rfl rfl)<|zl 2 rfl rfl rfl rfl rfl sz30 rfl (.t2 .nil) (.s (.s .z))<|zf<|zc<|ze<|za<|e_ru (zd 1 ty30 rfl rfl (.t2 .nil))<|e_ru (zd 0 ty30 rfl rfl (.t2 .nil))<|zm rfl rfl (.c rfl (.c rfl .n)) ce157 (zCb (w1:=w35) (w2:=w36) (x1:= - x2) (x2:=((Nat.gcd (- x1).natAbs (- x2).natAbs:Nat):Int)) (hb1:=by first|rfl|assumption|omega|(rw [yp];omega)|(decide +kernel)) (hb2:=by first|rfl|assumption|omega|(rw [yp];omega)|(decide +kernel)) (hy:=by first|rfl|assumption|omega|(rw [yp];omega)|(decide +kernel))) (.c (j:=3) rfl (.c (j:=2) rfl .n)) ?_
  rintro ⟨w310,w411⟩ -
  dsimp only [aq,nq,cq]
  refine e_mv rfl<|e_p (zn rfl rfl)<|e_p (zn rfl rfl)<|e_p (zn rfl rfl)<|zl 1 rfl rfl rfl rfl rfl sz30 rfl (.t2 .nil) (.s .z)<|zf<|zc<|ze<|za<|e_ru (zd 2 ty30 rfl rfl (.t2 .nil))<|e_ru (zd 1 ty30 rfl rfl (.t2 .nil))<|e_p (zZ zr32 rfl yj (.c sz30 (.c sz30 .n)) (.c rfl (.c rfl .n)) (.c rfl rfl rfl (.t2 .nil) (.c rfl rfl rfl (.s2 (.t2 .nil)) .n)))<|zl 3 rfl rfl rfl rfl rfl sz32 rfl (.t4 .nil) (.s (.s (.s .z)))<|zf<|zc<|zG<|zwb (qF true w38 w310 (Rat.divInt x1 x2)) (qF_close 2 0 rfl rfl (by exact ⟨hr1,hr2,Nat.le_trans (Big.hq_divInt hd) om⟩)) ?_
  exact zx Tryz.results140 (w38,w310) trivial (zq 3 ty32 rfl rfl (.t4 .nil)) rfl (ho:=oN) (s0 rfl)
 ·
  have hs:0<x2:=by rcases Big.sign_le (x:=x2) with h|h|h <;> omega
  have hgp:=Big.gcd_pos_right (n:=x1) (d:=x2) om
  have hgl:=Big.zBd (n:=x1) (d:=x2) om
  obtain ⟨hr1,hr2⟩:=Big.red_pos (n:=x1) hs
  refine zw<|zc<|ze<|za<|e_ru (zd 2 ty30 rfl rfl (.t2 .nil))<|e_ru (zd 1 ty30 rfl rfl (.t2 .nil))<|zm rfl rfl (.c rfl (.c rfl .n)) ce172 (zPe (w1:=w1) (w2:=w2) (x1:=x1) (x2:=x2) (hb1:=by first|rfl|assumption|omega|(rw [yp];omega)|(decide +kernel)) (hb2:=by first|rfl|assumption|omega|(rw [yp];omega)|(decide +kernel))) (.c (j:=0) rfl (.c (j:=1) rfl .n)) ?_
  rintro w312 -
  dsimp only [aq,nq,cq]
  refine zM rfl rfl (zA zr30 rfl) (fun b13=> ?_)
  refine zl 0 rfl rfl rfl rfl rfl sz30 rfl (.t2 .nil) .z<|zf<|zc<|ze<|za<|e_ru (zd 3 ty30 rfl rfl (.t2 .nil))<|e_ru (zd 0 ty30 rfl rfl (.t2 .nil))<|zm rfl rfl (.c rfl (.c rfl .n)) ce157 (zCb (w1:=w1) (w2:=w312) (x1:=x1) (x2:=((Nat.gcd x1.natAbs x2.natAbs:Nat):Int)) (hb1:=by first|rfl|assumption|omega|(rw [yp];omega)|(decide +kernel)) (hb2:=by first|rfl|assumption|omega|(rw [yp];omega)|(decide +kernel)) (hy:=by first|rfl|assumption|omega|(rw [yp];omega)|(decide +kernel))) (.c (j:=1) rfl (.c (j:=0) rfl .n)) ?_
  rintro ⟨w314,w415⟩ -
  dsimp only [aq,nq,cq]
  refine e_mv rfl<|e_p (zn rfl rfl)<|e_p (zn rfl rfl)<|e_p (zn rfl rfl)<|zl 3 rfl rfl rfl rfl rfl sz30 rfl (.t2 .nil) (.s (.s (.s .z)))<|zf<|zc<|ze<|za<|e_ru (zd 2 ty30 rfl rfl (.t2 .nil))<|e_ru (zd 0 ty30 rfl rfl (.t2 .nil))<|zm rfl rfl (.c rfl (.c rfl .n)) ce157 (zCb (w1:=w2) (w2:=w312) (x1:=x2) (x2:=((Nat.gcd x1.natAbs x2.natAbs:Nat):Int)) (hb1:=by first|rfl|assumption|omega|(rw [yp];omega)|(decide +kernel)) (hb2:=by first|rfl|assumption|omega|(rw [yp];omega)|(decide +kernel)) (hy:=by first|rfl|assumption|omega|(rw [yp];omega)|(decide +kernel))) (.c (j:=4) rfl (.c (j:=2) rfl .n)) ?_
  rintro ⟨w316,w417⟩ -
  dsimp only [aq,nq,cq]
  refine e_mv rfl<|e_p (zn rfl rfl)<|e_p (zn rfl rfl)<|e_p (zn rfl rfl)<|zl 2 rfl rfl rfl rfl rfl sz30 rfl (.t2 .nil) (.s (.s .z))<|zf<|zc<|ze<|za<|e_ru (zd 3 ty30 rfl rfl (.t2 .nil))<|e_ru (zd 2 ty30 rfl rfl (.t2 .nil))<|e_p (zZ zr32 rfl yj (.c sz30 (.c sz30 .n)) (.c rfl (.c rfl .n)) (.c rfl rfl rfl (.t2 .nil) (.c rfl rfl rfl (.s2 (.t2 .nil)) .n)))<|zl 1 rfl rfl rfl rfl rfl sz32 rfl (.t4 .nil) (.s .z)<|zf<|zc<|zG<|zwb (qF true w314 w316 (Rat.divInt x1 x2)) (qF_close 2 0 rfl rfl (by exact ⟨hr1,hr2,Nat.le_trans (Big.hq_divInt hd) om⟩)) ?_
  exact zx Tryz.results140 (w314,w316) trivial (zq 1 ty32 rfl rfl (.t4 .nil)) rfl (ho:=oN) (s0 rfl)
theorem zYe {s:Bool} {p1:Option Addr} {n1:Nat} {c1:Nat} {l1:List Int} {t:Bool} {p2:Option Addr} {n2:Nat} {c2:Nat} {l2:List Int} (hn1:l1.length=n1) (hn2:l2.length=n2) (hm1:n1≤1099511627776) (hm2:n2≤1099511627776) (hq:Big.qok ((s,l1),(t,l2))):Con yk 169 [.agg #[.bool s,.slice p1 n1 c1,.bool t,.slice p2 n2 c2]] [] [slF (rI .u32) p1 c1 l1,slF (rI .u32) p2 c2 l2] (Y:=(Option Addr)×Nat×(Option Addr)×Nat) (fun y=>True) (fun y=> .agg #[.bool (decide (((yT ((s,l1),(t,l2))).num)<0)),.slice (y.1) ((yd (((yT ((s,l1),(t,l2))).num).natAbs)).length) (y.2.1),.bool (decide ((((yT ((s,l1),(t,l2))).den:Nat):Int)<0)),.slice (y.2.2.1) ((yd ((((yT ((s,l1),(t,l2))).den:Nat):Int).natAbs)).length) (y.2.2.2)]) (fun y=>[]) (fun y=>[slF (rI .u32) (y.1) (y.2.1) (yd (((yT ((s,l1),(t,l2))).num).natAbs)),slF (rI .u32) (y.2.2.1) (y.2.2.2) (yd ((((yT ((s,l1),(t,l2))).den:Nat):Int).natAbs))]):=by
 refine zk Tryz.func169 rfl rfl rfl (fun c=> ?_)
 show RunC _ _ _ _ _ [(0,.agg #[.bool s,.slice p1 n1 c1,.bool t,.slice p2 n2 c2])] [] [slF (rI .u32) p1 c1 l1,slF (rI .u32) p2 c2 l2]
 refine zP 0 rfl (fun hL0=> ?_)
 refine zOa 0 rfl (fun hE0=> ?_)
 refine zP 1 rfl (fun hL1=> ?_)
 refine zOa 1 rfl (fun hE1=> ?_)
 have hnn1:yG l1:=fun g hg=>(zy.1 (hE0 g hg)).1
 have hnn2:yG l2:=fun g hg=>(zy.1 (hE1 g hg)).1
 have hb1:ym (yh s l1)≤n1:=by have:=yP (s:=s) hnn1;omega
 have hb2:ym (yh t l2)≤n2:=by have:=yP (s:=t) hnn2;omega
 refine ze<|za<|zM rfl rfl (zT rfl rfl) (fun b1=> ?_)
 refine zM rfl rfl (zA zr32 rfl) (fun b2=> ?_)
 refine zf<|zc<|ze<|zW (OW:=[boxA b2 32 (cw [wz,wz])]) (O:=[boxA b1 32 [.bool s,.slice p1 n1 c1,.bool t,.slice p2 n2 c2]]) 9 mixed (.then .ret) kr<|e_pv 0 rfl rfl (zj yj rfl sz30 rfl rfl)<|e_uw 1 rfl rfl (zd 1 ty30 rfl rfl (.t2 .nil))<|e_pv 4 rfl rfl (zj yj rfl sz30 rfl rfl)<|e_uw 5 rfl rfl (zd 1 ty30 rfl rfl (.s2 (.t2 .nil)))<|e_one 2 (zB rfl rfl rfl rfl (.c rfl .n) ce138 (zhe (s:=s) (p:=p1) (n:=n1) (cap:=c1) (l:=l1) (hn:=ass) (hln:=by first|rfl|assumption|omega|(rw [yp];omega)|(decide +kernel))) (.c (j:=0) rfl .n) ?_)
 rintro ⟨p23,c24⟩ -
 dsimp only [aq,nq,cq]
 refine e_one 3 (zB rfl rfl rfl rfl (.c rfl .n) ce138 (znd (z:= - yh s l1) (p:=p23) (cap:=c24) (hln:=by first|rfl|assumption|omega|(rw [yp];omega)|(decide +kernel))) (.c (j:=0) rfl .n) ?_)
 rintro ⟨p25,c26⟩ -
 dsimp only [aq,nq,cq]
 refine e_one 6 (zB rfl rfl rfl rfl (.c rfl .n) ce138 (zhe (s:=t) (p:=p2) (n:=n2) (cap:=c2) (l:=l2) (hn:=ass) (hln:=by first|rfl|assumption|omega|(rw [yp];omega)|(decide +kernel))) (.c (j:=3) rfl .n) ?_)
 rintro ⟨p27,c28⟩ -
 dsimp only [aq,nq,cq]
 refine e_one 7 (zB rfl rfl rfl rfl (.c rfl .n) ce138 (znd (z:= - yh t l2) (p:=p27) (cap:=c28) (hln:=by first|rfl|assumption|omega|(rw [yp];omega)|(decide +kernel))) (.c (j:=0) rfl .n) ?_)
 rintro ⟨p29,c210⟩ -
 dsimp only [aq,nq,cq]
 refine e_pv 8 rfl rfl (zZ zr32 rfl yj (.c sz30 (.c sz30 .n)) (.c rfl (.c rfl .n)) (.c rfl rfl rfl (.t2 .nil) (.c rfl rfl rfl (.s2 (.t2 .nil)) .n)))<|e_one 9 (zC kr rfl rfl rfl rfl rfl sz32 rfl (.t4 .nil) ?_)
 refine zU kr<|zc<|zG ?_
 have hz1: - - yh s l1=(yT ((s,l1),(t,l2))).num:=by rw [Int.neg_neg];exact (Big.qv_parts hq).1.symm
 have hz2: - - yh t l2=(((yT ((s,l1),(t,l2))).den:Nat):Int):=by rw [Int.neg_neg];exact (Big.qv_parts hq).2.symm
 exact zx Tryz.results169 (p25,c26,p29,c210) trivial (zq 0 ty32 rfl rfl (.t4 .nil)) (by rw [hz1,hz2]) (ho:=oN) ((.e (j:=2) rfl (by rw [hz1]) (.e (j:=0) rfl (by rw [hz2]) .n)):SelR _ _ _)
theorem zie {s:Bool} {p1:Option Addr} {n1:Nat} {c1:Nat} {l1:List Int} {t:Bool} {p2:Option Addr} {n2:Nat} {c2:Nat} {l2:List Int} (hn1:l1.length=n1) (hn2:l2.length=n2) (hm1:n1≤1099511627776) (hm2:n2≤1099511627776) (hq:Big.qok ((s,l1),(t,l2))) (hl:yN (yT ((s,l1),(t,l2)))≤1099511627776):Con yk 169 [.agg #[.bool (s),.slice (p1) (n1) (c1),.bool (t),.slice (p2) (n2) (c2)]] [] [slF (rI .u32) (p1) (c1) (l1),slF (rI .u32) (p2) (c2) (l2)] (Y:=(Wd)×(Wd)) (fun y=>True) (fun y=> .agg #[y.1.b,y.1.l,y.2.b,y.2.l]) (fun y=>[]) (fun y=>[qF true y.1 y.2 (yT ((s,l1),(t,l2)))]):=by
  exact con_qr (zYe hn1 hn2 hm1 hm2 hq) rfl rfl hl
theorem zJa {z:Int} (hz: -9223372036854775808≤z∧z≤9223372036854775807):Con yk 52 [ya yb z] [] [] (Y:=Wd×Wd) (fun y=>True) (fun y=> .agg #[y.1.b,y.1.l,y.2.b,y.2.l]) (fun y=>[]) (fun y=>[qF true y.1 y.2 ((z:Int):Rat)]):=by
 refine zk Tryz.func52 rfl rfl rfl (fun c=> ?_)
 show RunC _ _ _ _ _ [(0,ya yb z)] [] []
 refine ze<|za<|zM rfl rfl (zA zr32 rfl) (fun b1=> ?_)
 refine zf<|zc<|ze<|za<|e_mv rfl<|zm rfl rfl (.c rfl .n) ce130 (zmd (z:=z) (hz:=ass)) (.n) ?_
 rintro w33 -
 dsimp only [aq,nq,cq]
 refine zm rfl rfl (.c rfl .n) ce130 (zmd (z:=1) (hz:=by first|rfl|assumption|omega|(rw [yp];omega)|(decide +kernel))) (.n) ?_
 rintro w34 -
 dsimp only [aq,nq,cq]
 refine e_p (zZ zr32 rfl yj (.c sz30 (.c sz30 .n)) (.c rfl (.c rfl .n)) (.c rfl rfl rfl (.t2 .nil) (.c rfl rfl rfl (.s2 (.t2 .nil)) .n)))<|zl 0 rfl rfl rfl rfl rfl sz32 rfl (.t4 .nil) .z<|zf<|zc<|zG<|zwb (qF true w33 w34 ((z:Int):Rat)) (qF_close 1 0 rfl rfl (by exact ⟨(Rat.num_intCast z).symm,by rw [Rat.den_intCast];rfl,Nat.le_trans (Big.hq_64 hz.1 hz.2) dd⟩)) ?_
 exact zx Tryz.results52 (w33,w34) trivial (zq 0 ty32 rfl rfl (.t4 .nil)) rfl (ho:=oN) (s0 rfl)
theorem zZe {s:Bool} {p1:Option Addr} {n1:Nat} {c1:Nat} {l1:List Int} {t:Bool} {p2:Option Addr} {n2:Nat} {c2:Nat} {l2:List Int} (hn1:l1.length=n1) (hn2:l2.length=n2) (hm1:n1≤1099511627776) (hm2:n2≤1099511627776):Con yk 85 [.agg #[.bool s,.slice p1 n1 c1,.bool t,.slice p2 n2 c2]] [] [slF (rI .u32) p1 c1 l1,slF (rI .u32) p2 c2 l2] (Y:=Wd×Wd) (fun y=>True) (fun y=> .agg #[y.1.b,y.1.l,y.2.b,y.2.l]) (fun y=>[]) (fun y=>[qF true y.1 y.2 (yT ((s,l1),(t,l2)))]):=by
 refine zk Tryz.func85 rfl rfl rfl (fun c=> ?_)
 show RunC _ _ _ _ _ [(0,.agg #[.bool s,.slice p1 n1 c1,.bool t,.slice p2 n2 c2])] [] [slF (rI .u32) p1 c1 l1,slF (rI .u32) p2 c2 l2]
 refine zP 0 rfl (fun hL0=> ?_)
 refine zOa 0 rfl (fun hE0=> ?_)
 refine zP 1 rfl (fun hL1=> ?_)
 refine zOa 1 rfl (fun hE1=> ?_)
 have hnn1:yG l1:=fun g hg=>(zy.1 (hE0 g hg)).1
 have hnn2:yG l2:=fun g hg=>(zy.1 (hE1 g hg)).1
 have hb1:ym (yh s l1)≤n1:=by have:=yP (s:=s) hnn1;omega
 have hb2:ym (yh t l2)≤n2:=by have:=yP (s:=t) hnn2;omega
 refine ze<|za<|zM rfl rfl (zT rfl rfl) (fun b1=> ?_)
 refine zM rfl rfl (zA zr32 rfl) (fun b2=> ?_)
 refine zf<|zc<|ze<|ze<|za<|e_ru (zd 1 ty32 rfl rfl (.t4 .nil))<|zR rfl rfl (.c rfl .n) ce88 (zlc (s:=s) (p1:=p1) (n1:=n1) (c1:=c1) (l1:=l1) (t:=t) (p2:=p2) (n2:=n2) (c2:=c2) (l2:=l2) (hn1:=ass) (hn2:=ass) (hm1:=ass) (hm2:=ass)) (.c (j:=0) rfl (.c (j:=1) rfl .n))<|zf<|zc<|zD rfl (fun hq=> ?_) (fun hq=> ?_)
 ·
  have hrp:=Big.raw_parts (x:=((s,l1),(t,l2))) hnn1 hnn2 hq
  have hqp:=Big.qv_parts (x:=((s,l1),(t,l2))) hq
  have hl:yN (yT ((s,l1),(t,l2)))≤1099511627776:=by unfold yN;rw [hqp.1,hqp.2];dsimp only;omega
  refine ze<|za<|e_ru (zd 1 ty32 rfl rfl (.t4 .nil))<|zm rfl rfl (.c rfl .n) ce169 (zie (s:=s) (p1:=p1) (n1:=n1) (c1:=c1) (l1:=l1) (t:=t) (p2:=p2) (n2:=n2) (c2:=c2) (l2:=l2) (hn1:=ass) (hn2:=ass) (hm1:=ass) (hm2:=ass) (hq:=by first|rfl|assumption|omega|(rw [yp];omega)|(decide +kernel)) (hl:=by first|rfl|assumption|omega|(rw [yp];omega)|(decide +kernel))) (.c (j:=0) rfl (.c (j:=1) rfl .n)) ?_
  rintro ⟨w33,w44⟩ -
  dsimp only [aq,nq,cq]
  refine zl 0 rfl rfl rfl rfl rfl sz32 rfl (.t4 .nil) .z<|zf<|zc<|zG<|zu ?_
  exact zx Tryz.results85 (w33,w44) trivial (zq 0 ty32 rfl rfl (.t4 .nil)) rfl (ho:=oN) (s0 rfl)
 ·
  have hz:=Big.qv_not (x:=((s,l1),(t,l2))) hq
  refine zw<|zc<|ze<|za<|zm rfl rfl (.c rfl .n) ce52 (zJa (z:=0) (hz:=by first|rfl|assumption|omega|(rw [yp];omega)|(decide +kernel))) (.n) ?_
  rintro ⟨w35,w46⟩ -
  dsimp only [aq,nq,cq]
  refine zl 0 rfl rfl rfl rfl rfl sz32 rfl (.t4 .nil) .z<|zf<|zc<|zG ?_
  exact zx Tryz.results85 (w35,w46) trivial (zq 0 ty32 rfl rfl (.t4 .nil)) rfl (ho:=oN) ((.e (j:=0) rfl (by rw [hz];rfl) .n):SelR _ _ _)
theorem zva {k1:Bool} {u1:Wd} {v1:Wd} {q1:Rat}:Con yk 85 [.agg #[u1.b,u1.l,v1.b,v1.l]] [] [qF k1 u1 v1 (q1)] (Y:=(Wd)×(Wd)) (fun y=>True) (fun y=> .agg #[y.1.b,y.1.l,y.2.b,y.2.l]) (fun y=>[]) (fun y=>[qF true y.1 y.2 (q1)]):=by
  exact zHf (fun x hx hk h1 h2 hl=>by subst hx;exact zZe rfl rfl h1 h2)
theorem znb {k1:Bool} {u1:Wd} {v1:Wd} {q1:Rat}:Con yk 80 [.agg #[u1.b,u1.l,v1.b,v1.l]] [] [qF k1 u1 v1 q1] (Y:=Unit) (fun y=>True) (fun y=> ya yb (Big.sgq q1)) (fun y=>[]) (fun y=>[]):=by
 refine zk Tryz.func80 rfl rfl rfl (fun c=> ?_)
 show RunC _ _ _ _ _ [(0,.agg #[u1.b,u1.l,v1.b,v1.l])] [] [qF k1 u1 v1 q1]
 refine ze<|za<|zM rfl rfl (zT rfl rfl) (fun b1=> ?_)
 refine e_p (zb rfl)<|zf<|zc<|ze<|za<|e_ru (zd 0 ty32 rfl rfl (.t4 .nil))<|zm rfl rfl (.c rfl .n) ce85 (zva (k1:=k1) (u1:=u1) (v1:=v1) (q1:=q1)) (.c (j:=0) rfl .n) ?_
 rintro ⟨w33,w44⟩ -
 dsimp only [aq,nq,cq]
 refine e_p (zqc yj rfl ty30 rfl (.t2 .nil))<|zUb (qF_open 0 rfl) (fun _ _=> ?_)
 refine zR rfl rfl (.c rfl .n) ce167 (zfc (w1:=w33) (x1:=(q1).num)) (.c (j:=0) rfl .n)<|e_p (zb rfl)<|zf<|zc<|zG ?_
 exact zx Tryz.results80 () trivial (zo rfl) rfl (ho:=oN) sN
theorem zpd {k1:Bool} {u1:Wd} {v1:Wd} {q1:Rat} (hl:yN q1≤1099511627776):Con yk 54 [.agg #[u1.b,u1.l,v1.b,v1.l]] [] [qF k1 u1 v1 q1] (Y:=Wd×Wd) (fun y=>True) (fun y=> .agg #[y.1.b,y.1.l,y.2.b,y.2.l]) (fun y=>[]) (fun y=>[qF true y.1 y.2 (- q1)]):=by
 refine zk Tryz.func54 rfl rfl rfl (fun c=> ?_)
 show RunC _ _ _ _ _ [(0,.agg #[u1.b,u1.l,v1.b,v1.l])] [] [qF k1 u1 v1 q1]
 have a1:=yC q1
 have a2:=yD q1
 refine ze<|za<|zM rfl rfl (zT rfl rfl) (fun b1=> ?_)
 refine zM rfl rfl (zA zr32 rfl) (fun b2=> ?_)
 refine zf<|zc<|ze<|za<|e_ru (zd 1 ty32 rfl rfl (.t4 .nil))<|zm rfl rfl (.c rfl .n) ce85 (zva (k1:=k1) (u1:=u1) (v1:=v1) (q1:=q1)) (.c (j:=0) rfl .n) ?_
 rintro ⟨w33,w44⟩ -
 dsimp only [aq,nq,cq]
 refine zl 1 rfl rfl rfl rfl rfl sz32 rfl (.t4 .nil) (.s .z)<|zf<|zc<|ze<|zW (OW:=[boxA b2 32 (cw [wz,wz])]) (O:=[boxA b1 32 (cw [w33,w44])]) 6 mixed (.then .ret) kr<|e_pv 0 rfl rfl (zj yj rfl sz30 rfl rfl)<|e_uw 1 rfl rfl (zd 1 ty30 rfl rfl (.t2 .nil))<|e_pv 3 rfl rfl (zj yj rfl sz30 rfl rfl)<|e_uw 4 rfl rfl (zd 1 ty30 rfl rfl (.s2 (.t2 .nil)))<|zGb (qF_open 0 rfl) (fun _ _=> ?_)
 refine e_one 2 (zB rfl rfl rfl rfl (.c rfl .n) ce138 (zod (w1:=w33) (x1:=(q1).num) (hln:=by first|rfl|assumption|omega|(rw [yp];omega)|(decide +kernel))) (.c (j:=0) rfl .n) ?_)
 rintro w35 -
 dsimp only [aq,nq,cq]
 refine e_pv 5 rfl rfl (zZ zr32 rfl yj (.c sz30 (.c sz30 .n)) (.c rfl (.c rfl .n)) (.c rfl rfl rfl (.t2 .nil) (.c rfl rfl rfl (.s2 (.t2 .nil)) .n)))<|e_one 6 (zC kr rfl rfl rfl rfl rfl sz32 rfl (.t4 .nil) ?_)
 refine zU kr<|zc<|zG<|zwb (qF true w35 w44 (- q1)) (qF_close 0 2 rfl rfl (by exact ⟨(Rat.neg_num q1).symm,by rw [Rat.neg_den],by rw [Big.hq_neg];exact hl⟩)) ?_
 exact zx Tryz.results54 (w35,w44) trivial (zq 0 ty32 rfl rfl (.t4 .nil)) rfl (ho:=oN) (s0 rfl)
theorem zrb {k1:Bool} {u1:Wd} {v1:Wd} {q1:Rat} {k2:Bool} {u2:Wd} {v2:Wd} {q2:Rat} (hl:yN q1+yN q2+1≤1099511627776):Con yk 57 [.agg #[u1.b,u1.l,v1.b,v1.l],.agg #[u2.b,u2.l,v2.b,v2.l]] [] [qF k1 u1 v1 q1,qF k2 u2 v2 q2] (Y:=Wd×Wd) (fun y=>True) (fun y=> .agg #[y.1.b,y.1.l,y.2.b,y.2.l]) (fun y=>[]) (fun y=>[qF true y.1 y.2 (q1+q2)]):=by
 refine zk Tryz.func57 rfl rfl rfl (fun c=> ?_)
 show RunC _ _ _ _ _ [(0,.agg #[u1.b,u1.l,v1.b,v1.l]),(1,.agg #[u2.b,u2.l,v2.b,v2.l])] [] [qF k1 u1 v1 q1,qF k2 u2 v2 q2]
 have a1:=yC q1
 have a2:=yD q1
 have a3:=yC q2
 have a4:=yD q2
 have b1:=yF q1.num q2.den
 have b2:=yF q2.num q1.den
 have b3:=Big.zvc (q1.num*q2.den) (q2.num*q1.den)
 have b4:=yF (q1.den:Int) q2.den
 have b5:=yF q1.num q2.num
 refine ze<|za<|zM rfl rfl (zT rfl rfl) (fun b1=> ?_)
 refine zM rfl rfl (zT rfl rfl) (fun b2=> ?_)
 refine zM rfl rfl (zA zr32 rfl) (fun b3=> ?_)
 refine zf<|zc<|ze<|zpa (.c (i:=2) rfl (.c (i:=1) rfl (.c (i:=0) rfl .n)))<|zW (OW:=[boxA b1 32 (cw [u1,v1]),boxA b2 32 (cw [u2,v2])]) (O:=[boxA b3 32 (cw [wz,wz])]) 4 mixed (.then .ret) kr<|e_uw 0 rfl rfl (zd 0 ty32 rfl rfl (.t4 .nil))<|e_uw 2 rfl rfl (zd 1 ty32 rfl rfl (.t4 .nil))<|e_one 1 (zB rfl rfl rfl rfl (.c rfl .n) ce85 (zva (k1:=k1) (u1:=u1) (v1:=v1) (q1:=q1)) (.c (j:=0) rfl .n) ?_)
 rintro ⟨w34,w45⟩ -
 dsimp only [aq,nq,cq]
 refine e_one 3 (zB rfl rfl rfl rfl (.c rfl .n) ce85 (zva (k1:=k2) (u1:=u2) (v1:=v2) (q1:=q2)) (.c (j:=2) rfl .n) ?_)
 rintro ⟨w36,w47⟩ -
 dsimp only [aq,nq,cq]
 refine e_one 4 (zC kr rfl rfl rfl rfl rfl sz32 rfl (.t4 .nil) ?_)
 refine zPa (zfa (i:=1) rfl)<|e_one 5 (zC kr rfl rfl rfl rfl rfl sz32 rfl (.t4 .nil) ?_)
 refine zU kr<|zc<|ze<|zpa (.c (i:=2) rfl (.c (i:=0) rfl (.c (i:=0) rfl .n)))<|zW (OW:=[boxA b3 32 (cw [wz,wz])]) (O:=[boxA b2 32 (cw [w36,w47]),boxA b1 32 (cw [w34,w45])]) 17 mixed (.then .ret) kr<|e_pv 0 rfl rfl (zj yj rfl sz30 rfl rfl)<|e_uw 1 rfl rfl (zd 2 ty30 rfl rfl (.t2 .nil))<|e_pv 2 rfl rfl (zj yj rfl sz30 rfl rfl)<|e_uw 3 rfl rfl (zd 1 ty30 rfl rfl (.s2 (.t2 .nil)))<|e_pv 5 rfl rfl (zj yj rfl sz30 rfl rfl)<|e_uw 6 rfl rfl (zd 1 ty30 rfl rfl (.t2 .nil))<|e_pv 7 rfl rfl (zj yj rfl sz30 rfl rfl)<|e_uw 8 rfl rfl (zd 2 ty30 rfl rfl (.s2 (.t2 .nil)))<|e_pv 11 rfl rfl (zj yj rfl sz30 rfl rfl)<|e_uw 12 rfl rfl (zd 2 ty30 rfl rfl (.s2 (.t2 .nil)))<|e_pv 13 rfl rfl (zj yj rfl sz30 rfl rfl)<|e_uw 14 rfl rfl (zd 1 ty30 rfl rfl (.s2 (.t2 .nil)))<|zGb (qF_open 1 rfl) (fun _ _=> ?_)
 refine zGb (qF_open 2 rfl) (fun _ _=> ?_)
 refine e_one 4 (zB rfl rfl rfl rfl (.c rfl (.c rfl .n)) ce141 (zkb (w1:=w34) (w2:=w47) (x1:=(q1).num) (x2:=(((q2).den:Nat):Int)) (hb1:=by first|rfl|assumption|omega|(rw [yp];omega)|(decide +kernel)) (hb2:=by first|rfl|assumption|omega|(rw [yp];omega)|(decide +kernel))) (.c (j:=2) rfl (.c (j:=1) rfl .n)) ?_)
 rintro w38 -
 dsimp only [aq,nq,cq]
 refine e_one 9 (zB rfl rfl rfl rfl (.c rfl (.c rfl .n)) ce141 (zkb (w1:=w36) (w2:=w45) (x1:=(q2).num) (x2:=(((q1).den:Nat):Int)) (hb1:=by first|rfl|assumption|omega|(rw [yp];omega)|(decide +kernel)) (hb2:=by first|rfl|assumption|omega|(rw [yp];omega)|(decide +kernel))) (.c (j:=1) rfl (.c (j:=4) rfl .n)) ?_)
 rintro w39 -
 dsimp only [aq,nq,cq]
 refine e_one 10 (zB rfl rfl rfl rfl (.c rfl (.c rfl .n)) ce142 (zug (w1:=w38) (w2:=w39) (x1:=((q1).num)*(((q2).den:Nat):Int)) (x2:=((q2).num)*(((q1).den:Nat):Int)) (hb1:=by first|rfl|assumption|omega|(rw [yp];omega)|(decide +kernel)) (hb2:=by first|rfl|assumption|omega|(rw [yp];omega)|(decide +kernel))) (.c (j:=1) rfl (.c (j:=0) rfl .n)) ?_)
 rintro w310 -
 dsimp only [aq,nq,cq]
 refine e_one 15 (zB rfl rfl rfl rfl (.c rfl (.c rfl .n)) ce141 (zkb (w1:=w45) (w2:=w47) (x1:=(((q1).den:Nat):Int)) (x2:=(((q2).den:Nat):Int)) (hb1:=by first|rfl|assumption|omega|(rw [yp];omega)|(decide +kernel)) (hb2:=by first|rfl|assumption|omega|(rw [yp];omega)|(decide +kernel))) (.c (j:=6) rfl (.c (j:=4) rfl .n)) ?_)
 rintro w311 -
 dsimp only [aq,nq,cq]
 refine e_one 16 (zB rfl rfl rfl rfl (.c rfl (.c rfl .n)) ce140 (zDb (w1:=w310) (w2:=w311) (x1:=(((q1).num)*(((q2).den:Nat):Int))+(((q2).num)*(((q1).den:Nat):Int))) (x2:=(((q1).den:Nat):Int)*(((q2).den:Nat):Int)) (hl1:=by first|rfl|assumption|omega|(rw [yp];omega)|(decide +kernel)) (hl2:=by first|rfl|assumption|omega|(rw [yp];omega)|(decide +kernel)) (hd:=by exact Int.mul_ne_zero (yV q1) (yV q2))) (.c (j:=1) rfl (.c (j:=0) rfl .n)) ?_)
 rintro ⟨w312,w413⟩ -
 dsimp only [aq,nq,cq]
 refine e_one 17 (zC kr rfl rfl rfl rfl rfl sz32 rfl (.t4 .nil) ?_)
 refine zU kr<|zc<|zG ?_
 exact zx Tryz.results57 (w312,w413) trivial (zq 0 ty32 rfl rfl (.t4 .nil)) rfl (ho:=oN) ((.e (j:=0) rfl (by rw [Big.add_parts]) .n):SelR _ _ _)
theorem zsb {k1:Bool} {u1:Wd} {v1:Wd} {q1:Rat} {k2:Bool} {u2:Wd} {v2:Wd} {q2:Rat} (hl:yN q1+yN q2+1≤1099511627776):Con yk 56 [.agg #[u1.b,u1.l,v1.b,v1.l],.agg #[u2.b,u2.l,v2.b,v2.l]] [] [qF k1 u1 v1 q1,qF k2 u2 v2 q2] (Y:=Wd×Wd) (fun y=>True) (fun y=> .agg #[y.1.b,y.1.l,y.2.b,y.2.l]) (fun y=>[]) (fun y=>[qF true y.1 y.2 (q1*q2)]):=by
 refine zk Tryz.func56 rfl rfl rfl (fun c=> ?_)
 show RunC _ _ _ _ _ [(0,.agg #[u1.b,u1.l,v1.b,v1.l]),(1,.agg #[u2.b,u2.l,v2.b,v2.l])] [] [qF k1 u1 v1 q1,qF k2 u2 v2 q2]
 have a1:=yC q1
 have a2:=yD q1
 have a3:=yC q2
 have a4:=yD q2
 have b1:=yF q1.num q2.den
 have b2:=yF q2.num q1.den
 have b3:=Big.zvc (q1.num*q2.den) (q2.num*q1.den)
 have b4:=yF (q1.den:Int) q2.den
 have b5:=yF q1.num q2.num
 refine ze<|za<|zM rfl rfl (zT rfl rfl) (fun b1=> ?_)
 refine zM rfl rfl (zT rfl rfl) (fun b2=> ?_)
 refine zM rfl rfl (zA zr32 rfl) (fun b3=> ?_)
 refine zf<|zc<|ze<|zpa (.c (i:=2) rfl (.c (i:=1) rfl (.c (i:=0) rfl .n)))<|zW (OW:=[boxA b1 32 (cw [u1,v1]),boxA b2 32 (cw [u2,v2])]) (O:=[boxA b3 32 (cw [wz,wz])]) 4 mixed (.then .ret) kr<|e_uw 0 rfl rfl (zd 0 ty32 rfl rfl (.t4 .nil))<|e_uw 2 rfl rfl (zd 1 ty32 rfl rfl (.t4 .nil))<|e_one 1 (zB rfl rfl rfl rfl (.c rfl .n) ce85 (zva (k1:=k1) (u1:=u1) (v1:=v1) (q1:=q1)) (.c (j:=0) rfl .n) ?_)
 rintro ⟨w34,w45⟩ -
 dsimp only [aq,nq,cq]
 refine e_one 3 (zB rfl rfl rfl rfl (.c rfl .n) ce85 (zva (k1:=k2) (u1:=u2) (v1:=v2) (q1:=q2)) (.c (j:=2) rfl .n) ?_)
 rintro ⟨w36,w47⟩ -
 dsimp only [aq,nq,cq]
 refine e_one 4 (zC kr rfl rfl rfl rfl rfl sz32 rfl (.t4 .nil) ?_)
 refine zPa (zfa (i:=1) rfl)<|e_one 5 (zC kr rfl rfl rfl rfl rfl sz32 rfl (.t4 .nil) ?_)
 refine zU kr<|zc<|ze<|zpa (.c (i:=2) rfl (.c (i:=0) rfl (.c (i:=0) rfl .n)))<|zW (OW:=[boxA b3 32 (cw [wz,wz])]) (O:=[boxA b2 32 (cw [w36,w47]),boxA b1 32 (cw [w34,w45])]) 11 mixed (.then .ret) kr<|e_pv 0 rfl rfl (zj yj rfl sz30 rfl rfl)<|e_uw 1 rfl rfl (zd 2 ty30 rfl rfl (.t2 .nil))<|e_pv 2 rfl rfl (zj yj rfl sz30 rfl rfl)<|e_uw 3 rfl rfl (zd 1 ty30 rfl rfl (.t2 .nil))<|e_pv 5 rfl rfl (zj yj rfl sz30 rfl rfl)<|e_uw 6 rfl rfl (zd 2 ty30 rfl rfl (.s2 (.t2 .nil)))<|e_pv 7 rfl rfl (zj yj rfl sz30 rfl rfl)<|e_uw 8 rfl rfl (zd 1 ty30 rfl rfl (.s2 (.t2 .nil)))<|zGb (qF_open 1 rfl) (fun _ _=> ?_)
 refine zGb (qF_open 2 rfl) (fun _ _=> ?_)
 refine e_one 4 (zB rfl rfl rfl rfl (.c rfl (.c rfl .n)) ce141 (zkb (w1:=w34) (w2:=w36) (x1:=(q1).num) (x2:=(q2).num) (hb1:=by first|rfl|assumption|omega|(rw [yp];omega)|(decide +kernel)) (hb2:=by first|rfl|assumption|omega|(rw [yp];omega)|(decide +kernel))) (.c (j:=2) rfl (.c (j:=0) rfl .n)) ?_)
 rintro w38 -
 dsimp only [aq,nq,cq]
 refine e_one 9 (zB rfl rfl rfl rfl (.c rfl (.c rfl .n)) ce141 (zkb (w1:=w45) (w2:=w47) (x1:=(((q1).den:Nat):Int)) (x2:=(((q2).den:Nat):Int)) (hb1:=by first|rfl|assumption|omega|(rw [yp];omega)|(decide +kernel)) (hb2:=by first|rfl|assumption|omega|(rw [yp];omega)|(decide +kernel))) (.c (j:=4) rfl (.c (j:=2) rfl .n)) ?_)
 rintro w39 -
 dsimp only [aq,nq,cq]
 refine e_one 10 (zB rfl rfl rfl rfl (.c rfl (.c rfl .n)) ce140 (zDb (w1:=w38) (w2:=w39) (x1:=((q1).num)*((q2).num)) (x2:=(((q1).den:Nat):Int)*(((q2).den:Nat):Int)) (hl1:=by first|rfl|assumption|omega|(rw [yp];omega)|(decide +kernel)) (hl2:=by first|rfl|assumption|omega|(rw [yp];omega)|(decide +kernel)) (hd:=by exact Int.mul_ne_zero (yV q1) (yV q2))) (.c (j:=1) rfl (.c (j:=0) rfl .n)) ?_)
 rintro ⟨w310,w411⟩ -
 dsimp only [aq,nq,cq]
 refine e_one 11 (zC kr rfl rfl rfl rfl rfl sz32 rfl (.t4 .nil) ?_)
 refine zU kr<|zc<|zG ?_
 exact zx Tryz.results56 (w310,w411) trivial (zq 0 ty32 rfl rfl (.t4 .nil)) rfl (ho:=oN) ((.e (j:=0) rfl (by rw [Big.mul_parts]) .n):SelR _ _ _)
theorem zqd {k1:Bool} {u1:Wd} {v1:Wd} {q1:Rat} {k2:Bool} {u2:Wd} {v2:Wd} {q2:Rat} (hl:yN q1+yN q2+1≤1099511627776):Con yk 147 [.agg #[u1.b,u1.l,v1.b,v1.l],.agg #[u2.b,u2.l,v2.b,v2.l]] [] [qF k1 u1 v1 q1,qF k2 u2 v2 q2] (Y:=Wd×Wd) (fun y=>True) (fun y=> .agg #[y.1.b,y.1.l,y.2.b,y.2.l]) (fun y=>[]) (fun y=>[qF true y.1 y.2 (q1 - q2)]):=by
 refine zk Tryz.func147 rfl rfl rfl (fun c=> ?_)
 show RunC _ _ _ _ _ [(0,.agg #[u1.b,u1.l,v1.b,v1.l]),(1,.agg #[u2.b,u2.l,v2.b,v2.l])] [] [qF k1 u1 v1 q1,qF k2 u2 v2 q2]
 have a1:=yC q1
 have a2:=yD q1
 have a3:=yC q2
 have a4:=yD q2
 refine ze<|za<|zM rfl rfl (zT rfl rfl) (fun b1=> ?_)
 refine zM rfl rfl (zT rfl rfl) (fun b2=> ?_)
 refine zM rfl rfl (zA zr32 rfl) (fun b3=> ?_)
 refine zf<|zc<|ze<|zW (OW:=[boxA b3 32 (cw [wz,wz])]) (O:=[boxA b2 32 (cw [u2,v2]),boxA b1 32 (cw [u1,v1])]) 4 mixed (.then .ret) kr<|e_uw 0 rfl rfl (zd 2 ty32 rfl rfl (.t4 .nil))<|e_uw 1 rfl rfl (zd 1 ty32 rfl rfl (.t4 .nil))<|e_one 2 (zB rfl rfl rfl rfl (.c rfl .n) ce54 (zpd (k1:=k2) (u1:=u2) (v1:=v2) (q1:=q2) (hl:=by first|rfl|assumption|omega|(rw [yp];omega)|(decide +kernel)|(rw [Big.hq_neg];omega))) (.c (j:=1) rfl .n) ?_)
 rintro ⟨w34,w45⟩ -
 dsimp only [aq,nq,cq]
 refine e_one 3 (zB rfl rfl rfl rfl (.c rfl (.c rfl .n)) ce57 (zrb (k1:=k1) (u1:=u1) (v1:=v1) (q1:=q1) (k2:=true) (u2:=w34) (v2:=w45) (q2:= - q2) (hl:=by first|rfl|assumption|omega|(rw [yp];omega)|(decide +kernel)|(rw [Big.hq_neg];omega))) (.c (j:=1) rfl (.c (j:=0) rfl .n)) ?_)
 rintro ⟨w36,w47⟩ -
 dsimp only [aq,nq,cq]
 refine e_one 4 (zC kr rfl rfl rfl rfl rfl sz32 rfl (.t4 .nil) ?_)
 refine zU kr<|zc<|zG ?_
 exact zx Tryz.results147 (w36,w47) trivial (zq 0 ty32 rfl rfl (.t4 .nil)) rfl (ho:=oN) ((.e (j:=0) rfl (by rw [Rat.sub_eq_add_neg]) .n):SelR _ _ _)
theorem zMd {k1:Bool} {u1:Wd} {v1:Wd} {q1:Rat} {k2:Bool} {u2:Wd} {v2:Wd} {q2:Rat} (hl:yN q1+yN q2+1≤1099511627776):Con yk 179 [.agg #[u1.b,u1.l,v1.b,v1.l],.agg #[u2.b,u2.l,v2.b,v2.l]] [] [qF k1 u1 v1 q1,qF k2 u2 v2 q2] (Y:=Unit) (fun y=>True) (fun y=> ya yb (Big.sgq (q1 - q2))) (fun y=>[]) (fun y=>[]):=by
 refine zk Tryz.func179 rfl rfl rfl (fun c=> ?_)
 show RunC _ _ _ _ _ [(0,.agg #[u1.b,u1.l,v1.b,v1.l]),(1,.agg #[u2.b,u2.l,v2.b,v2.l])] [] [qF k1 u1 v1 q1,qF k2 u2 v2 q2]
 have a1:=yC q1
 have a2:=yD q1
 have a3:=yC q2
 have a4:=yD q2
 have b1:=yF q1.num q2.den
 have b2:=yF q2.num q1.den
 have b3:=Big.zvc (q1.num*q2.den) (q2.num*q1.den)
 have b4:=yF (q1.den:Int) q2.den
 have b5:=yF q1.num q2.num
 refine ze<|za<|zM rfl rfl (zT rfl rfl) (fun b1=> ?_)
 refine zM rfl rfl (zT rfl rfl) (fun b2=> ?_)
 refine e_p (zb rfl)<|zf<|zc<|ze<|zpa (.c (i:=1) rfl (.c (i:=0) rfl .n))<|zW (OW:=[boxA b1 32 (cw [u1,v1]),boxA b2 32 (cw [u2,v2])]) (O:=[]) 4 mixed (.then .ret) kr<|e_uw 0 rfl rfl (zd 0 ty32 rfl rfl (.t4 .nil))<|e_uw 2 rfl rfl (zd 1 ty32 rfl rfl (.t4 .nil))<|e_one 1 (zB rfl rfl rfl rfl (.c rfl .n) ce85 (zva (k1:=k1) (u1:=u1) (v1:=v1) (q1:=q1)) (.c (j:=0) rfl .n) ?_)
 rintro ⟨w33,w44⟩ -
 dsimp only [aq,nq,cq]
 refine e_one 3 (zB rfl rfl rfl rfl (.c rfl .n) ce85 (zva (k1:=k2) (u1:=u2) (v1:=v2) (q1:=q2)) (.c (j:=2) rfl .n) ?_)
 rintro ⟨w35,w46⟩ -
 dsimp only [aq,nq,cq]
 refine e_one 4 (zC kr rfl rfl rfl rfl rfl sz32 rfl (.t4 .nil) ?_)
 refine zPa (zfa (i:=1) rfl)<|e_one 5 (zC kr rfl rfl rfl rfl rfl sz32 rfl (.t4 .nil) ?_)
 refine zU kr<|zc<|ze<|zW (OW:=[]) (O:=[boxA b2 32 (cw [w35,w46]),boxA b1 32 (cw [w33,w44])]) 100000 mixed (.then .ret) kr<|e_pv 0 rfl rfl (zj yj rfl sz30 rfl rfl)<|e_u 1 rfl rfl (zd 1 ty30 rfl rfl (.t2 .nil))<|e_pv 2 rfl rfl (zj yj rfl sz30 rfl rfl)<|e_u 3 rfl rfl (zd 0 ty30 rfl rfl (.s2 (.t2 .nil)))<|e_pv 5 rfl rfl (zj yj rfl sz30 rfl rfl)<|e_u 6 rfl rfl (zd 0 ty30 rfl rfl (.t2 .nil))<|e_pv 7 rfl rfl (zj yj rfl sz30 rfl rfl)<|e_u 8 rfl rfl (zd 1 ty30 rfl rfl (.s2 (.t2 .nil)))<|zGb (qF_open 1 rfl) (fun _ _=> ?_)
 refine zGb (qF_open 2 rfl) (fun _ _=> ?_)
 refine e_one 4 (zB rfl rfl rfl rfl (.c rfl (.c rfl .n)) ce141 (zkb (w1:=w33) (w2:=w46) (x1:=(q1).num) (x2:=(((q2).den:Nat):Int)) (hb1:=by first|rfl|assumption|omega|(rw [yp];omega)|(decide +kernel)) (hb2:=by first|rfl|assumption|omega|(rw [yp];omega)|(decide +kernel))) (.c (j:=2) rfl (.c (j:=1) rfl .n)) ?_)
 rintro w37 -
 dsimp only [aq,nq,cq]
 refine e_one 9 (zB rfl rfl rfl rfl (.c rfl (.c rfl .n)) ce141 (zkb (w1:=w35) (w2:=w44) (x1:=(q2).num) (x2:=(((q1).den:Nat):Int)) (hb1:=by first|rfl|assumption|omega|(rw [yp];omega)|(decide +kernel)) (hb2:=by first|rfl|assumption|omega|(rw [yp];omega)|(decide +kernel))) (.c (j:=1) rfl (.c (j:=4) rfl .n)) ?_)
 rintro w38 -
 dsimp only [aq,nq,cq]
 refine e_one 10 (zhb rfl rfl rfl rfl (.c rfl (.c rfl .n)) ce171 (zLd (w1:=w37) (w2:=w38) (x1:=((q1).num)*(((q2).den:Nat):Int)) (x2:=((q2).num)*(((q1).den:Nat):Int))) (.c (j:=1) rfl (.c (j:=0) rfl .n)) ?_)
 refine e_pv 11 rfl rfl (zb rfl)<|zU kr<|zc<|zG ?_
 exact zx Tryz.results179 () trivial (zo rfl) (by rw [Big.cmp_rat]) (ho:=oN) sN
theorem zQc {w1:Wd} {x1:Int}:Con yk 207 [.agg #[w1.b,w1.l]] [] [zF w1 x1] (Y:=Wd) (fun y=>True) (fun y=> .agg #[y.b,y.l]) (fun y=>[]) (fun y=>[zF y x1]):=by
 refine zk Tryz.func207 rfl rfl rfl (fun c=> ?_)
 show RunC _ _ _ _ _ [(0,.agg #[w1.b,w1.l])] [] [zF w1 x1]
 refine ze<|za<|zM rfl rfl (zT rfl rfl) (fun b1=> ?_)
 refine zM rfl rfl (zA zr30 rfl) (fun b2=> ?_)
 refine zf<|zc<|ze<|ze<|za<|e_ru (zd 1 ty30 rfl rfl (.t2 .nil))<|zR rfl rfl (.c rfl .n) ce170 (zWe (w1:=w1) (x1:=x1)) (.c (j:=0) rfl .n)<|zf<|zc<|zDe rfl rfl<|ze<|za<|e_ru (zd 1 ty30 rfl rfl (.t2 .nil))<|zl 0 rfl rfl rfl rfl rfl sz30 rfl (.t2 .nil) .z<|zf<|zc<|zG<|zu ?_
 exact zx Tryz.results207 w1 trivial (zq 0 ty30 rfl rfl (.t2 .nil)) rfl (ho:=oN) (s0 rfl)
theorem zch {w1:Wd} {w2:Wd} {x1:Int} {x2:Int} (hl1:ym x1≤1099511627776) (hl2:ym x2≤1099511627776):Con yk 129 [.agg #[w1.b,w1.l],.agg #[w2.b,w2.l]] [] [zF w1 x1,zF w2 x2] (Y:=Wd×Wd) (fun y=>True) (fun y=> .tuple #[.agg #[y.1.b,y.1.l,y.2.b,y.2.l],ya yb (if x2=0 then 14 else 0)]) (fun y=>[]) (fun y=>[qF (decide (x2≠0)) y.1 y.2 (Rat.divInt x1 x2)]):=by
 refine zk Tryz.func129 rfl rfl rfl (fun c=> ?_)
 show RunC _ _ _ _ _ [(0,.agg #[w1.b,w1.l]),(1,.agg #[w2.b,w2.l])] [] [zF w1 x1,zF w2 x2]
 refine ze<|za<|zM rfl rfl (zT rfl rfl) (fun b1=> ?_)
 refine zM rfl rfl (zT rfl rfl) (fun b2=> ?_)
 refine zM rfl rfl (zA zr32 rfl) (fun b3=> ?_)
 refine e_p (zb rfl)<|zf<|zc<|ze<|zpa (.c (i:=2) rfl (.c (i:=1) rfl (.c (i:=0) rfl .n)))<|zW (OW:=[boxA b1 30 [w1.b,w1.l],boxA b2 30 [w2.b,w2.l]]) (O:=[boxA b3 32 (cw [wz,wz])]) 4 mixed (.then .ret) kr<|e_uw 0 rfl rfl (zd 0 ty30 rfl rfl (.t2 .nil))<|e_uw 2 rfl rfl (zd 1 ty30 rfl rfl (.t2 .nil))<|e_one 1 (zB rfl rfl rfl rfl (.c rfl .n) ce207 (zQc (w1:=w1) (x1:=x1)) (.c (j:=0) rfl .n) ?_)
 rintro w34 -
 dsimp only [aq,nq,cq]
 refine e_one 3 (zB rfl rfl rfl rfl (.c rfl .n) ce207 (zQc (w1:=w2) (x1:=x2)) (.c (j:=2) rfl .n) ?_)
 rintro w35 -
 dsimp only [aq,nq,cq]
 refine e_one 4 (zC kr rfl rfl rfl rfl rfl sz30 rfl (.t2 .nil) ?_)
 refine zPa (zfa (i:=1) rfl)<|e_one 5 (zC kr rfl rfl rfl rfl rfl sz30 rfl (.t2 .nil) ?_)
 refine zU kr<|zc<|ze<|ze<|za<|e_ru (zd 0 ty30 rfl rfl (.t2 .nil))<|zR rfl rfl (.c rfl .n) ce167 (zfc (w1:=w35) (x1:=x2)) (.c (j:=0) rfl .n)<|e_p (zna rfl rfl)<|zf<|zc<|zD rfl (fun hz0=> ?_) (fun hz0=> ?_)
 ·
  have hx0:x2=0:=yR.1 hz0
  refine ze<|za<|e_p (zZ zr32 rfl yj (.c sz30 (.c sz30 .n)) .n .n)<|zl 2 rfl rfl rfl rfl rfl sz32 rfl (.t4 .nil) (.s (.s .z))<|e_p (zb rfl)<|zf<|zc<|zG<|zu<|zwb (qF false wz wz 0) (fun g _=>qF_none g) ?_
  exact zBa Tryz.results129 (wz,wz) trivial (zq 2 ty32 rfl rfl (.t4 .nil)) (zo rfl) (by rw [if_pos hx0];rfl) (ho:=oN) ((.e (j:=0) rfl (by rw [Big.divInt_nil hx0,decide_eq_false (not_not_intro hx0)]) .n):SelR _ _ _)
 ·
  have hx0:x2≠0:=fun e=>hz0 (yR.2 e)
  refine zw<|zc<|ze<|za<|e_ru (zd 1 ty30 rfl rfl (.t2 .nil))<|e_ru (zd 0 ty30 rfl rfl (.t2 .nil))<|zm rfl rfl (.c rfl (.c rfl .n)) ce140 (zDb (w1:=w34) (w2:=w35) (x1:=x1) (x2:=x2) (hl1:=ass) (hl2:=ass) (hd:=by first|rfl|assumption|omega|(rw [yp];omega)|(decide +kernel))) (.c (j:=1) rfl (.c (j:=0) rfl .n)) ?_
  rintro ⟨w36,w47⟩ -
  dsimp only [aq,nq,cq]
  refine zl 2 rfl rfl rfl rfl rfl sz32 rfl (.t4 .nil) (.s (.s .z))<|e_p (zb rfl)<|zf<|zc<|zG ?_
  exact zBa Tryz.results129 (w36,w47) trivial (zq 2 ty32 rfl rfl (.t4 .nil)) (zo rfl) (by rw [if_neg hx0]) (ho:=oN) ((.e (j:=0) rfl (by rw [decide_eq_true hx0]) .n):SelR _ _ _)
theorem zdh {z1:Int} {z2:Int} (hz1: -9223372036854775808≤z1∧z1≤9223372036854775807) (hz2: -9223372036854775808≤z2∧z2≤9223372036854775807):Con yk 47 [ya yb z1,ya yb z2] [] [] (Y:=Wd×Wd) (fun y=>True) (fun y=> .tuple #[.agg #[y.1.b,y.1.l,y.2.b,y.2.l],ya yb (if z2=0 then 14 else 0)]) (fun y=>[]) (fun y=>[qF (decide (z2≠0)) y.1 y.2 (Rat.divInt z1 z2)]):=by
 refine zk Tryz.func47 rfl rfl rfl (fun c=> ?_)
 show RunC _ _ _ _ _ [(0,ya yb z1),(1,ya yb z2)] [] []
 have g1:=Big.zTe hz1.1 hz1.2
 have g2:=Big.zTe hz2.1 hz2.2
 refine ze<|za<|zM rfl rfl (zA zr32 rfl) (fun b1=> ?_)
 refine e_p (zb rfl)<|zf<|zc<|ze<|za<|e_mv rfl<|zm rfl rfl (.c rfl .n) ce130 (zmd (z:=z1) (hz:=ass)) (.n) ?_
 rintro w33 -
 dsimp only [aq,nq,cq]
 refine e_mv rfl<|zm rfl rfl (.c rfl .n) ce130 (zmd (z:=z2) (hz:=ass)) (.n) ?_
 rintro w34 -
 dsimp only [aq,nq,cq]
 refine zm rfl rfl (.c rfl (.c rfl .n)) ce129 (zch (w1:=w33) (w2:=w34) (x1:=z1) (x2:=z2) (hl1:=by first|rfl|assumption|omega|(rw [yp];omega)|(decide +kernel)) (hl2:=by first|rfl|assumption|omega|(rw [yp];omega)|(decide +kernel))) (.c (j:=1) rfl (.c (j:=0) rfl .n)) ?_
 rintro ⟨w35,w46⟩ -
 dsimp only [aq,nq,cq]
 refine e_p (zn rfl rfl)<|e_p (zn rfl rfl)<|zl 0 rfl rfl rfl rfl rfl sz32 rfl (.t4 .nil) .z<|e_p (zb rfl)<|zf<|zc<|zG ?_
 exact zBa Tryz.results47 (w35,w46) trivial (zq 0 ty32 rfl rfl (.t4 .nil)) (zo rfl) rfl (ho:=oN) (s0 rfl)
theorem zSf {z1:Int} {z2:Int} (hz1: -9223372036854775808≤z1∧z1≤9223372036854775807) (hz2: -9223372036854775808≤z2∧z2≤9223372036854775807) (hy:z2≠0):Con yk 47 [ya yb (z1),ya yb (z2)] [] [] (Y:=(Wd)×(Wd)) (fun y=>True) (fun y=> .tuple #[.agg #[y.1.b,y.1.l,y.2.b,y.2.l],ya yb (0)]) (fun y=>[]) (fun y=>[qF true y.1 y.2 (Rat.divInt z1 z2)]):=by
  have h:=zdh hz1 hz2
  rw [if_neg hy,decide_eq_true hy] at h
  exact h
theorem zje {k1:Bool} {u1:Wd} {v1:Wd} {q1:Rat} {k2:Bool} {u2:Wd} {v2:Wd} {q2:Rat} (hl:yN q1+yN q2+1≤1099511627776):Con yk 139 [.agg #[u1.b,u1.l,v1.b,v1.l],.agg #[u2.b,u2.l,v2.b,v2.l]] [] [qF k1 u1 v1 q1,qF k2 u2 v2 q2] (Y:=Wd×Wd) (fun y=>True) (fun y=> .tuple #[.agg #[y.1.b,y.1.l,y.2.b,y.2.l],ya yb (if q2=0 then 14 else 0)]) (fun y=>[]) (fun y=>[qF (decide (q2≠0)) y.1 y.2 (q1 / q2)]):=by
 refine zk Tryz.func139 rfl rfl rfl (fun c=> ?_)
 show RunC _ _ _ _ _ [(0,.agg #[u1.b,u1.l,v1.b,v1.l]),(1,.agg #[u2.b,u2.l,v2.b,v2.l])] [] [qF k1 u1 v1 q1,qF k2 u2 v2 q2]
 have a1:=yC q1
 have a2:=yD q1
 have a3:=yC q2
 have a4:=yD q2
 have b1:=yF q1.num q2.den
 have b2:=yF (q1.den:Int) q2.num
 refine ze<|za<|zM rfl rfl (zT rfl rfl) (fun b1=> ?_)
 refine zM rfl rfl (zT rfl rfl) (fun b2=> ?_)
 refine zM rfl rfl (zA zr32 rfl) (fun b3=> ?_)
 refine e_p (zb rfl)<|zf<|zc<|ze<|zpa (.c (i:=2) rfl (.c (i:=1) rfl (.c (i:=0) rfl .n)))<|zW (OW:=[boxA b1 32 (cw [u1,v1]),boxA b2 32 (cw [u2,v2])]) (O:=[boxA b3 32 (cw [wz,wz])]) 4 mixed (.then .ret) kr<|e_uw 0 rfl rfl (zd 0 ty32 rfl rfl (.t4 .nil))<|e_uw 2 rfl rfl (zd 1 ty32 rfl rfl (.t4 .nil))<|e_one 1 (zB rfl rfl rfl rfl (.c rfl .n) ce85 (zva (k1:=k1) (u1:=u1) (v1:=v1) (q1:=q1)) (.c (j:=0) rfl .n) ?_)
 rintro ⟨w34,w45⟩ -
 dsimp only [aq,nq,cq]
 refine e_one 3 (zB rfl rfl rfl rfl (.c rfl .n) ce85 (zva (k1:=k2) (u1:=u2) (v1:=v2) (q1:=q2)) (.c (j:=2) rfl .n) ?_)
 rintro ⟨w36,w47⟩ -
 dsimp only [aq,nq,cq]
 refine e_one 4 (zC kr rfl rfl rfl rfl rfl sz32 rfl (.t4 .nil) ?_)
 refine zPa (zfa (i:=1) rfl)<|e_one 5 (zC kr rfl rfl rfl rfl rfl sz32 rfl (.t4 .nil) ?_)
 refine zU kr<|zc<|ze<|ze<|za<|e_p (zj yj rfl sz30 rfl rfl)<|e_ru (zd 0 ty30 rfl rfl (.t2 .nil))<|zUb (qF_open 0 rfl) (fun _ _=> ?_)
 refine zR rfl rfl (.c rfl .n) ce167 (zfc (w1:=w36) (x1:=(q2).num)) (.c (j:=0) rfl .n)<|e_p (zna rfl rfl)<|zf<|zc<|zD rfl (fun hz0=> ?_) (fun hz0=> ?_)
 ·
  have hx0:q2=0:=Rat.num_eq_zero.1 (yR.1 hz0)
  refine ze<|za<|e_p (zZ zr32 rfl yj (.c sz30 (.c sz30 .n)) .n .n)<|zl 2 rfl rfl rfl rfl rfl sz32 rfl (.t4 .nil) (.s (.s .z))<|e_p (zb rfl)<|zf<|zc<|zG<|zu<|zwb (qF false wz wz 0) (fun g _=>qF_none g) ?_
  exact zBa Tryz.results139 (wz,wz) trivial (zq 2 ty32 rfl rfl (.t4 .nil)) (zo rfl) (by rw [if_pos hx0];rfl) (ho:=oN) ((.e (j:=0) rfl (by rw [Big.div_nil hx0,decide_eq_false (not_not_intro hx0)]) .n):SelR _ _ _)
 ·
  have hx1:q2.num≠0:=fun e=>hz0 (yR.2 e)
  have hx0:q2≠0:=fun e=>hx1 (Rat.num_eq_zero.2 e)
  refine zw<|zc<|ze<|zpa (.c (i:=2) rfl (.c (i:=0) rfl (.c (i:=0) rfl .n)))<|zW (OW:=[boxA b3 32 (cw [wz,wz])]) (O:=[boxA b2 32 (cw [w36,w47]),boxA b1 32 (cw [w34,w45])]) 11 mixed (.then .ret) kr<|e_pv 0 rfl rfl (zj yj rfl sz30 rfl rfl)<|e_uw 1 rfl rfl (zd 2 ty30 rfl rfl (.t2 .nil))<|e_pv 2 rfl rfl (zj yj rfl sz30 rfl rfl)<|e_uw 3 rfl rfl (zd 1 ty30 rfl rfl (.s2 (.t2 .nil)))<|e_pv 5 rfl rfl (zj yj rfl sz30 rfl rfl)<|e_uw 6 rfl rfl (zd 2 ty30 rfl rfl (.s2 (.t2 .nil)))<|e_pv 7 rfl rfl (zj yj rfl sz30 rfl rfl)<|e_uw 8 rfl rfl (zd 1 ty30 rfl rfl (.t2 .nil))<|zGb (qF_open 3 rfl) (fun _ _=> ?_)
  refine e_one 4 (zB rfl rfl rfl rfl (.c rfl (.c rfl .n)) ce141 (zkb (w1:=w34) (w2:=w47) (x1:=(q1).num) (x2:=(((q2).den:Nat):Int)) (hb1:=by first|rfl|assumption|omega|(rw [yp];omega)|(decide +kernel)) (hb2:=by first|rfl|assumption|omega|(rw [yp];omega)|(decide +kernel))) (.c (j:=0) rfl (.c (j:=3) rfl .n)) ?_)
  rintro w38 -
  dsimp only [aq,nq,cq]
  refine e_one 9 (zB rfl rfl rfl rfl (.c rfl (.c rfl .n)) ce141 (zkb (w1:=w45) (w2:=w36) (x1:=(((q1).den:Nat):Int)) (x2:=(q2).num) (hb1:=by first|rfl|assumption|omega|(rw [yp];omega)|(decide +kernel)) (hb2:=by first|rfl|assumption|omega|(rw [yp];omega)|(decide +kernel))) (.c (j:=2) rfl (.c (j:=3) rfl .n)) ?_)
  rintro w39 -
  dsimp only [aq,nq,cq]
  refine e_one 10 (zB rfl rfl rfl rfl (.c rfl (.c rfl .n)) ce140 (zDb (w1:=w38) (w2:=w39) (x1:=((q1).num)*(((q2).den:Nat):Int)) (x2:=(((q1).den:Nat):Int)*((q2).num)) (hl1:=by first|rfl|assumption|omega|(rw [yp];omega)|(decide +kernel)) (hl2:=by first|rfl|assumption|omega|(rw [yp];omega)|(decide +kernel)) (hd:=by exact Int.mul_ne_zero (yV q1) hx1)) (.c (j:=1) rfl (.c (j:=0) rfl .n)) ?_)
  rintro ⟨w310,w411⟩ -
  dsimp only [aq,nq,cq]
  refine e_one 11 (zC kr rfl rfl rfl rfl rfl sz32 rfl (.t4 .nil) ?_)
  refine e_pv 12 rfl rfl (zb rfl)<|zU kr<|zc<|zG ?_
  exact zBa Tryz.results139 (w310,w411) trivial (zq 0 ty32 rfl rfl (.t4 .nil)) (zo rfl) (by rw [if_neg hx0]) (ho:=oN) ((.e (j:=0) rfl (by rw [decide_eq_true hx0,Big.div_parts hx1]) .n):SelR _ _ _)
theorem zHa {k1:Bool} {u1:Wd} {v1:Wd} {q1:Rat} {k2:Bool} {u2:Wd} {v2:Wd} {q2:Rat} (hl:yN q1+yN q2+1≤1099511627776) (hy:q2≠0):Con yk 139 [.agg #[u1.b,u1.l,v1.b,v1.l],.agg #[u2.b,u2.l,v2.b,v2.l]] [] [qF k1 u1 v1 (q1),qF k2 u2 v2 (q2)] (Y:=(Wd)×(Wd)) (fun y=>True) (fun y=> .tuple #[.agg #[y.1.b,y.1.l,y.2.b,y.2.l],ya yb (0)]) (fun y=>[]) (fun y=>[qF true y.1 y.2 (q1 / q2)]):=by
  have h:= @zje k1 u1 v1 q1 k2 u2 v2 q2 hl
  rw [if_neg hy,decide_eq_true hy] at h
  exact h
end Go.Proofs.YtpdbimfnhglhpaaGreat.Sp
