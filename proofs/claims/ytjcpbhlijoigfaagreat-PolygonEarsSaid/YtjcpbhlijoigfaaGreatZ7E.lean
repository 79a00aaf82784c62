/- Lemmas on the walk and plain lemmas that the claim of this folder uses; each states its own conditions. Lines were printed by a program of ours. -/
import Derived.Test.YtjcpbhlijoigfaaGreatZ7D
set_option linter.unusedVariables false
set_option linter.unusedSimpArgs false
set_option linter.unusedSectionVars false
open Go.Proofs.YtjcpbhlijoigfaaGreat.Big renaming digs → ya, raw → yd, zU → yi, ln → yl, hq_num → ym, hq_den → yn, raw_big → yq, hq → yt, zNa → yu, len_digs_nil → yv, qv → yw, den_ne → yx
open Go.Proofs.Tryz renaming underlying43 → yb, underlying69 → yc, prog → ye, underlying30 → yf, underlying41 → yg, underlying34 → yh, underlying39 → yj, underlying84 → yk, underlying4 → yo, results155 → yp, results19 → yr
namespace Go.Proofs.YtjcpbhlijoigfaaGreat.Sp
open Go
set_option linter.unusedVariables false
set_option maxRecDepth 100000
set_option maxHeartbeats 8000000
theorem zye {a:Nat} {b:Nat} {p1:Option Addr} {c1:Nat} {p2:Option Addr} {c2:Nat} (hb1:(ya a).length≤1099511627776) (hb2:(ya b).length≤1099511627776) (hb0:0<b):Con ye 155 [.slice p1 ((ya a).length) c1,.slice p2 ((ya b).length) c2] [] [slF (rI .u32) p1 c1 (ya a),slF (rI .u32) p2 c2 (ya b)] (Y:=(Option Addr)×Nat×(Option Addr)×Nat) (fun y=>True) (fun y=> .tuple #[.slice (y.1) ((ya (a / b)).length) (y.2.1),.slice (y.2.2.1) ((ya (a%b)).length) (y.2.2.2)]) (fun y=>[]) (fun y=>[slF (rI .u32) (y.1) (y.2.1) (ya (a / b)),slF (rI .u32) (y.2.2.1) (y.2.2.2) (ya (a%b))]):=by
 refine zn Tryz.func155 rfl rfl rfl (fun c=> ?_)
 show RunC _ _ _ _ _ [(0,.slice p1 ((ya a).length) c1),(1,.slice p2 ((ya b).length) c2)] [] [slF (rI .u32) p1 c1 (ya a),slF (rI .u32) p2 c2 (ya b)]
 refine zia 0 rfl (fun hL0=> ?_)
 refine zia 1 rfl (fun hL1=> ?_)
 have hd1:=Nat.div_le_self a b
 have hd2:=Nat.mod_le a b
 have hob:=Big.okL_getD (Big.digs_ok b) 0
 refine zg<|za<|e_p (zb rfl)<|e_p (zb rfl)<|zh<|zd<|zg<|zg<|za<|e_mv rfl<|e_mv rfl<|zN rfl rfl (.c rfl (.c rfl .n)) ce136 (zbc (a:=a) (b:=b) (p1:=p1) (c1:=c1) (p2:=p2) (c2:=c2)) (.c (j:=0) rfl (.c (j:=1) rfl .n))<|e_p (zaa rfl rfl)<|zh<|zd<|zG rfl (fun hlt=> ?_) (fun hlt=> ?_)
 ·
  have hab9:¬(b:Int)≤a:=fun h=>by have:=Big.cmp_ge.2 h;omega
  have hab:a<b:=by omega
  refine zg<|za<|e_mv rfl<|e_p (zb rfl)<|e_p (zb rfl)<|zh<|zd<|zK<|zi ?_
  have hz1:a / b=0:=Nat.div_eq_of_lt hab
  have hz2:a%b=a:=Nat.mod_eq_of_lt hab
  refine zzd (rI .u32) ?_
  exact zAa yp (none,0,p1,c1) trivial (zk rfl) (zk rfl) (by rw [hz1,hz2];rfl) (ho:=(.n:PickO _ _ _)) ((.e (j:=0) rfl (by rw [hz1];rfl) (.e (j:=1) rfl (by rw [hz2]) .n)):SelR _ _ _)
 ·
  have hab:b≤a:=by have h9:=Big.cmp_ge.1 (by omega:0≤Big.cmp (a:Int) (b:Int));omega
  refine zt<|zd<|zg<|za<|e_mv rfl<|zN rfl rfl (.c rfl .n) ce154 (zEc (a:=a) (p:=p1) (cap:=c1)) (.c (j:=0) rfl .n)<|e_mv rfl<|e_p (zC rfl rfl)<|e_p (zC rfl rfl)<|e_p (zb rfl)<|e_p (zb rfl)<|zh<|zd<|zg<|za<|e_mv rfl<|zN rfl rfl (.c rfl .n) ce154 (zEc (a:=b) (p:=p2) (cap:=c2)) (.c (j:=1) rfl .n)<|e_mv rfl<|e_p (zC rfl rfl)<|e_p (zC rfl rfl)<|e_p (zb rfl)<|e_p (zb rfl)<|zh<|zd<|zg<|zFa (X:=Unit) (fun x=>True) (fun x=>[(30,.bool (decide (((ya a).length≤2)∧((ya b).length≤2)))),(8,.int .u64 (((if (ya b).length≤2 then b else 0):Nat):Int)),(6,.int .u64 (((if (ya a).length≤2 then a else 0):Nat):Int)),(5,.slice none 0 0),(4,.slice none 0 0),(0,.slice p1 ((ya a).length) c1),(1,.slice p2 ((ya b).length) c2)]) (fun x=>[]) (fun x=>[slF (rI .u32) p1 c1 (ya a),slF (rI .u32) p2 c2 (ya b)]) ?_ ?_
  ·
   refine za<|e_mv rfl<|zW rfl rfl (zV rfl) (fun h1=> ?_) (fun h1=> ?_)
   ·
    refine e_mv rfl<|e_p (zl rfl rfl)<|zh ?_
    exact zea () (show True from by first|trivial|omega|simp_all) ((.e rfl (congrArg Value.bool cbu) (.of rfl)):SubM _ _) (ho:=(.n:PickO _ _ _)) ((.of [0,1] rfl):SelR _ _ _)
   ·
    refine e_no<|e_p (zl rfl rfl)<|zh ?_
    exact zea () (show True from by first|trivial|omega|simp_all) ((.e rfl (congrArg Value.bool cbu) (.of rfl)):SubM _ _) (ho:=(.n:PickO _ _ _)) ((.of [0,1] rfl):SelR _ _ _)
  ·
   rintro ⟨⟩ -
   try dsimp only
   refine zG rfl (fun hw=> ?_) (fun hw=> ?_)
   ·
    have ha18:=Big.two_lt hw.1
    have hb18:=Big.two_lt hw.2
    have hdn0:(0:Int)≤(a:Int) / (b:Int):=Int.ediv_nonneg om om
    have hdn1:(a:Int) / (b:Int)≤a:=Int.ediv_le_self _ om
    have hdm0:(0:Int)≤(a:Int)%(b:Int):=Int.emod_nonneg _ om
    have hdm1:(a:Int)%(b:Int)<b:=Int.emod_lt_of_pos _ om
    refine zg ?_
    have e2:(if (ya a).length≤2 then a else 0)=a:=by rw [if_pos hw.1]
    rw [e2]
    have e3:(if (ya b).length≤2 then b else 0)=b:=by rw [if_pos hw.2]
    rw [e3]
    refine zba (OW:=[]) (O:=[]) 100000 mixed (.then (.then .ret)) kr<|e_dm 0 rfl rfl rfl<|e_dm 1 rfl rfl rfl<|e_pv 2 rfl rfl (zob (z:=(((a / b):Nat):Int)) rfl rfl om (by rw [quoN (z:=(((a / b):Nat):Int)) om om];exact wu64 om))<|e_dm 4 rfl rfl rfl<|e_dm 5 rfl rfl rfl<|e_pv 6 rfl rfl (zya (z:=(((a%b):Nat):Int)) rfl rfl om (remN om om))<|e_one 3 (zE rfl rfl rfl rfl (.c rfl .n) ce115 (zzb (n0:=(a / b)) (hn0:=cbo)) (.n) ?_)
    rintro ⟨p24,c25⟩ -
    dsimp only [aq,nq,cq]
    refine e_one 7 (zE rfl rfl rfl rfl (.c rfl .n) ce115 (zzb (n0:=(a%b)) (hn0:=cbo)) (.n) ?_)
    rintro ⟨p26,c27⟩ -
    dsimp only [aq,nq,cq]
    refine e_pv 8 rfl rfl (zb rfl)<|e_pv 9 rfl rfl (zb rfl)<|zX kr<|zd<|zK<|zi ?_
    exact zAa yp (p24,c25,p26,c27) trivial (zk rfl) (zk rfl) rfl (ho:=(.n:PickO _ _ _)) ((.of [1,0] rfl):SelR _ _ _)
   ·
    refine zt<|zd<|zg<|zg<|za<|e_mv rfl<|e_p (zQ yj rfl)<|e_p (zCa rfl rfl)<|zh<|zd<|zG rfl (fun hl1=> ?_) (fun hl1=> ?_)
    ·
     have hbd:=Big.one_digit (by omega:(ya b).length=1)
     have hln0:=Big.znf hb0
     have hmlt:=Nat.mod_lt a hb0
     have hdm0:(0:Int)≤(a:Int)%(b:Int):=Int.emod_nonneg _ om
     have hdm1:(a:Int)%(b:Int)<b:=Int.emod_lt_of_pos _ om
     refine zg<|za<|e_mv rfl<|e_mv rfl<|zY (x0:=((ya b).getD 0 0)) 1 0 rfl yj sz121 rfl rfl rfl (by first|rfl|assumption|(simp;done)|omega) rfl rfl (gD (d:=0) om) (fun b8 o9 hok10=> ?_)
     replace hok10:=zH.1 hok10
     refine e_ru (zB (j:=0) 0 ty121 rfl rfl rfl rfl) ?_
     have e11:(((ya b).getD 0 0):Int)=((b:Nat):Int):=by exact hbd
     rw [e11]
     refine zJ rfl rfl (.c rfl (.c rfl .n)) ce160 (zId (a:=a) (mm:=b) (p:=p1) (cap:=c1) (hb:=ass) (hm0:=ass) (hm1:=cbo)) (.c (j:=1) rfl .n) ?_
     rintro ⟨p212,c213⟩ -
     dsimp only [aq,nq,cq]
     refine e_mv rfl<|e_p (zC rfl rfl)<|e_p (zC rfl rfl)<|e_p (zb rfl)<|e_p (zb rfl)<|zh<|zd<|zg<|za<|e_mv rfl<|e_mv rfl<|e_p (zL (z:=(((a%b):Nat):Int)) rfl (by rw [Tryz.underlying121];rfl) Tryz.underlying120 (wu64 om))<|zJ rfl rfl (.c rfl .n) ce115 (zzb (n0:=(a%b)) (hn0:=cbo)) (.n) ?_
     rintro ⟨p214,c215⟩ -
     dsimp only [aq,nq,cq]
     refine e_p (zb rfl)<|e_p (zb rfl)<|zh<|zd<|zK<|zi ?_
     exact zAa yp (p212,c213,p214,c215) trivial (zk rfl) (zk rfl) rfl (ho:=(.n:PickO _ _ _)) ((.of [1,0] rfl):SelR _ _ _)
    ·
     have hln0:=Big.znf hb0
     refine zt<|zd<|zg<|za<|e_mv rfl<|e_mv rfl<|zJ rfl rfl (.c rfl (.c rfl .n)) ce161 (zdg (a:=a) (b:=b) (p1:=p1) (c1:=c1) (p2:=p2) (c2:=c2) (hb1:=ass) (hb2:=ass) (hb3:=cbo) (hab:=cbo)) (.c (j:=0) rfl (.c (j:=1) rfl .n)) ?_
     rintro ⟨p316,c317,p418,c419⟩ -
     dsimp only [aq,nq,cq]
     refine e_p (zC rfl rfl)<|e_p (zC rfl rfl)<|e_p (zb rfl)<|e_p (zb rfl)<|zh<|zd<|zK ?_
     exact zAa yp (p316,c317,p418,c419) trivial (zk rfl) (zk rfl) rfl (ho:=(.n:PickO _ _ _)) ((.of [0,1] rfl):SelR _ _ _)
theorem zCf {s:Bool} {p1:Option Addr} {n1:Nat} {c1:Nat} {l1:List Int} {t:Bool} {p2:Option Addr} {n2:Nat} {c2:Nat} {l2:List Int} (hn1:l1.length=n1) (hn2:l2.length=n2) (hb1:yl (yd s l1)≤1099511627776) (hb2:yl (yd t l2)≤1099511627776):Con ye 140 [.agg #[.bool s,.slice p1 n1 c1],.agg #[.bool t,.slice p2 n2 c2]] [] [slF (rI .u32) p1 c1 l1,slF (rI .u32) p2 c2 l2] (Y:=(Option Addr)×Nat) (fun y=>True) (fun y=> .agg #[.bool (decide (((Nat.gcd (yd s l1).natAbs (yd t l2).natAbs:Nat):Int)<0)),.slice (y.1) ((ya (((Nat.gcd (yd s l1).natAbs (yd t l2).natAbs:Nat):Int).natAbs)).length) (y.2)]) (fun y=>[]) (fun y=>[slF (rI .u32) (y.1) (y.2) (ya (((Nat.gcd (yd s l1).natAbs (yd t l2).natAbs:Nat):Int).natAbs))]):=by
 refine zn Tryz.func140 rfl rfl rfl (fun c=> ?_)
 show RunC _ _ _ _ _ [(0,.agg #[.bool s,.slice p1 n1 c1]),(1,.agg #[.bool t,.slice p2 n2 c2])] [] [slF (rI .u32) p1 c1 l1,slF (rI .u32) p2 c2 l2]
 refine zia 0 rfl (fun hL0=> ?_)
 refine zUa 0 rfl (fun hE0=> ?_)
 refine zia 1 rfl (fun hL1=> ?_)
 refine zUa 1 rfl (fun hE1=> ?_)
 have hnn1:Big.nn l1:=fun g hg=>(zH.1 (hE0 g hg)).1
 have hnn2:Big.nn l2:=fun g hg=>(zH.1 (hE1 g hg)).1
 obtain ⟨x1,hx1⟩:∃z,z=yd s l1:=⟨_,rfl⟩
 obtain ⟨x2,hx2⟩:∃z,z=yd t l2:=⟨_,rfl⟩
 unfold yl at hb1 hb2
 refine zg<|za<|zO rfl rfl (zS rfl rfl) (fun b1=> ?_)
 refine zO rfl rfl (zS rfl rfl) (fun b2=> ?_)
 refine zO rfl rfl (zp zr41 rfl) (fun b3=> ?_)
 refine zh<|zd<|zg<|zba (OW:=[]) (O:=[boxA b3 41 [wz.b,wz.l],boxA b2 41 [.bool t,.slice p2 n2 c2],boxA b1 41 [.bool s,.slice p1 n1 c1]]) 100000 mixed (.then .ret) kr<|e_u 0 rfl rfl (zc 2 ty41 rfl rfl (.t2 .nil))<|e_u 2 rfl rfl (zc 1 ty41 rfl rfl (.t2 .nil))<|e_one 1 (zE rfl rfl rfl rfl (.c rfl .n) ce117 (zSa (s:=s) (p:=p1) (n:=n1) (cap:=c1) (l:=l1) (hn:=ass)) (.c (j:=0) rfl .n) ?_)
 rintro ⟨p24,c25⟩ -
 dsimp only [aq,nq,cq]
 refine e_one 3 (zE rfl rfl rfl rfl (.c rfl .n) ce117 (zSa (s:=t) (p:=p2) (n:=n2) (cap:=c2) (l:=l2) (hn:=ass)) (.c (j:=2) rfl .n) ?_)
 rintro ⟨p26,c27⟩ -
 dsimp only [aq,nq,cq]
 refine e_pv 4 rfl rfl (zb rfl)<|e_pv 5 rfl rfl (zb rfl)<|zX kr<|zd<|zg<|zv<|zqa (X:=Nat×Nat×(Option Addr)×Nat×(Option Addr)×Nat) (fun x:Nat×Nat×(Option Addr)×Nat×(Option Addr)×Nat=>Nat.gcd x.1 x.2.1=Nat.gcd (yd s l1).natAbs (yd t l2).natAbs∧(ya x.1).length≤1099511627776∧(ya x.2.1).length≤1099511627776) (fun x=>[(6,.slice (x.2.2.2.2.1) ((ya (x.2.1)).length) (x.2.2.2.2.2)),(5,.slice (x.2.2.1) ((ya (x.1)).length) (x.2.2.2.1)),(4,.pointer (some ⟨b3,0,none⟩))]) (fun x=>[boxA b3 41 [wz.b,wz.l],boxA b2 41 [.bool t,.slice p2 n2 c2],boxA b1 41 [.bool s,.slice p1 n1 c1]]) (fun x=>[slF (rI .u32) (x.2.2.1) (x.2.2.2.1) (ya (x.1)),slF (rI .u32) (x.2.2.2.2.1) (x.2.2.2.2.2) (ya (x.2.1)),slF (rI .u32) p26 c27 (ya ((yd t l2).natAbs)),slF (rI .u32) p24 c25 (ya ((yd s l1).natAbs)),slF (rI .u32) p1 c1 l1,slF (rI .u32) p2 c2 l2]) (fun x:Nat×Nat×(Option Addr)×Nat×(Option Addr)×Nat=>x.2.1) ((yd s l1).natAbs,(yd t l2).natAbs,p24,c25,p26,c27) (show Nat.gcd ((yd s l1).natAbs) ((yd t l2).natAbs)=Nat.gcd (yd s l1).natAbs (yd t l2).natAbs∧(ya ((yd s l1).natAbs)).length≤1099511627776∧(ya ((yd t l2).natAbs)).length≤1099511627776 from by exact ⟨rfl,hb1,hb2⟩) ((.of rfl):SubM _ _) (ho:=((.of [0,0,0] rfl):PickO _ _ _)) ((.of [1,0,0,1,2,3] rfl):SelR _ _ _) ?_
 rintro ⟨a,b,pa,ca,pb,cb⟩ hI
 replace hI:Nat.gcd a b=Nat.gcd (yd s l1).natAbs (yd t l2).natAbs∧(ya a).length≤1099511627776∧(ya b).length≤1099511627776:=hI
 try dsimp only
 obtain ⟨hgc,hba,hbb⟩:=hI
 refine zg<|zg<|za<|e_mv rfl<|e_p (zQ yj rfl)<|e_p (zBa rfl rfl)<|zh<|zd<|zG rfl (fun hne=> ?_) (fun hne=> ?_)
 ·
  have hb0:0<b:=Nat.pos_of_ne_zero (fun e=>by rw [e] at hne;simp [Big.digs_zero] at hne)
  refine zt<|zd<|zv<|zg<|za<|e_mv rfl<|zN rfl rfl (.c rfl .n) ce154 (zEc (a:=a) (p:=pa) (cap:=ca)) (.c (j:=0) rfl .n)<|e_mv rfl<|e_p (zC rfl rfl)<|e_p (zC rfl rfl)<|e_p (zb rfl)<|e_p (zb rfl)<|zh<|zd<|zg<|za<|e_mv rfl<|zN rfl rfl (.c rfl .n) ce154 (zEc (a:=b) (p:=pb) (cap:=cb)) (.c (j:=1) rfl .n)<|e_mv rfl<|e_p (zC rfl rfl)<|e_p (zC rfl rfl)<|e_p (zb rfl)<|e_p (zb rfl)<|zh<|zd<|zg<|zFa (X:=Unit) (fun x=>True) (fun x=>[(33,.bool (decide (((ya a).length≤2)∧((ya b).length≤2)))),(9,.int .u64 (((if (ya b).length≤2 then b else 0):Nat):Int)),(7,.int .u64 (((if (ya a).length≤2 then a else 0):Nat):Int)),(6,.slice pb ((ya b).length) cb),(5,.slice pa ((ya a).length) ca),(4,.pointer (some ⟨b3,0,none⟩))]) (fun x=>[boxA b3 41 [wz.b,wz.l],boxA b2 41 [.bool t,.slice p2 n2 c2],boxA b1 41 [.bool s,.slice p1 n1 c1]]) (fun x=>[slF (rI .u32) pa ca (ya a),slF (rI .u32) pb cb (ya b),slF (rI .u32) p26 c27 (ya ((yd t l2).natAbs)),slF (rI .u32) p24 c25 (ya ((yd s l1).natAbs)),slF (rI .u32) p1 c1 l1,slF (rI .u32) p2 c2 l2]) ?_ ?_
  ·
   refine za<|e_mv rfl<|zW rfl rfl (zV rfl) (fun hw1=> ?_) (fun hw1=> ?_)
   ·
    refine e_mv rfl<|e_p (zl rfl rfl)<|zh ?_
    exact zea () (show True from by first|trivial|omega|simp_all) ((.e rfl (congrArg Value.bool cbu) (.of rfl)):SubM _ _) (ho:=((.of [0,0,0] rfl):PickO _ _ _)) ((.of [0,1,2,3,4,5] rfl):SelR _ _ _)
   ·
    refine e_no<|e_p (zl rfl rfl)<|zh ?_
    exact zea () (show True from by first|trivial|omega|simp_all) ((.e rfl (congrArg Value.bool cbu) (.of rfl)):SubM _ _) (ho:=((.of [0,0,0] rfl):PickO _ _ _)) ((.of [0,1,2,3,4,5] rfl):SelR _ _ _)
  ·
   rintro ⟨⟩ -
   try dsimp only
   refine zG rfl (fun hw=> ?_) (fun hw=> ?_)
   ·
    have ha18:=Big.two_lt hw.1
    have hb18:=Big.two_lt hw.2
    have e8:(if (ya a).length≤2 then a else 0)=a:=by rw [if_pos hw.1]
    rw [e8]
    have e9:(if (ya b).length≤2 then b else 0)=b:=by rw [if_pos hw.2]
    rw [e9]
    refine zg<|zv<|zqa (X:=Nat×Nat) (fun x:Nat×Nat=>Nat.gcd x.1 x.2=Nat.gcd a b∧x.1<1000000000000000000∧x.2<1000000000000000000) (fun x=>[(9,.int .u64 ((x.2:Nat):Int)),(7,.int .u64 ((x.1:Nat):Int)),(6,.slice pb ((ya b).length) cb),(5,.slice pa ((ya a).length) ca),(4,.pointer (some ⟨b3,0,none⟩))]) (fun x=>[boxA b3 41 [wz.b,wz.l],boxA b2 41 [.bool t,.slice p2 n2 c2],boxA b1 41 [.bool s,.slice p1 n1 c1]]) (fun x=>[slF (rI .u32) pa ca (ya a),slF (rI .u32) pb cb (ya b),slF (rI .u32) p26 c27 (ya ((yd t l2).natAbs)),slF (rI .u32) p24 c25 (ya ((yd s l1).natAbs)),slF (rI .u32) p1 c1 l1,slF (rI .u32) p2 c2 l2]) (fun x:Nat×Nat=>x.2) (a,b) (show Nat.gcd a b=Nat.gcd a b∧a<1000000000000000000∧b<1000000000000000000 from by exact ⟨rfl,ha18,hb18⟩) ((.of rfl):SubM _ _) (ho:=((.of [0,0,0] rfl):PickO _ _ _)) ((.of [0,1,2,3,4,5] rfl):SelR _ _ _) ?_
    rintro ⟨q,r⟩ hJ
    replace hJ:Nat.gcd q r=Nat.gcd a b∧q<1000000000000000000∧r<1000000000000000000:=hJ
    try dsimp only
    obtain ⟨hgq,hq18,hr18⟩:=hJ
    have hmr:=Nat.mod_le q r
    refine zg<|zg<|za<|e_mv rfl<|e_p (zBa rfl rfl)<|zh<|zd<|zG rfl (fun hy=> ?_) (fun hy=> ?_)
    ·
     refine zt<|zd<|zv<|zba (OW:=[]) (O:=[boxA b3 41 [wz.b,wz.l],boxA b2 41 [.bool t,.slice p2 n2 c2],boxA b1 41 [.bool s,.slice p1 n1 c1]]) 100000 mixed (.block (.then (.block (.then (.then (.block (.then (.block (.then .ret))))))))) kr<|e_dm 0 rfl rfl rfl<|e_dm 1 rfl rfl rfl<|e_dm 2 rfl rfl rfl<|e_pv 3 rfl rfl (zya (z:=(((q%r):Nat):Int)) rfl rfl om (remN om om))<|e_pv 4 rfl rfl (zb rfl)<|e_pv 5 rfl rfl (zb rfl)<|zX kr<|zP<|zha (r,(q%r)) (show Nat.gcd r (q%r)=Nat.gcd a b∧r<1000000000000000000∧(q%r)<1000000000000000000 from by exact ⟨by rw [Big.gcd_rest,hgq],hr18,by omega⟩) (by exact Nat.mod_lt q om) ((.of rfl):SubM _ _) (ho:=((.of [0,0,0] rfl):PickO _ _ _)) ((.of [0,1,2,3,4,5] rfl):SelR _ _ _)
    ·
     have hrz:r=0:=by omega
     have hfin:q=Nat.gcd (yd s l1).natAbs (yd t l2).natAbs:=by rw [← hgc,←hgq,hrz,Nat.gcd_zero_right]
     refine zla<|zj<|zj<|zr<|zd<|zg<|za<|e_mv rfl<|zJ rfl rfl (.c rfl .n) ce115 (zzb (n0:=q) (hn0:=cbo)) (.n) ?_
     rintro ⟨p210,c211⟩ -
     dsimp only [aq,nq,cq]
     refine zJ rfl rfl (.c rfl (.c rfl .n)) ce114 (zHa (s:=false) (a:=q) (p:=p210) (cap:=c211)) (.c (j:=0) rfl .n) ?_
     rintro ⟨p212,c213⟩ -
     dsimp only [aq,nq,cq]
     refine zo 0 rfl rfl rfl rfl rfl sz41 rfl (.t2 .nil) .z<|zh<|zd<|zK<|zi<|zm<|zi<|zm<|zi ?_
     exact zx Tryz.results140 (p212,c213) trivial (zD 0 ty41 rfl rfl (.t2 .nil)) (by rw [← hfin];rfl) (ho:=(.n:PickO _ _ _)) ((.e (j:=0) rfl (by rw [← hfin];rfl) .n):SelR _ _ _)
   ·
    refine zt<|zd<|zg<|za<|e_mv rfl<|e_mv rfl<|zJ rfl rfl (.c rfl (.c rfl .n)) ce155 (zye (a:=a) (b:=b) (p1:=pa) (c1:=ca) (p2:=pb) (c2:=cb) (hb1:=cbo) (hb2:=cbo) (hb0:=cbo)) (.c (j:=0) rfl (.c (j:=1) rfl .n)) ?_
    rintro ⟨p314,c315,p416,c417⟩ -
    dsimp only [aq,nq,cq]
    refine e_mv rfl<|e_p (zC rfl rfl)<|e_p (zC rfl rfl)<|e_p (zb rfl)<|e_p (zb rfl)<|zh<|zd<|za<|e_mv rfl<|e_mv rfl<|e_p (zb rfl)<|e_p (zb rfl)<|zh<|zP<|zha (b,(a%b),pb,cb,p416,c417) (show Nat.gcd b (a%b)=Nat.gcd (yd s l1).natAbs (yd t l2).natAbs∧(ya b).length≤1099511627776∧(ya (a%b)).length≤1099511627776 from by exact ⟨by rw [Big.gcd_rest,hgc],hbb,Nat.le_trans (Big.ln_mono' (Nat.le_of_lt (Nat.mod_lt a hb0))) hbb⟩) (by exact Nat.mod_lt a hb0) ((.e rfl (by first|rfl|(congr 1;omega)|simp_all) (.c rfl (.c rfl .n))):SubM _ _) (ho:=((.of [0,0,0] rfl):PickO _ _ _)) ((.c (j:=3) rfl (.e (j:=1) rfl (by first|rfl|simp_all) (.of [4,5,6,7] rfl))):SelR _ _ _)
 ·
  have hbz:b=0:=yv.1 om
  have hfin:a=Nat.gcd (yd s l1).natAbs (yd t l2).natAbs:=by rw [← hgc,hbz,Nat.gcd_zero_right]
  refine zla<|zj<|zj<|zr<|zd<|zg<|za<|e_mv rfl<|zJ rfl rfl (.c rfl .n) ce153 (zpd (a:=a) (p:=pa) (cap:=ca) (hb:=cbo)) (.c (j:=0) rfl .n) ?_
  rintro ⟨p218,c219⟩ -
  dsimp only [aq,nq,cq]
  refine zJ rfl rfl (.c rfl (.c rfl .n)) ce114 (zHa (s:=false) (a:=a) (p:=p218) (cap:=c219)) (.c (j:=0) rfl .n) ?_
  rintro ⟨p220,c221⟩ -
  dsimp only [aq,nq,cq]
  refine zo 0 rfl rfl rfl rfl rfl sz41 rfl (.t2 .nil) .z<|zh<|zd<|zK ?_
  exact zx Tryz.results140 (p220,c221) trivial (zD 0 ty41 rfl rfl (.t2 .nil)) (by rw [← hfin];rfl) (ho:=(.n:PickO _ _ _)) ((.e (j:=0) rfl (by rw [← hfin];rfl) .n):SelR _ _ _)
theorem zeg {x1:Int} {x2:Int} {p1:Option Addr} {c1:Nat} {p2:Option Addr} {c2:Nat} (hb1:yl x1≤1099511627776) (hb2:yl x2≤1099511627776):Con ye 140 [.agg #[.bool (decide ((x1)<0)),.slice (p1) ((ya ((x1).natAbs)).length) (c1)],.agg #[.bool (decide ((x2)<0)),.slice (p2) ((ya ((x2).natAbs)).length) (c2)]] [] [slF (rI .u32) (p1) (c1) (ya ((x1).natAbs)),slF (rI .u32) (p2) (c2) (ya ((x2).natAbs))] (Y:=(Option Addr)×(Nat)) (fun y=>True) (fun y=> .agg #[.bool (decide ((((Nat.gcd x1.natAbs x2.natAbs:Nat):Int))<0)),.slice (y.1) ((ya ((((Nat.gcd x1.natAbs x2.natAbs:Nat):Int)).natAbs)).length) (y.2)]) (fun y=>[]) (fun y=>[slF (rI .u32) (y.1) (y.2) (ya ((((Nat.gcd x1.natAbs x2.natAbs:Nat):Int)).natAbs))]):=by
  have h:= @zCf (decide ((x1)<0)) p1 (ya (x1).natAbs).length c1 (ya (x1).natAbs) (decide ((x2)<0)) p2 (ya (x2).natAbs).length c2 (ya (x2).natAbs) rfl rfl (by rw [yq];exact hb1) (by rw [yq];exact hb2)
  rw [yq,yq] at h
  exact h
theorem zze {w1:Wd} {w2:Wd} {x1:Int} {x2:Int} (hb1:yl x1≤1099511627776) (hb2:yl x2≤1099511627776):Con ye 140 [.agg #[w1.b,w1.l],.agg #[w2.b,w2.l]] [] [zF w1 (x1),zF w2 (x2)] (Y:=(Wd)) (fun y=>True) (fun y=> .agg #[y.b,y.l]) (fun y=>[]) (fun y=>[zF y (((Nat.gcd x1.natAbs x2.natAbs:Nat):Int))]):=by
  exact zYb (zCc (fun p1 c1 p2 c2=>zeg hb1 hb2))
end Go.Proofs.YtjcpbhlijoigfaaGreat.Sp
namespace Go.Proofs.YtjcpbhlijoigfaaGreat.Sp
open Go
set_option linter.unusedVariables false
set_option maxRecDepth 100000
set_option maxHeartbeats 8000000
theorem zfe {x1:Int} {x2:Int} {p1:Option Addr} {c1:Nat} {p2:Option Addr} {c2:Nat} (hb1:yl x1≤1099511627776) (hb2:yl x2≤1099511627776) (hy:x2≠0):Con ye 141 [.agg #[.bool (decide (x1<0)),.slice p1 ((ya ((x1).natAbs)).length) c1],.agg #[.bool (decide (x2<0)),.slice p2 ((ya ((x2).natAbs)).length) c2]] [] [slF (rI .u32) p1 c1 (ya ((x1).natAbs)),slF (rI .u32) p2 c2 (ya ((x2).natAbs))] (Y:=(Option Addr)×Nat×(Option Addr)×Nat) (fun y=>True) (fun y=> .tuple #[.agg #[.bool (decide ((Big.fq x1 x2)<0)),.slice (y.1) ((ya ((Big.fq x1 x2).natAbs)).length) (y.2.1)],.agg #[.bool (decide ((Big.fr x1 x2)<0)),.slice (y.2.2.1) ((ya ((Big.fr x1 x2).natAbs)).length) (y.2.2.2)],.int .i64 0]) (fun y=>[]) (fun y=>[slF (rI .u32) (y.1) (y.2.1) (ya ((Big.fq x1 x2).natAbs)),slF (rI .u32) (y.2.2.1) (y.2.2.2) (ya ((Big.fr x1 x2).natAbs))]):=by
 refine zn Tryz.func141 rfl rfl rfl (fun c=> ?_)
 show RunC _ _ _ _ _ [(0,.agg #[.bool (decide (x1<0)),.slice p1 ((ya ((x1).natAbs)).length) c1]),(1,.agg #[.bool (decide (x2<0)),.slice p2 ((ya ((x2).natAbs)).length) c2])] [] [slF (rI .u32) p1 c1 (ya ((x1).natAbs)),slF (rI .u32) p2 c2 (ya ((x2).natAbs))]
 refine zia 0 rfl (fun hL0=> ?_)
 refine zia 1 rfl (fun hL1=> ?_)
 unfold yl at hb1 hb2
 have hd1:=Nat.div_le_self x1.natAbs x2.natAbs
 have hd2:=Nat.mod_lt x1.natAbs (show 0<x2.natAbs by omega)
 have hl1:=Big.ln_mono' hd1
 have hl2:=Big.ln_mono' (Nat.le_of_lt hd2)
 refine zg<|za<|zO rfl rfl (zS rfl rfl) (fun b1=> ?_)
 refine zO rfl rfl (zS rfl rfl) (fun b2=> ?_)
 refine zO rfl rfl (zp zr41 rfl) (fun b3=> ?_)
 refine zO rfl rfl (zp zr41 rfl) (fun b4=> ?_)
 refine e_p (zb rfl)<|zh<|zd<|zg<|zba (OW:=[]) (O:=[boxA b4 41 [wz.b,wz.l],boxA b3 41 [wz.b,wz.l],boxA b2 41 [.bool (decide (x2<0)),.slice p2 ((ya ((x2).natAbs)).length) c2],boxA b1 41 [.bool (decide (x1<0)),.slice p1 ((ya ((x1).natAbs)).length) c1]]) 100000 mixed (.then .ret) kr<|e_u 0 rfl rfl (zc 3 ty41 rfl rfl (.t2 .nil))<|e_u 2 rfl rfl (zc 2 ty41 rfl rfl (.t2 .nil))<|e_one 1 (zE rfl rfl rfl rfl (.c rfl .n) ce117 (zEb (z:=x1) (p:=p1) (cap:=c1)) (.c (j:=0) rfl .n) ?_)
 rintro ⟨p25,c26⟩ -
 dsimp only [aq,nq,cq]
 refine e_one 3 (zE rfl rfl rfl rfl (.c rfl .n) ce117 (zEb (z:=x2) (p:=p2) (cap:=c2)) (.c (j:=2) rfl .n) ?_)
 rintro ⟨p27,c28⟩ -
 dsimp only [aq,nq,cq]
 refine e_pv 4 rfl rfl (zb rfl)<|e_pv 5 rfl rfl (zb rfl)<|zX kr<|zd<|zg<|zg<|za<|e_mv rfl<|e_p (zQ yj rfl)<|e_p (zCa rfl rfl)<|zh<|zd<|zG rfl (fun h9=> ?_) (fun h9=> ?_)
 ·
  exact absurd (yv.1 (show (ya x2.natAbs).length=0 by omega)) om
 ·
  refine zt<|zd<|zg<|za<|e_mv rfl<|e_mv rfl<|zJ rfl rfl (.c rfl (.c rfl .n)) ce155 (zye (a:=(x1).natAbs) (b:=(x2).natAbs) (p1:=p25) (c1:=c26) (p2:=p27) (c2:=c28) (hb1:=by first|rfl|assumption|omega|(decide +kernel)) (hb2:=by first|rfl|assumption|omega|(decide +kernel)) (hb0:=by first|rfl|assumption|omega|(decide +kernel))) (.c (j:=1) rfl (.c (j:=0) rfl .n)) ?_
  rintro ⟨p310,c311,p412,c413⟩ -
  dsimp only [aq,nq,cq]
  refine e_mv rfl<|e_p (zC rfl rfl)<|e_p (zC rfl rfl)<|e_p (zb rfl)<|e_p (zb rfl)<|zh<|zd<|zg<|za<|e_mv rfl<|zJ rfl rfl (.c rfl .n) ce153 (zpd (a:=((x1).natAbs)%((x2).natAbs)) (p:=p412) (cap:=c413) (hb:=by first|rfl|assumption|omega|(decide +kernel))) (.c (j:=1) rfl .n) ?_
  rintro ⟨p214,c215⟩ -
  dsimp only [aq,nq,cq]
  refine e_p (zb rfl)<|zh<|zd<|zg<|zg<|za<|e_mv rfl<|e_p (zQ yj rfl)<|e_p (zBa rfl rfl)<|zW rfl rfl (zV rfl) (fun hpos=> ?_) (fun hpos=> ?_)
  ·
   refine e_p (zf yg rfl sz4 rfl rfl)<|e_ru (ze 3 ty4 rfl rfl rfl)<|e_p (zf yg rfl sz4 rfl rfl)<|e_ru (ze 2 ty4 rfl rfl rfl)<|e_p (zRa yo rfl rfl)<|e_p (zl rfl rfl)<|zh<|zd<|zG rfl (fun hadj=> ?_) (fun hadj=> ?_)
   ·
    have hsg:(decide (decide (x1<0)≠decide (x2<0)))=true:=decide_eq_true hadj
    have hr0:x1.natAbs%x2.natAbs≠0:=fun e=>by have h9:=hpos;rw [e,Big.digs_zero] at h9;exact absurd h9 dd
    refine za<|e_mv rfl<|zIa rfl rfl (zT (enc:=fun z:Int=>[.int .u32 z]) (ok:=InK .u32) (h1:=fun _=>rfl) (h2:=fun _=>rfl) (k:=1) yj inf121 rfl dd dd dd (.c (x:=1) rfl rfl (fun _ _=>by exact zH.2 om) .n)) (fun b16 _=> ?_)
    refine zma 0 rfl .z ?_
    have e17:[1]=ya 1:=by exact (Big.digs_one (s:=1) dd dd).symm
    rw [e17]
    have e18:(.slice (some ⟨b16,0,none⟩) 1 1:Value)= .slice (some ⟨b16,0,none⟩) ((ya 1).length) 1:=by rfl
    rw [e18]
    refine zJ rfl rfl (.c rfl (.c rfl .n)) ce135 (zGd (a:=((x1).natAbs) / ((x2).natAbs)) (b:=1) (p1:=p310) (c1:=c311) (p2:=some ⟨b16,0,none⟩) (c2:=1) (hb1:=by first|rfl|assumption|omega|(decide +kernel)) (hb2:=by first|rfl|assumption|omega|(decide +kernel))) (.c (j:=2) rfl (.c (j:=0) rfl .n)) ?_
    rintro ⟨p319,c320⟩ -
    dsimp only [aq,nq,cq]
    refine e_mv rfl<|e_mv rfl<|zJ rfl rfl (.c rfl (.c rfl .n)) ce137 (zRc (a:=(x2).natAbs) (b:=(((x1).natAbs)%((x2).natAbs))) (p1:=p27) (c1:=c28) (p2:=p214) (c2:=c215) (hb1:=by first|rfl|assumption|omega|(decide +kernel)) (hb2:=by first|rfl|assumption|omega|(decide +kernel)) (hab:=by first|rfl|assumption|omega|(decide +kernel))) (.c (j:=5) rfl (.c (j:=2) rfl .n)) ?_
    rintro ⟨p321,c322⟩ -
    dsimp only [aq,nq,cq]
    refine e_p (zb rfl)<|e_p (zb rfl)<|zh<|zd<|zg<|zxa (.c (i:=2) rfl (.c (i:=1) rfl (.c (i:=0) rfl (.c (i:=0) rfl (.c (i:=0) rfl .n)))))<|zba (OW:=[boxA b3 41 [wz.b,wz.l],boxA b4 41 [wz.b,wz.l]]) (O:=[emA,boxA b2 41 [.bool (decide (x2<0)),.slice p2 ((ya ((x2).natAbs)).length) c2],boxA b1 41 [.bool (decide (x1<0)),.slice p1 ((ya ((x1).natAbs)).length) c1]]) 11 mixed (.then .ret) kr<|e_pv 0 rfl rfl (zf yg rfl sz4 rfl rfl)<|e_uw 1 rfl rfl (ze 4 ty4 rfl rfl rfl)<|e_pv 2 rfl rfl (zf yg rfl sz4 rfl rfl)<|e_uw 3 rfl rfl (ze 3 ty4 rfl rfl rfl)<|e_pv 4 rfl rfl (zRa yo rfl rfl)<|e_dm 5 rfl rfl rfl<|e_pv 7 rfl rfl (zf yg rfl sz4 rfl rfl)<|e_uw 8 rfl rfl (ze 3 ty4 rfl rfl rfl)<|e_dm 9 rfl rfl rfl<|e_one 6 (zE rfl rfl rfl rfl (.c rfl (.c rfl .n)) ce114 (zHa (s:=decide (decide (x1<0)≠decide (x2<0))) (a:=(((x1).natAbs) / ((x2).natAbs))+1) (p:=p319) (cap:=c320)) (.c (j:=1) rfl .n) ?_)
    rintro ⟨p223,c224⟩ -
    dsimp only [aq,nq,cq]
    refine e_one 10 (zE rfl rfl rfl rfl (.c rfl (.c rfl .n)) ce114 (zHa (s:=decide (x2<0)) (a:=((x2).natAbs) - (((x1).natAbs)%((x2).natAbs))) (p:=p321) (cap:=c322)) (.c (j:=1) rfl .n) ?_)
    rintro ⟨p225,c226⟩ -
    dsimp only [aq,nq,cq]
    refine e_one 11 (zy kr rfl rfl rfl rfl rfl sz41 rfl (.t2 .nil) ?_)
    refine zbb (zga (i:=1) rfl)<|e_one 12 (zy kr rfl rfl rfl rfl rfl sz41 rfl (.t2 .nil) ?_)
    refine e_pv 13 rfl rfl (zb rfl)<|zX kr<|zd<|zK ?_
    have hz1:Big.sg (decide (decide (x1<0)≠decide (x2<0))) ((x1.natAbs / x2.natAbs+1:Nat):Int)=Big.fq x1 x2:=by rw [hsg];exact (Big.fq_odd hy hadj hr0).1
    have hz2:Big.sg (decide (x2<0)) ((x2.natAbs - x1.natAbs%x2.natAbs:Nat):Int)=Big.fr x1 x2:=(Big.fq_odd hy hadj hr0).2
    exact zbd Tryz.results141 (p223,c224,p225,c226) trivial (zD 1 ty41 rfl rfl (.t2 .nil)) (zD 0 ty41 rfl rfl (.t2 .nil)) (zk rfl) (by rw [hz1,hz2]) (ho:=(.n:PickO _ _ _)) ((.e (j:=1) rfl (by rw [hz1]) (.e (j:=0) rfl (by rw [hz2]) .n)):SelR _ _ _)
   ·
    refine zt<|zd<|zg<|zxa (.c (i:=1) rfl (.c (i:=0) rfl (.c (i:=0) rfl (.c (i:=0) rfl .n))))<|zba (OW:=[boxA b3 41 [wz.b,wz.l],boxA b4 41 [wz.b,wz.l]]) (O:=[boxA b2 41 [.bool (decide (x2<0)),.slice p2 ((ya ((x2).natAbs)).length) c2],boxA b1 41 [.bool (decide (x1<0)),.slice p1 ((ya ((x1).natAbs)).length) c1]]) 11 mixed (.then .ret) kr<|e_pv 0 rfl rfl (zf yg rfl sz4 rfl rfl)<|e_uw 1 rfl rfl (ze 3 ty4 rfl rfl rfl)<|e_pv 2 rfl rfl (zf yg rfl sz4 rfl rfl)<|e_uw 3 rfl rfl (ze 2 ty4 rfl rfl rfl)<|e_pv 4 rfl rfl (zRa yo rfl rfl)<|e_dm 5 rfl rfl rfl<|e_pv 7 rfl rfl (zf yg rfl sz4 rfl rfl)<|e_uw 8 rfl rfl (ze 2 ty4 rfl rfl rfl)<|e_dm 9 rfl rfl rfl<|e_one 6 (zE rfl rfl rfl rfl (.c rfl (.c rfl .n)) ce114 (zHa (s:=decide (decide (x1<0)≠decide (x2<0))) (a:=((x1).natAbs) / ((x2).natAbs)) (p:=p310) (cap:=c311)) (.c (j:=1) rfl .n) ?_)
    rintro ⟨p227,c228⟩ -
    dsimp only [aq,nq,cq]
    refine e_one 10 (zE rfl rfl rfl rfl (.c rfl (.c rfl .n)) ce114 (zHa (s:=decide (x2<0)) (a:=(((x1).natAbs)%((x2).natAbs))) (p:=p214) (cap:=c215)) (.c (j:=1) rfl .n) ?_)
    rintro ⟨p229,c230⟩ -
    dsimp only [aq,nq,cq]
    refine e_one 11 (zy kr rfl rfl rfl rfl rfl sz41 rfl (.t2 .nil) ?_)
    refine zbb (zga (i:=1) rfl)<|e_one 12 (zy kr rfl rfl rfl rfl rfl sz41 rfl (.t2 .nil) ?_)
    refine e_pv 13 rfl rfl (zb rfl)<|zX kr<|zd<|zK ?_
    have hsg:(decide (decide (x1<0)≠decide (x2<0)))=false:=decide_eq_false hadj
    have hz1:Big.sg (decide (decide (x1<0)≠decide (x2<0))) ((x1.natAbs / x2.natAbs:Nat):Int)=Big.fq x1 x2:=by rw [hsg];exact (Big.fq_same hy (Decidable.not_not.1 hadj)).1
    have hz2:Big.sg (decide (x2<0)) ((x1.natAbs%x2.natAbs:Nat):Int)=Big.fr x1 x2:=(Big.fq_same hy (Decidable.not_not.1 hadj)).2
    exact zbd Tryz.results141 (p227,c228,p229,c230) trivial (zD 1 ty41 rfl rfl (.t2 .nil)) (zD 0 ty41 rfl rfl (.t2 .nil)) (zk rfl) (by rw [hz1,hz2]) (ho:=(.n:PickO _ _ _)) ((.e (j:=1) rfl (by rw [hz1]) (.e (j:=0) rfl (by rw [hz2]) .n)):SelR _ _ _)
  ·
   refine e_no<|e_no<|e_no<|e_no<|e_no<|e_p (zl rfl rfl)<|zh<|zd<|zXa rfl rfl<|zt<|zd<|zg<|zxa (.c (i:=1) rfl (.c (i:=0) rfl (.c (i:=0) rfl (.c (i:=0) rfl .n))))<|zba (OW:=[boxA b3 41 [wz.b,wz.l],boxA b4 41 [wz.b,wz.l]]) (O:=[boxA b2 41 [.bool (decide (x2<0)),.slice p2 ((ya ((x2).natAbs)).length) c2],boxA b1 41 [.bool (decide (x1<0)),.slice p1 ((ya ((x1).natAbs)).length) c1]]) 11 mixed (.then .ret) kr<|e_pv 0 rfl rfl (zf yg rfl sz4 rfl rfl)<|e_uw 1 rfl rfl (ze 3 ty4 rfl rfl rfl)<|e_pv 2 rfl rfl (zf yg rfl sz4 rfl rfl)<|e_uw 3 rfl rfl (ze 2 ty4 rfl rfl rfl)<|e_pv 4 rfl rfl (zRa yo rfl rfl)<|e_dm 5 rfl rfl rfl<|e_pv 7 rfl rfl (zf yg rfl sz4 rfl rfl)<|e_uw 8 rfl rfl (ze 2 ty4 rfl rfl rfl)<|e_dm 9 rfl rfl rfl<|e_one 6 (zE rfl rfl rfl rfl (.c rfl (.c rfl .n)) ce114 (zHa (s:=decide (decide (x1<0)≠decide (x2<0))) (a:=((x1).natAbs) / ((x2).natAbs)) (p:=p310) (cap:=c311)) (.c (j:=1) rfl .n) ?_)
   rintro ⟨p231,c232⟩ -
   dsimp only [aq,nq,cq]
   refine e_one 10 (zE rfl rfl rfl rfl (.c rfl (.c rfl .n)) ce114 (zHa (s:=decide (x2<0)) (a:=(((x1).natAbs)%((x2).natAbs))) (p:=p214) (cap:=c215)) (.c (j:=1) rfl .n) ?_)
   rintro ⟨p233,c234⟩ -
   dsimp only [aq,nq,cq]
   refine e_one 11 (zy kr rfl rfl rfl rfl rfl sz41 rfl (.t2 .nil) ?_)
   refine zbb (zga (i:=1) rfl)<|e_one 12 (zy kr rfl rfl rfl rfl rfl sz41 rfl (.t2 .nil) ?_)
   refine e_pv 13 rfl rfl (zb rfl)<|zX kr<|zd<|zK ?_
   have hr0:x1.natAbs%x2.natAbs=0:=yv.1 om
   have hz:Big.sg (decide (decide (x1<0)≠decide (x2<0))) ((x1.natAbs / x2.natAbs:Nat):Int)=Big.fq x1 x2∧Big.sg (decide (x2<0)) ((x1.natAbs%x2.natAbs:Nat):Int)=Big.fr x1 x2:=by by_cases h:decide (x1<0)=decide (x2<0);rw [decide_eq_false (not_not_intro h)];exact Big.fq_same hy h;rw [decide_eq_true h];exact Big.fq_even hy h hr0
   exact zbd Tryz.results141 (p231,c232,p233,c234) trivial (zD 1 ty41 rfl rfl (.t2 .nil)) (zD 0 ty41 rfl rfl (.t2 .nil)) (zk rfl) (by rw [hz.1,hz.2]) (ho:=(.n:PickO _ _ _)) ((.e (j:=1) rfl (by rw [hz.1]) (.e (j:=0) rfl (by rw [hz.2]) .n)):SelR _ _ _)
theorem zGb {w1:Wd} {w2:Wd} {x1:Int} {x2:Int} (hb1:yl x1≤1099511627776) (hb2:yl x2≤1099511627776) (hy:x2≠0):Con ye 141 [.agg #[w1.b,w1.l],.agg #[w2.b,w2.l]] [] [zF w1 (x1),zF w2 (x2)] (Y:=(Wd)×(Wd)) (fun y=>True) (fun y=> .tuple #[.agg #[y.1.b,y.1.l],.agg #[y.2.b,y.2.l],.int .i64 (0)]) (fun y=>[]) (fun y=>[zF y.1 (Big.fq x1 x2),zF y.2 (Big.fr x1 x2)]):=by
  exact zpf (zCc (fun p1 c1 p2 c2=>zfe hb1 hb2 hy))
theorem zJd {x1:Int} {x2:Int} {p1:Option Addr} {c1:Nat} {p2:Option Addr} {c2:Nat}:Con ye 142 [.agg #[.bool (decide (x1<0)),.slice p1 ((ya ((x1).natAbs)).length) c1],.agg #[.bool (decide (x2<0)),.slice p2 ((ya ((x2).natAbs)).length) c2]] [] [slF (rI .u32) p1 c1 (ya ((x1).natAbs)),slF (rI .u32) p2 c2 (ya ((x2).natAbs))] (Y:=Unit) (fun y=>True) (fun y=> .int .i64 (Big.cmp x1 x2)) (fun y=>[]) (fun y=>[]):=by
 refine zn Tryz.func142 rfl rfl rfl (fun c=> ?_)
 show RunC _ _ _ _ _ [(0,.agg #[.bool (decide (x1<0)),.slice p1 ((ya ((x1).natAbs)).length) c1]),(1,.agg #[.bool (decide (x2<0)),.slice p2 ((ya ((x2).natAbs)).length) c2])] [] [slF (rI .u32) p1 c1 (ya ((x1).natAbs)),slF (rI .u32) p2 c2 (ya ((x2).natAbs))]
 refine zia 0 rfl (fun hL0=> ?_)
 refine zia 1 rfl (fun hL1=> ?_)
 have hcb:=Big.cmp_b (x1.natAbs:Int) (x2.natAbs:Int)
 refine zg<|za<|zO rfl rfl (zS rfl rfl) (fun b1=> ?_)
 refine zO rfl rfl (zS rfl rfl) (fun b2=> ?_)
 refine e_p (zb rfl)<|zh<|zd<|zg<|zg<|zba (OW:=[]) (O:=[boxA b2 41 [.bool (decide (x2<0)),.slice p2 ((ya ((x2).natAbs)).length) c2],boxA b1 41 [.bool (decide (x1<0)),.slice p1 ((ya ((x1).natAbs)).length) c1]]) 100000 mixed (.then (.then .ret)) kr<|e_u 0 rfl rfl (zc 1 ty41 rfl rfl (.t2 .nil))<|e_u 2 rfl rfl (zc 0 ty41 rfl rfl (.t2 .nil))<|e_one 1 (zwa rfl rfl rfl rfl (.c rfl .n) ce120 (zSc (z:=x1) (p:=p1) (cap:=c1)) (.c (j:=0) rfl .n) ?_)
 refine e_one 3 (zwa rfl rfl rfl rfl (.c rfl .n) ce120 (zSc (z:=x2) (p:=p2) (cap:=c2)) (.c (j:=1) rfl .n) ?_)
 refine e_pv 4 rfl rfl (zb rfl)<|e_pv 5 rfl rfl (zb rfl)<|zX kr<|zd<|zg<|za<|e_mv rfl<|e_mv rfl<|e_p (zQa rfl rfl)<|zh<|zd<|zG rfl (fun hs=> ?_) (fun hs=> ?_)
 ·
  refine zg<|za<|e_mv rfl<|e_mv rfl<|zN rfl rfl (.c rfl (.c rfl .n)) ce148 (zPc (u:=(x1).sign) (v:=(x2).sign)) (.n)<|e_p (zb rfl)<|zh<|zd<|zK<|zi ?_
  exact zx Tryz.results142 () trivial (zk rfl) (by rw [Big.cmp_signs hs]) (ho:=(.n:PickO _ _ _)) (.n:SelR _ _ _)
 ·
  refine zt<|zd<|zg<|zba (OW:=[]) (O:=[boxA b2 41 [.bool (decide (x2<0)),.slice p2 ((ya ((x2).natAbs)).length) c2],boxA b1 41 [.bool (decide (x1<0)),.slice p1 ((ya ((x1).natAbs)).length) c1]]) 100000 mixed (.then .ret) kr<|e_u 0 rfl rfl (zc 1 ty41 rfl rfl (.t2 .nil))<|e_u 2 rfl rfl (zc 0 ty41 rfl rfl (.t2 .nil))<|e_one 1 (zE rfl rfl rfl rfl (.c rfl .n) ce117 (zEb (z:=x1) (p:=p1) (cap:=c1)) (.c (j:=0) rfl .n) ?_)
  rintro ⟨p23,c24⟩ -
  dsimp only [aq,nq,cq]
  refine e_one 3 (zE rfl rfl rfl rfl (.c rfl .n) ce117 (zEb (z:=x2) (p:=p2) (cap:=c2)) (.c (j:=2) rfl .n) ?_)
  rintro ⟨p25,c26⟩ -
  dsimp only [aq,nq,cq]
  refine e_one 4 (zwa rfl rfl rfl rfl (.c rfl (.c rfl .n)) ce136 (zbc (a:=(x1).natAbs) (b:=(x2).natAbs) (p1:=p23) (c1:=c24) (p2:=p25) (c2:=c26)) (.c (j:=1) rfl (.c (j:=0) rfl .n)) ?_)
  refine e_pv 5 rfl rfl (zb rfl)<|zX kr<|zd<|zg<|zg<|za<|e_p (zf yg rfl sz4 rfl rfl)<|e_ru (ze 1 ty4 rfl rfl rfl)<|zh<|zd<|zZa rfl (fun hn=> ?_) (fun hn=> ?_)
  ·
   refine zg<|za<|e_mv rfl<|e_p (zwd (z:=(-(Big.cmp (((x1).natAbs):Int) (((x2).natAbs):Int)))) rfl (w64 om))<|e_p (zb rfl)<|zh<|zd<|zK<|zi ?_
   exact zx Tryz.results142 () trivial (zk rfl) (by rw [Big.cmp_neg hs (by simpa using hn)]) (ho:=(.n:PickO _ _ _)) (.n:SelR _ _ _)
  ·
   refine zt<|zd<|zg<|za<|e_mv rfl<|e_p (zb rfl)<|zh<|zd<|zK ?_
   exact zx Tryz.results142 () trivial (zk rfl) (by rw [Big.cmp_pos hs (by simpa using hn)]) (ho:=(.n:PickO _ _ _)) (.n:SelR _ _ _)
theorem zge {s:Bool} {p:Option Addr} {n:Nat} {cap:Nat} {l:List Int} (hn:l.length=n) (hln:yl (yd s l)≤1099511627776):Con ye 139 [.agg #[.bool s,.slice p n cap]] [] [slF (rI .u32) p cap l] (Y:=(Option Addr)×Nat) (fun y=>True) (fun y=> .agg #[.bool (decide ((- yd s l)<0)),.slice (y.1) ((ya ((- yd s l).natAbs)).length) (y.2)]) (fun y=>[]) (fun y=>[slF (rI .u32) (y.1) (y.2) (ya ((- yd s l).natAbs))]):=by
 refine zn Tryz.func139 rfl rfl rfl (fun c=> ?_)
 show RunC _ _ _ _ _ [(0,.agg #[.bool s,.slice p n cap])] [] [slF (rI .u32) p cap l]
 refine zia 0 rfl (fun hL0=> ?_)
 refine zUa 0 rfl (fun hE0=> ?_)
 have hnn:Big.nn l:=fun g hg=>(zH.1 (hE0 g hg)).1
 unfold yl at hln
 refine zg<|za<|zO rfl rfl (zS rfl rfl) (fun b1=> ?_)
 refine zO rfl rfl (zp zr41 rfl) (fun b2=> ?_)
 refine zh<|zd<|zg<|zba (OW:=[boxA b2 41 [wz.b,wz.l]]) (O:=[boxA b1 41 [.bool s,.slice p n cap]]) 7 mixed (.then .ret) kr<|e_pv 0 rfl rfl (zf yg rfl sz4 rfl rfl)<|e_uw 1 rfl rfl (ze 1 ty4 rfl rfl rfl)<|e_pv 2 rfl rfl (zJb rfl)<|e_uw 3 rfl rfl (zc 1 ty41 rfl rfl (.t2 .nil))<|e_one 4 (zE rfl rfl rfl rfl (.c rfl .n) ce117 (zSa (s:=s) (p:=p) (n:=n) (cap:=cap) (l:=l) (hn:=ass)) (.c (j:=0) rfl .n) ?_)
 rintro ⟨p23,c24⟩ -
 dsimp only [aq,nq,cq]
 refine e_one 5 (zE rfl rfl rfl rfl (.c rfl .n) ce153 (zpd (a:=(yd s l).natAbs) (p:=p23) (cap:=c24) (hb:=cbb)) (.c (j:=0) rfl .n) ?_)
 rintro ⟨p25,c26⟩ -
 dsimp only [aq,nq,cq]
 refine e_one 6 (zE rfl rfl rfl rfl (.c rfl (.c rfl .n)) ce114 (zHa (s:= !s) (a:=((yd s l).natAbs)) (p:=p25) (cap:=c26)) (.c (j:=0) rfl .n) ?_)
 rintro ⟨p27,c28⟩ -
 dsimp only [aq,nq,cq]
 refine e_one 7 (zy kr rfl rfl rfl rfl rfl sz41 rfl (.t2 .nil) ?_)
 refine zX kr<|zd<|zK ?_
 have hz:Big.sg (!s) ((yd s l).natAbs:Int)= - yd s l:=by rw [Big.sg_not,Big.sg_raw hnn]
 exact zx Tryz.results139 (p27,c28) trivial (zD 0 ty41 rfl rfl (.t2 .nil)) (by rw [hz]) (ho:=(.n:PickO _ _ _)) ((.e (j:=0) rfl (by rw [hz]) .n):SelR _ _ _)
theorem zqd {z:Int} {p:Option Addr} {cap:Nat} (hln:yl z≤1099511627776):Con ye 139 [.agg #[.bool (decide ((z)<0)),.slice (p) ((ya ((z).natAbs)).length) (cap)]] [] [slF (rI .u32) (p) (cap) (ya ((z).natAbs))] (Y:=(Option Addr)×(Nat)) (fun y=>True) (fun y=> .agg #[.bool (decide ((- z)<0)),.slice (y.1) ((ya ((- z).natAbs)).length) (y.2)]) (fun y=>[]) (fun y=>[slF (rI .u32) (y.1) (y.2) (ya ((- z).natAbs))]):=by
  have h:= @zge (decide ((z)<0)) p (ya (z).natAbs).length cap (ya (z).natAbs) rfl (by rw [yq];exact hln)
  rw [yq] at h
  exact h
theorem zrd {w1:Wd} {x1:Int} (hln:yl x1≤1099511627776):Con ye 139 [.agg #[w1.b,w1.l]] [] [zF w1 (x1)] (Y:=(Wd)) (fun y=>True) (fun y=> .agg #[y.b,y.l]) (fun y=>[]) (fun y=>[zF y (- x1)]):=by
  exact zYb (zte (fun p c=>zqd hln))
end Go.Proofs.YtjcpbhlijoigfaaGreat.Sp
namespace Go.Proofs.YtjcpbhlijoigfaaGreat.Sp
open Go
set_option linter.unusedVariables false
set_option maxRecDepth 100000
set_option maxHeartbeats 8000000
theorem zQe {s:Bool} {p1:Option Addr} {n1:Nat} {c1:Nat} {l1:List Int} {t:Bool} {p2:Option Addr} {n2:Nat} {c2:Nat} {l2:List Int} (hn1:l1.length=n1) (hn2:l2.length=n2) (hm1:n1≤1048576) (hm2:n2≤1048576):Con ye 124 [.agg #[.bool s,.slice p1 n1 c1,.bool t,.slice p2 n2 c2]] [] [slF (rI .u32) p1 c1 l1,slF (rI .u32) p2 c2 l2] (Y:=Unit) (fun y=>True) (fun y=> .bool (decide (Big.qok ((s,l1),(t,l2))))) (fun y=>[]) (fun y=>[]):=by
 refine zn Tryz.func124 rfl rfl rfl (fun c=> ?_)
 show RunC _ _ _ _ _ [(0,.agg #[.bool s,.slice p1 n1 c1,.bool t,.slice p2 n2 c2])] [] [slF (rI .u32) p1 c1 l1,slF (rI .u32) p2 c2 l2]
 refine zia 0 rfl (fun hL0=> ?_)
 refine zUa 0 rfl (fun hE0=> ?_)
 refine zia 1 rfl (fun hL1=> ?_)
 refine zUa 1 rfl (fun hE1=> ?_)
 have hnn1:Big.nn l1:=fun g hg=>(zH.1 (hE0 g hg)).1
 have hnn2:Big.nn l2:=fun g hg=>(zH.1 (hE1 g hg)).1
 have hb1:yl (yd s l1)≤n1:=by have:=Big.zVa (s:=s) hnn1;omega
 have hb2:yl (yd t l2)≤n2:=by have:=Big.zVa (s:=t) hnn2;omega
 refine zg<|za<|zO rfl rfl (zS rfl rfl) (fun b1=> ?_)
 refine e_p (zb rfl)<|zh<|zd<|zg<|zFa (X:=Unit) (fun x=>True) (fun x=>[(18,.bool (decide (¬(Big.canon s l1∧Big.canon t l2∧0<yd t l2)))),(2,.bool false),(1,.pointer (some ⟨b1,0,none⟩))]) (fun x=>[boxA b1 43 [.bool s,.slice p1 n1 c1,.bool t,.slice p2 n2 c2]]) (fun x=>[slF (rI .u32) p1 c1 l1,slF (rI .u32) p2 c2 l2]) ?_ ?_
 ·
  refine za<|e_p (zf yb rfl sz41 rfl rfl)<|e_ru (zc 0 ty41 rfl rfl (.t2 .nil))<|zN rfl rfl (.c rfl .n) ce138 (zQc (s:=s) (p:=p1) (n:=n1) (cap:=c1) (l:=l1) (hn:=ass)) (.c (j:=0) rfl .n)<|e_p (ztb rfl)<|zW rfl rfl (zV rfl) (fun h2=> ?_) (fun h2=> ?_)
  ·
   refine e_no<|e_no<|e_no<|e_no<|e_p (zl rfl rfl)<|e_mv rfl<|e_no<|e_no<|e_no<|e_no<|e_p (zl rfl rfl)<|zh ?_
   exact zea () (show True from by first|trivial|omega|simp_all) ((.e rfl (congrArg Value.bool (by simp_all)) (.c rfl (.c rfl .n))):SubM _ _) (ho:=((.c (i:=0) rfl .n):PickO _ _ _)) ((.of [0,1] rfl):SelR _ _ _)
  ·
   refine e_p (zf yb rfl sz41 rfl rfl)<|e_ru (zc 0 ty41 rfl rfl (.s2 (.t2 .nil)))<|zN rfl rfl (.c rfl .n) ce138 (zQc (s:=t) (p:=p2) (n:=n2) (cap:=c2) (l:=l2) (hn:=ass)) (.c (j:=1) rfl .n)<|e_p (ztb rfl)<|e_p (zl rfl rfl)<|zW rfl rfl (zV rfl) (fun h3=> ?_) (fun h3=> ?_)
   ·
    refine e_no<|e_no<|e_no<|e_no<|e_p (zl rfl rfl)<|zh ?_
    exact zea () (show True from by first|trivial|omega|simp_all) ((.e rfl (congrArg Value.bool (by simp_all)) (.c rfl (.c rfl .n))):SubM _ _) (ho:=((.c (i:=0) rfl .n):PickO _ _ _)) ((.of [0,1] rfl):SelR _ _ _)
   ·
    refine e_p (zf yb rfl sz41 rfl rfl)<|e_ru (zc 0 ty41 rfl rfl (.s2 (.t2 .nil)))<|zN rfl rfl (.c rfl .n) ce120 (zxe (s:=t) (p:=p2) (n:=n2) (cap:=c2) (l:=l2) (hn:=ass)) (.c (j:=1) rfl .n)<|e_p (zJa rfl rfl)<|e_p (zl rfl rfl)<|zh ?_
    exact zea () (show True from by first|trivial|omega|simp_all) ((.e rfl (congrArg Value.bool (by exact decide_eq_decide.2 (Big.sgn_le (Decidable.not_not.1 ‹_›) (Decidable.not_not.1 ‹_›)))) (.c rfl (.c rfl .n))):SubM _ _) (ho:=((.c (i:=0) rfl .n):PickO _ _ _)) ((.of [0,1] rfl):SelR _ _ _)
 ·
  rintro ⟨⟩ -
  try dsimp only
  refine zG rfl (fun hc=> ?_) (fun hc=> ?_)
  ·
   refine zg<|za<|e_p (zb rfl)<|zh<|zd<|zK<|zi ?_
   exact zx Tryz.results124 () trivial (zk rfl) (congrArg Value.bool (decide_eq_false (fun h=>hc ⟨h.1,h.2.1,h.2.2.1⟩))) (ho:=(.n:PickO _ _ _)) (.n:SelR _ _ _)
  ·
   refine zt<|zd<|zg<|za<|e_p (zf yb rfl sz41 rfl rfl)<|e_ru (zc 0 ty41 rfl rfl (.t2 .nil))<|e_p (zf yb rfl sz41 rfl rfl)<|e_ru (zc 0 ty41 rfl rfl (.s2 (.t2 .nil)))<|zJ rfl rfl (.c rfl (.c rfl .n)) ce140 (zCf (s:=s) (p1:=p1) (n1:=n1) (c1:=c1) (l1:=l1) (t:=t) (p2:=p2) (n2:=n2) (c2:=c2) (l2:=l2) (hn1:=ass) (hn2:=ass) (hb1:=by first|rfl|assumption|omega|(rw [yi];omega)|(decide +kernel)) (hb2:=by first|rfl|assumption|omega|(rw [yi];omega)|(decide +kernel))) (.c (j:=0) rfl (.c (j:=1) rfl .n)) ?_
   rintro ⟨p34,c35⟩ -
   dsimp only [aq,nq,cq]
   refine zJ rfl rfl (.c rfl .n) ce84 (zmg (z:=1) (hz:=by first|rfl|assumption|omega|(rw [yi];omega)|(decide +kernel))) (.n) ?_
   rintro ⟨p26,c27⟩ -
   dsimp only [aq,nq,cq]
   refine zN rfl rfl (.c rfl (.c rfl .n)) ce142 (zJd (x1:=((Nat.gcd (yd s l1).natAbs (yd t l2).natAbs:Nat):Int)) (x2:=1) (p1:=p34) (c1:=c35) (p2:=p26) (c2:=c27)) (.c (j:=1) rfl (.c (j:=0) rfl .n))<|e_p (zCa rfl rfl)<|e_p (zb rfl)<|zh<|zd<|zK ?_
   exact zx Tryz.results124 () trivial (zk rfl) (congrArg Value.bool (decide_eq_decide.2 (Big.qok_gcd (x:=((s,l1),(t,l2))) (Decidable.not_not.1 hc)).symm)) (ho:=(.n:PickO _ _ _)) (.n:SelR _ _ _)
theorem zcc {w1:Wd} {w2:Wd} {x1:Int} {x2:Int} (hl1:yl x1≤1048576) (hl2:yl x2≤1048576) (hd:x2≠0):Con ye 121 [.agg #[w1.b,w1.l],.agg #[w2.b,w2.l]] [] [zF w1 x1,zF w2 x2] (Y:=Wd×Wd) (fun y=>True) (fun y=> .agg #[y.1.b,y.1.l,y.2.b,y.2.l]) (fun y=>[]) (fun y=>[qF true y.1 y.2 (Rat.divInt x1 x2)]):=by
 refine zn Tryz.func121 rfl rfl rfl (fun c=> ?_)
 show RunC _ _ _ _ _ [(0,.agg #[w1.b,w1.l]),(1,.agg #[w2.b,w2.l])] [] [zF w1 x1,zF w2 x2]
 refine zg<|za<|zO rfl rfl (zS rfl rfl) (fun b1=> ?_)
 refine zO rfl rfl (zS rfl rfl) (fun b2=> ?_)
 refine zO rfl rfl (zp zr43 rfl) (fun b3=> ?_)
 refine zh<|zd<|zg<|zg<|za<|e_ru (zc 1 ty41 rfl rfl (.t2 .nil))<|zN rfl rfl (.c rfl .n) ce120 (zTc (w1:=w2) (x1:=x2)) (.c (j:=1) rfl .n)<|e_p (zaa rfl rfl)<|zh<|zd<|zG rfl (fun hneg=> ?_) (fun hneg=> ?_)
 ·
  have hs:x2<0:=by rcases Big.sign_le (x:=x2) with h|h|h <;> omega
  have hgp:=Big.gcd_pos_right (n:= -x1) (d:= -x2) om
  have hgl:=Big.zFd (n:= -x1) (d:= -x2) om
  rw [yi] at hgl
  obtain ⟨hr1,hr2⟩:=Big.red_flip (n:=x1) hs
  refine zxa (.c (i:=2) rfl (.c (i:=1) rfl (.c (i:=0) rfl .n)))<|zba (OW:=[boxA b1 41 [w1.b,w1.l],boxA b2 41 [w2.b,w2.l]]) (O:=[boxA b3 43 (cw [wz,wz])]) 4 mixed (.then .ret) kr<|e_uw 0 rfl rfl (zc 0 ty41 rfl rfl (.t2 .nil))<|e_uw 2 rfl rfl (zc 1 ty41 rfl rfl (.t2 .nil))<|e_one 1 (zE rfl rfl rfl rfl (.c rfl .n) ce139 (zrd (w1:=w1) (x1:=x1) (hln:=by first|rfl|assumption|omega|(rw [yi];omega)|(decide +kernel))) (.c (j:=0) rfl .n) ?_)
  rintro w34 -
  dsimp only [aq,nq,cq]
  refine e_one 3 (zE rfl rfl rfl rfl (.c rfl .n) ce139 (zrd (w1:=w2) (x1:=x2) (hln:=by first|rfl|assumption|omega|(rw [yi];omega)|(decide +kernel))) (.c (j:=2) rfl .n) ?_)
  rintro w35 -
  dsimp only [aq,nq,cq]
  refine e_one 4 (zy kr rfl rfl rfl rfl rfl sz41 rfl (.t2 .nil) ?_)
  refine zbb (zga (i:=1) rfl)<|e_one 5 (zy kr rfl rfl rfl rfl rfl sz41 rfl (.t2 .nil) ?_)
  refine zX kr<|zd<|zg<|za<|e_ru (zc 1 ty41 rfl rfl (.t2 .nil))<|e_ru (zc 0 ty41 rfl rfl (.t2 .nil))<|zJ rfl rfl (.c rfl (.c rfl .n)) ce140 (zze (w1:=w34) (w2:=w35) (x1:= - x1) (x2:= - x2) (hb1:=by first|rfl|assumption|omega|(rw [yi];omega)|(decide +kernel)) (hb2:=by first|rfl|assumption|omega|(rw [yi];omega)|(decide +kernel))) (.c (j:=1) rfl (.c (j:=0) rfl .n)) ?_
  rintro w36 -
  dsimp only [aq,nq,cq]
  refine zO rfl rfl (zp zr41 rfl) (fun b7=> ?_)
  refine zo 0 rfl rfl rfl rfl rfl sz41 rfl (.t2 .nil) .z<|zh<|zd<|zg<|za<|e_ru (zc 2 ty41 rfl rfl (.t2 .nil))<|e_ru (zc 0 ty41 rfl rfl (.t2 .nil))<|zJ rfl rfl (.c rfl (.c rfl .n)) ce141 (zGb (w1:=w34) (w2:=w36) (x1:= - x1) (x2:=((Nat.gcd (- x1).natAbs (- x2).natAbs:Nat):Int)) (hb1:=by first|rfl|assumption|omega|(rw [yi];omega)|(decide +kernel)) (hb2:=by first|rfl|assumption|omega|(rw [yi];omega)|(decide +kernel)) (hy:=by first|rfl|assumption|omega|(rw [yi];omega)|(decide +kernel))) (.c (j:=2) rfl (.c (j:=0) rfl .n)) ?_
  rintro ⟨w38,w49⟩ -
  dsimp only [aq,nq,cq]
  refine e_mv rfl<|e_p (zC rfl rfl)<|e_p (zC rfl rfl)<|e_p (zC rfl rfl)<|zo 2 rfl rfl rfl rfl rfl sz41 rfl (.t2 .nil) (.s (.s .z))<|zh<|zd<|zg<|za<|e_ru (zc 1 ty41 rfl rfl (.t2 .nil))<|e_ru (zc 0 ty41 rfl rfl (.t2 .nil))<|zJ rfl rfl (.c rfl (.c rfl .n)) ce141 (zGb (w1:=w35) (w2:=w36) (x1:= - x2) (x2:=((Nat.gcd (- x1).natAbs (- x2).natAbs:Nat):Int)) (hb1:=by first|rfl|assumption|omega|(rw [yi];omega)|(decide +kernel)) (hb2:=by first|rfl|assumption|omega|(rw [yi];omega)|(decide +kernel)) (hy:=by first|rfl|assumption|omega|(rw [yi];omega)|(decide +kernel))) (.c (j:=3) rfl (.c (j:=2) rfl .n)) ?_
  rintro ⟨w310,w411⟩ -
  dsimp only [aq,nq,cq]
  refine e_mv rfl<|e_p (zC rfl rfl)<|e_p (zC rfl rfl)<|e_p (zC rfl rfl)<|zo 1 rfl rfl rfl rfl rfl sz41 rfl (.t2 .nil) (.s .z)<|zh<|zd<|zg<|za<|e_ru (zc 2 ty41 rfl rfl (.t2 .nil))<|e_ru (zc 1 ty41 rfl rfl (.t2 .nil))<|e_p (zM zr43 rfl yb (.c sz41 (.c sz41 .n)) (.c rfl (.c rfl .n)) (.c rfl rfl rfl (.t2 .nil) (.c rfl rfl rfl (.s2 (.t2 .nil)) .n)))<|zo 3 rfl rfl rfl rfl rfl sz43 rfl (.t4 .nil) (.s (.s (.s .z)))<|zh<|zd<|zK<|zOb (qF true w38 w310 (Rat.divInt x1 x2)) (qF_close 2 0 rfl rfl (by exact ⟨hr1,hr2,Nat.le_trans (Big.hq_divInt hd) om⟩)) ?_
  exact zx Tryz.results121 (w38,w310) trivial (zD 3 ty43 rfl rfl (.t4 .nil)) rfl (ho:=(.n:PickO _ _ _)) ((.c (j:=0) rfl .n):SelR _ _ _)
 ·
  have hs:0<x2:=by rcases Big.sign_le (x:=x2) with h|h|h <;> omega
  have hgp:=Big.gcd_pos_right (n:=x1) (d:=x2) om
  have hgl:=Big.zFd (n:=x1) (d:=x2) om
  obtain ⟨hr1,hr2⟩:=Big.red_pos (n:=x1) hs
  refine zt<|zd<|zg<|za<|e_ru (zc 2 ty41 rfl rfl (.t2 .nil))<|e_ru (zc 1 ty41 rfl rfl (.t2 .nil))<|zJ rfl rfl (.c rfl (.c rfl .n)) ce140 (zze (w1:=w1) (w2:=w2) (x1:=x1) (x2:=x2) (hb1:=by first|rfl|assumption|omega|(rw [yi];omega)|(decide +kernel)) (hb2:=by first|rfl|assumption|omega|(rw [yi];omega)|(decide +kernel))) (.c (j:=0) rfl (.c (j:=1) rfl .n)) ?_
  rintro w312 -
  dsimp only [aq,nq,cq]
  refine zO rfl rfl (zp zr41 rfl) (fun b13=> ?_)
  refine zo 0 rfl rfl rfl rfl rfl sz41 rfl (.t2 .nil) .z<|zh<|zd<|zg<|za<|e_ru (zc 3 ty41 rfl rfl (.t2 .nil))<|e_ru (zc 0 ty41 rfl rfl (.t2 .nil))<|zJ rfl rfl (.c rfl (.c rfl .n)) ce141 (zGb (w1:=w1) (w2:=w312) (x1:=x1) (x2:=((Nat.gcd x1.natAbs x2.natAbs:Nat):Int)) (hb1:=by first|rfl|assumption|omega|(rw [yi];omega)|(decide +kernel)) (hb2:=by first|rfl|assumption|omega|(rw [yi];omega)|(decide +kernel)) (hy:=by first|rfl|assumption|omega|(rw [yi];omega)|(decide +kernel))) (.c (j:=1) rfl (.c (j:=0) rfl .n)) ?_
  rintro ⟨w314,w415⟩ -
  dsimp only [aq,nq,cq]
  refine e_mv rfl<|e_p (zC rfl rfl)<|e_p (zC rfl rfl)<|e_p (zC rfl rfl)<|zo 3 rfl rfl rfl rfl rfl sz41 rfl (.t2 .nil) (.s (.s (.s .z)))<|zh<|zd<|zg<|za<|e_ru (zc 2 ty41 rfl rfl (.t2 .nil))<|e_ru (zc 0 ty41 rfl rfl (.t2 .nil))<|zJ rfl rfl (.c rfl (.c rfl .n)) ce141 (zGb (w1:=w2) (w2:=w312) (x1:=x2) (x2:=((Nat.gcd x1.natAbs x2.natAbs:Nat):Int)) (hb1:=by first|rfl|assumption|omega|(rw [yi];omega)|(decide +kernel)) (hb2:=by first|rfl|assumption|omega|(rw [yi];omega)|(decide +kernel)) (hy:=by first|rfl|assumption|omega|(rw [yi];omega)|(decide +kernel))) (.c (j:=4) rfl (.c (j:=2) rfl .n)) ?_
  rintro ⟨w316,w417⟩ -
  dsimp only [aq,nq,cq]
  refine e_mv rfl<|e_p (zC rfl rfl)<|e_p (zC rfl rfl)<|e_p (zC rfl rfl)<|zo 2 rfl rfl rfl rfl rfl sz41 rfl (.t2 .nil) (.s (.s .z))<|zh<|zd<|zg<|za<|e_ru (zc 3 ty41 rfl rfl (.t2 .nil))<|e_ru (zc 2 ty41 rfl rfl (.t2 .nil))<|e_p (zM zr43 rfl yb (.c sz41 (.c sz41 .n)) (.c rfl (.c rfl .n)) (.c rfl rfl rfl (.t2 .nil) (.c rfl rfl rfl (.s2 (.t2 .nil)) .n)))<|zo 1 rfl rfl rfl rfl rfl sz43 rfl (.t4 .nil) (.s .z)<|zh<|zd<|zK<|zOb (qF true w314 w316 (Rat.divInt x1 x2)) (qF_close 2 0 rfl rfl (by exact ⟨hr1,hr2,Nat.le_trans (Big.hq_divInt hd) om⟩)) ?_
  exact zx Tryz.results121 (w314,w316) trivial (zD 1 ty43 rfl rfl (.t4 .nil)) rfl (ho:=(.n:PickO _ _ _)) ((.c (j:=0) rfl .n):SelR _ _ _)
theorem zRe {s:Bool} {p1:Option Addr} {n1:Nat} {c1:Nat} {l1:List Int} {t:Bool} {p2:Option Addr} {n2:Nat} {c2:Nat} {l2:List Int} (hn1:l1.length=n1) (hn2:l2.length=n2) (hm1:n1≤1048576) (hm2:n2≤1048576) (hq:Big.qok ((s,l1),(t,l2))):Con ye 125 [.agg #[.bool s,.slice p1 n1 c1,.bool t,.slice p2 n2 c2]] [] [slF (rI .u32) p1 c1 l1,slF (rI .u32) p2 c2 l2] (Y:=(Option Addr)×Nat×(Option Addr)×Nat) (fun y=>True) (fun y=> .agg #[.bool (decide (((yw ((s,l1),(t,l2))).num)<0)),.slice (y.1) ((ya (((yw ((s,l1),(t,l2))).num).natAbs)).length) (y.2.1),.bool (decide ((((yw ((s,l1),(t,l2))).den:Nat):Int)<0)),.slice (y.2.2.1) ((ya ((((yw ((s,l1),(t,l2))).den:Nat):Int).natAbs)).length) (y.2.2.2)]) (fun y=>[]) (fun y=>[slF (rI .u32) (y.1) (y.2.1) (ya (((yw ((s,l1),(t,l2))).num).natAbs)),slF (rI .u32) (y.2.2.1) (y.2.2.2) (ya ((((yw ((s,l1),(t,l2))).den:Nat):Int).natAbs))]):=by
 refine zn Tryz.func125 rfl rfl rfl (fun c=> ?_)
 show RunC _ _ _ _ _ [(0,.agg #[.bool s,.slice p1 n1 c1,.bool t,.slice p2 n2 c2])] [] [slF (rI .u32) p1 c1 l1,slF (rI .u32) p2 c2 l2]
 refine zia 0 rfl (fun hL0=> ?_)
 refine zUa 0 rfl (fun hE0=> ?_)
 refine zia 1 rfl (fun hL1=> ?_)
 refine zUa 1 rfl (fun hE1=> ?_)
 have hnn1:Big.nn l1:=fun g hg=>(zH.1 (hE0 g hg)).1
 have hnn2:Big.nn l2:=fun g hg=>(zH.1 (hE1 g hg)).1
 have hb1:yl (yd s l1)≤n1:=by have:=Big.zVa (s:=s) hnn1;omega
 have hb2:yl (yd t l2)≤n2:=by have:=Big.zVa (s:=t) hnn2;omega
 refine zg<|za<|zO rfl rfl (zS rfl rfl) (fun b1=> ?_)
 refine zO rfl rfl (zp zr43 rfl) (fun b2=> ?_)
 refine zh<|zd<|zg<|zba (OW:=[boxA b2 43 (cw [wz,wz])]) (O:=[boxA b1 43 [.bool s,.slice p1 n1 c1,.bool t,.slice p2 n2 c2]]) 9 mixed (.then .ret) kr<|e_pv 0 rfl rfl (zf yb rfl sz41 rfl rfl)<|e_uw 1 rfl rfl (zc 1 ty41 rfl rfl (.t2 .nil))<|e_pv 4 rfl rfl (zf yb rfl sz41 rfl rfl)<|e_uw 5 rfl rfl (zc 1 ty41 rfl rfl (.s2 (.t2 .nil)))<|e_one 2 (zE rfl rfl rfl rfl (.c rfl .n) ce139 (zge (s:=s) (p:=p1) (n:=n1) (cap:=c1) (l:=l1) (hn:=ass) (hln:=by first|rfl|assumption|omega|(rw [yi];omega)|(decide +kernel))) (.c (j:=0) rfl .n) ?_)
 rintro ⟨p23,c24⟩ -
 dsimp only [aq,nq,cq]
 refine e_one 3 (zE rfl rfl rfl rfl (.c rfl .n) ce139 (zqd (z:= - yd s l1) (p:=p23) (cap:=c24) (hln:=by first|rfl|assumption|omega|(rw [yi];omega)|(decide +kernel))) (.c (j:=0) rfl .n) ?_)
 rintro ⟨p25,c26⟩ -
 dsimp only [aq,nq,cq]
 refine e_one 6 (zE rfl rfl rfl rfl (.c rfl .n) ce139 (zge (s:=t) (p:=p2) (n:=n2) (cap:=c2) (l:=l2) (hn:=ass) (hln:=by first|rfl|assumption|omega|(rw [yi];omega)|(decide +kernel))) (.c (j:=3) rfl .n) ?_)
 rintro ⟨p27,c28⟩ -
 dsimp only [aq,nq,cq]
 refine e_one 7 (zE rfl rfl rfl rfl (.c rfl .n) ce139 (zqd (z:= - yd t l2) (p:=p27) (cap:=c28) (hln:=by first|rfl|assumption|omega|(rw [yi];omega)|(decide +kernel))) (.c (j:=0) rfl .n) ?_)
 rintro ⟨p29,c210⟩ -
 dsimp only [aq,nq,cq]
 refine e_pv 8 rfl rfl (zM zr43 rfl yb (.c sz41 (.c sz41 .n)) (.c rfl (.c rfl .n)) (.c rfl rfl rfl (.t2 .nil) (.c rfl rfl rfl (.s2 (.t2 .nil)) .n)))<|e_one 9 (zy kr rfl rfl rfl rfl rfl sz43 rfl (.t4 .nil) ?_)
 refine zX kr<|zd<|zK ?_
 have hz1: - - yd s l1=(yw ((s,l1),(t,l2))).num:=by rw [Int.neg_neg];exact (Big.qv_parts hq).1.symm
 have hz2: - - yd t l2=(((yw ((s,l1),(t,l2))).den:Nat):Int):=by rw [Int.neg_neg];exact (Big.qv_parts hq).2.symm
 exact zx Tryz.results125 (p25,c26,p29,c210) trivial (zD 0 ty43 rfl rfl (.t4 .nil)) (by rw [hz1,hz2]) (ho:=(.n:PickO _ _ _)) ((.e (j:=2) rfl (by rw [hz1]) (.e (j:=0) rfl (by rw [hz2]) .n)):SelR _ _ _)
theorem zhe {s:Bool} {p1:Option Addr} {n1:Nat} {c1:Nat} {l1:List Int} {t:Bool} {p2:Option Addr} {n2:Nat} {c2:Nat} {l2:List Int} (hn1:l1.length=n1) (hn2:l2.length=n2) (hm1:n1≤1048576) (hm2:n2≤1048576) (hq:Big.qok ((s,l1),(t,l2))) (hl:yt (yw ((s,l1),(t,l2)))≤1048576):Con ye 125 [.agg #[.bool (s),.slice (p1) (n1) (c1),.bool (t),.slice (p2) (n2) (c2)]] [] [slF (rI .u32) (p1) (c1) (l1),slF (rI .u32) (p2) (c2) (l2)] (Y:=(Wd)×(Wd)) (fun y=>True) (fun y=> .agg #[y.1.b,y.1.l,y.2.b,y.2.l]) (fun y=>[]) (fun y=>[qF true y.1 y.2 (yw ((s,l1),(t,l2)))]):=by
  exact con_qr (zRe hn1 hn2 hm1 hm2 hq) rfl rfl hl
theorem zUc {z:Int} (hz: -9223372036854775808≤z∧z≤9223372036854775807):Con ye 93 [.int .i64 z] [] [] (Y:=Wd×Wd) (fun y=>True) (fun y=> .agg #[y.1.b,y.1.l,y.2.b,y.2.l]) (fun y=>[]) (fun y=>[qF true y.1 y.2 ((z:Int):Rat)]):=by
 refine zn Tryz.func93 rfl rfl rfl (fun c=> ?_)
 show RunC _ _ _ _ _ [(0,.int .i64 z)] [] []
 refine zg<|za<|zO rfl rfl (zp zr43 rfl) (fun b1=> ?_)
 refine zh<|zd<|zg<|za<|e_mv rfl<|zJ rfl rfl (.c rfl .n) ce84 (zAf (z:=z) (hz:=ass)) (.n) ?_
 rintro w32 -
 dsimp only [aq,nq,cq]
 refine zJ rfl rfl (.c rfl .n) ce84 (zAf (z:=1) (hz:=by first|rfl|assumption|omega|(rw [yi];omega)|(decide +kernel))) (.n) ?_
 rintro w33 -
 dsimp only [aq,nq,cq]
 refine e_p (zM zr43 rfl yb (.c sz41 (.c sz41 .n)) (.c rfl (.c rfl .n)) (.c rfl rfl rfl (.t2 .nil) (.c rfl rfl rfl (.s2 (.t2 .nil)) .n)))<|zo 0 rfl rfl rfl rfl rfl sz43 rfl (.t4 .nil) .z<|zh<|zd<|zK<|zOb (qF true w32 w33 ((z:Int):Rat)) (qF_close 1 0 rfl rfl (by exact ⟨(Rat.num_intCast z).symm,by rw [Rat.den_intCast];rfl,Nat.le_trans (Big.hq_64 hz.1 hz.2) dd⟩)) ?_
 exact zx Tryz.results93 (w32,w33) trivial (zD 0 ty43 rfl rfl (.t4 .nil)) rfl (ho:=(.n:PickO _ _ _)) ((.c (j:=0) rfl .n):SelR _ _ _)
theorem zSe {s:Bool} {p1:Option Addr} {n1:Nat} {c1:Nat} {l1:List Int} {t:Bool} {p2:Option Addr} {n2:Nat} {c2:Nat} {l2:List Int} (hn1:l1.length=n1) (hn2:l2.length=n2) (hm1:n1≤1048576) (hm2:n2≤1048576):Con ye 98 [.agg #[.bool s,.slice p1 n1 c1,.bool t,.slice p2 n2 c2]] [] [slF (rI .u32) p1 c1 l1,slF (rI .u32) p2 c2 l2] (Y:=Wd×Wd) (fun y=>True) (fun y=> .agg #[y.1.b,y.1.l,y.2.b,y.2.l]) (fun y=>[]) (fun y=>[qF true y.1 y.2 (yw ((s,l1),(t,l2)))]):=by
 refine zn Tryz.func98 rfl rfl rfl (fun c=> ?_)
 show RunC _ _ _ _ _ [(0,.agg #[.bool s,.slice p1 n1 c1,.bool t,.slice p2 n2 c2])] [] [slF (rI .u32) p1 c1 l1,slF (rI .u32) p2 c2 l2]
 refine zia 0 rfl (fun hL0=> ?_)
 refine zUa 0 rfl (fun hE0=> ?_)
 refine zia 1 rfl (fun hL1=> ?_)
 refine zUa 1 rfl (fun hE1=> ?_)
 have hnn1:Big.nn l1:=fun g hg=>(zH.1 (hE0 g hg)).1
 have hnn2:Big.nn l2:=fun g hg=>(zH.1 (hE1 g hg)).1
 have hb1:yl (yd s l1)≤n1:=by have:=Big.zVa (s:=s) hnn1;omega
 have hb2:yl (yd t l2)≤n2:=by have:=Big.zVa (s:=t) hnn2;omega
 refine zg<|za<|zO rfl rfl (zS rfl rfl) (fun b1=> ?_)
 refine zO rfl rfl (zp zr43 rfl) (fun b2=> ?_)
 refine zh<|zd<|zg<|zg<|za<|e_ru (zc 1 ty43 rfl rfl (.t4 .nil))<|zN rfl rfl (.c rfl .n) ce124 (zQe (s:=s) (p1:=p1) (n1:=n1) (c1:=c1) (l1:=l1) (t:=t) (p2:=p2) (n2:=n2) (c2:=c2) (l2:=l2) (hn1:=ass) (hn2:=ass) (hm1:=ass) (hm2:=ass)) (.c (j:=0) rfl (.c (j:=1) rfl .n))<|zh<|zd<|zG rfl (fun hq=> ?_) (fun hq=> ?_)
 ·
  have hrp:=Big.raw_parts (x:=((s,l1),(t,l2))) hnn1 hnn2 hq
  have hqp:=Big.qv_parts (x:=((s,l1),(t,l2))) hq
  have hl:yt (yw ((s,l1),(t,l2)))≤1048576:=by unfold yt;rw [hqp.1,hqp.2];dsimp only;omega
  refine zg<|za<|e_ru (zc 1 ty43 rfl rfl (.t4 .nil))<|zJ rfl rfl (.c rfl .n) ce125 (zhe (s:=s) (p1:=p1) (n1:=n1) (c1:=c1) (l1:=l1) (t:=t) (p2:=p2) (n2:=n2) (c2:=c2) (l2:=l2) (hn1:=ass) (hn2:=ass) (hm1:=ass) (hm2:=ass) (hq:=by first|rfl|assumption|omega|(rw [yi];omega)|(decide +kernel)) (hl:=by first|rfl|assumption|omega|(rw [yi];omega)|(decide +kernel))) (.c (j:=0) rfl (.c (j:=1) rfl .n)) ?_
  rintro ⟨w33,w44⟩ -
  dsimp only [aq,nq,cq]
  refine zo 0 rfl rfl rfl rfl rfl sz43 rfl (.t4 .nil) .z<|zh<|zd<|zK<|zi ?_
  exact zx Tryz.results98 (w33,w44) trivial (zD 0 ty43 rfl rfl (.t4 .nil)) rfl (ho:=(.n:PickO _ _ _)) ((.c (j:=0) rfl .n):SelR _ _ _)
 ·
  have hz:=Big.qv_not (x:=((s,l1),(t,l2))) hq
  refine zt<|zd<|zg<|za<|zJ rfl rfl (.c rfl .n) ce93 (zUc (z:=0) (hz:=by first|rfl|assumption|omega|(rw [yi];omega)|(decide +kernel))) (.n) ?_
  rintro ⟨w35,w46⟩ -
  dsimp only [aq,nq,cq]
  refine zo 0 rfl rfl rfl rfl rfl sz43 rfl (.t4 .nil) .z<|zh<|zd<|zK ?_
  exact zx Tryz.results98 (w35,w46) trivial (zD 0 ty43 rfl rfl (.t4 .nil)) rfl (ho:=(.n:PickO _ _ _)) ((.e (j:=0) rfl (by rw [hz];rfl) .n):SelR _ _ _)
theorem zMa {k1:Bool} {u1:Wd} {v1:Wd} {q1:Rat}:Con ye 98 [.agg #[u1.b,u1.l,v1.b,v1.l]] [] [qF k1 u1 v1 (q1)] (Y:=(Wd)×(Wd)) (fun y=>True) (fun y=> .agg #[y.1.b,y.1.l,y.2.b,y.2.l]) (fun y=>[]) (fun y=>[qF true y.1 y.2 (q1)]):=by
  exact zof (fun x hx hk h1 h2 hl=>by subst hx;exact zSe rfl rfl h1 h2)
theorem zRb {k1:Bool} {u1:Wd} {v1:Wd} {q1:Rat}:Con ye 97 [.agg #[u1.b,u1.l,v1.b,v1.l]] [] [qF k1 u1 v1 q1] (Y:=Unit) (fun y=>True) (fun y=> .int .i64 (Big.sgq q1)) (fun y=>[]) (fun y=>[]):=by
 refine zn Tryz.func97 rfl rfl rfl (fun c=> ?_)
 show RunC _ _ _ _ _ [(0,.agg #[u1.b,u1.l,v1.b,v1.l])] [] [qF k1 u1 v1 q1]
 refine zg<|za<|zO rfl rfl (zS rfl rfl) (fun b1=> ?_)
 refine e_p (zb rfl)<|zh<|zd<|zg<|za<|e_ru (zc 0 ty43 rfl rfl (.t4 .nil))<|zJ rfl rfl (.c rfl .n) ce98 (zMa (k1:=k1) (u1:=u1) (v1:=v1) (q1:=q1)) (.c (j:=0) rfl .n) ?_
 rintro ⟨w32,w43⟩ -
 dsimp only [aq,nq,cq]
 refine e_p (zzc yb rfl ty41 rfl (.t2 .nil))<|zyc (qF_open 0 rfl) (fun _ _=> ?_)
 refine zN rfl rfl (.c rfl .n) ce120 (zTc (w1:=w32) (x1:=(q1).num)) (.c (j:=0) rfl .n)<|e_p (zb rfl)<|zh<|zd<|zK ?_
 exact zx Tryz.results97 () trivial (zk rfl) rfl (ho:=(.n:PickO _ _ _)) (.n:SelR _ _ _)
theorem zfg {k1:Bool} {u1:Wd} {v1:Wd} {q1:Rat} (hl:yt q1≤1048576):Con ye 126 [.agg #[u1.b,u1.l,v1.b,v1.l]] [] [qF k1 u1 v1 q1] (Y:=Wd×Wd) (fun y=>True) (fun y=> .agg #[y.1.b,y.1.l,y.2.b,y.2.l]) (fun y=>[]) (fun y=>[qF true y.1 y.2 (- q1)]):=by
 refine zn Tryz.func126 rfl rfl rfl (fun c=> ?_)
 show RunC _ _ _ _ _ [(0,.agg #[u1.b,u1.l,v1.b,v1.l])] [] [qF k1 u1 v1 q1]
 have a1:=ym q1
 have a2:=yn q1
 refine zg<|za<|zO rfl rfl (zS rfl rfl) (fun b1=> ?_)
 refine zO rfl rfl (zp zr43 rfl) (fun b2=> ?_)
 refine zh<|zd<|zg<|za<|e_ru (zc 1 ty43 rfl rfl (.t4 .nil))<|zJ rfl rfl (.c rfl .n) ce98 (zMa (k1:=k1) (u1:=u1) (v1:=v1) (q1:=q1)) (.c (j:=0) rfl .n) ?_
 rintro ⟨w33,w44⟩ -
 dsimp only [aq,nq,cq]
 refine zo 1 rfl rfl rfl rfl rfl sz43 rfl (.t4 .nil) (.s .z)<|zh<|zd<|zg<|zba (OW:=[boxA b2 43 (cw [wz,wz])]) (O:=[boxA b1 43 (cw [w33,w44])]) 6 mixed (.then .ret) kr<|e_pv 0 rfl rfl (zf yb rfl sz41 rfl rfl)<|e_uw 1 rfl rfl (zc 1 ty41 rfl rfl (.t2 .nil))<|e_pv 3 rfl rfl (zf yb rfl sz41 rfl rfl)<|e_uw 4 rfl rfl (zc 1 ty41 rfl rfl (.s2 (.t2 .nil)))<|zKb (qF_open 0 rfl) (fun _ _=> ?_)
 refine e_one 2 (zE rfl rfl rfl rfl (.c rfl .n) ce139 (zrd (w1:=w33) (x1:=(q1).num) (hln:=by first|rfl|assumption|omega|(rw [yi];omega)|(decide +kernel))) (.c (j:=0) rfl .n) ?_)
 rintro w35 -
 dsimp only [aq,nq,cq]
 refine e_pv 5 rfl rfl (zM zr43 rfl yb (.c sz41 (.c sz41 .n)) (.c rfl (.c rfl .n)) (.c rfl rfl rfl (.t2 .nil) (.c rfl rfl rfl (.s2 (.t2 .nil)) .n)))<|e_one 6 (zy kr rfl rfl rfl rfl rfl sz43 rfl (.t4 .nil) ?_)
 refine zX kr<|zd<|zK<|zOb (qF true w35 w44 (- q1)) (qF_close 0 2 rfl rfl (by exact ⟨(Rat.neg_num q1).symm,by rw [Rat.neg_den],by rw [Big.hq_neg];exact hl⟩)) ?_
 exact zx Tryz.results126 (w35,w44) trivial (zD 0 ty43 rfl rfl (.t4 .nil)) rfl (ho:=(.n:PickO _ _ _)) ((.c (j:=0) rfl .n):SelR _ _ _)
theorem zoc {k1:Bool} {u1:Wd} {v1:Wd} {q1:Rat} {k2:Bool} {u2:Wd} {v2:Wd} {q2:Rat} (hl:yt q1+yt q2+1≤1048576):Con ye 101 [.agg #[u1.b,u1.l,v1.b,v1.l],.agg #[u2.b,u2.l,v2.b,v2.l]] [] [qF k1 u1 v1 q1,qF k2 u2 v2 q2] (Y:=Wd×Wd) (fun y=>True) (fun y=> .agg #[y.1.b,y.1.l,y.2.b,y.2.l]) (fun y=>[]) (fun y=>[qF true y.1 y.2 (q1+q2)]):=by
 refine zn Tryz.func101 rfl rfl rfl (fun c=> ?_)
 show RunC _ _ _ _ _ [(0,.agg #[u1.b,u1.l,v1.b,v1.l]),(1,.agg #[u2.b,u2.l,v2.b,v2.l])] [] [qF k1 u1 v1 q1,qF k2 u2 v2 q2]
 have a1:=ym q1
 have a2:=yn q1
 have a3:=ym q2
 have a4:=yn q2
 have b1:=yu q1.num q2.den
 have b2:=yu q2.num q1.den
 have b3:=Big.zMc (q1.num*q2.den) (q2.num*q1.den)
 have b4:=yu (q1.den:Int) q2.den
 have b5:=yu q1.num q2.num
 refine zg<|za<|zO rfl rfl (zS rfl rfl) (fun b1=> ?_)
 refine zO rfl rfl (zS rfl rfl) (fun b2=> ?_)
 refine zO rfl rfl (zp zr43 rfl) (fun b3=> ?_)
 refine zh<|zd<|zg<|zxa (.c (i:=2) rfl (.c (i:=1) rfl (.c (i:=0) rfl .n)))<|zba (OW:=[boxA b1 43 (cw [u1,v1]),boxA b2 43 (cw [u2,v2])]) (O:=[boxA b3 43 (cw [wz,wz])]) 4 mixed (.then .ret) kr<|e_uw 0 rfl rfl (zc 0 ty43 rfl rfl (.t4 .nil))<|e_uw 2 rfl rfl (zc 1 ty43 rfl rfl (.t4 .nil))<|e_one 1 (zE rfl rfl rfl rfl (.c rfl .n) ce98 (zMa (k1:=k1) (u1:=u1) (v1:=v1) (q1:=q1)) (.c (j:=0) rfl .n) ?_)
 rintro ⟨w34,w45⟩ -
 dsimp only [aq,nq,cq]
 refine e_one 3 (zE rfl rfl rfl rfl (.c rfl .n) ce98 (zMa (k1:=k2) (u1:=u2) (v1:=v2) (q1:=q2)) (.c (j:=2) rfl .n) ?_)
 rintro ⟨w36,w47⟩ -
 dsimp only [aq,nq,cq]
 refine e_one 4 (zy kr rfl rfl rfl rfl rfl sz43 rfl (.t4 .nil) ?_)
 refine zbb (zga (i:=1) rfl)<|e_one 5 (zy kr rfl rfl rfl rfl rfl sz43 rfl (.t4 .nil) ?_)
 refine zX kr<|zd<|zg<|zxa (.c (i:=2) rfl (.c (i:=0) rfl (.c (i:=0) rfl .n)))<|zba (OW:=[boxA b3 43 (cw [wz,wz])]) (O:=[boxA b2 43 (cw [w36,w47]),boxA b1 43 (cw [w34,w45])]) 17 mixed (.then .ret) kr<|e_pv 0 rfl rfl (zf yb rfl sz41 rfl rfl)<|e_uw 1 rfl rfl (zc 2 ty41 rfl rfl (.t2 .nil))<|e_pv 2 rfl rfl (zf yb rfl sz41 rfl rfl)<|e_uw 3 rfl rfl (zc 1 ty41 rfl rfl (.s2 (.t2 .nil)))<|e_pv 5 rfl rfl (zf yb rfl sz41 rfl rfl)<|e_uw 6 rfl rfl (zc 1 ty41 rfl rfl (.t2 .nil))<|e_pv 7 rfl rfl (zf yb rfl sz41 rfl rfl)<|e_uw 8 rfl rfl (zc 2 ty41 rfl rfl (.s2 (.t2 .nil)))<|e_pv 11 rfl rfl (zf yb rfl sz41 rfl rfl)<|e_uw 12 rfl rfl (zc 2 ty41 rfl rfl (.s2 (.t2 .nil)))<|e_pv 13 rfl rfl (zf yb rfl sz41 rfl rfl)<|e_uw 14 rfl rfl (zc 1 ty41 rfl rfl (.s2 (.t2 .nil)))<|zKb (qF_open 1 rfl) (fun _ _=> ?_)
 refine zKb (qF_open 2 rfl) (fun _ _=> ?_)
 refine e_one 4 (zE rfl rfl rfl rfl (.c rfl (.c rfl .n)) ce86 (zFb (w1:=w34) (w2:=w47) (x1:=(q1).num) (x2:=(((q2).den:Nat):Int)) (hb1:=by first|rfl|assumption|omega|(rw [yi];omega)|(decide +kernel)) (hb2:=by first|rfl|assumption|omega|(rw [yi];omega)|(decide +kernel))) (.c (j:=2) rfl (.c (j:=1) rfl .n)) ?_)
 rintro w38 -
 dsimp only [aq,nq,cq]
 refine e_one 9 (zE rfl rfl rfl rfl (.c rfl (.c rfl .n)) ce86 (zFb (w1:=w36) (w2:=w45) (x1:=(q2).num) (x2:=(((q1).den:Nat):Int)) (hb1:=by first|rfl|assumption|omega|(rw [yi];omega)|(decide +kernel)) (hb2:=by first|rfl|assumption|omega|(rw [yi];omega)|(decide +kernel))) (.c (j:=1) rfl (.c (j:=4) rfl .n)) ?_)
 rintro w39 -
 dsimp only [aq,nq,cq]
 refine e_one 10 (zE rfl rfl rfl rfl (.c rfl (.c rfl .n)) ce85 (zbg (w1:=w38) (w2:=w39) (x1:=((q1).num)*(((q2).den:Nat):Int)) (x2:=((q2).num)*(((q1).den:Nat):Int)) (hb1:=by first|rfl|assumption|omega|(rw [yi];omega)|(decide +kernel)) (hb2:=by first|rfl|assumption|omega|(rw [yi];omega)|(decide +kernel))) (.c (j:=1) rfl (.c (j:=0) rfl .n)) ?_)
 rintro w310 -
 dsimp only [aq,nq,cq]
 refine e_one 15 (zE rfl rfl rfl rfl (.c rfl (.c rfl .n)) ce86 (zFb (w1:=w45) (w2:=w47) (x1:=(((q1).den:Nat):Int)) (x2:=(((q2).den:Nat):Int)) (hb1:=by first|rfl|assumption|omega|(rw [yi];omega)|(decide +kernel)) (hb2:=by first|rfl|assumption|omega|(rw [yi];omega)|(decide +kernel))) (.c (j:=6) rfl (.c (j:=4) rfl .n)) ?_)
 rintro w311 -
 dsimp only [aq,nq,cq]
 refine e_one 16 (zE rfl rfl rfl rfl (.c rfl (.c rfl .n)) ce121 (zcc (w1:=w310) (w2:=w311) (x1:=(((q1).num)*(((q2).den:Nat):Int))+(((q2).num)*(((q1).den:Nat):Int))) (x2:=(((q1).den:Nat):Int)*(((q2).den:Nat):Int)) (hl1:=by first|rfl|assumption|omega|(rw [yi];omega)|(decide +kernel)) (hl2:=by first|rfl|assumption|omega|(rw [yi];omega)|(decide +kernel)) (hd:=by exact Int.mul_ne_zero (yx q1) (yx q2))) (.c (j:=1) rfl (.c (j:=0) rfl .n)) ?_)
 rintro ⟨w312,w413⟩ -
 dsimp only [aq,nq,cq]
 refine e_one 17 (zy kr rfl rfl rfl rfl rfl sz43 rfl (.t4 .nil) ?_)
 refine zX kr<|zd<|zK ?_
 exact zx Tryz.results101 (w312,w413) trivial (zD 0 ty43 rfl rfl (.t4 .nil)) rfl (ho:=(.n:PickO _ _ _)) ((.e (j:=0) rfl (by rw [Big.add_parts]) .n):SelR _ _ _)
theorem zVb {k1:Bool} {u1:Wd} {v1:Wd} {q1:Rat} {k2:Bool} {u2:Wd} {v2:Wd} {q2:Rat} (hl:yt q1+yt q2+1≤1048576):Con ye 102 [.agg #[u1.b,u1.l,v1.b,v1.l],.agg #[u2.b,u2.l,v2.b,v2.l]] [] [qF k1 u1 v1 q1,qF k2 u2 v2 q2] (Y:=Wd×Wd) (fun y=>True) (fun y=> .agg #[y.1.b,y.1.l,y.2.b,y.2.l]) (fun y=>[]) (fun y=>[qF true y.1 y.2 (q1*q2)]):=by
 refine zn Tryz.func102 rfl rfl rfl (fun c=> ?_)
 show RunC _ _ _ _ _ [(0,.agg #[u1.b,u1.l,v1.b,v1.l]),(1,.agg #[u2.b,u2.l,v2.b,v2.l])] [] [qF k1 u1 v1 q1,qF k2 u2 v2 q2]
 have a1:=ym q1
 have a2:=yn q1
 have a3:=ym q2
 have a4:=yn q2
 have b1:=yu q1.num q2.den
 have b2:=yu q2.num q1.den
 have b3:=Big.zMc (q1.num*q2.den) (q2.num*q1.den)
 have b4:=yu (q1.den:Int) q2.den
 have b5:=yu q1.num q2.num
 refine zg<|za<|zO rfl rfl (zS rfl rfl) (fun b1=> ?_)
 refine zO rfl rfl (zS rfl rfl) (fun b2=> ?_)
 refine zO rfl rfl (zp zr43 rfl) (fun b3=> ?_)
 refine zh<|zd<|zg<|zxa (.c (i:=2) rfl (.c (i:=1) rfl (.c (i:=0) rfl .n)))<|zba (OW:=[boxA b1 43 (cw [u1,v1]),boxA b2 43 (cw [u2,v2])]) (O:=[boxA b3 43 (cw [wz,wz])]) 4 mixed (.then .ret) kr<|e_uw 0 rfl rfl (zc 0 ty43 rfl rfl (.t4 .nil))<|e_uw 2 rfl rfl (zc 1 ty43 rfl rfl (.t4 .nil))<|e_one 1 (zE rfl rfl rfl rfl (.c rfl .n) ce98 (zMa (k1:=k1) (u1:=u1) (v1:=v1) (q1:=q1)) (.c (j:=0) rfl .n) ?_)
 rintro ⟨w34,w45⟩ -
 dsimp only [aq,nq,cq]
 refine e_one 3 (zE rfl rfl rfl rfl (.c rfl .n) ce98 (zMa (k1:=k2) (u1:=u2) (v1:=v2) (q1:=q2)) (.c (j:=2) rfl .n) ?_)
 rintro ⟨w36,w47⟩ -
 dsimp only [aq,nq,cq]
 refine e_one 4 (zy kr rfl rfl rfl rfl rfl sz43 rfl (.t4 .nil) ?_)
 refine zbb (zga (i:=1) rfl)<|e_one 5 (zy kr rfl rfl rfl rfl rfl sz43 rfl (.t4 .nil) ?_)
 refine zX kr<|zd<|zg<|zxa (.c (i:=2) rfl (.c (i:=0) rfl (.c (i:=0) rfl .n)))<|zba (OW:=[boxA b3 43 (cw [wz,wz])]) (O:=[boxA b2 43 (cw [w36,w47]),boxA b1 43 (cw [w34,w45])]) 11 mixed (.then .ret) kr<|e_pv 0 rfl rfl (zf yb rfl sz41 rfl rfl)<|e_uw 1 rfl rfl (zc 2 ty41 rfl rfl (.t2 .nil))<|e_pv 2 rfl rfl (zf yb rfl sz41 rfl rfl)<|e_uw 3 rfl rfl (zc 1 ty41 rfl rfl (.t2 .nil))<|e_pv 5 rfl rfl (zf yb rfl sz41 rfl rfl)<|e_uw 6 rfl rfl (zc 2 ty41 rfl rfl (.s2 (.t2 .nil)))<|e_pv 7 rfl rfl (zf yb rfl sz41 rfl rfl)<|e_uw 8 rfl rfl (zc 1 ty41 rfl rfl (.s2 (.t2 .nil)))<|zKb (qF_open 1 rfl) (fun _ _=> ?_)
 refine zKb (qF_open 2 rfl) (fun _ _=> ?_)
 refine e_one 4 (zE rfl rfl rfl rfl (.c rfl (.c rfl .n)) ce86 (zFb (w1:=w34) (w2:=w36) (x1:=(q1).num) (x2:=(q2).num) (hb1:=by first|rfl|assumption|omega|(rw [yi];omega)|(decide +kernel)) (hb2:=by first|rfl|assumption|omega|(rw [yi];omega)|(decide +kernel))) (.c (j:=2) rfl (.c (j:=0) rfl .n)) ?_)
 rintro w38 -
 dsimp only [aq,nq,cq]
 refine e_one 9 (zE rfl rfl rfl rfl (.c rfl (.c rfl .n)) ce86 (zFb (w1:=w45) (w2:=w47) (x1:=(((q1).den:Nat):Int)) (x2:=(((q2).den:Nat):Int)) (hb1:=by first|rfl|assumption|omega|(rw [yi];omega)|(decide +kernel)) (hb2:=by first|rfl|assumption|omega|(rw [yi];omega)|(decide +kernel))) (.c (j:=4) rfl (.c (j:=2) rfl .n)) ?_)
 rintro w39 -
 dsimp only [aq,nq,cq]
 refine e_one 10 (zE rfl rfl rfl rfl (.c rfl (.c rfl .n)) ce121 (zcc (w1:=w38) (w2:=w39) (x1:=((q1).num)*((q2).num)) (x2:=(((q1).den:Nat):Int)*(((q2).den:Nat):Int)) (hl1:=by first|rfl|assumption|omega|(rw [yi];omega)|(decide +kernel)) (hl2:=by first|rfl|assumption|omega|(rw [yi];omega)|(decide +kernel)) (hd:=by exact Int.mul_ne_zero (yx q1) (yx q2))) (.c (j:=1) rfl (.c (j:=0) rfl .n)) ?_)
 rintro ⟨w310,w411⟩ -
 dsimp only [aq,nq,cq]
 refine e_one 11 (zy kr rfl rfl rfl rfl rfl sz43 rfl (.t4 .nil) ?_)
 refine zX kr<|zd<|zK ?_
 exact zx Tryz.results102 (w310,w411) trivial (zD 0 ty43 rfl rfl (.t4 .nil)) rfl (ho:=(.n:PickO _ _ _)) ((.e (j:=0) rfl (by rw [Big.mul_parts]) .n):SelR _ _ _)
theorem zHb {k1:Bool} {u1:Wd} {v1:Wd} {q1:Rat} {k2:Bool} {u2:Wd} {v2:Wd} {q2:Rat} (hl:yt q1+yt q2+1≤1048576):Con ye 100 [.agg #[u1.b,u1.l,v1.b,v1.l],.agg #[u2.b,u2.l,v2.b,v2.l]] [] [qF k1 u1 v1 q1,qF k2 u2 v2 q2] (Y:=Wd×Wd) (fun y=>True) (fun y=> .agg #[y.1.b,y.1.l,y.2.b,y.2.l]) (fun y=>[]) (fun y=>[qF true y.1 y.2 (q1 - q2)]):=by
 refine zn Tryz.func100 rfl rfl rfl (fun c=> ?_)
 show RunC _ _ _ _ _ [(0,.agg #[u1.b,u1.l,v1.b,v1.l]),(1,.agg #[u2.b,u2.l,v2.b,v2.l])] [] [qF k1 u1 v1 q1,qF k2 u2 v2 q2]
 have a1:=ym q1
 have a2:=yn q1
 have a3:=ym q2
 have a4:=yn q2
 refine zg<|za<|zO rfl rfl (zS rfl rfl) (fun b1=> ?_)
 refine zO rfl rfl (zS rfl rfl) (fun b2=> ?_)
 refine zO rfl rfl (zp zr43 rfl) (fun b3=> ?_)
 refine zh<|zd<|zg<|zba (OW:=[boxA b3 43 (cw [wz,wz])]) (O:=[boxA b2 43 (cw [u2,v2]),boxA b1 43 (cw [u1,v1])]) 4 mixed (.then .ret) kr<|e_uw 0 rfl rfl (zc 2 ty43 rfl rfl (.t4 .nil))<|e_uw 1 rfl rfl (zc 1 ty43 rfl rfl (.t4 .nil))<|e_one 2 (zE rfl rfl rfl rfl (.c rfl .n) ce126 (zfg (k1:=k2) (u1:=u2) (v1:=v2) (q1:=q2) (hl:=by first|rfl|assumption|omega|(rw [yi];omega)|(decide +kernel)|(rw [Big.hq_neg];omega))) (.c (j:=1) rfl .n) ?_)
 rintro ⟨w34,w45⟩ -
 dsimp only [aq,nq,cq]
 refine e_one 3 (zE rfl rfl rfl rfl (.c rfl (.c rfl .n)) ce101 (zoc (k1:=k1) (u1:=u1) (v1:=v1) (q1:=q1) (k2:=true) (u2:=w34) (v2:=w45) (q2:= - q2) (hl:=by first|rfl|assumption|omega|(rw [yi];omega)|(decide +kernel)|(rw [Big.hq_neg];omega))) (.c (j:=1) rfl (.c (j:=0) rfl .n)) ?_)
 rintro ⟨w36,w47⟩ -
 dsimp only [aq,nq,cq]
 refine e_one 4 (zy kr rfl rfl rfl rfl rfl sz43 rfl (.t4 .nil) ?_)
 refine zX kr<|zd<|zK ?_
 exact zx Tryz.results100 (w36,w47) trivial (zD 0 ty43 rfl rfl (.t4 .nil)) rfl (ho:=(.n:PickO _ _ _)) ((.e (j:=0) rfl (by rw [Rat.sub_eq_add_neg]) .n):SelR _ _ _)
theorem zie {k1:Bool} {u1:Wd} {v1:Wd} {q1:Rat} {k2:Bool} {u2:Wd} {v2:Wd} {q2:Rat} (hl:yt q1+yt q2+1≤1048576):Con ye 99 [.agg #[u1.b,u1.l,v1.b,v1.l],.agg #[u2.b,u2.l,v2.b,v2.l]] [] [qF k1 u1 v1 q1,qF k2 u2 v2 q2] (Y:=Wd×Wd) (fun y=>True) (fun y=> .tuple #[.agg #[y.1.b,y.1.l,y.2.b,y.2.l],.int .i64 (if q2=0 then 14 else 0)]) (fun y=>[]) (fun y=>[qF (decide (q2≠0)) y.1 y.2 (q1 / q2)]):=by
 refine zn Tryz.func99 rfl rfl rfl (fun c=> ?_)
 show RunC _ _ _ _ _ [(0,.agg #[u1.b,u1.l,v1.b,v1.l]),(1,.agg #[u2.b,u2.l,v2.b,v2.l])] [] [qF k1 u1 v1 q1,qF k2 u2 v2 q2]
 have a1:=ym q1
 have a2:=yn q1
 have a3:=ym q2
 have a4:=yn q2
 have b1:=yu q1.num q2.den
 have b2:=yu (q1.den:Int) q2.num
 refine zg<|za<|zO rfl rfl (zS rfl rfl) (fun b1=> ?_)
 refine zO rfl rfl (zS rfl rfl) (fun b2=> ?_)
 refine zO rfl rfl (zp zr43 rfl) (fun b3=> ?_)
 refine e_p (zb rfl)<|zh<|zd<|zg<|zxa (.c (i:=2) rfl (.c (i:=1) rfl (.c (i:=0) rfl .n)))<|zba (OW:=[boxA b1 43 (cw [u1,v1]),boxA b2 43 (cw [u2,v2])]) (O:=[boxA b3 43 (cw [wz,wz])]) 4 mixed (.then .ret) kr<|e_uw 0 rfl rfl (zc 0 ty43 rfl rfl (.t4 .nil))<|e_uw 2 rfl rfl (zc 1 ty43 rfl rfl (.t4 .nil))<|e_one 1 (zE rfl rfl rfl rfl (.c rfl .n) ce98 (zMa (k1:=k1) (u1:=u1) (v1:=v1) (q1:=q1)) (.c (j:=0) rfl .n) ?_)
 rintro ⟨w34,w45⟩ -
 dsimp only [aq,nq,cq]
 refine e_one 3 (zE rfl rfl rfl rfl (.c rfl .n) ce98 (zMa (k1:=k2) (u1:=u2) (v1:=v2) (q1:=q2)) (.c (j:=2) rfl .n) ?_)
 rintro ⟨w36,w47⟩ -
 dsimp only [aq,nq,cq]
 refine e_one 4 (zy kr rfl rfl rfl rfl rfl sz43 rfl (.t4 .nil) ?_)
 refine zbb (zga (i:=1) rfl)<|e_one 5 (zy kr rfl rfl rfl rfl rfl sz43 rfl (.t4 .nil) ?_)
 refine zX kr<|zd<|zg<|zg<|za<|e_p (zf yb rfl sz41 rfl rfl)<|e_ru (zc 0 ty41 rfl rfl (.t2 .nil))<|zyc (qF_open 0 rfl) (fun _ _=> ?_)
 refine zN rfl rfl (.c rfl .n) ce120 (zTc (w1:=w36) (x1:=(q2).num)) (.c (j:=0) rfl .n)<|e_p (zCa rfl rfl)<|zh<|zd<|zG rfl (fun hz0=> ?_) (fun hz0=> ?_)
 ·
  have hx0:q2=0:=Rat.num_eq_zero.1 (Big.sign_zero.1 hz0)
  refine zg<|za<|e_p (zM zr43 rfl yb (.c sz41 (.c sz41 .n)) .n .n)<|zo 2 rfl rfl rfl rfl rfl sz43 rfl (.t4 .nil) (.s (.s .z))<|e_p (zb rfl)<|zh<|zd<|zK<|zi<|zOb (qF false wz wz 0) (fun g _=>qF_none g) ?_
  exact zAa Tryz.results99 (wz,wz) trivial (zD 2 ty43 rfl rfl (.t4 .nil)) (zk rfl) (by rw [if_pos hx0];rfl) (ho:=(.n:PickO _ _ _)) ((.e (j:=0) rfl (by rw [Big.div_nil hx0,decide_eq_false (not_not_intro hx0)]) .n):SelR _ _ _)
 ·
  have hx1:q2.num≠0:=fun e=>hz0 (Big.sign_zero.2 e)
  have hx0:q2≠0:=fun e=>hx1 (Rat.num_eq_zero.2 e)
  refine zt<|zd<|zg<|zxa (.c (i:=2) rfl (.c (i:=0) rfl (.c (i:=0) rfl .n)))<|zba (OW:=[boxA b3 43 (cw [wz,wz])]) (O:=[boxA b2 43 (cw [w36,w47]),boxA b1 43 (cw [w34,w45])]) 11 mixed (.then .ret) kr<|e_pv 0 rfl rfl (zf yb rfl sz41 rfl rfl)<|e_uw 1 rfl rfl (zc 2 ty41 rfl rfl (.t2 .nil))<|e_pv 2 rfl rfl (zf yb rfl sz41 rfl rfl)<|e_uw 3 rfl rfl (zc 1 ty41 rfl rfl (.s2 (.t2 .nil)))<|e_pv 5 rfl rfl (zf yb rfl sz41 rfl rfl)<|e_uw 6 rfl rfl (zc 2 ty41 rfl rfl (.s2 (.t2 .nil)))<|e_pv 7 rfl rfl (zf yb rfl sz41 rfl rfl)<|e_uw 8 rfl rfl (zc 1 ty41 rfl rfl (.t2 .nil))<|zKb (qF_open 3 rfl) (fun _ _=> ?_)
  refine e_one 4 (zE rfl rfl rfl rfl (.c rfl (.c rfl .n)) ce86 (zFb (w1:=w34) (w2:=w47) (x1:=(q1).num) (x2:=(((q2).den:Nat):Int)) (hb1:=by first|rfl|assumption|omega|(rw [yi];omega)|(decide +kernel)) (hb2:=by first|rfl|assumption|omega|(rw [yi];omega)|(decide +kernel))) (.c (j:=0) rfl (.c (j:=3) rfl .n)) ?_)
  rintro w38 -
  dsimp only [aq,nq,cq]
  refine e_one 9 (zE rfl rfl rfl rfl (.c rfl (.c rfl .n)) ce86 (zFb (w1:=w45) (w2:=w36) (x1:=(((q1).den:Nat):Int)) (x2:=(q2).num) (hb1:=by first|rfl|assumption|omega|(rw [yi];omega)|(decide +kernel)) (hb2:=by first|rfl|assumption|omega|(rw [yi];omega)|(decide +kernel))) (.c (j:=2) rfl (.c (j:=3) rfl .n)) ?_)
  rintro w39 -
  dsimp only [aq,nq,cq]
  refine e_one 10 (zE rfl rfl rfl rfl (.c rfl (.c rfl .n)) ce121 (zcc (w1:=w38) (w2:=w39) (x1:=((q1).num)*(((q2).den:Nat):Int)) (x2:=(((q1).den:Nat):Int)*((q2).num)) (hl1:=by first|rfl|assumption|omega|(rw [yi];omega)|(decide +kernel)) (hl2:=by first|rfl|assumption|omega|(rw [yi];omega)|(decide +kernel)) (hd:=by exact Int.mul_ne_zero (yx q1) hx1)) (.c (j:=1) rfl (.c (j:=0) rfl .n)) ?_)
  rintro ⟨w310,w411⟩ -
  dsimp only [aq,nq,cq]
  refine e_one 11 (zy kr rfl rfl rfl rfl rfl sz43 rfl (.t4 .nil) ?_)
  refine e_pv 12 rfl rfl (zb rfl)<|zX kr<|zd<|zK ?_
  exact zAa Tryz.results99 (w310,w411) trivial (zD 0 ty43 rfl rfl (.t4 .nil)) (zk rfl) (by rw [if_neg hx0]) (ho:=(.n:PickO _ _ _)) ((.e (j:=0) rfl (by rw [decide_eq_true hx0,Big.div_parts hx1]) .n):SelR _ _ _)
theorem zrb {k1:Bool} {u1:Wd} {v1:Wd} {q1:Rat} {k2:Bool} {u2:Wd} {v2:Wd} {q2:Rat} (hl:yt q1+yt q2+1≤1048576) (hy:q2≠0):Con ye 99 [.agg #[u1.b,u1.l,v1.b,v1.l],.agg #[u2.b,u2.l,v2.b,v2.l]] [] [qF k1 u1 v1 (q1),qF k2 u2 v2 (q2)] (Y:=(Wd)×(Wd)) (fun y=>True) (fun y=> .tuple #[.agg #[y.1.b,y.1.l,y.2.b,y.2.l],.int .i64 (0)]) (fun y=>[]) (fun y=>[qF true y.1 y.2 (q1 / q2)]):=by
  have h:= @zie k1 u1 v1 q1 k2 u2 v2 q2 hl
  rw [if_neg hy,decide_eq_true hy] at h
  exact h
end Go.Proofs.YtjcpbhlijoigfaaGreat.Sp
namespace Go.Proofs.YtjcpbhlijoigfaaGreat.Sp
open Go
set_option linter.unusedVariables false
set_option maxRecDepth 100000
set_option maxHeartbeats 8000000
theorem zjb {ex:Int} {ey:Int} (hwex: -9223372036854775808≤ex∧ex≤9223372036854775807) (hwey: -9223372036854775808≤ey∧ey≤9223372036854775807):Con ye 56 [.int .i64 ex,.int .i64 ey] [] [] (Y:=Wd×Wd×Wd×Wd) (fun y=>True) (fun y=> .agg #[y.1.b,y.1.l,y.2.1.b,y.2.1.l,y.2.2.1.b,y.2.2.1.l,y.2.2.2.b,y.2.2.2.l]) (fun y=>[]) (fun y=>[qF true y.1 y.2.1 ((Pg.pq ex ey).1),qF true y.2.2.1 y.2.2.2 ((Pg.pq ex ey).2)]):=by
 refine zn Tryz.func56 rfl rfl rfl (fun c=> ?_)
 show RunC _ _ _ _ _ [(0,.int .i64 ex),(1,.int .i64 ey)] [] []
 refine zg<|za<|zO rfl rfl (zp zr69 rfl) (fun b1=> ?_)
 refine zh<|zd<|zg<|za<|e_mv rfl<|zJ rfl rfl (.c rfl .n) ce93 (zUc (z:=ex) (hz:=ass)) (.n) ?_
 rintro ⟨w32,w43⟩ -
 dsimp only [aq,nq,cq]
 refine e_mv rfl<|zJ rfl rfl (.c rfl .n) ce93 (zUc (z:=ey) (hz:=ass)) (.n) ?_
 rintro ⟨w34,w45⟩ -
 dsimp only [aq,nq,cq]
 refine e_p (zM zr69 rfl yc (.c sz43 (.c sz43 .n)) (.c rfl (.c rfl .n)) (.c rfl rfl rfl (.t4 .nil) (.c rfl rfl rfl (.s4 (.t4 .nil)) .n)))<|zo 0 rfl rfl rfl rfl rfl sz69 rfl (.t8 .nil) .z<|zh<|zd<|zK ?_
 exact zx Tryz.results56 (w32,w43,w34,w45) trivial (zD 0 ty69 rfl rfl (.t8 .nil)) rfl (ho:=(.n:PickO _ _ _)) ((.e (j:=1) rfl (by first|rfl|exact id) (.e (j:=0) rfl (by first|rfl|exact id) .n)):SelR _ _ _)
theorem zje {wa0:Wd} {wa1:Wd} {wa2:Wd} {wa3:Wd} {qa:Pg.Q2} {wb0:Wd} {wb1:Wd} {wb2:Wd} {wb3:Wd} {qb:Pg.Q2} {K:Nat} {K2:Nat} (hpa:Pg.hp K qa) (hpb:Pg.hp K2 qb) (hK:2*(K+K2)+1≤1000000):Con ye 95 [.agg #[wa0.b,wa0.l,wa1.b,wa1.l,wa2.b,wa2.l,wa3.b,wa3.l],.agg #[wb0.b,wb0.l,wb1.b,wb1.l,wb2.b,wb2.l,wb3.b,wb3.l]] [] [qF true wa0 wa1 (qa.1),qF true wa2 wa3 (qa.2),qF true wb0 wb1 (qb.1),qF true wb2 wb3 (qb.2)] (Y:=Wd×Wd) (fun y=>True) (fun y=> .agg #[y.1.b,y.1.l,y.2.b,y.2.l]) (fun y=>[]) (fun y=>[qF true y.1 y.2 (Pg.prq qa qb)]):=by
 refine zn Tryz.func95 rfl rfl rfl (fun c=> ?_)
 show RunC _ _ _ _ _ [(0,.agg #[wa0.b,wa0.l,wa1.b,wa1.l,wa2.b,wa2.l,wa3.b,wa3.l]),(1,.agg #[wb0.b,wb0.l,wb1.b,wb1.l,wb2.b,wb2.l,wb3.b,wb3.l])] [] [qF true wa0 wa1 (qa.1),qF true wa2 wa3 (qa.2),qF true wb0 wb1 (qb.1),qF true wb2 wb3 (qb.2)]
 obtain ⟨hb1,hb2,hb3⟩:=Pg.pb hpa hpb
 obtain ⟨ha1,ha2⟩:=id hpa
 obtain ⟨ha3,ha4⟩:=id hpb
 refine zg<|za<|zO rfl rfl (zS rfl rfl) (fun b1=> ?_)
 refine zO rfl rfl (zS rfl rfl) (fun b2=> ?_)
 refine zO rfl rfl (zp zr43 rfl) (fun b3=> ?_)
 refine zh<|zd<|zg<|zba (OW:=[boxA b3 43 (cw [wz,wz])]) (O:=[boxA b2 69 (cw [wb0,wb1,wb2,wb3]),boxA b1 69 (cw [wa0,wa1,wa2,wa3])]) 11 mixed (.then .ret) kr<|e_pv 0 rfl rfl (zf yc rfl sz43 rfl rfl)<|e_uw 1 rfl rfl (zc 2 ty43 rfl rfl (.t4 .nil))<|e_pv 2 rfl rfl (zf yc rfl sz43 rfl rfl)<|e_uw 3 rfl rfl (zc 1 ty43 rfl rfl (.s4 (.t4 .nil)))<|e_pv 5 rfl rfl (zf yc rfl sz43 rfl rfl)<|e_uw 6 rfl rfl (zc 1 ty43 rfl rfl (.t4 .nil))<|e_pv 7 rfl rfl (zf yc rfl sz43 rfl rfl)<|e_uw 8 rfl rfl (zc 2 ty43 rfl rfl (.s4 (.t4 .nil)))<|e_one 4 (zE rfl rfl rfl rfl (.c rfl (.c rfl .n)) ce102 (zVb (k1:=true) (u1:=wa0) (v1:=wa1) (q1:=qa.1) (k2:=true) (u2:=wb2) (v2:=wb3) (q2:=qb.2) (hl:=cbo)) (.c (j:=0) rfl (.c (j:=3) rfl .n)) ?_)
 rintro ⟨w34,w45⟩ -
 dsimp only [aq,nq,cq]
 refine e_one 9 (zE rfl rfl rfl rfl (.c rfl (.c rfl .n)) ce102 (zVb (k1:=true) (u1:=wb0) (v1:=wb1) (q1:=qb.1) (k2:=true) (u2:=wa2) (v2:=wa3) (q2:=qa.2) (hl:=cbo)) (.c (j:=3) rfl (.c (j:=2) rfl .n)) ?_)
 rintro ⟨w36,w47⟩ -
 dsimp only [aq,nq,cq]
 refine e_one 10 (zE rfl rfl rfl rfl (.c rfl (.c rfl .n)) ce100 (zHb (k1:=true) (u1:=w34) (v1:=w45) (q1:=qa.1*qb.2) (k2:=true) (u2:=w36) (v2:=w47) (q2:=qb.1*qa.2) (hl:=cbo)) (.c (j:=1) rfl (.c (j:=0) rfl .n)) ?_)
 rintro ⟨w38,w49⟩ -
 dsimp only [aq,nq,cq]
 refine e_one 11 (zy kr rfl rfl rfl rfl rfl sz43 rfl (.t4 .nil) ?_)
 refine zX kr<|zd<|zK ?_
 exact zx Tryz.results95 (w38,w49) trivial (zD 0 ty43 rfl rfl (.t4 .nil)) rfl (ho:=(.n:PickO _ _ _)) ((.e (j:=0) rfl (by first|rfl|exact id) .n):SelR _ _ _)
theorem zFc {wa0:Wd} {wa1:Wd} {wa2:Wd} {wa3:Wd} {qa:Pg.Q2} {wb0:Wd} {wb1:Wd} {wb2:Wd} {wb3:Wd} {qb:Pg.Q2} {K:Nat} {K2:Nat} (hpa:Pg.hp K qa) (hpb:Pg.hp K2 qb) (hK:K+K2+1≤1000000):Con ye 96 [.agg #[wa0.b,wa0.l,wa1.b,wa1.l,wa2.b,wa2.l,wa3.b,wa3.l],.agg #[wb0.b,wb0.l,wb1.b,wb1.l,wb2.b,wb2.l,wb3.b,wb3.l]] [] [qF true wa0 wa1 (qa.1),qF true wa2 wa3 (qa.2),qF true wb0 wb1 (qb.1),qF true wb2 wb3 (qb.2)] (Y:=Wd×Wd×Wd×Wd) (fun y=>True) (fun y=> .agg #[y.1.b,y.1.l,y.2.1.b,y.2.1.l,y.2.2.1.b,y.2.2.1.l,y.2.2.2.b,y.2.2.2.l]) (fun y=>[]) (fun y=>[qF true y.1 y.2.1 ((Pg.awq qa qb).1),qF true y.2.2.1 y.2.2.2 ((Pg.awq qa qb).2)]):=by
 refine zn Tryz.func96 rfl rfl rfl (fun c=> ?_)
 show RunC _ _ _ _ _ [(0,.agg #[wa0.b,wa0.l,wa1.b,wa1.l,wa2.b,wa2.l,wa3.b,wa3.l]),(1,.agg #[wb0.b,wb0.l,wb1.b,wb1.l,wb2.b,wb2.l,wb3.b,wb3.l])] [] [qF true wa0 wa1 (qa.1),qF true wa2 wa3 (qa.2),qF true wb0 wb1 (qb.1),qF true wb2 wb3 (qb.2)]
 obtain ⟨ha1,ha2⟩:=id hpa
 obtain ⟨ha3,ha4⟩:=id hpb
 refine zg<|za<|zO rfl rfl (zS rfl rfl) (fun b1=> ?_)
 refine zO rfl rfl (zS rfl rfl) (fun b2=> ?_)
 refine zO rfl rfl (zp zr69 rfl) (fun b3=> ?_)
 refine zh<|zd<|zg<|zba (OW:=[boxA b3 69 (cw [wz,wz,wz,wz])]) (O:=[boxA b2 69 (cw [wb0,wb1,wb2,wb3]),boxA b1 69 (cw [wa0,wa1,wa2,wa3])]) 11 mixed (.then .ret) kr<|e_pv 0 rfl rfl (zf yc rfl sz43 rfl rfl)<|e_uw 1 rfl rfl (zc 1 ty43 rfl rfl (.t4 .nil))<|e_pv 2 rfl rfl (zf yc rfl sz43 rfl rfl)<|e_uw 3 rfl rfl (zc 2 ty43 rfl rfl (.t4 .nil))<|e_pv 5 rfl rfl (zf yc rfl sz43 rfl rfl)<|e_uw 6 rfl rfl (zc 1 ty43 rfl rfl (.s4 (.t4 .nil)))<|e_pv 7 rfl rfl (zf yc rfl sz43 rfl rfl)<|e_uw 8 rfl rfl (zc 2 ty43 rfl rfl (.s4 (.t4 .nil)))<|e_one 4 (zE rfl rfl rfl rfl (.c rfl (.c rfl .n)) ce100 (zHb (k1:=true) (u1:=wb0) (v1:=wb1) (q1:=qb.1) (k2:=true) (u2:=wa0) (v2:=wa1) (q2:=qa.1) (hl:=cbo)) (.c (j:=2) rfl (.c (j:=0) rfl .n)) ?_)
 rintro ⟨w34,w45⟩ -
 dsimp only [aq,nq,cq]
 refine e_one 9 (zE rfl rfl rfl rfl (.c rfl (.c rfl .n)) ce100 (zHb (k1:=true) (u1:=wb2) (v1:=wb3) (q1:=qb.2) (k2:=true) (u2:=wa2) (v2:=wa3) (q2:=qa.2) (hl:=cbo)) (.c (j:=4) rfl (.c (j:=2) rfl .n)) ?_)
 rintro ⟨w36,w47⟩ -
 dsimp only [aq,nq,cq]
 refine e_pv 10 rfl rfl (zM zr69 rfl yc (.c sz43 (.c sz43 .n)) (.c rfl (.c rfl .n)) (.c rfl rfl rfl (.t4 .nil) (.c rfl rfl rfl (.s4 (.t4 .nil)) .n)))<|e_one 11 (zy kr rfl rfl rfl rfl rfl sz69 rfl (.t8 .nil) ?_)
 refine zX kr<|zd<|zK ?_
 exact zx Tryz.results96 (w34,w45,w36,w47) trivial (zD 0 ty69 rfl rfl (.t8 .nil)) rfl (ho:=(.n:PickO _ _ _)) ((.e (j:=1) rfl (by first|rfl|exact id) (.e (j:=0) rfl (by first|rfl|exact id) .n)):SelR _ _ _)
theorem zpb {ba:Nat} {bb:Nat} {wa0:Wd} {wa1:Wd} {wa2:Wd} {wa3:Wd} {qa:Pg.Q2} {wb0:Wd} {wb1:Wd} {wb2:Wd} {wb3:Wd} {qb:Pg.Q2} {wd0:Wd} {wd1:Wd} {wd2:Wd} {wd3:Wd} {qd:Pg.Q2} {K:Nat} (hpa:Pg.hp 3 qa) (hpb:Pg.hp 3 qb) (hpd:Pg.hp K qd) (hK:2*K+23≤1000000):Con ye 94 [.agg #[wd0.b,wd0.l,wd1.b,wd1.l,wd2.b,wd2.l,wd3.b,wd3.l],.pointer (some ⟨ba,0,none⟩),.pointer (some ⟨bb,0,none⟩)] [] [atF ba 0 [wa0.b,wa0.l,wa1.b,wa1.l,wa2.b,wa2.l,wa3.b,wa3.l],atF bb 0 [wb0.b,wb0.l,wb1.b,wb1.l,wb2.b,wb2.l,wb3.b,wb3.l],qF true wa0 wa1 (qa.1),qF true wa2 wa3 (qa.2),qF true wb0 wb1 (qb.1),qF true wb2 wb3 (qb.2),qF true wd0 wd1 (qd.1),qF true wd2 wd3 (qd.2)] (Y:=Wd×Wd) (fun y=>True) (fun y=> .agg #[y.1.b,y.1.l,y.2.b,y.2.l]) (fun y=>[]) (fun y=>[qF true y.1 y.2 (Pg.sdq qa qb qd)]):=by
 refine zn Tryz.func94 rfl rfl rfl (fun c=> ?_)
 show RunC _ _ _ _ _ [(0,.agg #[wd0.b,wd0.l,wd1.b,wd1.l,wd2.b,wd2.l,wd3.b,wd3.l]),(1,.pointer (some ⟨ba,0,none⟩)),(2,.pointer (some ⟨bb,0,none⟩))] [] [atF ba 0 [wa0.b,wa0.l,wa1.b,wa1.l,wa2.b,wa2.l,wa3.b,wa3.l],atF bb 0 [wb0.b,wb0.l,wb1.b,wb1.l,wb2.b,wb2.l,wb3.b,wb3.l],qF true wa0 wa1 (qa.1),qF true wa2 wa3 (qa.2),qF true wb0 wb1 (qb.1),qF true wb2 wb3 (qb.2),qF true wd0 wd1 (qd.1),qF true wd2 wd3 (qd.2)]
 refine zg<|za<|zO rfl rfl (zS rfl rfl) (fun b1=> ?_)
 refine zO rfl rfl (zp zr43 rfl) (fun b2=> ?_)
 refine zh<|zd<|zg<|zba (OW:=[boxA b2 43 (cw [wz,wz])]) (O:=[boxA b1 69 (cw [wd0,wd1,wd2,wd3])]) 7 mixed (.then .ret) kr<|e_u 0 rfl rfl (zA (j:=0) 0 ty69 rfl rfl rfl (.t8 .nil))<|e_u 1 rfl rfl (zA (j:=0) 1 ty69 rfl rfl rfl (.t8 .nil))<|e_u 3 rfl rfl (zA (j:=0) 0 ty69 rfl rfl rfl (.t8 .nil))<|e_uw 4 rfl rfl (zc 1 ty69 rfl rfl (.t8 .nil))<|e_one 2 (zE rfl rfl rfl rfl (.c rfl (.c rfl .n)) ce96 (zFc (wa0:=wa0) (wa1:=wa1) (wa2:=wa2) (wa3:=wa3) (qa:=qa) (wb0:=wb0) (wb1:=wb1) (wb2:=wb2) (wb3:=wb3) (qb:=qb) (K:=3) (K2:=3) (hpa:=ass) (hpb:=ass) (hK:=by first|rfl|assumption|omega|exact Pg.hp_awq hpa hpb|exact Pg.hp_awq hpa hpd)) (.c (j:=2) rfl (.c (j:=3) rfl (.c (j:=4) rfl (.c (j:=5) rfl .n)))) ?_)
 rintro ⟨wr03,wr14,wr25,wr36⟩ -
 dsimp only [aq,nq,cq]
 refine e_one 5 (zE rfl rfl rfl rfl (.c rfl (.c rfl .n)) ce96 (zFc (wa0:=wa0) (wa1:=wa1) (wa2:=wa2) (wa3:=wa3) (qa:=qa) (wb0:=wd0) (wb1:=wd1) (wb2:=wd2) (wb3:=wd3) (qb:=qd) (K:=3) (K2:=K) (hpa:=ass) (hpb:=ass) (hK:=by first|rfl|assumption|omega|exact Pg.hp_awq hpa hpb|exact Pg.hp_awq hpa hpd)) (.c (j:=4) rfl (.c (j:=5) rfl (.c (j:=8) rfl (.c (j:=9) rfl .n)))) ?_)
 rintro ⟨wr07,wr18,wr29,wr310⟩ -
 dsimp only [aq,nq,cq]
 refine e_one 6 (zE rfl rfl rfl rfl (.c rfl (.c rfl .n)) ce95 (zje (wa0:=wr03) (wa1:=wr14) (wa2:=wr25) (wa3:=wr36) (qa:=(Pg.awq qa qb)) (wb0:=wr07) (wb1:=wr18) (wb2:=wr29) (wb3:=wr310) (qb:=(Pg.awq qa qd)) (K:=(3+3+1)) (K2:=(3+K+1)) (hpa:=by first|rfl|assumption|omega|exact Pg.hp_awq hpa hpb|exact Pg.hp_awq hpa hpd) (hpb:=by first|rfl|assumption|omega|exact Pg.hp_awq hpa hpb|exact Pg.hp_awq hpa hpd) (hK:=by first|rfl|assumption|omega|exact Pg.hp_awq hpa hpb|exact Pg.hp_awq hpa hpd)) (.c (j:=2) rfl (.c (j:=3) rfl (.c (j:=0) rfl (.c (j:=1) rfl .n)))) ?_)
 rintro ⟨w311,w412⟩ -
 dsimp only [aq,nq,cq]
 refine e_one 7 (zy kr rfl rfl rfl rfl rfl sz43 rfl (.t4 .nil) ?_)
 refine zX kr<|zd<|zK ?_
 exact zx Tryz.results94 (w311,w412) trivial (zD 0 ty43 rfl rfl (.t4 .nil)) rfl (ho:=(.n:PickO _ _ _)) ((.e (j:=0) rfl (by first|rfl|exact id) .n):SelR _ _ _)
theorem zGc {p:Option Addr} {n:Nat} {cap:Nat} {l:List Pg.Q2} {wa0:Wd} {wa1:Wd} {wa2:Wd} {wa3:Wd} {qa:Pg.Q2} {wb0:Wd} {wb1:Wd} {wb2:Wd} {wb3:Wd} {qb:Pg.Q2} {K:Nat} (hn:l.length=n) (hpa:Pg.hp 3 qa) (hpb:Pg.hp 3 qb) (hbq:Pg.bq K l) (hK:9*K+72≤500000) (hnK:n≤100000):Con ye 58 [.slice p n cap,.agg #[wa0.b,wa0.l,wa1.b,wa1.l,wa2.b,wa2.l,wa3.b,wa3.l],.agg #[wb0.b,wb0.l,wb1.b,wb1.l,wb2.b,wb2.l,wb3.b,wb3.l]] [] [slF rR p cap l,qF true wa0 wa1 (qa.1),qF true wa2 wa3 (qa.2),qF true wb0 wb1 (qb.1),qF true wb2 wb3 (qb.2)] (Y:=(Option Addr)×Nat) (fun y=>True) (fun y=> .slice (y.1) ((Pg.clL qa qb l).length) (y.2)) (fun y=>[rowA 69 rR (y.1) (y.2) (Pg.clL qa qb l)]) (fun y=>[]):=by
 refine zn Tryz.func58 rfl rfl rfl (fun c=> ?_)
 show RunC _ _ _ _ _ [(0,.slice p n cap),(1,.agg #[wa0.b,wa0.l,wa1.b,wa1.l,wa2.b,wa2.l,wa3.b,wa3.l]),(2,.agg #[wb0.b,wb0.l,wb1.b,wb1.l,wb2.b,wb2.l,wb3.b,wb3.l])] [] [slF rR p cap l,qF true wa0 wa1 (qa.1),qF true wa2 wa3 (qa.2),qF true wb0 wb1 (qb.1),qF true wb2 wb3 (qb.2)]
 refine zia 0 rfl (fun hL0=> ?_)
 refine zg<|za<|zO rfl rfl (zS rfl rfl) (fun b1=> ?_)
 refine zO rfl rfl (zS rfl rfl) (fun b2=> ?_)
 refine e_p (zb rfl)<|zh<|zd<|zg<|zhc 1 rfl (.s .z)<|zhc 0 rfl .z<|za<|e_p (zab .n (.c rfl (.c rfl .n)))<|e_p (zb rfl)<|zh<|zd<|zg<|za<|e_p (zb rfl)<|zh<|zd<|zg<|zg<|zqb 69 rR<|za<|e_mv rfl<|e_p (zQ yh rfl)<|e_mv rfl<|zh<|zd<|zv<|zqa (X:=Nat×(Option Addr)×Nat) (fun x:Nat×(Option Addr)×Nat=>x.1≤n) (fun x=>[(8,.slice (x.2.1) ((Pg.clN n qa qb l x.1).length) (x.2.2)),(20,.int .i64 ((x.1:Nat):Int)),(19,.int .i64 ((n:Nat):Int)),(18,.slice p n cap),(7,.func (.func 94) #[] #[.pointer (some ⟨b1,0,none⟩),.pointer (some ⟨b2,0,none⟩)]),(6,.slice none 0 0),(0,.slice p n cap)]) (fun x=>[rowA 69 rR (x.2.1) (x.2.2) (Pg.clN n qa qb l x.1)]) (fun x=>[atF b2 0 [wb0.b,wb0.l,wb1.b,wb1.l,wb2.b,wb2.l,wb3.b,wb3.l],atF b1 0 [wa0.b,wa0.l,wa1.b,wa1.l,wa2.b,wa2.l,wa3.b,wa3.l],slF rR p cap l,qF true wa0 wa1 (qa.1),qF true wa2 wa3 (qa.2),qF true wb0 wb1 (qb.1),qF true wb2 wb3 (qb.2)]) (fun x:Nat×(Option Addr)×Nat=>n - x.1) (0,none,0) (show 0≤n from by exact Nat.zero_le _) ((.e rfl (by first|rfl|(congr 1;omega)|simp_all) (.e rfl (by first|rfl|(congr 1;omega)|simp_all) (.of rfl))):SubM _ _) (ho:=((.e (i:=0) rfl (by first|rfl|(congr 1;omega)|simp_all) .n):PickO _ _ _)) ((.of [0,1,2,3,4,5,6] rfl):SelR _ _ _) ?_
 rintro ⟨i,p7,c7⟩ hI
 replace hI:i≤n:=hI
 try dsimp only
 refine zg<|za<|e_p (zaa rfl rfl)<|zh<|zd<|zg<|zG rfl (fun h3=> ?_) (fun h3=> ?_)
 ·
  have hm1:(i+1)%n<n:=Nat.mod_lt _ om
  have hpi:Pg.hp K (l.getD i ((0:Rat),(0:Rat))):=Pg.bq_at hbq om
  have hpj:Pg.hp K (l.getD ((i+1)%n) ((0:Rat),(0:Rat))):=Pg.bq_at hbq om
  have hsi:=Pg.hq_sdq hpa hpb hpi
  have hsj:=Pg.hq_sdq hpa hpb hpj
  obtain ⟨hpi1,hpi2⟩:=id hpi
  obtain ⟨hpj1,hpj2⟩:=id hpj
  have hsg:=Pg.sg_mul (Pg.sdq qa qb (l.getD i ((0:Rat),(0:Rat)))) (Pg.sdq qa qb (l.getD ((i+1)%n) ((0:Rat),(0:Rat))))
  have hcl:=Pg.clN_len (n:=n) (a:=qa) (b:=qb) (l:=l) i
  refine zt<|zd<|zg<|zv<|zg<|za<|e_mv rfl<|r_vl rfl rfl (zBb (x0:=(l.getD i ((0:Rat),(0:Rat)))) 2 i rfl yh sz69 rfl cbs rfl rfl (gD (d:=((0:Rat),(0:Rat))) om)) ?_
  rintro ⟨b4,o5,w6,w7,w8,w9⟩ -
  dsimp only [aq,nq,cq]
  refine zmf open_rR<|e_ru (zA (j:=0) 0 ty69 rfl rfl rfl (.t8 .nil))<|zO rfl rfl (zp zr69 rfl) (fun b10=> ?_)
  refine e_p (zb rfl)<|zo 0 rfl rfl rfl rfl rfl sz69 rfl (.t8 .nil) .z<|zh<|zd<|zg<|za<|e_mv rfl<|e_mv rfl<|e_p (zI (z:=(((i+1):Nat):Int)) rfl rfl (w64 om))<|e_mv rfl<|e_p (zQ yh rfl)<|e_p (zya (z:=((((i+1)%n):Nat):Int)) rfl rfl om (remN om om))<|r_vl rfl rfl (zBb (x0:=(l.getD ((i+1)%n) ((0:Rat),(0:Rat)))) 5 ((i+1)%n) rfl yh sz69 rfl cbs rfl rfl (gD (d:=((0:Rat),(0:Rat))) om)) ?_
  rintro ⟨b11,o12,w13,w14,w15,w16⟩ -
  dsimp only [aq,nq,cq]
  refine zmf open_rR<|e_ru (zA (j:=0) 0 ty69 rfl rfl rfl (.t8 .nil))<|zO rfl rfl (zp zr69 rfl) (fun b17=> ?_)
  refine zo 0 rfl rfl rfl rfl rfl sz69 rfl (.t8 .nil) .z<|zh<|zd<|zg<|zba (OW:=[]) (O:=[boxA b17 69 (cw [w13,w14,w15,w16]),boxA b10 69 (cw [w6,w7,w8,w9]),rowA 69 rR p7 c7 (Pg.clN n qa qb l i)]) 8 mixed (.then (.block (.then (.then (.block (.then .ret)))))) kr<|e_dm 0 rfl rfl rfl<|e_u 1 rfl rfl (zc 1 ty69 rfl rfl (.t8 .nil))<|e_dm 3 rfl rfl rfl<|e_u 4 rfl rfl (zc 0 ty69 rfl rfl (.t8 .nil))<|zdd (m':=[(37,.agg (cw [w13,w14,w15,w16]).toArray),(36,.func (.func 94) #[] #[.pointer (some ⟨b1,0,none⟩),.pointer (some ⟨b2,0,none⟩)]),(34,.agg (cw [w6,w7,w8,w9]).toArray),(33,.func (.func 94) #[] #[.pointer (some ⟨b1,0,none⟩),.pointer (some ⟨b2,0,none⟩)]),(11,.pointer (some ⟨b17,0,none⟩)),(10,.pointer (some ⟨b10,0,none⟩)),(8,.slice p7 ((Pg.clN n qa qb l i).length) c7),(20,.int .i64 ((i:Nat):Int)),(19,.int .i64 ((n:Nat):Int)),(18,.slice p n cap),(7,.func (.func 94) #[] #[.pointer (some ⟨b1,0,none⟩),.pointer (some ⟨b2,0,none⟩)]),(6,.slice none 0 0),(0,.slice p n cap)]) (R':=[qF true w13 w14 ((l.getD ((i+1)%n) ((0:Rat),(0:Rat))).1),qF true w15 w16 ((l.getD ((i+1)%n) ((0:Rat),(0:Rat))).2),qF true w6 w7 ((l.getD i ((0:Rat),(0:Rat))).1),qF true w8 w9 ((l.getD i ((0:Rat),(0:Rat))).2),atF b2 0 [wb0.b,wb0.l,wb1.b,wb1.l,wb2.b,wb2.l,wb3.b,wb3.l],atF b1 0 [wa0.b,wa0.l,wa1.b,wa1.l,wa2.b,wa2.l,wa3.b,wa3.l],slF rR p cap l,qF true wa0 wa1 (qa.1),qF true wa2 wa3 (qa.2),qF true wb0 wb1 (qb.1),qF true wb2 wb3 (qb.2)]) ((.of rfl):SubM _ _) (List.Perm.refl _) (List.Perm.refl _) ((.of [1,2,4,5,6,7,8,9,10,11,12] rfl):SelR _ _ _)<|zva (X:=Wd×Wd×Wd×Wd×Nat×Nat) (k':=0) (L':=(lb 10 1023)) (fun (u2_1,u2_2,u5_1,u5_2,u6_1,u7_1)=>([(13,.pointer (some ⟨u7_1,0,none⟩)),(12,.pointer (some ⟨u6_1,0,none⟩)),(11,.pointer (some ⟨b17,0,none⟩)),(10,.pointer (some ⟨b10,0,none⟩)),(8,.slice p7 ((Pg.clN n qa qb l i).length) c7),(20,.int .i64 ((i:Nat):Int)),(19,.int .i64 ((n:Nat):Int)),(18,.slice p n cap),(7,.func (.func 94) #[] #[.pointer (some ⟨b1,0,none⟩),.pointer (some ⟨b2,0,none⟩)]),(6,.slice none 0 0),(0,.slice p n cap)],[boxA u7_1 43 (cw [u5_1,u5_2]),boxA u6_1 43 (cw [u2_1,u2_2])],[boxA b17 69 (cw [w13,w14,w15,w16]),boxA b10 69 (cw [w6,w7,w8,w9]),rowA 69 rR p7 c7 (Pg.clN n qa qb l i)],[qF true u5_1 u5_2 (Pg.sdq qa qb (l.getD ((i+1)%n) ((0:Rat),(0:Rat)))),qF true u2_1 u2_2 (Pg.sdq qa qb (l.getD i ((0:Rat),(0:Rat)))),qF true w13 w14 ((l.getD ((i+1)%n) ((0:Rat),(0:Rat))).1),qF true w15 w16 ((l.getD ((i+1)%n) ((0:Rat),(0:Rat))).2),qF true w6 w7 ((l.getD i ((0:Rat),(0:Rat))).1),qF true w8 w9 ((l.getD i ((0:Rat),(0:Rat))).2),atF b2 0 [wb0.b,wb0.l,wb1.b,wb1.l,wb2.b,wb2.l,wb3.b,wb3.l],atF b1 0 [wa0.b,wa0.l,wa1.b,wa1.l,wa2.b,wa2.l,wa3.b,wa3.l],slF rR p cap l,qF true wa0 wa1 (qa.1),qF true wa2 wa3 (qa.2),qF true wb0 wb1 (qb.1),qF true wb2 wb3 (qb.2)])) ?_ (fun hD0=> ?_)
  ·
   rintro ⟨u2_1,u2_2,u5_1,u5_2,u6_1,u7_1⟩
   dsimp only [cw]
   refine zX kr<|zd<|zg<|zg<|za<|e_ru (zc 1 ty43 rfl rfl (.t4 .nil))<|zN rfl rfl (.c rfl .n) ce97 (zRb (k1:=true) (u1:=u2_1) (v1:=u2_2) (q1:=Pg.sdq qa qb (l.getD i ((0:Rat),(0:Rat))))) (.c (j:=1) rfl .n)<|e_p (zGa rfl rfl)<|zh<|zd<|zG rfl (fun hin=> ?_) (fun hin=> ?_)
   ·
    refine zxa (.c (i:=4) rfl (.c (i:=0) rfl (.c (i:=0) rfl (.c (i:=0) rfl (.c (i:=0) rfl .n)))))<|zba (OW:=[rowA 69 rR p7 c7 (Pg.clN n qa qb l i)]) (O:=[boxA u7_1 43 (cw [u5_1,u5_2]),boxA u6_1 43 (cw [u2_1,u2_2]),boxA b17 69 (cw [w13,w14,w15,w16]),boxA b10 69 (cw [w6,w7,w8,w9])]) 9 mixed (.then (.block (.then (.then (.block (.then .ret)))))) kr<|e_dm 0 rfl rfl rfl<|e_pv 1 rfl rfl (zf yc rfl sz43 rfl rfl)<|e_uw 2 rfl rfl (zc 4 ty43 rfl rfl (.t4 .nil))<|e_pv 4 rfl rfl (zf yc rfl sz43 rfl rfl)<|e_uw 5 rfl rfl (zc 4 ty43 rfl rfl (.s4 (.t4 .nil)))<|e_one 3 (zE rfl rfl rfl rfl (.c rfl .n) ce98 (zMa (k1:=true) (u1:=w6) (v1:=w7) (q1:=(l.getD i ((0:Rat),(0:Rat))).1)) (.c (j:=4) rfl .n) ?_)
    rintro ⟨w318,w419⟩ -
    dsimp only [aq,nq,cq]
    refine e_one 6 (zE rfl rfl rfl rfl (.c rfl .n) ce98 (zMa (k1:=true) (u1:=w8) (v1:=w9) (q1:=(l.getD i ((0:Rat),(0:Rat))).2)) (.c (j:=6) rfl .n) ?_)
    rintro ⟨w320,w421⟩ -
    dsimp only [aq,nq,cq]
    refine e_pv 7 rfl rfl (zM zr69 rfl yc (.c sz43 (.c sz43 .n)) (.c rfl (.c rfl .n)) (.c rfl rfl rfl (.t4 .nil) (.c rfl rfl rfl (.s4 (.t4 .nil)) .n)))<|e_one 8 (zTd rfl rfl rfl rfl (zgb (r:=rR) (k:=1) yh inf69 rfl dd dd dd (.c (x:=(((l.getD i ((0:Rat),(0:Rat))).1),((l.getD i ((0:Rat),(0:Rat))).2))) (cs:=[w318.b,w318.l,w419.b,w419.l,w320.b,w320.l,w421.b,w421.l]) (w318,w419,w320,w421) rfl rfl rfl (fun g hr=>⟨Holds.get 1 rfl hr,Holds.get 0 rfl hr⟩) .n)) (fun b22 _=> ?_))
    refine zCb 0 rfl .z<|e_one 9 (znd (A':=fun v:Option Addr×Nat=>rowA 69 rR v.1 v.2 ((Pg.clN n qa qb l i)++([(((l.getD i ((0:Rat),(0:Rat))).1),((l.getD i ((0:Rat),(0:Rat))).2))]))) kr rfl rfl rfl (zra 0 rfl yh inf69 dd rfl rfl cbs rfl cbs om om) ?_)
    rintro ⟨p23,c24⟩ -
    dsimp only [aq,nq,cq]
    refine e_pv 10 rfl rfl (zb rfl)<|zX kr<|zd<|zg<|zba (OW:=[]) (O:=[rowA 69 rR p23 c24 ((Pg.clN n qa qb l i)++([(((l.getD i ((0:Rat),(0:Rat))).1),((l.getD i ((0:Rat),(0:Rat))).2))])),emA,boxA u7_1 43 (cw [u5_1,u5_2]),boxA u6_1 43 (cw [u2_1,u2_2]),boxA b17 69 (cw [w13,w14,w15,w16]),boxA b10 69 (cw [w6,w7,w8,w9])]) 100000 mixed (.then (.block (.then (.then (.block (.then .ret)))))) kr<|e_u 0 rfl rfl (zc 3 ty43 rfl rfl (.t4 .nil))<|e_u 2 rfl rfl (zc 2 ty43 rfl rfl (.t4 .nil))<|e_one 1 (zwa rfl rfl rfl rfl (.c rfl .n) ce97 (zRb (k1:=true) (u1:=u2_1) (v1:=u2_2) (q1:=Pg.sdq qa qb (l.getD i ((0:Rat),(0:Rat))))) (.c (j:=4) rfl .n) ?_)
    refine e_one 3 (zwa rfl rfl rfl rfl (.c rfl .n) ce97 (zRb (k1:=true) (u1:=u5_1) (v1:=u5_2) (q1:=Pg.sdq qa qb (l.getD ((i+1)%n) ((0:Rat),(0:Rat))))) (.c (j:=3) rfl .n) ?_)
    refine e_pv 4 rfl rfl (zDa (z:=(Big.sgq (Pg.sdq qa qb (l.getD i ((0:Rat),(0:Rat))))*Big.sgq (Pg.sdq qa qb (l.getD ((i+1)%n) ((0:Rat),(0:Rat)))))) rfl rfl (w64 om))<|e_pv 5 rfl rfl (zaa rfl rfl)<|zX kr<|zd<|zG rfl (fun hcr=> ?_) (fun hcr=> ?_)
    ·
     have hne:=Pg.opp hcr
     obtain ⟨hnd,hnf,⟨hnw1,hnw2⟩,hn1,hn2,⟨hnp1,hnp2⟩⟩:=Pg.nb hsi hsj hne hpi hpj
     refine zg<|zba (OW:=[]) (O:=[rowA 69 rR p23 c24 ((Pg.clN n qa qb l i)++([(((l.getD i ((0:Rat),(0:Rat))).1),((l.getD i ((0:Rat),(0:Rat))).2))])),emA,boxA u7_1 43 (cw [u5_1,u5_2]),boxA u6_1 43 (cw [u2_1,u2_2]),boxA b17 69 (cw [w13,w14,w15,w16]),boxA b10 69 (cw [w6,w7,w8,w9])]) 9 mixed (.then (.block (.then (.then (.block (.then .ret)))))) kr<|e_u 0 rfl rfl (zc 3 ty43 rfl rfl (.t4 .nil))<|e_u 1 rfl rfl (zc 3 ty43 rfl rfl (.t4 .nil))<|e_u 2 rfl rfl (zc 2 ty43 rfl rfl (.t4 .nil))<|zdd (m':=[(61,.agg (cw [u5_1,u5_2]).toArray),(60,.agg (cw [u2_1,u2_2]).toArray),(59,.agg (cw [u2_1,u2_2]).toArray),(8,.slice p23 (((Pg.clN n qa qb l i).length)+1) c24),(11,.pointer (some ⟨b17,0,none⟩)),(10,.pointer (some ⟨b10,0,none⟩)),(20,.int .i64 ((i:Nat):Int)),(19,.int .i64 ((n:Nat):Int)),(18,.slice p n cap),(7,.func (.func 94) #[] #[.pointer (some ⟨b1,0,none⟩),.pointer (some ⟨b2,0,none⟩)]),(6,.slice none 0 0),(0,.slice p n cap)]) (R':=[slF rR (some ⟨b22,0,none⟩) 1 ([(((l.getD i ((0:Rat),(0:Rat))).1),((l.getD i ((0:Rat),(0:Rat))).2))]),qF true w320 w421 ((l.getD i ((0:Rat),(0:Rat))).2),qF true w318 w419 ((l.getD i ((0:Rat),(0:Rat))).1),qF true u5_1 u5_2 (Pg.sdq qa qb (l.getD ((i+1)%n) ((0:Rat),(0:Rat)))),qF true u2_1 u2_2 (Pg.sdq qa qb (l.getD i ((0:Rat),(0:Rat)))),qF true w13 w14 ((l.getD ((i+1)%n) ((0:Rat),(0:Rat))).1),qF true w15 w16 ((l.getD ((i+1)%n) ((0:Rat),(0:Rat))).2),qF true w6 w7 ((l.getD i ((0:Rat),(0:Rat))).1),qF true w8 w9 ((l.getD i ((0:Rat),(0:Rat))).2),atF b2 0 [wb0.b,wb0.l,wb1.b,wb1.l,wb2.b,wb2.l,wb3.b,wb3.l],atF b1 0 [wa0.b,wa0.l,wa1.b,wa1.l,wa2.b,wa2.l,wa3.b,wa3.l],slF rR p cap l,qF true wa0 wa1 (qa.1),qF true wa2 wa3 (qa.2),qF true wb0 wb1 (qb.1),qF true wb2 wb3 (qb.2)]) ((.of rfl):SubM _ _) (List.Perm.refl _) (List.Perm.refl _) ((.of [0,1,2,3,4,5,6,7,8,9,10,11,12,13,14,15] rfl):SelR _ _ _)<|zva (X:=Wd×Wd×Wd×Wd×Nat) (k':=0) (L':=(lb 11 2047)) (fun (u3_1r2,u3_2r2,u4_1r2,u4_2r2,u8_1r2)=>([(14,.pointer (some ⟨u8_1r2,0,none⟩)),(8,.slice p23 (((Pg.clN n qa qb l i).length)+1) c24),(11,.pointer (some ⟨b17,0,none⟩)),(10,.pointer (some ⟨b10,0,none⟩)),(20,.int .i64 ((i:Nat):Int)),(19,.int .i64 ((n:Nat):Int)),(18,.slice p n cap),(7,.func (.func 94) #[] #[.pointer (some ⟨b1,0,none⟩),.pointer (some ⟨b2,0,none⟩)]),(6,.slice none 0 0),(0,.slice p n cap)],[boxA u8_1r2 43 (cw [u4_1r2,u4_2r2])],[rowA 69 rR p23 c24 ((Pg.clN n qa qb l i)++([(((l.getD i ((0:Rat),(0:Rat))).1),((l.getD i ((0:Rat),(0:Rat))).2))])),emA,boxA u7_1 43 (cw [u5_1,u5_2]),boxA u6_1 43 (cw [u2_1,u2_2]),boxA b17 69 (cw [w13,w14,w15,w16]),boxA b10 69 (cw [w6,w7,w8,w9])],[qF true u4_1r2 u4_2r2 ((Pg.sdq qa qb (l.getD i ((0:Rat),(0:Rat)))) / ((Pg.sdq qa qb (l.getD i ((0:Rat),(0:Rat)))) - (Pg.sdq qa qb (l.getD ((i+1)%n) ((0:Rat),(0:Rat)))))),qF true u3_1r2 u3_2r2 ((Pg.sdq qa qb (l.getD i ((0:Rat),(0:Rat)))) - (Pg.sdq qa qb (l.getD ((i+1)%n) ((0:Rat),(0:Rat))))),slF rR (some ⟨b22,0,none⟩) 1 ([(((l.getD i ((0:Rat),(0:Rat))).1),((l.getD i ((0:Rat),(0:Rat))).2))]),qF true w320 w421 ((l.getD i ((0:Rat),(0:Rat))).2),qF true w318 w419 ((l.getD i ((0:Rat),(0:Rat))).1),qF true u5_1 u5_2 (Pg.sdq qa qb (l.getD ((i+1)%n) ((0:Rat),(0:Rat)))),qF true u2_1 u2_2 (Pg.sdq qa qb (l.getD i ((0:Rat),(0:Rat)))),qF true w13 w14 ((l.getD ((i+1)%n) ((0:Rat),(0:Rat))).1),qF true w15 w16 ((l.getD ((i+1)%n) ((0:Rat),(0:Rat))).2),qF true w6 w7 ((l.getD i ((0:Rat),(0:Rat))).1),qF true w8 w9 ((l.getD i ((0:Rat),(0:Rat))).2),atF b2 0 [wb0.b,wb0.l,wb1.b,wb1.l,wb2.b,wb2.l,wb3.b,wb3.l],atF b1 0 [wa0.b,wa0.l,wa1.b,wa1.l,wa2.b,wa2.l,wa3.b,wa3.l],slF rR p cap l,qF true wa0 wa1 (qa.1),qF true wa2 wa3 (qa.2),qF true wb0 wb1 (qb.1),qF true wb2 wb3 (qb.2)])) ?_ (fun hD0=> ?_)
     ·
      rintro ⟨u3_1r2,u3_2r2,u4_1r2,u4_2r2,u8_1r2⟩
      dsimp only [cw]
      refine zX kr<|zd<|zg<|za<|e_ru (zc 6 ty69 rfl rfl (.t8 .nil))<|e_ru (zc 5 ty69 rfl rfl (.t8 .nil))<|zJ rfl rfl (.c rfl (.c rfl .n)) ce96 (zFc (wa0:=w6) (wa1:=w7) (wa2:=w8) (wa3:=w9) (qa:=(l.getD i ((0:Rat),(0:Rat)))) (wb0:=w13) (wb1:=w14) (wb2:=w15) (wb3:=w16) (qb:=(l.getD ((i+1)%n) ((0:Rat),(0:Rat)))) (K:=K) (K2:=K) (hpa:=cbo) (hpb:=cbo) (hK:=cbo)) (.c (j:=9) rfl (.c (j:=10) rfl (.c (j:=7) rfl (.c (j:=8) rfl .n)))) ?_
      rintro ⟨wr025,wr126,wr227,wr328⟩ -
      dsimp only [aq,nq,cq]
      refine zO rfl rfl (zp zr69 rfl) (fun b29=> ?_)
      refine zo 0 rfl rfl rfl rfl rfl sz69 rfl (.t8 .nil) .z<|zh<|zd<|zxa (.c (i:=2) rfl (.c (i:=0) rfl (.c (i:=0) rfl (.c (i:=0) rfl (.c (i:=0) rfl (.c (i:=0) rfl (.c (i:=0) rfl (.c (i:=0) rfl .n))))))))<|zba (OW:=[rowA 69 rR p23 c24 ((Pg.clN n qa qb l i)++([(((l.getD i ((0:Rat),(0:Rat))).1),((l.getD i ((0:Rat),(0:Rat))).2))]))]) (O:=[boxA b29 69 (cw [wr025,wr126,wr227,wr328]),boxA u8_1r2 43 (cw [u4_1r2,u4_2r2]),emA,boxA u7_1 43 (cw [u5_1,u5_2]),boxA u6_1 43 (cw [u2_1,u2_2]),boxA b17 69 (cw [w13,w14,w15,w16]),boxA b10 69 (cw [w6,w7,w8,w9])]) 17 mixed (.block (.then (.then (.block (.then .ret))))) kr<|e_dm 0 rfl rfl rfl<|e_pv 1 rfl rfl (zf yc rfl sz43 rfl rfl)<|e_uw 2 rfl rfl (zc 7 ty43 rfl rfl (.t4 .nil))<|e_uw 3 rfl rfl (zc 2 ty43 rfl rfl (.t4 .nil))<|e_pv 4 rfl rfl (zf yc rfl sz43 rfl rfl)<|e_uw 5 rfl rfl (zc 1 ty43 rfl rfl (.t4 .nil))<|e_pv 8 rfl rfl (zf yc rfl sz43 rfl rfl)<|e_uw 9 rfl rfl (zc 7 ty43 rfl rfl (.s4 (.t4 .nil)))<|e_uw 10 rfl rfl (zc 2 ty43 rfl rfl (.t4 .nil))<|e_pv 11 rfl rfl (zf yc rfl sz43 rfl rfl)<|e_uw 12 rfl rfl (zc 1 ty43 rfl rfl (.s4 (.t4 .nil)))<|e_one 6 (zE rfl rfl rfl rfl (.c rfl (.c rfl .n)) ce102 (zVb (k1:=true) (u1:=u4_1r2) (v1:=u4_2r2) (q1:=(Pg.sdq qa qb (l.getD i ((0:Rat),(0:Rat)))) / ((Pg.sdq qa qb (l.getD i ((0:Rat),(0:Rat)))) - (Pg.sdq qa qb (l.getD ((i+1)%n) ((0:Rat),(0:Rat)))))) (k2:=true) (u2:=wr025) (v2:=wr126) (q2:=(Pg.awq (l.getD i ((0:Rat),(0:Rat))) (l.getD ((i+1)%n) ((0:Rat),(0:Rat)))).1) (hl:=cbo)) (.c (j:=2) rfl (.c (j:=0) rfl .n)) ?_)
      rintro ⟨w330,w431⟩ -
      dsimp only [aq,nq,cq]
      refine e_one 7 (zE rfl rfl rfl rfl (.c rfl (.c rfl .n)) ce101 (zoc (k1:=true) (u1:=w6) (v1:=w7) (q1:=(l.getD i ((0:Rat),(0:Rat))).1) (k2:=true) (u2:=w330) (v2:=w431) (q2:=((Pg.sdq qa qb (l.getD i ((0:Rat),(0:Rat)))) / ((Pg.sdq qa qb (l.getD i ((0:Rat),(0:Rat)))) - (Pg.sdq qa qb (l.getD ((i+1)%n) ((0:Rat),(0:Rat))))))*((Pg.awq (l.getD i ((0:Rat),(0:Rat))) (l.getD ((i+1)%n) ((0:Rat),(0:Rat)))).1)) (hl:=cbo)) (.c (j:=12) rfl (.c (j:=0) rfl .n)) ?_)
      rintro ⟨w332,w433⟩ -
      dsimp only [aq,nq,cq]
      refine e_one 13 (zE rfl rfl rfl rfl (.c rfl (.c rfl .n)) ce102 (zVb (k1:=true) (u1:=u4_1r2) (v1:=u4_2r2) (q1:=(Pg.sdq qa qb (l.getD i ((0:Rat),(0:Rat)))) / ((Pg.sdq qa qb (l.getD i ((0:Rat),(0:Rat)))) - (Pg.sdq qa qb (l.getD ((i+1)%n) ((0:Rat),(0:Rat)))))) (k2:=true) (u2:=wr227) (v2:=wr328) (q2:=(Pg.awq (l.getD i ((0:Rat),(0:Rat))) (l.getD ((i+1)%n) ((0:Rat),(0:Rat)))).2) (hl:=cbo)) (.c (j:=4) rfl (.c (j:=3) rfl .n)) ?_)
      rintro ⟨w334,w435⟩ -
      dsimp only [aq,nq,cq]
      refine e_one 14 (zE rfl rfl rfl rfl (.c rfl (.c rfl .n)) ce101 (zoc (k1:=true) (u1:=w8) (v1:=w9) (q1:=(l.getD i ((0:Rat),(0:Rat))).2) (k2:=true) (u2:=w334) (v2:=w435) (q2:=((Pg.sdq qa qb (l.getD i ((0:Rat),(0:Rat)))) / ((Pg.sdq qa qb (l.getD i ((0:Rat),(0:Rat)))) - (Pg.sdq qa qb (l.getD ((i+1)%n) ((0:Rat),(0:Rat))))))*((Pg.awq (l.getD i ((0:Rat),(0:Rat))) (l.getD ((i+1)%n) ((0:Rat),(0:Rat)))).2)) (hl:=cbo)) (.c (j:=15) rfl (.c (j:=0) rfl .n)) ?_)
      rintro ⟨w336,w437⟩ -
      dsimp only [aq,nq,cq]
      refine e_pv 15 rfl rfl (zM zr69 rfl yc (.c sz43 (.c sz43 .n)) (.c rfl (.c rfl .n)) (.c rfl rfl rfl (.t4 .nil) (.c rfl rfl rfl (.s4 (.t4 .nil)) .n)))<|e_one 16 (zTd rfl rfl rfl rfl (zgb (r:=rR) (k:=1) yh inf69 rfl dd dd dd (.c (x:=((((l.getD i ((0:Rat),(0:Rat))).1)+(((Pg.sdq qa qb (l.getD i ((0:Rat),(0:Rat)))) / ((Pg.sdq qa qb (l.getD i ((0:Rat),(0:Rat)))) - (Pg.sdq qa qb (l.getD ((i+1)%n) ((0:Rat),(0:Rat))))))*((Pg.awq (l.getD i ((0:Rat),(0:Rat))) (l.getD ((i+1)%n) ((0:Rat),(0:Rat)))).1))),(((l.getD i ((0:Rat),(0:Rat))).2)+(((Pg.sdq qa qb (l.getD i ((0:Rat),(0:Rat)))) / ((Pg.sdq qa qb (l.getD i ((0:Rat),(0:Rat)))) - (Pg.sdq qa qb (l.getD ((i+1)%n) ((0:Rat),(0:Rat))))))*((Pg.awq (l.getD i ((0:Rat),(0:Rat))) (l.getD ((i+1)%n) ((0:Rat),(0:Rat)))).2))))) (cs:=[w332.b,w332.l,w433.b,w433.l,w336.b,w336.l,w437.b,w437.l]) (w332,w433,w336,w437) rfl rfl rfl (fun g hr=>⟨Holds.get 2 rfl hr,Holds.get 0 rfl hr⟩) .n)) (fun b38 _=> ?_))
      refine zCb 0 rfl .z<|e_one 17 (znd (A':=fun v:Option Addr×Nat=>rowA 69 rR v.1 v.2 (((Pg.clN n qa qb l i)++([(((l.getD i ((0:Rat),(0:Rat))).1),((l.getD i ((0:Rat),(0:Rat))).2))]))++([((((l.getD i ((0:Rat),(0:Rat))).1)+(((Pg.sdq qa qb (l.getD i ((0:Rat),(0:Rat)))) / ((Pg.sdq qa qb (l.getD i ((0:Rat),(0:Rat)))) - (Pg.sdq qa qb (l.getD ((i+1)%n) ((0:Rat),(0:Rat))))))*((Pg.awq (l.getD i ((0:Rat),(0:Rat))) (l.getD ((i+1)%n) ((0:Rat),(0:Rat)))).1))),(((l.getD i ((0:Rat),(0:Rat))).2)+(((Pg.sdq qa qb (l.getD i ((0:Rat),(0:Rat)))) / ((Pg.sdq qa qb (l.getD i ((0:Rat),(0:Rat)))) - (Pg.sdq qa qb (l.getD ((i+1)%n) ((0:Rat),(0:Rat))))))*((Pg.awq (l.getD i ((0:Rat),(0:Rat))) (l.getD ((i+1)%n) ((0:Rat),(0:Rat)))).2))))]))) kr rfl rfl rfl (zra 0 rfl yh inf69 dd rfl rfl cbs rfl cbs om om) ?_)
      rintro ⟨p39,c40⟩ -
      dsimp only [aq,nq,cq]
      refine e_pv 18 rfl rfl (zb rfl)<|zX kr<|zP<|zd ?_
      have hrw:(((Pg.clN n qa qb l i)++([(((l.getD i ((0:Rat),(0:Rat))).1),((l.getD i ((0:Rat),(0:Rat))).2))]))++([((((l.getD i ((0:Rat),(0:Rat))).1)+(((Pg.sdq qa qb (l.getD i ((0:Rat),(0:Rat)))) / ((Pg.sdq qa qb (l.getD i ((0:Rat),(0:Rat)))) - (Pg.sdq qa qb (l.getD ((i+1)%n) ((0:Rat),(0:Rat))))))*((Pg.awq (l.getD i ((0:Rat),(0:Rat))) (l.getD ((i+1)%n) ((0:Rat),(0:Rat)))).1))),(((l.getD i ((0:Rat),(0:Rat))).2)+(((Pg.sdq qa qb (l.getD i ((0:Rat),(0:Rat)))) / ((Pg.sdq qa qb (l.getD i ((0:Rat),(0:Rat)))) - (Pg.sdq qa qb (l.getD ((i+1)%n) ((0:Rat),(0:Rat))))))*((Pg.awq (l.getD i ((0:Rat),(0:Rat))) (l.getD ((i+1)%n) ((0:Rat),(0:Rat)))).2))))]))=Pg.clN n qa qb l (i+1):=by show _=Pg.clN n qa qb l i++Pg.clA qa qb _ _;first|(rw [Pg.clA_yes hin hcr,List.append_assoc];done)|(rw [Pg.clA_yes hin hcr,List.append_assoc];rfl)|(rw [Pg.clA_in hin hcr];done)|(rw [Pg.clA_in hin hcr];rfl)|(rw [Pg.clA_new hin hcr];done)|(rw [Pg.clA_new hin hcr];rfl)|(rw [Pg.clA_no hin hcr,List.append_nil];done)|(rw [Pg.clA_no hin hcr,List.append_nil];rfl)
      rw [hrw]
      refine za<|e_p (zI (z:=(((i+1):Nat):Int)) rfl rfl (w64 om))<|e_mv rfl<|zh<|zha ((i+1),p39,c40) (show (i+1)≤n from by show i+1≤n;omega) (by show n - (i+1)<n - i;omega) ((.e rfl (by first|(refine congrArg (fun z=>Value.slice _ z _) ?_;dsimp only;rw [← hrw];simp;done)|(refine congrArg (fun z=>Value.slice _ z _) ?_;dsimp only;rw [← hrw];done)|(refine congrArg (fun z=>Value.slice _ z _) ?_;rw [← hrw];done)|(rw [← hrw];done)) (.of rfl)):SubM _ _) (ho:=((.c (i:=0) rfl .n):PickO _ _ _)) ((.of [18,19,20,21,22,23,24] rfl):SelR _ _ _)
     refine zva (X:=Wd×Wd×Wd×Wd×Nat) (k':=2) (L':=(lb 11 511)) (fun (u3_1r2,u3_2r2,u4_1r2,u4_2r2,u8_1r2)=>([(14,.pointer (some ⟨u8_1r2,0,none⟩)),(65,.int .i64 0),(64,.agg (cw [u4_1r2,u4_2r2]).toArray),(8,.slice p23 (((Pg.clN n qa qb l i).length)+1) c24),(11,.pointer (some ⟨b17,0,none⟩)),(10,.pointer (some ⟨b10,0,none⟩)),(20,.int .i64 ((i:Nat):Int)),(19,.int .i64 ((n:Nat):Int)),(18,.slice p n cap),(7,.func (.func 94) #[] #[.pointer (some ⟨b1,0,none⟩),.pointer (some ⟨b2,0,none⟩)]),(6,.slice none 0 0),(0,.slice p n cap)],[boxA u8_1r2 43 (cw [wz,wz])],[rowA 69 rR p23 c24 ((Pg.clN n qa qb l i)++([(((l.getD i ((0:Rat),(0:Rat))).1),((l.getD i ((0:Rat),(0:Rat))).2))])),emA,boxA u7_1 43 (cw [u5_1,u5_2]),boxA u6_1 43 (cw [u2_1,u2_2]),boxA b17 69 (cw [w13,w14,w15,w16]),boxA b10 69 (cw [w6,w7,w8,w9])],[qF true u4_1r2 u4_2r2 ((Pg.sdq qa qb (l.getD i ((0:Rat),(0:Rat)))) / ((Pg.sdq qa qb (l.getD i ((0:Rat),(0:Rat)))) - (Pg.sdq qa qb (l.getD ((i+1)%n) ((0:Rat),(0:Rat)))))),qF true u3_1r2 u3_2r2 ((Pg.sdq qa qb (l.getD i ((0:Rat),(0:Rat)))) - (Pg.sdq qa qb (l.getD ((i+1)%n) ((0:Rat),(0:Rat))))),slF rR (some ⟨b22,0,none⟩) 1 ([(((l.getD i ((0:Rat),(0:Rat))).1),((l.getD i ((0:Rat),(0:Rat))).2))]),qF true w320 w421 ((l.getD i ((0:Rat),(0:Rat))).2),qF true w318 w419 ((l.getD i ((0:Rat),(0:Rat))).1),qF true u5_1 u5_2 (Pg.sdq qa qb (l.getD ((i+1)%n) ((0:Rat),(0:Rat)))),qF true u2_1 u2_2 (Pg.sdq qa qb (l.getD i ((0:Rat),(0:Rat)))),qF true w13 w14 ((l.getD ((i+1)%n) ((0:Rat),(0:Rat))).1),qF true w15 w16 ((l.getD ((i+1)%n) ((0:Rat),(0:Rat))).2),qF true w6 w7 ((l.getD i ((0:Rat),(0:Rat))).1),qF true w8 w9 ((l.getD i ((0:Rat),(0:Rat))).2),atF b2 0 [wb0.b,wb0.l,wb1.b,wb1.l,wb2.b,wb2.l,wb3.b,wb3.l],atF b1 0 [wa0.b,wa0.l,wa1.b,wa1.l,wa2.b,wa2.l,wa3.b,wa3.l],slF rR p cap l,qF true wa0 wa1 (qa.1),qF true wa2 wa3 (qa.2),qF true wb0 wb1 (qb.1),qF true wb2 wb3 (qb.2)])) ?_ (fun hD1=> ?_)
     ·
      rintro ⟨u3_1r2,u3_2r2,u4_1r2,u4_2r2,u8_1r2⟩
      dsimp only [cw]
      refine zkb 9 kr ?_
      ·
       refine zy kr rfl rfl rfl rfl rfl sz43 rfl (.t4 .nil)<|e_pv 10 rfl rfl (zb rfl) ?_
       exact zda (hD0 (u3_1r2,u3_2r2,u4_1r2,u4_2r2,u8_1r2)) kr ((.of rfl):SubM _ _) .rfl .rfl ((.of [0,1,2,3,4,5,6,7,8,9,10,11,12,13,14,15,16,17] rfl):SelR _ _ _)
     refine zva (X:=Wd×Wd×Wd×Wd) (k':=3) (L':=(lb 11 255)) (fun (u3_1r2,u3_2r2,u4_1r2,u4_2r2)=>([(65,.int .i64 0),(64,.agg (cw [u4_1r2,u4_2r2]).toArray),(8,.slice p23 (((Pg.clN n qa qb l i).length)+1) c24),(11,.pointer (some ⟨b17,0,none⟩)),(10,.pointer (some ⟨b10,0,none⟩)),(20,.int .i64 ((i:Nat):Int)),(19,.int .i64 ((n:Nat):Int)),(18,.slice p n cap),(7,.func (.func 94) #[] #[.pointer (some ⟨b1,0,none⟩),.pointer (some ⟨b2,0,none⟩)]),(6,.slice none 0 0),(0,.slice p n cap)],[],[rowA 69 rR p23 c24 ((Pg.clN n qa qb l i)++([(((l.getD i ((0:Rat),(0:Rat))).1),((l.getD i ((0:Rat),(0:Rat))).2))])),emA,boxA u7_1 43 (cw [u5_1,u5_2]),boxA u6_1 43 (cw [u2_1,u2_2]),boxA b17 69 (cw [w13,w14,w15,w16]),boxA b10 69 (cw [w6,w7,w8,w9])],[qF true u4_1r2 u4_2r2 ((Pg.sdq qa qb (l.getD i ((0:Rat),(0:Rat)))) / ((Pg.sdq qa qb (l.getD i ((0:Rat),(0:Rat)))) - (Pg.sdq qa qb (l.getD ((i+1)%n) ((0:Rat),(0:Rat)))))),qF true u3_1r2 u3_2r2 ((Pg.sdq qa qb (l.getD i ((0:Rat),(0:Rat)))) - (Pg.sdq qa qb (l.getD ((i+1)%n) ((0:Rat),(0:Rat))))),slF rR (some ⟨b22,0,none⟩) 1 ([(((l.getD i ((0:Rat),(0:Rat))).1),((l.getD i ((0:Rat),(0:Rat))).2))]),qF true w320 w421 ((l.getD i ((0:Rat),(0:Rat))).2),qF true w318 w419 ((l.getD i ((0:Rat),(0:Rat))).1),qF true u5_1 u5_2 (Pg.sdq qa qb (l.getD ((i+1)%n) ((0:Rat),(0:Rat)))),qF true u2_1 u2_2 (Pg.sdq qa qb (l.getD i ((0:Rat),(0:Rat)))),qF true w13 w14 ((l.getD ((i+1)%n) ((0:Rat),(0:Rat))).1),qF true w15 w16 ((l.getD ((i+1)%n) ((0:Rat),(0:Rat))).2),qF true w6 w7 ((l.getD i ((0:Rat),(0:Rat))).1),qF true w8 w9 ((l.getD i ((0:Rat),(0:Rat))).2),atF b2 0 [wb0.b,wb0.l,wb1.b,wb1.l,wb2.b,wb2.l,wb3.b,wb3.l],atF b1 0 [wa0.b,wa0.l,wa1.b,wa1.l,wa2.b,wa2.l,wa3.b,wa3.l],slF rR p cap l,qF true wa0 wa1 (qa.1),qF true wa2 wa3 (qa.2),qF true wb0 wb1 (qb.1),qF true wb2 wb3 (qb.2)])) ?_ (fun hD2=> ?_)
     ·
      rintro ⟨u3_1r2,u3_2r2,u4_1r2,u4_2r2⟩
      dsimp only [cw]
      refine zkb 8 kr ?_
      ·
       refine zua rfl rfl rfl rfl (zp zr43 rfl) (fun u8_1r2 _=> ?_)
       exact zda (hD1 (u3_1r2,u3_2r2,u4_1r2,u4_2r2,u8_1r2)) kr ((.of rfl):SubM _ _) .rfl .rfl ((.of [0,1,2,3,4,5,6,7,8,9,10,11,12,13,14,15,16,17] rfl):SelR _ _ _)
     refine zva (X:=Wd×Wd×Nat) (k':=6) (L':=(lb 11 271)) (fun (u3_1r2,u3_2r2,u8_1r2)=>([(14,.pointer (some ⟨u8_1r2,0,none⟩)),(62,.agg (cw [u3_1r2,u3_2r2]).toArray),(59,.agg (cw [u2_1,u2_2]).toArray),(8,.slice p23 (((Pg.clN n qa qb l i).length)+1) c24),(11,.pointer (some ⟨b17,0,none⟩)),(10,.pointer (some ⟨b10,0,none⟩)),(20,.int .i64 ((i:Nat):Int)),(19,.int .i64 ((n:Nat):Int)),(18,.slice p n cap),(7,.func (.func 94) #[] #[.pointer (some ⟨b1,0,none⟩),.pointer (some ⟨b2,0,none⟩)]),(6,.slice none 0 0),(0,.slice p n cap)],[boxA u8_1r2 43 (cw [wz,wz])],[rowA 69 rR p23 c24 ((Pg.clN n qa qb l i)++([(((l.getD i ((0:Rat),(0:Rat))).1),((l.getD i ((0:Rat),(0:Rat))).2))])),emA,boxA u7_1 43 (cw [u5_1,u5_2]),boxA u6_1 43 (cw [u2_1,u2_2]),boxA b17 69 (cw [w13,w14,w15,w16]),boxA b10 69 (cw [w6,w7,w8,w9])],[qF true u3_1r2 u3_2r2 ((Pg.sdq qa qb (l.getD i ((0:Rat),(0:Rat)))) - (Pg.sdq qa qb (l.getD ((i+1)%n) ((0:Rat),(0:Rat))))),slF rR (some ⟨b22,0,none⟩) 1 ([(((l.getD i ((0:Rat),(0:Rat))).1),((l.getD i ((0:Rat),(0:Rat))).2))]),qF true w320 w421 ((l.getD i ((0:Rat),(0:Rat))).2),qF true w318 w419 ((l.getD i ((0:Rat),(0:Rat))).1),qF true u5_1 u5_2 (Pg.sdq qa qb (l.getD ((i+1)%n) ((0:Rat),(0:Rat)))),qF true u2_1 u2_2 (Pg.sdq qa qb (l.getD i ((0:Rat),(0:Rat)))),qF true w13 w14 ((l.getD ((i+1)%n) ((0:Rat),(0:Rat))).1),qF true w15 w16 ((l.getD ((i+1)%n) ((0:Rat),(0:Rat))).2),qF true w6 w7 ((l.getD i ((0:Rat),(0:Rat))).1),qF true w8 w9 ((l.getD i ((0:Rat),(0:Rat))).2),atF b2 0 [wb0.b,wb0.l,wb1.b,wb1.l,wb2.b,wb2.l,wb3.b,wb3.l],atF b1 0 [wa0.b,wa0.l,wa1.b,wa1.l,wa2.b,wa2.l,wa3.b,wa3.l],slF rR p cap l,qF true wa0 wa1 (qa.1),qF true wa2 wa3 (qa.2),qF true wb0 wb1 (qb.1),qF true wb2 wb3 (qb.2)])) ?_ (fun hD3=> ?_)
     ·
      rintro ⟨u3_1r2,u3_2r2,u8_1r2⟩
      dsimp only [cw]
      refine zkb 4 kr ?_
      ·
       refine zE rfl rfl rfl rfl (.c rfl (.c rfl .n)) ce99 (zrb (k1:=true) (u1:=u2_1) (v1:=u2_2) (q1:=Pg.sdq qa qb (l.getD i ((0:Rat),(0:Rat)))) (k2:=true) (u2:=u3_1r2) (v2:=u3_2r2) (q2:=(Pg.sdq qa qb (l.getD i ((0:Rat),(0:Rat)))) - (Pg.sdq qa qb (l.getD ((i+1)%n) ((0:Rat),(0:Rat))))) (hl:=cbo) (hy:=cbo)) (.c (j:=5) rfl (.c (j:=0) rfl .n)) ?_
       rintro ⟨u4_1r2,u4_2r2⟩ -
       dsimp only [aq,nq,cq]
       refine e_dm 5 rfl rfl rfl<|e_pv 6 rfl rfl (zC rfl rfl)<|e_pv 7 rfl rfl (zC rfl rfl) ?_
       exact zda (hD1 (u3_1r2,u3_2r2,u4_1r2,u4_2r2,u8_1r2)) kr ((.of rfl):SubM _ _) .rfl .rfl ((.of [0,1,2,3,4,5,6,7,8,9,10,11,12,13,14,15,16,17] rfl):SelR _ _ _)
     refine zva (X:=Wd×Wd) (k':=7) (L':=(lb 11 15)) (fun (u3_1r2,u3_2r2)=>([(62,.agg (cw [u3_1r2,u3_2r2]).toArray),(59,.agg (cw [u2_1,u2_2]).toArray),(8,.slice p23 (((Pg.clN n qa qb l i).length)+1) c24),(11,.pointer (some ⟨b17,0,none⟩)),(10,.pointer (some ⟨b10,0,none⟩)),(20,.int .i64 ((i:Nat):Int)),(19,.int .i64 ((n:Nat):Int)),(18,.slice p n cap),(7,.func (.func 94) #[] #[.pointer (some ⟨b1,0,none⟩),.pointer (some ⟨b2,0,none⟩)]),(6,.slice none 0 0),(0,.slice p n cap)],[],[rowA 69 rR p23 c24 ((Pg.clN n qa qb l i)++([(((l.getD i ((0:Rat),(0:Rat))).1),((l.getD i ((0:Rat),(0:Rat))).2))])),emA,boxA u7_1 43 (cw [u5_1,u5_2]),boxA u6_1 43 (cw [u2_1,u2_2]),boxA b17 69 (cw [w13,w14,w15,w16]),boxA b10 69 (cw [w6,w7,w8,w9])],[qF true u3_1r2 u3_2r2 ((Pg.sdq qa qb (l.getD i ((0:Rat),(0:Rat)))) - (Pg.sdq qa qb (l.getD ((i+1)%n) ((0:Rat),(0:Rat))))),slF rR (some ⟨b22,0,none⟩) 1 ([(((l.getD i ((0:Rat),(0:Rat))).1),((l.getD i ((0:Rat),(0:Rat))).2))]),qF true w320 w421 ((l.getD i ((0:Rat),(0:Rat))).2),qF true w318 w419 ((l.getD i ((0:Rat),(0:Rat))).1),qF true u5_1 u5_2 (Pg.sdq qa qb (l.getD ((i+1)%n) ((0:Rat),(0:Rat)))),qF true u2_1 u2_2 (Pg.sdq qa qb (l.getD i ((0:Rat),(0:Rat)))),qF true w13 w14 ((l.getD ((i+1)%n) ((0:Rat),(0:Rat))).1),qF true w15 w16 ((l.getD ((i+1)%n) ((0:Rat),(0:Rat))).2),qF true w6 w7 ((l.getD i ((0:Rat),(0:Rat))).1),qF true w8 w9 ((l.getD i ((0:Rat),(0:Rat))).2),atF b2 0 [wb0.b,wb0.l,wb1.b,wb1.l,wb2.b,wb2.l,wb3.b,wb3.l],atF b1 0 [wa0.b,wa0.l,wa1.b,wa1.l,wa2.b,wa2.l,wa3.b,wa3.l],slF rR p cap l,qF true wa0 wa1 (qa.1),qF true wa2 wa3 (qa.2),qF true wb0 wb1 (qb.1),qF true wb2 wb3 (qb.2)])) ?_ (fun hD4=> ?_)
     ·
      rintro ⟨u3_1r2,u3_2r2⟩
      dsimp only [cw]
      refine zZb 4 8 kr ?_ ?_
      ·
       refine zE rfl rfl rfl rfl (.c rfl (.c rfl .n)) ce99 (zrb (k1:=true) (u1:=u2_1) (v1:=u2_2) (q1:=Pg.sdq qa qb (l.getD i ((0:Rat),(0:Rat)))) (k2:=true) (u2:=u3_1r2) (v2:=u3_2r2) (q2:=(Pg.sdq qa qb (l.getD i ((0:Rat),(0:Rat)))) - (Pg.sdq qa qb (l.getD ((i+1)%n) ((0:Rat),(0:Rat))))) (hl:=cbo) (hy:=cbo)) (.c (j:=5) rfl (.c (j:=0) rfl .n)) ?_
       rintro ⟨u4_1r2,u4_2r2⟩ -
       dsimp only [aq,nq,cq]
       refine e_dm 5 rfl rfl rfl<|e_pv 6 rfl rfl (zC rfl rfl)<|e_pv 7 rfl rfl (zC rfl rfl) ?_
       exact zda (hD2 (u3_1r2,u3_2r2,u4_1r2,u4_2r2)) kr ((.of rfl):SubM _ _) .rfl .rfl ((.of [0,1,2,3,4,5,6,7,8,9,10,11,12,13,14,15,16,17] rfl):SelR _ _ _)
      ·
       refine zua rfl rfl rfl rfl (zp zr43 rfl) (fun u8_1r2 _=> ?_)
       exact zda (hD3 (u3_1r2,u3_2r2,u8_1r2)) kr ((.of rfl):SubM _ _) .rfl .rfl ((.of [0,1,2,3,4,5,6,7,8,9,10,11,12,13,14,15,16] rfl):SelR _ _ _)
     refine zva (X:=Nat) (k':=7) (L':=(lb 11 263)) (fun u8_1r2=>([(14,.pointer (some ⟨u8_1r2,0,none⟩)),(61,.agg (cw [u5_1,u5_2]).toArray),(60,.agg (cw [u2_1,u2_2]).toArray),(59,.agg (cw [u2_1,u2_2]).toArray),(8,.slice p23 (((Pg.clN n qa qb l i).length)+1) c24),(11,.pointer (some ⟨b17,0,none⟩)),(10,.pointer (some ⟨b10,0,none⟩)),(20,.int .i64 ((i:Nat):Int)),(19,.int .i64 ((n:Nat):Int)),(18,.slice p n cap),(7,.func (.func 94) #[] #[.pointer (some ⟨b1,0,none⟩),.pointer (some ⟨b2,0,none⟩)]),(6,.slice none 0 0),(0,.slice p n cap)],[boxA u8_1r2 43 (cw [wz,wz])],[rowA 69 rR p23 c24 ((Pg.clN n qa qb l i)++([(((l.getD i ((0:Rat),(0:Rat))).1),((l.getD i ((0:Rat),(0:Rat))).2))])),emA,boxA u7_1 43 (cw [u5_1,u5_2]),boxA u6_1 43 (cw [u2_1,u2_2]),boxA b17 69 (cw [w13,w14,w15,w16]),boxA b10 69 (cw [w6,w7,w8,w9])],[slF rR (some ⟨b22,0,none⟩) 1 ([(((l.getD i ((0:Rat),(0:Rat))).1),((l.getD i ((0:Rat),(0:Rat))).2))]),qF true w320 w421 ((l.getD i ((0:Rat),(0:Rat))).2),qF true w318 w419 ((l.getD i ((0:Rat),(0:Rat))).1),qF true u5_1 u5_2 (Pg.sdq qa qb (l.getD ((i+1)%n) ((0:Rat),(0:Rat)))),qF true u2_1 u2_2 (Pg.sdq qa qb (l.getD i ((0:Rat),(0:Rat)))),qF true w13 w14 ((l.getD ((i+1)%n) ((0:Rat),(0:Rat))).1),qF true w15 w16 ((l.getD ((i+1)%n) ((0:Rat),(0:Rat))).2),qF true w6 w7 ((l.getD i ((0:Rat),(0:Rat))).1),qF true w8 w9 ((l.getD i ((0:Rat),(0:Rat))).2),atF b2 0 [wb0.b,wb0.l,wb1.b,wb1.l,wb2.b,wb2.l,wb3.b,wb3.l],atF b1 0 [wa0.b,wa0.l,wa1.b,wa1.l,wa2.b,wa2.l,wa3.b,wa3.l],slF rR p cap l,qF true wa0 wa1 (qa.1),qF true wa2 wa3 (qa.2),qF true wb0 wb1 (qb.1),qF true wb2 wb3 (qb.2)])) ?_ (fun hD5=> ?_)
     ·
      rintro u8_1r2
      dsimp only [cw]
      refine zkb 3 kr ?_
      ·
       refine zE rfl rfl rfl rfl (.c rfl (.c rfl .n)) ce100 (zHb (k1:=true) (u1:=u2_1) (v1:=u2_2) (q1:=Pg.sdq qa qb (l.getD i ((0:Rat),(0:Rat)))) (k2:=true) (u2:=u5_1) (v2:=u5_2) (q2:=Pg.sdq qa qb (l.getD ((i+1)%n) ((0:Rat),(0:Rat)))) (hl:=cbo)) (.c (j:=4) rfl (.c (j:=3) rfl .n)) ?_
       rintro ⟨u3_1r2,u3_2r2⟩ -
       dsimp only [aq,nq,cq]
       exact zda (hD3 (u3_1r2,u3_2r2,u8_1r2)) kr ((.of rfl):SubM _ _) .rfl .rfl ((.of [0,1,2,3,4,5,6,7,8,9,10,11,12,13,14,15,16] rfl):SelR _ _ _)
     refine zZb 3 8 kr ?_ ?_
     ·
      refine zE rfl rfl rfl rfl (.c rfl (.c rfl .n)) ce100 (zHb (k1:=true) (u1:=u2_1) (v1:=u2_2) (q1:=Pg.sdq qa qb (l.getD i ((0:Rat),(0:Rat)))) (k2:=true) (u2:=u5_1) (v2:=u5_2) (q2:=Pg.sdq qa qb (l.getD ((i+1)%n) ((0:Rat),(0:Rat)))) (hl:=cbo)) (.c (j:=4) rfl (.c (j:=3) rfl .n)) ?_
      rintro ⟨u3_1r2,u3_2r2⟩ -
      dsimp only [aq,nq,cq]
      exact zda (hD4 (u3_1r2,u3_2r2)) kr ((.of rfl):SubM _ _) .rfl .rfl ((.of [0,1,2,3,4,5,6,7,8,9,10,11,12,13,14,15,16] rfl):SelR _ _ _)
     ·
      refine zua rfl rfl rfl rfl (zp zr43 rfl) (fun u8_1r2 _=> ?_)
      exact zda (hD5 u8_1r2) kr ((.of rfl):SubM _ _) .rfl .rfl ((.of [0,1,2,3,4,5,6,7,8,9,10,11,12,13,14,15] rfl):SelR _ _ _)
    ·
     refine zt<|zP<|zd ?_
     have hrw:((Pg.clN n qa qb l i)++([(((l.getD i ((0:Rat),(0:Rat))).1),((l.getD i ((0:Rat),(0:Rat))).2))]))=Pg.clN n qa qb l (i+1):=by show _=Pg.clN n qa qb l i++Pg.clA qa qb _ _;first|(rw [Pg.clA_yes hin hcr,List.append_assoc];done)|(rw [Pg.clA_yes hin hcr,List.append_assoc];rfl)|(rw [Pg.clA_in hin hcr];done)|(rw [Pg.clA_in hin hcr];rfl)|(rw [Pg.clA_new hin hcr];done)|(rw [Pg.clA_new hin hcr];rfl)|(rw [Pg.clA_no hin hcr,List.append_nil];done)|(rw [Pg.clA_no hin hcr,List.append_nil];rfl)
     rw [hrw]
     refine za<|e_p (zI (z:=(((i+1):Nat):Int)) rfl rfl (w64 om))<|e_mv rfl<|zh<|zha ((i+1),p23,c24) (show (i+1)≤n from by show i+1≤n;omega) (by show n - (i+1)<n - i;omega) ((.e rfl (by first|(refine congrArg (fun z=>Value.slice _ z _) ?_;dsimp only;rw [← hrw];simp;done)|(refine congrArg (fun z=>Value.slice _ z _) ?_;dsimp only;rw [← hrw];done)|(refine congrArg (fun z=>Value.slice _ z _) ?_;rw [← hrw];done)|(rw [← hrw];done)) (.of rfl)):SubM _ _) (ho:=((.c (i:=0) rfl .n):PickO _ _ _)) ((.of [9,10,11,12,13,14,15] rfl):SelR _ _ _)
   ·
    refine zt<|zd<|zg<|zba (OW:=[]) (O:=[boxA u7_1 43 (cw [u5_1,u5_2]),boxA u6_1 43 (cw [u2_1,u2_2]),boxA b17 69 (cw [w13,w14,w15,w16]),boxA b10 69 (cw [w6,w7,w8,w9]),rowA 69 rR p7 c7 (Pg.clN n qa qb l i)]) 100000 mixed (.then (.block (.then (.then (.block (.then .ret)))))) kr<|e_u 0 rfl rfl (zc 1 ty43 rfl rfl (.t4 .nil))<|e_u 2 rfl rfl (zc 0 ty43 rfl rfl (.t4 .nil))<|e_one 1 (zwa rfl rfl rfl rfl (.c rfl .n) ce97 (zRb (k1:=true) (u1:=u2_1) (v1:=u2_2) (q1:=Pg.sdq qa qb (l.getD i ((0:Rat),(0:Rat))))) (.c (j:=1) rfl .n) ?_)
    refine e_one 3 (zwa rfl rfl rfl rfl (.c rfl .n) ce97 (zRb (k1:=true) (u1:=u5_1) (v1:=u5_2) (q1:=Pg.sdq qa qb (l.getD ((i+1)%n) ((0:Rat),(0:Rat))))) (.c (j:=0) rfl .n) ?_)
    refine e_pv 4 rfl rfl (zDa (z:=(Big.sgq (Pg.sdq qa qb (l.getD i ((0:Rat),(0:Rat))))*Big.sgq (Pg.sdq qa qb (l.getD ((i+1)%n) ((0:Rat),(0:Rat)))))) rfl rfl (w64 om))<|e_pv 5 rfl rfl (zaa rfl rfl)<|zX kr<|zd<|zG rfl (fun hcr=> ?_) (fun hcr=> ?_)
    ·
     have hne:=Pg.opp hcr
     obtain ⟨hnd,hnf,⟨hnw1,hnw2⟩,hn1,hn2,⟨hnp1,hnp2⟩⟩:=Pg.nb hsi hsj hne hpi hpj
     refine zg<|zba (OW:=[]) (O:=[boxA u7_1 43 (cw [u5_1,u5_2]),boxA u6_1 43 (cw [u2_1,u2_2]),boxA b17 69 (cw [w13,w14,w15,w16]),boxA b10 69 (cw [w6,w7,w8,w9]),rowA 69 rR p7 c7 (Pg.clN n qa qb l i)]) 9 mixed (.then (.block (.then (.then (.block (.then .ret)))))) kr<|e_u 0 rfl rfl (zc 1 ty43 rfl rfl (.t4 .nil))<|e_u 1 rfl rfl (zc 1 ty43 rfl rfl (.t4 .nil))<|e_u 2 rfl rfl (zc 0 ty43 rfl rfl (.t4 .nil))<|zdd (m':=[(61,.agg (cw [u5_1,u5_2]).toArray),(60,.agg (cw [u2_1,u2_2]).toArray),(59,.agg (cw [u2_1,u2_2]).toArray),(11,.pointer (some ⟨b17,0,none⟩)),(10,.pointer (some ⟨b10,0,none⟩)),(8,.slice p7 ((Pg.clN n qa qb l i).length) c7),(20,.int .i64 ((i:Nat):Int)),(19,.int .i64 ((n:Nat):Int)),(18,.slice p n cap),(7,.func (.func 94) #[] #[.pointer (some ⟨b1,0,none⟩),.pointer (some ⟨b2,0,none⟩)]),(6,.slice none 0 0),(0,.slice p n cap)]) (R':=[qF true u5_1 u5_2 (Pg.sdq qa qb (l.getD ((i+1)%n) ((0:Rat),(0:Rat)))),qF true u2_1 u2_2 (Pg.sdq qa qb (l.getD i ((0:Rat),(0:Rat)))),qF true w13 w14 ((l.getD ((i+1)%n) ((0:Rat),(0:Rat))).1),qF true w15 w16 ((l.getD ((i+1)%n) ((0:Rat),(0:Rat))).2),qF true w6 w7 ((l.getD i ((0:Rat),(0:Rat))).1),qF true w8 w9 ((l.getD i ((0:Rat),(0:Rat))).2),atF b2 0 [wb0.b,wb0.l,wb1.b,wb1.l,wb2.b,wb2.l,wb3.b,wb3.l],atF b1 0 [wa0.b,wa0.l,wa1.b,wa1.l,wa2.b,wa2.l,wa3.b,wa3.l],slF rR p cap l,qF true wa0 wa1 (qa.1),qF true wa2 wa3 (qa.2),qF true wb0 wb1 (qb.1),qF true wb2 wb3 (qb.2)]) ((.of rfl):SubM _ _) (List.Perm.refl _) (List.Perm.refl _) ((.of [0,1,2,3,4,5,6,7,8,9,10,11,12] rfl):SelR _ _ _)<|zva (X:=Wd×Wd×Wd×Wd×Nat) (k':=0) (L':=(lb 11 2047)) (fun (u3_1r3,u3_2r3,u4_1r3,u4_2r3,u8_1r3)=>([(14,.pointer (some ⟨u8_1r3,0,none⟩)),(11,.pointer (some ⟨b17,0,none⟩)),(10,.pointer (some ⟨b10,0,none⟩)),(8,.slice p7 ((Pg.clN n qa qb l i).length) c7),(20,.int .i64 ((i:Nat):Int)),(19,.int .i64 ((n:Nat):Int)),(18,.slice p n cap),(7,.func (.func 94) #[] #[.pointer (some ⟨b1,0,none⟩),.pointer (some ⟨b2,0,none⟩)]),(6,.slice none 0 0),(0,.slice p n cap)],[boxA u8_1r3 43 (cw [u4_1r3,u4_2r3])],[boxA u7_1 43 (cw [u5_1,u5_2]),boxA u6_1 43 (cw [u2_1,u2_2]),boxA b17 69 (cw [w13,w14,w15,w16]),boxA b10 69 (cw [w6,w7,w8,w9]),rowA 69 rR p7 c7 (Pg.clN n qa qb l i)],[qF true u4_1r3 u4_2r3 ((Pg.sdq qa qb (l.getD i ((0:Rat),(0:Rat)))) / ((Pg.sdq qa qb (l.getD i ((0:Rat),(0:Rat)))) - (Pg.sdq qa qb (l.getD ((i+1)%n) ((0:Rat),(0:Rat)))))),qF true u3_1r3 u3_2r3 ((Pg.sdq qa qb (l.getD i ((0:Rat),(0:Rat)))) - (Pg.sdq qa qb (l.getD ((i+1)%n) ((0:Rat),(0:Rat))))),qF true u5_1 u5_2 (Pg.sdq qa qb (l.getD ((i+1)%n) ((0:Rat),(0:Rat)))),qF true u2_1 u2_2 (Pg.sdq qa qb (l.getD i ((0:Rat),(0:Rat)))),qF true w13 w14 ((l.getD ((i+1)%n) ((0:Rat),(0:Rat))).1),qF true w15 w16 ((l.getD ((i+1)%n) ((0:Rat),(0:Rat))).2),qF true w6 w7 ((l.getD i ((0:Rat),(0:Rat))).1),qF true w8 w9 ((l.getD i ((0:Rat),(0:Rat))).2),atF b2 0 [wb0.b,wb0.l,wb1.b,wb1.l,wb2.b,wb2.l,wb3.b,wb3.l],atF b1 0 [wa0.b,wa0.l,wa1.b,wa1.l,wa2.b,wa2.l,wa3.b,wa3.l],slF rR p cap l,qF true wa0 wa1 (qa.1),qF true wa2 wa3 (qa.2),qF true wb0 wb1 (qb.1),qF true wb2 wb3 (qb.2)])) ?_ (fun hD0=> ?_)
     ·
      rintro ⟨u3_1r3,u3_2r3,u4_1r3,u4_2r3,u8_1r3⟩
      dsimp only [cw]
      refine zX kr<|zd<|zg<|za<|e_ru (zc 4 ty69 rfl rfl (.t8 .nil))<|e_ru (zc 3 ty69 rfl rfl (.t8 .nil))<|zJ rfl rfl (.c rfl (.c rfl .n)) ce96 (zFc (wa0:=w6) (wa1:=w7) (wa2:=w8) (wa3:=w9) (qa:=(l.getD i ((0:Rat),(0:Rat)))) (wb0:=w13) (wb1:=w14) (wb2:=w15) (wb3:=w16) (qb:=(l.getD ((i+1)%n) ((0:Rat),(0:Rat)))) (K:=K) (K2:=K) (hpa:=cbo) (hpb:=cbo) (hK:=cbo)) (.c (j:=6) rfl (.c (j:=7) rfl (.c (j:=4) rfl (.c (j:=5) rfl .n)))) ?_
      rintro ⟨wr041,wr142,wr243,wr344⟩ -
      dsimp only [aq,nq,cq]
      refine zO rfl rfl (zp zr69 rfl) (fun b45=> ?_)
      refine zo 0 rfl rfl rfl rfl rfl sz69 rfl (.t8 .nil) .z<|zh<|zd<|zxa (.c (i:=6) rfl (.c (i:=0) rfl (.c (i:=0) rfl (.c (i:=0) rfl (.c (i:=0) rfl (.c (i:=0) rfl (.c (i:=0) rfl .n)))))))<|zba (OW:=[rowA 69 rR p7 c7 (Pg.clN n qa qb l i)]) (O:=[boxA b45 69 (cw [wr041,wr142,wr243,wr344]),boxA u8_1r3 43 (cw [u4_1r3,u4_2r3]),boxA u7_1 43 (cw [u5_1,u5_2]),boxA u6_1 43 (cw [u2_1,u2_2]),boxA b17 69 (cw [w13,w14,w15,w16]),boxA b10 69 (cw [w6,w7,w8,w9])]) 17 mixed (.block (.then (.then (.block (.then .ret))))) kr<|e_dm 0 rfl rfl rfl<|e_pv 1 rfl rfl (zf yc rfl sz43 rfl rfl)<|e_uw 2 rfl rfl (zc 6 ty43 rfl rfl (.t4 .nil))<|e_uw 3 rfl rfl (zc 2 ty43 rfl rfl (.t4 .nil))<|e_pv 4 rfl rfl (zf yc rfl sz43 rfl rfl)<|e_uw 5 rfl rfl (zc 1 ty43 rfl rfl (.t4 .nil))<|e_pv 8 rfl rfl (zf yc rfl sz43 rfl rfl)<|e_uw 9 rfl rfl (zc 6 ty43 rfl rfl (.s4 (.t4 .nil)))<|e_uw 10 rfl rfl (zc 2 ty43 rfl rfl (.t4 .nil))<|e_pv 11 rfl rfl (zf yc rfl sz43 rfl rfl)<|e_uw 12 rfl rfl (zc 1 ty43 rfl rfl (.s4 (.t4 .nil)))<|e_one 6 (zE rfl rfl rfl rfl (.c rfl (.c rfl .n)) ce102 (zVb (k1:=true) (u1:=u4_1r3) (v1:=u4_2r3) (q1:=(Pg.sdq qa qb (l.getD i ((0:Rat),(0:Rat)))) / ((Pg.sdq qa qb (l.getD i ((0:Rat),(0:Rat)))) - (Pg.sdq qa qb (l.getD ((i+1)%n) ((0:Rat),(0:Rat)))))) (k2:=true) (u2:=wr041) (v2:=wr142) (q2:=(Pg.awq (l.getD i ((0:Rat),(0:Rat))) (l.getD ((i+1)%n) ((0:Rat),(0:Rat)))).1) (hl:=cbo)) (.c (j:=2) rfl (.c (j:=0) rfl .n)) ?_)
      rintro ⟨w346,w447⟩ -
      dsimp only [aq,nq,cq]
      refine e_one 7 (zE rfl rfl rfl rfl (.c rfl (.c rfl .n)) ce101 (zoc (k1:=true) (u1:=w6) (v1:=w7) (q1:=(l.getD i ((0:Rat),(0:Rat))).1) (k2:=true) (u2:=w346) (v2:=w447) (q2:=((Pg.sdq qa qb (l.getD i ((0:Rat),(0:Rat)))) / ((Pg.sdq qa qb (l.getD i ((0:Rat),(0:Rat)))) - (Pg.sdq qa qb (l.getD ((i+1)%n) ((0:Rat),(0:Rat))))))*((Pg.awq (l.getD i ((0:Rat),(0:Rat))) (l.getD ((i+1)%n) ((0:Rat),(0:Rat)))).1)) (hl:=cbo)) (.c (j:=9) rfl (.c (j:=0) rfl .n)) ?_)
      rintro ⟨w348,w449⟩ -
      dsimp only [aq,nq,cq]
      refine e_one 13 (zE rfl rfl rfl rfl (.c rfl (.c rfl .n)) ce102 (zVb (k1:=true) (u1:=u4_1r3) (v1:=u4_2r3) (q1:=(Pg.sdq qa qb (l.getD i ((0:Rat),(0:Rat)))) / ((Pg.sdq qa qb (l.getD i ((0:Rat),(0:Rat)))) - (Pg.sdq qa qb (l.getD ((i+1)%n) ((0:Rat),(0:Rat)))))) (k2:=true) (u2:=wr243) (v2:=wr344) (q2:=(Pg.awq (l.getD i ((0:Rat),(0:Rat))) (l.getD ((i+1)%n) ((0:Rat),(0:Rat)))).2) (hl:=cbo)) (.c (j:=4) rfl (.c (j:=3) rfl .n)) ?_)
      rintro ⟨w350,w451⟩ -
      dsimp only [aq,nq,cq]
      refine e_one 14 (zE rfl rfl rfl rfl (.c rfl (.c rfl .n)) ce101 (zoc (k1:=true) (u1:=w8) (v1:=w9) (q1:=(l.getD i ((0:Rat),(0:Rat))).2) (k2:=true) (u2:=w350) (v2:=w451) (q2:=((Pg.sdq qa qb (l.getD i ((0:Rat),(0:Rat)))) / ((Pg.sdq qa qb (l.getD i ((0:Rat),(0:Rat)))) - (Pg.sdq qa qb (l.getD ((i+1)%n) ((0:Rat),(0:Rat))))))*((Pg.awq (l.getD i ((0:Rat),(0:Rat))) (l.getD ((i+1)%n) ((0:Rat),(0:Rat)))).2)) (hl:=cbo)) (.c (j:=12) rfl (.c (j:=0) rfl .n)) ?_)
      rintro ⟨w352,w453⟩ -
      dsimp only [aq,nq,cq]
      refine e_pv 15 rfl rfl (zM zr69 rfl yc (.c sz43 (.c sz43 .n)) (.c rfl (.c rfl .n)) (.c rfl rfl rfl (.t4 .nil) (.c rfl rfl rfl (.s4 (.t4 .nil)) .n)))<|e_one 16 (zTd rfl rfl rfl rfl (zgb (r:=rR) (k:=1) yh inf69 rfl dd dd dd (.c (x:=((((l.getD i ((0:Rat),(0:Rat))).1)+(((Pg.sdq qa qb (l.getD i ((0:Rat),(0:Rat)))) / ((Pg.sdq qa qb (l.getD i ((0:Rat),(0:Rat)))) - (Pg.sdq qa qb (l.getD ((i+1)%n) ((0:Rat),(0:Rat))))))*((Pg.awq (l.getD i ((0:Rat),(0:Rat))) (l.getD ((i+1)%n) ((0:Rat),(0:Rat)))).1))),(((l.getD i ((0:Rat),(0:Rat))).2)+(((Pg.sdq qa qb (l.getD i ((0:Rat),(0:Rat)))) / ((Pg.sdq qa qb (l.getD i ((0:Rat),(0:Rat)))) - (Pg.sdq qa qb (l.getD ((i+1)%n) ((0:Rat),(0:Rat))))))*((Pg.awq (l.getD i ((0:Rat),(0:Rat))) (l.getD ((i+1)%n) ((0:Rat),(0:Rat)))).2))))) (cs:=[w348.b,w348.l,w449.b,w449.l,w352.b,w352.l,w453.b,w453.l]) (w348,w449,w352,w453) rfl rfl rfl (fun g hr=>⟨Holds.get 2 rfl hr,Holds.get 0 rfl hr⟩) .n)) (fun b54 _=> ?_))
      refine zCb 0 rfl .z<|e_one 17 (znd (A':=fun v:Option Addr×Nat=>rowA 69 rR v.1 v.2 ((Pg.clN n qa qb l i)++([((((l.getD i ((0:Rat),(0:Rat))).1)+(((Pg.sdq qa qb (l.getD i ((0:Rat),(0:Rat)))) / ((Pg.sdq qa qb (l.getD i ((0:Rat),(0:Rat)))) - (Pg.sdq qa qb (l.getD ((i+1)%n) ((0:Rat),(0:Rat))))))*((Pg.awq (l.getD i ((0:Rat),(0:Rat))) (l.getD ((i+1)%n) ((0:Rat),(0:Rat)))).1))),(((l.getD i ((0:Rat),(0:Rat))).2)+(((Pg.sdq qa qb (l.getD i ((0:Rat),(0:Rat)))) / ((Pg.sdq qa qb (l.getD i ((0:Rat),(0:Rat)))) - (Pg.sdq qa qb (l.getD ((i+1)%n) ((0:Rat),(0:Rat))))))*((Pg.awq (l.getD i ((0:Rat),(0:Rat))) (l.getD ((i+1)%n) ((0:Rat),(0:Rat)))).2))))]))) kr rfl rfl rfl (zra 0 rfl yh inf69 dd rfl rfl cbs rfl cbs om om) ?_)
      rintro ⟨p55,c56⟩ -
      dsimp only [aq,nq,cq]
      refine e_pv 18 rfl rfl (zb rfl)<|zX kr<|zP<|zd ?_
      have hrw:((Pg.clN n qa qb l i)++([((((l.getD i ((0:Rat),(0:Rat))).1)+(((Pg.sdq qa qb (l.getD i ((0:Rat),(0:Rat)))) / ((Pg.sdq qa qb (l.getD i ((0:Rat),(0:Rat)))) - (Pg.sdq qa qb (l.getD ((i+1)%n) ((0:Rat),(0:Rat))))))*((Pg.awq (l.getD i ((0:Rat),(0:Rat))) (l.getD ((i+1)%n) ((0:Rat),(0:Rat)))).1))),(((l.getD i ((0:Rat),(0:Rat))).2)+(((Pg.sdq qa qb (l.getD i ((0:Rat),(0:Rat)))) / ((Pg.sdq qa qb (l.getD i ((0:Rat),(0:Rat)))) - (Pg.sdq qa qb (l.getD ((i+1)%n) ((0:Rat),(0:Rat))))))*((Pg.awq (l.getD i ((0:Rat),(0:Rat))) (l.getD ((i+1)%n) ((0:Rat),(0:Rat)))).2))))]))=Pg.clN n qa qb l (i+1):=by show _=Pg.clN n qa qb l i++Pg.clA qa qb _ _;first|(rw [Pg.clA_yes hin hcr,List.append_assoc];done)|(rw [Pg.clA_yes hin hcr,List.append_assoc];rfl)|(rw [Pg.clA_in hin hcr];done)|(rw [Pg.clA_in hin hcr];rfl)|(rw [Pg.clA_new hin hcr];done)|(rw [Pg.clA_new hin hcr];rfl)|(rw [Pg.clA_no hin hcr,List.append_nil];done)|(rw [Pg.clA_no hin hcr,List.append_nil];rfl)
      rw [hrw]
      refine za<|e_p (zI (z:=(((i+1):Nat):Int)) rfl rfl (w64 om))<|e_mv rfl<|zh<|zha ((i+1),p55,c56) (show (i+1)≤n from by show i+1≤n;omega) (by show n - (i+1)<n - i;omega) ((.e rfl (by first|(refine congrArg (fun z=>Value.slice _ z _) ?_;dsimp only;rw [← hrw];simp;done)|(refine congrArg (fun z=>Value.slice _ z _) ?_;dsimp only;rw [← hrw];done)|(refine congrArg (fun z=>Value.slice _ z _) ?_;rw [← hrw];done)|(rw [← hrw];done)) (.of rfl)):SubM _ _) (ho:=((.c (i:=0) rfl .n):PickO _ _ _)) ((.of [15,16,17,18,19,20,21] rfl):SelR _ _ _)
     refine zva (X:=Wd×Wd×Wd×Wd×Nat) (k':=2) (L':=(lb 11 511)) (fun (u3_1r3,u3_2r3,u4_1r3,u4_2r3,u8_1r3)=>([(14,.pointer (some ⟨u8_1r3,0,none⟩)),(65,.int .i64 0),(64,.agg (cw [u4_1r3,u4_2r3]).toArray),(11,.pointer (some ⟨b17,0,none⟩)),(10,.pointer (some ⟨b10,0,none⟩)),(8,.slice p7 ((Pg.clN n qa qb l i).length) c7),(20,.int .i64 ((i:Nat):Int)),(19,.int .i64 ((n:Nat):Int)),(18,.slice p n cap),(7,.func (.func 94) #[] #[.pointer (some ⟨b1,0,none⟩),.pointer (some ⟨b2,0,none⟩)]),(6,.slice none 0 0),(0,.slice p n cap)],[boxA u8_1r3 43 (cw [wz,wz])],[boxA u7_1 43 (cw [u5_1,u5_2]),boxA u6_1 43 (cw [u2_1,u2_2]),boxA b17 69 (cw [w13,w14,w15,w16]),boxA b10 69 (cw [w6,w7,w8,w9]),rowA 69 rR p7 c7 (Pg.clN n qa qb l i)],[qF true u4_1r3 u4_2r3 ((Pg.sdq qa qb (l.getD i ((0:Rat),(0:Rat)))) / ((Pg.sdq qa qb (l.getD i ((0:Rat),(0:Rat)))) - (Pg.sdq qa qb (l.getD ((i+1)%n) ((0:Rat),(0:Rat)))))),qF true u3_1r3 u3_2r3 ((Pg.sdq qa qb (l.getD i ((0:Rat),(0:Rat)))) - (Pg.sdq qa qb (l.getD ((i+1)%n) ((0:Rat),(0:Rat))))),qF true u5_1 u5_2 (Pg.sdq qa qb (l.getD ((i+1)%n) ((0:Rat),(0:Rat)))),qF true u2_1 u2_2 (Pg.sdq qa qb (l.getD i ((0:Rat),(0:Rat)))),qF true w13 w14 ((l.getD ((i+1)%n) ((0:Rat),(0:Rat))).1),qF true w15 w16 ((l.getD ((i+1)%n) ((0:Rat),(0:Rat))).2),qF true w6 w7 ((l.getD i ((0:Rat),(0:Rat))).1),qF true w8 w9 ((l.getD i ((0:Rat),(0:Rat))).2),atF b2 0 [wb0.b,wb0.l,wb1.b,wb1.l,wb2.b,wb2.l,wb3.b,wb3.l],atF b1 0 [wa0.b,wa0.l,wa1.b,wa1.l,wa2.b,wa2.l,wa3.b,wa3.l],slF rR p cap l,qF true wa0 wa1 (qa.1),qF true wa2 wa3 (qa.2),qF true wb0 wb1 (qb.1),qF true wb2 wb3 (qb.2)])) ?_ (fun hD1=> ?_)
     ·
      rintro ⟨u3_1r3,u3_2r3,u4_1r3,u4_2r3,u8_1r3⟩
      dsimp only [cw]
      refine zkb 9 kr ?_
      ·
       refine zy kr rfl rfl rfl rfl rfl sz43 rfl (.t4 .nil)<|e_pv 10 rfl rfl (zb rfl) ?_
       exact zda (hD0 (u3_1r3,u3_2r3,u4_1r3,u4_2r3,u8_1r3)) kr ((.of rfl):SubM _ _) .rfl .rfl ((.of [0,1,2,3,4,5,6,7,8,9,10,11,12,13,14] rfl):SelR _ _ _)
     refine zva (X:=Wd×Wd×Wd×Wd) (k':=3) (L':=(lb 11 255)) (fun (u3_1r3,u3_2r3,u4_1r3,u4_2r3)=>([(65,.int .i64 0),(64,.agg (cw [u4_1r3,u4_2r3]).toArray),(11,.pointer (some ⟨b17,0,none⟩)),(10,.pointer (some ⟨b10,0,none⟩)),(8,.slice p7 ((Pg.clN n qa qb l i).length) c7),(20,.int .i64 ((i:Nat):Int)),(19,.int .i64 ((n:Nat):Int)),(18,.slice p n cap),(7,.func (.func 94) #[] #[.pointer (some ⟨b1,0,none⟩),.pointer (some ⟨b2,0,none⟩)]),(6,.slice none 0 0),(0,.slice p n cap)],[],[boxA u7_1 43 (cw [u5_1,u5_2]),boxA u6_1 43 (cw [u2_1,u2_2]),boxA b17 69 (cw [w13,w14,w15,w16]),boxA b10 69 (cw [w6,w7,w8,w9]),rowA 69 rR p7 c7 (Pg.clN n qa qb l i)],[qF true u4_1r3 u4_2r3 ((Pg.sdq qa qb (l.getD i ((0:Rat),(0:Rat)))) / ((Pg.sdq qa qb (l.getD i ((0:Rat),(0:Rat)))) - (Pg.sdq qa qb (l.getD ((i+1)%n) ((0:Rat),(0:Rat)))))),qF true u3_1r3 u3_2r3 ((Pg.sdq qa qb (l.getD i ((0:Rat),(0:Rat)))) - (Pg.sdq qa qb (l.getD ((i+1)%n) ((0:Rat),(0:Rat))))),qF true u5_1 u5_2 (Pg.sdq qa qb (l.getD ((i+1)%n) ((0:Rat),(0:Rat)))),qF true u2_1 u2_2 (Pg.sdq qa qb (l.getD i ((0:Rat),(0:Rat)))),qF true w13 w14 ((l.getD ((i+1)%n) ((0:Rat),(0:Rat))).1),qF true w15 w16 ((l.getD ((i+1)%n) ((0:Rat),(0:Rat))).2),qF true w6 w7 ((l.getD i ((0:Rat),(0:Rat))).1),qF true w8 w9 ((l.getD i ((0:Rat),(0:Rat))).2),atF b2 0 [wb0.b,wb0.l,wb1.b,wb1.l,wb2.b,wb2.l,wb3.b,wb3.l],atF b1 0 [wa0.b,wa0.l,wa1.b,wa1.l,wa2.b,wa2.l,wa3.b,wa3.l],slF rR p cap l,qF true wa0 wa1 (qa.1),qF true wa2 wa3 (qa.2),qF true wb0 wb1 (qb.1),qF true wb2 wb3 (qb.2)])) ?_ (fun hD2=> ?_)
     ·
      rintro ⟨u3_1r3,u3_2r3,u4_1r3,u4_2r3⟩
      dsimp only [cw]
      refine zkb 8 kr ?_
      ·
       refine zua rfl rfl rfl rfl (zp zr43 rfl) (fun u8_1r3 _=> ?_)
       exact zda (hD1 (u3_1r3,u3_2r3,u4_1r3,u4_2r3,u8_1r3)) kr ((.of rfl):SubM _ _) .rfl .rfl ((.of [0,1,2,3,4,5,6,7,8,9,10,11,12,13,14] rfl):SelR _ _ _)
     refine zva (X:=Wd×Wd×Nat) (k':=6) (L':=(lb 11 271)) (fun (u3_1r3,u3_2r3,u8_1r3)=>([(14,.pointer (some ⟨u8_1r3,0,none⟩)),(62,.agg (cw [u3_1r3,u3_2r3]).toArray),(59,.agg (cw [u2_1,u2_2]).toArray),(11,.pointer (some ⟨b17,0,none⟩)),(10,.pointer (some ⟨b10,0,none⟩)),(8,.slice p7 ((Pg.clN n qa qb l i).length) c7),(20,.int .i64 ((i:Nat):Int)),(19,.int .i64 ((n:Nat):Int)),(18,.slice p n cap),(7,.func (.func 94) #[] #[.pointer (some ⟨b1,0,none⟩),.pointer (some ⟨b2,0,none⟩)]),(6,.slice none 0 0),(0,.slice p n cap)],[boxA u8_1r3 43 (cw [wz,wz])],[boxA u7_1 43 (cw [u5_1,u5_2]),boxA u6_1 43 (cw [u2_1,u2_2]),boxA b17 69 (cw [w13,w14,w15,w16]),boxA b10 69 (cw [w6,w7,w8,w9]),rowA 69 rR p7 c7 (Pg.clN n qa qb l i)],[qF true u3_1r3 u3_2r3 ((Pg.sdq qa qb (l.getD i ((0:Rat),(0:Rat)))) - (Pg.sdq qa qb (l.getD ((i+1)%n) ((0:Rat),(0:Rat))))),qF true u5_1 u5_2 (Pg.sdq qa qb (l.getD ((i+1)%n) ((0:Rat),(0:Rat)))),qF true u2_1 u2_2 (Pg.sdq qa qb (l.getD i ((0:Rat),(0:Rat)))),qF true w13 w14 ((l.getD ((i+1)%n) ((0:Rat),(0:Rat))).1),qF true w15 w16 ((l.getD ((i+1)%n) ((0:Rat),(0:Rat))).2),qF true w6 w7 ((l.getD i ((0:Rat),(0:Rat))).1),qF true w8 w9 ((l.getD i ((0:Rat),(0:Rat))).2),atF b2 0 [wb0.b,wb0.l,wb1.b,wb1.l,wb2.b,wb2.l,wb3.b,wb3.l],atF b1 0 [wa0.b,wa0.l,wa1.b,wa1.l,wa2.b,wa2.l,wa3.b,wa3.l],slF rR p cap l,qF true wa0 wa1 (qa.1),qF true wa2 wa3 (qa.2),qF true wb0 wb1 (qb.1),qF true wb2 wb3 (qb.2)])) ?_ (fun hD3=> ?_)
     ·
      rintro ⟨u3_1r3,u3_2r3,u8_1r3⟩
      dsimp only [cw]
      refine zkb 4 kr ?_
      ·
       refine zE rfl rfl rfl rfl (.c rfl (.c rfl .n)) ce99 (zrb (k1:=true) (u1:=u2_1) (v1:=u2_2) (q1:=Pg.sdq qa qb (l.getD i ((0:Rat),(0:Rat)))) (k2:=true) (u2:=u3_1r3) (v2:=u3_2r3) (q2:=(Pg.sdq qa qb (l.getD i ((0:Rat),(0:Rat)))) - (Pg.sdq qa qb (l.getD ((i+1)%n) ((0:Rat),(0:Rat))))) (hl:=cbo) (hy:=cbo)) (.c (j:=2) rfl (.c (j:=0) rfl .n)) ?_
       rintro ⟨u4_1r3,u4_2r3⟩ -
       dsimp only [aq,nq,cq]
       refine e_dm 5 rfl rfl rfl<|e_pv 6 rfl rfl (zC rfl rfl)<|e_pv 7 rfl rfl (zC rfl rfl) ?_
       exact zda (hD1 (u3_1r3,u3_2r3,u4_1r3,u4_2r3,u8_1r3)) kr ((.of rfl):SubM _ _) .rfl .rfl ((.of [0,1,2,3,4,5,6,7,8,9,10,11,12,13,14] rfl):SelR _ _ _)
     refine zva (X:=Wd×Wd) (k':=7) (L':=(lb 11 15)) (fun (u3_1r3,u3_2r3)=>([(62,.agg (cw [u3_1r3,u3_2r3]).toArray),(59,.agg (cw [u2_1,u2_2]).toArray),(11,.pointer (some ⟨b17,0,none⟩)),(10,.pointer (some ⟨b10,0,none⟩)),(8,.slice p7 ((Pg.clN n qa qb l i).length) c7),(20,.int .i64 ((i:Nat):Int)),(19,.int .i64 ((n:Nat):Int)),(18,.slice p n cap),(7,.func (.func 94) #[] #[.pointer (some ⟨b1,0,none⟩),.pointer (some ⟨b2,0,none⟩)]),(6,.slice none 0 0),(0,.slice p n cap)],[],[boxA u7_1 43 (cw [u5_1,u5_2]),boxA u6_1 43 (cw [u2_1,u2_2]),boxA b17 69 (cw [w13,w14,w15,w16]),boxA b10 69 (cw [w6,w7,w8,w9]),rowA 69 rR p7 c7 (Pg.clN n qa qb l i)],[qF true u3_1r3 u3_2r3 ((Pg.sdq qa qb (l.getD i ((0:Rat),(0:Rat)))) - (Pg.sdq qa qb (l.getD ((i+1)%n) ((0:Rat),(0:Rat))))),qF true u5_1 u5_2 (Pg.sdq qa qb (l.getD ((i+1)%n) ((0:Rat),(0:Rat)))),qF true u2_1 u2_2 (Pg.sdq qa qb (l.getD i ((0:Rat),(0:Rat)))),qF true w13 w14 ((l.getD ((i+1)%n) ((0:Rat),(0:Rat))).1),qF true w15 w16 ((l.getD ((i+1)%n) ((0:Rat),(0:Rat))).2),qF true w6 w7 ((l.getD i ((0:Rat),(0:Rat))).1),qF true w8 w9 ((l.getD i ((0:Rat),(0:Rat))).2),atF b2 0 [wb0.b,wb0.l,wb1.b,wb1.l,wb2.b,wb2.l,wb3.b,wb3.l],atF b1 0 [wa0.b,wa0.l,wa1.b,wa1.l,wa2.b,wa2.l,wa3.b,wa3.l],slF rR p cap l,qF true wa0 wa1 (qa.1),qF true wa2 wa3 (qa.2),qF true wb0 wb1 (qb.1),qF true wb2 wb3 (qb.2)])) ?_ (fun hD4=> ?_)
     ·
      rintro ⟨u3_1r3,u3_2r3⟩
      dsimp only [cw]
      refine zZb 4 8 kr ?_ ?_
      ·
       refine zE rfl rfl rfl rfl (.c rfl (.c rfl .n)) ce99 (zrb (k1:=true) (u1:=u2_1) (v1:=u2_2) (q1:=Pg.sdq qa qb (l.getD i ((0:Rat),(0:Rat)))) (k2:=true) (u2:=u3_1r3) (v2:=u3_2r3) (q2:=(Pg.sdq qa qb (l.getD i ((0:Rat),(0:Rat)))) - (Pg.sdq qa qb (l.getD ((i+1)%n) ((0:Rat),(0:Rat))))) (hl:=cbo) (hy:=cbo)) (.c (j:=2) rfl (.c (j:=0) rfl .n)) ?_
       rintro ⟨u4_1r3,u4_2r3⟩ -
       dsimp only [aq,nq,cq]
       refine e_dm 5 rfl rfl rfl<|e_pv 6 rfl rfl (zC rfl rfl)<|e_pv 7 rfl rfl (zC rfl rfl) ?_
       exact zda (hD2 (u3_1r3,u3_2r3,u4_1r3,u4_2r3)) kr ((.of rfl):SubM _ _) .rfl .rfl ((.of [0,1,2,3,4,5,6,7,8,9,10,11,12,13,14] rfl):SelR _ _ _)
      ·
       refine zua rfl rfl rfl rfl (zp zr43 rfl) (fun u8_1r3 _=> ?_)
       exact zda (hD3 (u3_1r3,u3_2r3,u8_1r3)) kr ((.of rfl):SubM _ _) .rfl .rfl ((.of [0,1,2,3,4,5,6,7,8,9,10,11,12,13] rfl):SelR _ _ _)
     refine zva (X:=Nat) (k':=7) (L':=(lb 11 263)) (fun u8_1r3=>([(14,.pointer (some ⟨u8_1r3,0,none⟩)),(61,.agg (cw [u5_1,u5_2]).toArray),(60,.agg (cw [u2_1,u2_2]).toArray),(59,.agg (cw [u2_1,u2_2]).toArray),(11,.pointer (some ⟨b17,0,none⟩)),(10,.pointer (some ⟨b10,0,none⟩)),(8,.slice p7 ((Pg.clN n qa qb l i).length) c7),(20,.int .i64 ((i:Nat):Int)),(19,.int .i64 ((n:Nat):Int)),(18,.slice p n cap),(7,.func (.func 94) #[] #[.pointer (some ⟨b1,0,none⟩),.pointer (some ⟨b2,0,none⟩)]),(6,.slice none 0 0),(0,.slice p n cap)],[boxA u8_1r3 43 (cw [wz,wz])],[boxA u7_1 43 (cw [u5_1,u5_2]),boxA u6_1 43 (cw [u2_1,u2_2]),boxA b17 69 (cw [w13,w14,w15,w16]),boxA b10 69 (cw [w6,w7,w8,w9]),rowA 69 rR p7 c7 (Pg.clN n qa qb l i)],[qF true u5_1 u5_2 (Pg.sdq qa qb (l.getD ((i+1)%n) ((0:Rat),(0:Rat)))),qF true u2_1 u2_2 (Pg.sdq qa qb (l.getD i ((0:Rat),(0:Rat)))),qF true w13 w14 ((l.getD ((i+1)%n) ((0:Rat),(0:Rat))).1),qF true w15 w16 ((l.getD ((i+1)%n) ((0:Rat),(0:Rat))).2),qF true w6 w7 ((l.getD i ((0:Rat),(0:Rat))).1),qF true w8 w9 ((l.getD i ((0:Rat),(0:Rat))).2),atF b2 0 [wb0.b,wb0.l,wb1.b,wb1.l,wb2.b,wb2.l,wb3.b,wb3.l],atF b1 0 [wa0.b,wa0.l,wa1.b,wa1.l,wa2.b,wa2.l,wa3.b,wa3.l],slF rR p cap l,qF true wa0 wa1 (qa.1),qF true wa2 wa3 (qa.2),qF true wb0 wb1 (qb.1),qF true wb2 wb3 (qb.2)])) ?_ (fun hD5=> ?_)
     ·
      rintro u8_1r3
      dsimp only [cw]
      refine zkb 3 kr ?_
      ·
       refine zE rfl rfl rfl rfl (.c rfl (.c rfl .n)) ce100 (zHb (k1:=true) (u1:=u2_1) (v1:=u2_2) (q1:=Pg.sdq qa qb (l.getD i ((0:Rat),(0:Rat)))) (k2:=true) (u2:=u5_1) (v2:=u5_2) (q2:=Pg.sdq qa qb (l.getD ((i+1)%n) ((0:Rat),(0:Rat)))) (hl:=cbo)) (.c (j:=1) rfl (.c (j:=0) rfl .n)) ?_
       rintro ⟨u3_1r3,u3_2r3⟩ -
       dsimp only [aq,nq,cq]
       exact zda (hD3 (u3_1r3,u3_2r3,u8_1r3)) kr ((.of rfl):SubM _ _) .rfl .rfl ((.of [0,1,2,3,4,5,6,7,8,9,10,11,12,13] rfl):SelR _ _ _)
     refine zZb 3 8 kr ?_ ?_
     ·
      refine zE rfl rfl rfl rfl (.c rfl (.c rfl .n)) ce100 (zHb (k1:=true) (u1:=u2_1) (v1:=u2_2) (q1:=Pg.sdq qa qb (l.getD i ((0:Rat),(0:Rat)))) (k2:=true) (u2:=u5_1) (v2:=u5_2) (q2:=Pg.sdq qa qb (l.getD ((i+1)%n) ((0:Rat),(0:Rat)))) (hl:=cbo)) (.c (j:=1) rfl (.c (j:=0) rfl .n)) ?_
      rintro ⟨u3_1r3,u3_2r3⟩ -
      dsimp only [aq,nq,cq]
      exact zda (hD4 (u3_1r3,u3_2r3)) kr ((.of rfl):SubM _ _) .rfl .rfl ((.of [0,1,2,3,4,5,6,7,8,9,10,11,12,13] rfl):SelR _ _ _)
     ·
      refine zua rfl rfl rfl rfl (zp zr43 rfl) (fun u8_1r3 _=> ?_)
      exact zda (hD5 u8_1r3) kr ((.of rfl):SubM _ _) .rfl .rfl ((.of [0,1,2,3,4,5,6,7,8,9,10,11,12] rfl):SelR _ _ _)
    ·
     refine zt<|zP<|zd ?_
     have hrw:(Pg.clN n qa qb l i)=Pg.clN n qa qb l (i+1):=by show _=Pg.clN n qa qb l i++Pg.clA qa qb _ _;first|(rw [Pg.clA_yes hin hcr,List.append_assoc];done)|(rw [Pg.clA_yes hin hcr,List.append_assoc];rfl)|(rw [Pg.clA_in hin hcr];done)|(rw [Pg.clA_in hin hcr];rfl)|(rw [Pg.clA_new hin hcr];done)|(rw [Pg.clA_new hin hcr];rfl)|(rw [Pg.clA_no hin hcr,List.append_nil];done)|(rw [Pg.clA_no hin hcr,List.append_nil];rfl)
     rw [hrw]
     refine za<|e_p (zI (z:=(((i+1):Nat):Int)) rfl rfl (w64 om))<|e_mv rfl<|zh<|zha ((i+1),p7,c7) (show (i+1)≤n from by show i+1≤n;omega) (by show n - (i+1)<n - i;omega) ((.e rfl (by first|(refine congrArg (fun z=>Value.slice _ z _) ?_;dsimp only;rw [← hrw];simp;done)|(refine congrArg (fun z=>Value.slice _ z _) ?_;dsimp only;rw [← hrw];done)|(refine congrArg (fun z=>Value.slice _ z _) ?_;rw [← hrw];done)|(rw [← hrw];done)) (.of rfl)):SubM _ _) (ho:=((.c (i:=4) rfl .n):PickO _ _ _)) ((.of [6,7,8,9,10,11,12] rfl):SelR _ _ _)
  refine zva (X:=Wd×Wd×Wd×Wd×Nat×Nat) (k':=1) (L':=(lb 10 511)) (fun (u2_1,u2_2,u5_1,u5_2,u6_1,u7_1)=>([(13,.pointer (some ⟨u7_1,0,none⟩)),(12,.pointer (some ⟨u6_1,0,none⟩)),(38,.agg (cw [u5_1,u5_2]).toArray),(11,.pointer (some ⟨b17,0,none⟩)),(10,.pointer (some ⟨b10,0,none⟩)),(8,.slice p7 ((Pg.clN n qa qb l i).length) c7),(20,.int .i64 ((i:Nat):Int)),(19,.int .i64 ((n:Nat):Int)),(18,.slice p n cap),(7,.func (.func 94) #[] #[.pointer (some ⟨b1,0,none⟩),.pointer (some ⟨b2,0,none⟩)]),(6,.slice none 0 0),(0,.slice p n cap)],[boxA u6_1 43 (cw [u2_1,u2_2]),boxA u7_1 43 (cw [wz,wz])],[boxA b17 69 (cw [w13,w14,w15,w16]),boxA b10 69 (cw [w6,w7,w8,w9]),rowA 69 rR p7 c7 (Pg.clN n qa qb l i)],[qF true u5_1 u5_2 (Pg.sdq qa qb (l.getD ((i+1)%n) ((0:Rat),(0:Rat)))),qF true u2_1 u2_2 (Pg.sdq qa qb (l.getD i ((0:Rat),(0:Rat)))),qF true w13 w14 ((l.getD ((i+1)%n) ((0:Rat),(0:Rat))).1),qF true w15 w16 ((l.getD ((i+1)%n) ((0:Rat),(0:Rat))).2),qF true w6 w7 ((l.getD i ((0:Rat),(0:Rat))).1),qF true w8 w9 ((l.getD i ((0:Rat),(0:Rat))).2),atF b2 0 [wb0.b,wb0.l,wb1.b,wb1.l,wb2.b,wb2.l,wb3.b,wb3.l],atF b1 0 [wa0.b,wa0.l,wa1.b,wa1.l,wa2.b,wa2.l,wa3.b,wa3.l],slF rR p cap l,qF true wa0 wa1 (qa.1),qF true wa2 wa3 (qa.2),qF true wb0 wb1 (qb.1),qF true wb2 wb3 (qb.2)])) ?_ (fun hD1=> ?_)
  ·
   rintro ⟨u2_1,u2_2,u5_1,u5_2,u6_1,u7_1⟩
   dsimp only [cw]
   refine zkb 9 kr ?_
   ·
    refine zNb (zga (i:=1) rfl)<|zy kr rfl rfl rfl rfl rfl sz43 rfl (.t4 .nil) ?_
    exact zda (hD0 (u2_1,u2_2,u5_1,u5_2,u6_1,u7_1)) kr ((.of rfl):SubM _ _) .rfl .rfl ((.of [0,1,2,3,4,5,6,7,8,9,10,11,12] rfl):SelR _ _ _)
  refine zva (X:=Wd×Wd×Wd×Wd×Nat×Nat) (k':=2) (L':=(lb 10 255)) (fun (u2_1,u2_2,u5_1,u5_2,u6_1,u7_1)=>([(13,.pointer (some ⟨u7_1,0,none⟩)),(12,.pointer (some ⟨u6_1,0,none⟩)),(38,.agg (cw [u5_1,u5_2]).toArray),(35,.agg (cw [u2_1,u2_2]).toArray),(11,.pointer (some ⟨b17,0,none⟩)),(10,.pointer (some ⟨b10,0,none⟩)),(8,.slice p7 ((Pg.clN n qa qb l i).length) c7),(20,.int .i64 ((i:Nat):Int)),(19,.int .i64 ((n:Nat):Int)),(18,.slice p n cap),(7,.func (.func 94) #[] #[.pointer (some ⟨b1,0,none⟩),.pointer (some ⟨b2,0,none⟩)]),(6,.slice none 0 0),(0,.slice p n cap)],[boxA u7_1 43 (cw [wz,wz]),boxA u6_1 43 (cw [wz,wz])],[boxA b17 69 (cw [w13,w14,w15,w16]),boxA b10 69 (cw [w6,w7,w8,w9]),rowA 69 rR p7 c7 (Pg.clN n qa qb l i)],[qF true u5_1 u5_2 (Pg.sdq qa qb (l.getD ((i+1)%n) ((0:Rat),(0:Rat)))),qF true u2_1 u2_2 (Pg.sdq qa qb (l.getD i ((0:Rat),(0:Rat)))),qF true w13 w14 ((l.getD ((i+1)%n) ((0:Rat),(0:Rat))).1),qF true w15 w16 ((l.getD ((i+1)%n) ((0:Rat),(0:Rat))).2),qF true w6 w7 ((l.getD i ((0:Rat),(0:Rat))).1),qF true w8 w9 ((l.getD i ((0:Rat),(0:Rat))).2),atF b2 0 [wb0.b,wb0.l,wb1.b,wb1.l,wb2.b,wb2.l,wb3.b,wb3.l],atF b1 0 [wa0.b,wa0.l,wa1.b,wa1.l,wa2.b,wa2.l,wa3.b,wa3.l],slF rR p cap l,qF true wa0 wa1 (qa.1),qF true wa2 wa3 (qa.2),qF true wb0 wb1 (qb.1),qF true wb2 wb3 (qb.2)])) ?_ (fun hD2=> ?_)
  ·
   rintro ⟨u2_1,u2_2,u5_1,u5_2,u6_1,u7_1⟩
   dsimp only [cw]
   refine zkb 8 kr ?_
   ·
    refine zNb (zga (i:=1) rfl)<|zy kr rfl rfl rfl rfl rfl sz43 rfl (.t4 .nil) ?_
    exact zda (hD1 (u2_1,u2_2,u5_1,u5_2,u6_1,u7_1)) kr ((.of rfl):SubM _ _) .rfl .rfl ((.of [0,1,2,3,4,5,6,7,8,9,10,11,12] rfl):SelR _ _ _)
  refine zva (X:=Wd×Wd×Wd×Wd×Nat) (k':=3) (L':=(lb 10 127)) (fun (u2_1,u2_2,u5_1,u5_2,u6_1)=>([(12,.pointer (some ⟨u6_1,0,none⟩)),(38,.agg (cw [u5_1,u5_2]).toArray),(35,.agg (cw [u2_1,u2_2]).toArray),(11,.pointer (some ⟨b17,0,none⟩)),(10,.pointer (some ⟨b10,0,none⟩)),(8,.slice p7 ((Pg.clN n qa qb l i).length) c7),(20,.int .i64 ((i:Nat):Int)),(19,.int .i64 ((n:Nat):Int)),(18,.slice p n cap),(7,.func (.func 94) #[] #[.pointer (some ⟨b1,0,none⟩),.pointer (some ⟨b2,0,none⟩)]),(6,.slice none 0 0),(0,.slice p n cap)],[boxA u6_1 43 (cw [wz,wz])],[boxA b17 69 (cw [w13,w14,w15,w16]),boxA b10 69 (cw [w6,w7,w8,w9]),rowA 69 rR p7 c7 (Pg.clN n qa qb l i)],[qF true u5_1 u5_2 (Pg.sdq qa qb (l.getD ((i+1)%n) ((0:Rat),(0:Rat)))),qF true u2_1 u2_2 (Pg.sdq qa qb (l.getD i ((0:Rat),(0:Rat)))),qF true w13 w14 ((l.getD ((i+1)%n) ((0:Rat),(0:Rat))).1),qF true w15 w16 ((l.getD ((i+1)%n) ((0:Rat),(0:Rat))).2),qF true w6 w7 ((l.getD i ((0:Rat),(0:Rat))).1),qF true w8 w9 ((l.getD i ((0:Rat),(0:Rat))).2),atF b2 0 [wb0.b,wb0.l,wb1.b,wb1.l,wb2.b,wb2.l,wb3.b,wb3.l],atF b1 0 [wa0.b,wa0.l,wa1.b,wa1.l,wa2.b,wa2.l,wa3.b,wa3.l],slF rR p cap l,qF true wa0 wa1 (qa.1),qF true wa2 wa3 (qa.2),qF true wb0 wb1 (qb.1),qF true wb2 wb3 (qb.2)])) ?_ (fun hD3=> ?_)
  ·
   rintro ⟨u2_1,u2_2,u5_1,u5_2,u6_1⟩
   dsimp only [cw]
   refine zkb 7 kr ?_
   ·
    refine zua rfl rfl rfl rfl (zp zr43 rfl) (fun u7_1 _=> ?_)
    exact zda (hD2 (u2_1,u2_2,u5_1,u5_2,u6_1,u7_1)) kr ((.of rfl):SubM _ _) .rfl .rfl ((.of [0,1,2,3,4,5,6,7,8,9,10,11,12] rfl):SelR _ _ _)
  refine zva (X:=Wd×Wd×Wd×Wd×Nat) (k':=3) (L':=(lb 10 191)) (fun (u2_1,u2_2,u5_1,u5_2,u7_1)=>([(13,.pointer (some ⟨u7_1,0,none⟩)),(38,.agg (cw [u5_1,u5_2]).toArray),(35,.agg (cw [u2_1,u2_2]).toArray),(11,.pointer (some ⟨b17,0,none⟩)),(10,.pointer (some ⟨b10,0,none⟩)),(8,.slice p7 ((Pg.clN n qa qb l i).length) c7),(20,.int .i64 ((i:Nat):Int)),(19,.int .i64 ((n:Nat):Int)),(18,.slice p n cap),(7,.func (.func 94) #[] #[.pointer (some ⟨b1,0,none⟩),.pointer (some ⟨b2,0,none⟩)]),(6,.slice none 0 0),(0,.slice p n cap)],[boxA u7_1 43 (cw [wz,wz])],[boxA b17 69 (cw [w13,w14,w15,w16]),boxA b10 69 (cw [w6,w7,w8,w9]),rowA 69 rR p7 c7 (Pg.clN n qa qb l i)],[qF true u5_1 u5_2 (Pg.sdq qa qb (l.getD ((i+1)%n) ((0:Rat),(0:Rat)))),qF true u2_1 u2_2 (Pg.sdq qa qb (l.getD i ((0:Rat),(0:Rat)))),qF true w13 w14 ((l.getD ((i+1)%n) ((0:Rat),(0:Rat))).1),qF true w15 w16 ((l.getD ((i+1)%n) ((0:Rat),(0:Rat))).2),qF true w6 w7 ((l.getD i ((0:Rat),(0:Rat))).1),qF true w8 w9 ((l.getD i ((0:Rat),(0:Rat))).2),atF b2 0 [wb0.b,wb0.l,wb1.b,wb1.l,wb2.b,wb2.l,wb3.b,wb3.l],atF b1 0 [wa0.b,wa0.l,wa1.b,wa1.l,wa2.b,wa2.l,wa3.b,wa3.l],slF rR p cap l,qF true wa0 wa1 (qa.1),qF true wa2 wa3 (qa.2),qF true wb0 wb1 (qb.1),qF true wb2 wb3 (qb.2)])) ?_ (fun hD4=> ?_)
  ·
   rintro ⟨u2_1,u2_2,u5_1,u5_2,u7_1⟩
   dsimp only [cw]
   refine zkb 6 kr ?_
   ·
    refine zua rfl rfl rfl rfl (zp zr43 rfl) (fun u6_1 _=> ?_)
    exact zda (hD2 (u2_1,u2_2,u5_1,u5_2,u6_1,u7_1)) kr ((.of rfl):SubM _ _) (zKa 1 rfl (zKa 0 rfl .nil)) .rfl ((.of [0,1,2,3,4,5,6,7,8,9,10,11,12] rfl):SelR _ _ _)
  refine zva (X:=Wd×Wd×Nat×Nat) (k':=3) (L':=(lb 10 223)) (fun (u2_1,u2_2,u6_1,u7_1)=>([(13,.pointer (some ⟨u7_1,0,none⟩)),(12,.pointer (some ⟨u6_1,0,none⟩)),(35,.agg (cw [u2_1,u2_2]).toArray),(37,.agg (cw [w13,w14,w15,w16]).toArray),(36,.func (.func 94) #[] #[.pointer (some ⟨b1,0,none⟩),.pointer (some ⟨b2,0,none⟩)]),(11,.pointer (some ⟨b17,0,none⟩)),(10,.pointer (some ⟨b10,0,none⟩)),(8,.slice p7 ((Pg.clN n qa qb l i).length) c7),(20,.int .i64 ((i:Nat):Int)),(19,.int .i64 ((n:Nat):Int)),(18,.slice p n cap),(7,.func (.func 94) #[] #[.pointer (some ⟨b1,0,none⟩),.pointer (some ⟨b2,0,none⟩)]),(6,.slice none 0 0),(0,.slice p n cap)],[boxA u7_1 43 (cw [wz,wz]),boxA u6_1 43 (cw [wz,wz])],[boxA b17 69 (cw [w13,w14,w15,w16]),boxA b10 69 (cw [w6,w7,w8,w9]),rowA 69 rR p7 c7 (Pg.clN n qa qb l i)],[qF true u2_1 u2_2 (Pg.sdq qa qb (l.getD i ((0:Rat),(0:Rat)))),qF true w13 w14 ((l.getD ((i+1)%n) ((0:Rat),(0:Rat))).1),qF true w15 w16 ((l.getD ((i+1)%n) ((0:Rat),(0:Rat))).2),qF true w6 w7 ((l.getD i ((0:Rat),(0:Rat))).1),qF true w8 w9 ((l.getD i ((0:Rat),(0:Rat))).2),atF b2 0 [wb0.b,wb0.l,wb1.b,wb1.l,wb2.b,wb2.l,wb3.b,wb3.l],atF b1 0 [wa0.b,wa0.l,wa1.b,wa1.l,wa2.b,wa2.l,wa3.b,wa3.l],slF rR p cap l,qF true wa0 wa1 (qa.1),qF true wa2 wa3 (qa.2),qF true wb0 wb1 (qb.1),qF true wb2 wb3 (qb.2)])) ?_ (fun hD5=> ?_)
  ·
   rintro ⟨u2_1,u2_2,u6_1,u7_1⟩
   dsimp only [cw]
   refine zkb 5 kr ?_
   ·
    refine zgc (first:=[]) (cap:=[.pointer (some ⟨b1,0,none⟩),.pointer (some ⟨b2,0,none⟩)]) rfl rfl rfl rfl rfl (.c rfl .n) ce94 (zpb (ba:=b1) (bb:=b2) (wa0:=wa0) (wa1:=wa1) (wa2:=wa2) (wa3:=wa3) (qa:=qa) (wb0:=wb0) (wb1:=wb1) (wb2:=wb2) (wb3:=wb3) (qb:=qb) (wd0:=w13) (wd1:=w14) (wd2:=w15) (wd3:=w16) (qd:=(l.getD ((i+1)%n) ((0:Rat),(0:Rat)))) (K:=K) (hpa:=ass) (hpb:=ass) (hpd:=cbo) (hK:=cbo)) (.c (j:=6) rfl (.c (j:=5) rfl (.c (j:=8) rfl (.c (j:=9) rfl (.c (j:=10) rfl (.c (j:=11) rfl (.c (j:=1) rfl (.c (j:=2) rfl .n)))))))) ?_
    rintro ⟨u5_1,u5_2⟩ -
    dsimp only [aq,nq,cq]
    exact zda (hD2 (u2_1,u2_2,u5_1,u5_2,u6_1,u7_1)) kr ((.of rfl):SubM _ _) .rfl .rfl ((.of [0,1,2,3,4,5,6,7,8,9,10,11,12] rfl):SelR _ _ _)
  refine zva (X:=Wd×Wd×Wd×Wd) (k':=4) (L':=(lb 10 63)) (fun (u2_1,u2_2,u5_1,u5_2)=>([(38,.agg (cw [u5_1,u5_2]).toArray),(35,.agg (cw [u2_1,u2_2]).toArray),(11,.pointer (some ⟨b17,0,none⟩)),(10,.pointer (some ⟨b10,0,none⟩)),(8,.slice p7 ((Pg.clN n qa qb l i).length) c7),(20,.int .i64 ((i:Nat):Int)),(19,.int .i64 ((n:Nat):Int)),(18,.slice p n cap),(7,.func (.func 94) #[] #[.pointer (some ⟨b1,0,none⟩),.pointer (some ⟨b2,0,none⟩)]),(6,.slice none 0 0),(0,.slice p n cap)],[],[boxA b17 69 (cw [w13,w14,w15,w16]),boxA b10 69 (cw [w6,w7,w8,w9]),rowA 69 rR p7 c7 (Pg.clN n qa qb l i)],[qF true u5_1 u5_2 (Pg.sdq qa qb (l.getD ((i+1)%n) ((0:Rat),(0:Rat)))),qF true u2_1 u2_2 (Pg.sdq qa qb (l.getD i ((0:Rat),(0:Rat)))),qF true w13 w14 ((l.getD ((i+1)%n) ((0:Rat),(0:Rat))).1),qF true w15 w16 ((l.getD ((i+1)%n) ((0:Rat),(0:Rat))).2),qF true w6 w7 ((l.getD i ((0:Rat),(0:Rat))).1),qF true w8 w9 ((l.getD i ((0:Rat),(0:Rat))).2),atF b2 0 [wb0.b,wb0.l,wb1.b,wb1.l,wb2.b,wb2.l,wb3.b,wb3.l],atF b1 0 [wa0.b,wa0.l,wa1.b,wa1.l,wa2.b,wa2.l,wa3.b,wa3.l],slF rR p cap l,qF true wa0 wa1 (qa.1),qF true wa2 wa3 (qa.2),qF true wb0 wb1 (qb.1),qF true wb2 wb3 (qb.2)])) ?_ (fun hD6=> ?_)
  ·
   rintro ⟨u2_1,u2_2,u5_1,u5_2⟩
   dsimp only [cw]
   refine zZb 6 7 kr ?_ ?_
   ·
    refine zua rfl rfl rfl rfl (zp zr43 rfl) (fun u6_1 _=> ?_)
    exact zda (hD3 (u2_1,u2_2,u5_1,u5_2,u6_1)) kr ((.of rfl):SubM _ _) .rfl .rfl ((.of [0,1,2,3,4,5,6,7,8,9,10,11,12] rfl):SelR _ _ _)
   ·
    refine zua rfl rfl rfl rfl (zp zr43 rfl) (fun u7_1 _=> ?_)
    exact zda (hD4 (u2_1,u2_2,u5_1,u5_2,u7_1)) kr ((.of rfl):SubM _ _) .rfl .rfl ((.of [0,1,2,3,4,5,6,7,8,9,10,11,12] rfl):SelR _ _ _)
  refine zva (X:=Wd×Wd×Nat) (k':=4) (L':=(lb 10 95)) (fun (u2_1,u2_2,u6_1)=>([(12,.pointer (some ⟨u6_1,0,none⟩)),(35,.agg (cw [u2_1,u2_2]).toArray),(37,.agg (cw [w13,w14,w15,w16]).toArray),(36,.func (.func 94) #[] #[.pointer (some ⟨b1,0,none⟩),.pointer (some ⟨b2,0,none⟩)]),(11,.pointer (some ⟨b17,0,none⟩)),(10,.pointer (some ⟨b10,0,none⟩)),(8,.slice p7 ((Pg.clN n qa qb l i).length) c7),(20,.int .i64 ((i:Nat):Int)),(19,.int .i64 ((n:Nat):Int)),(18,.slice p n cap),(7,.func (.func 94) #[] #[.pointer (some ⟨b1,0,none⟩),.pointer (some ⟨b2,0,none⟩)]),(6,.slice none 0 0),(0,.slice p n cap)],[boxA u6_1 43 (cw [wz,wz])],[boxA b17 69 (cw [w13,w14,w15,w16]),boxA b10 69 (cw [w6,w7,w8,w9]),rowA 69 rR p7 c7 (Pg.clN n qa qb l i)],[qF true u2_1 u2_2 (Pg.sdq qa qb (l.getD i ((0:Rat),(0:Rat)))),qF true w13 w14 ((l.getD ((i+1)%n) ((0:Rat),(0:Rat))).1),qF true w15 w16 ((l.getD ((i+1)%n) ((0:Rat),(0:Rat))).2),qF true w6 w7 ((l.getD i ((0:Rat),(0:Rat))).1),qF true w8 w9 ((l.getD i ((0:Rat),(0:Rat))).2),atF b2 0 [wb0.b,wb0.l,wb1.b,wb1.l,wb2.b,wb2.l,wb3.b,wb3.l],atF b1 0 [wa0.b,wa0.l,wa1.b,wa1.l,wa2.b,wa2.l,wa3.b,wa3.l],slF rR p cap l,qF true wa0 wa1 (qa.1),qF true wa2 wa3 (qa.2),qF true wb0 wb1 (qb.1),qF true wb2 wb3 (qb.2)])) ?_ (fun hD7=> ?_)
  ·
   rintro ⟨u2_1,u2_2,u6_1⟩
   dsimp only [cw]
   refine zZb 5 7 kr ?_ ?_
   ·
    refine zgc (first:=[]) (cap:=[.pointer (some ⟨b1,0,none⟩),.pointer (some ⟨b2,0,none⟩)]) rfl rfl rfl rfl rfl (.c rfl .n) ce94 (zpb (ba:=b1) (bb:=b2) (wa0:=wa0) (wa1:=wa1) (wa2:=wa2) (wa3:=wa3) (qa:=qa) (wb0:=wb0) (wb1:=wb1) (wb2:=wb2) (wb3:=wb3) (qb:=qb) (wd0:=w13) (wd1:=w14) (wd2:=w15) (wd3:=w16) (qd:=(l.getD ((i+1)%n) ((0:Rat),(0:Rat)))) (K:=K) (hpa:=ass) (hpb:=ass) (hpd:=cbo) (hK:=cbo)) (.c (j:=6) rfl (.c (j:=5) rfl (.c (j:=8) rfl (.c (j:=9) rfl (.c (j:=10) rfl (.c (j:=11) rfl (.c (j:=1) rfl (.c (j:=2) rfl .n)))))))) ?_
    rintro ⟨u5_1,u5_2⟩ -
    dsimp only [aq,nq,cq]
    exact zda (hD3 (u2_1,u2_2,u5_1,u5_2,u6_1)) kr ((.of rfl):SubM _ _) .rfl .rfl ((.of [0,1,2,3,4,5,6,7,8,9,10,11,12] rfl):SelR _ _ _)
   ·
    refine zua rfl rfl rfl rfl (zp zr43 rfl) (fun u7_1 _=> ?_)
    exact zda (hD5 (u2_1,u2_2,u6_1,u7_1)) kr ((.of rfl):SubM _ _) .rfl .rfl ((.of [0,1,2,3,4,5,6,7,8,9,10,11] rfl):SelR _ _ _)
  refine zva (X:=Wd×Wd×Nat) (k':=4) (L':=(lb 10 159)) (fun (u2_1,u2_2,u7_1)=>([(13,.pointer (some ⟨u7_1,0,none⟩)),(35,.agg (cw [u2_1,u2_2]).toArray),(37,.agg (cw [w13,w14,w15,w16]).toArray),(36,.func (.func 94) #[] #[.pointer (some ⟨b1,0,none⟩),.pointer (some ⟨b2,0,none⟩)]),(11,.pointer (some ⟨b17,0,none⟩)),(10,.pointer (some ⟨b10,0,none⟩)),(8,.slice p7 ((Pg.clN n qa qb l i).length) c7),(20,.int .i64 ((i:Nat):Int)),(19,.int .i64 ((n:Nat):Int)),(18,.slice p n cap),(7,.func (.func 94) #[] #[.pointer (some ⟨b1,0,none⟩),.pointer (some ⟨b2,0,none⟩)]),(6,.slice none 0 0),(0,.slice p n cap)],[boxA u7_1 43 (cw [wz,wz])],[boxA b17 69 (cw [w13,w14,w15,w16]),boxA b10 69 (cw [w6,w7,w8,w9]),rowA 69 rR p7 c7 (Pg.clN n qa qb l i)],[qF true u2_1 u2_2 (Pg.sdq qa qb (l.getD i ((0:Rat),(0:Rat)))),qF true w13 w14 ((l.getD ((i+1)%n) ((0:Rat),(0:Rat))).1),qF true w15 w16 ((l.getD ((i+1)%n) ((0:Rat),(0:Rat))).2),qF true w6 w7 ((l.getD i ((0:Rat),(0:Rat))).1),qF true w8 w9 ((l.getD i ((0:Rat),(0:Rat))).2),atF b2 0 [wb0.b,wb0.l,wb1.b,wb1.l,wb2.b,wb2.l,wb3.b,wb3.l],atF b1 0 [wa0.b,wa0.l,wa1.b,wa1.l,wa2.b,wa2.l,wa3.b,wa3.l],slF rR p cap l,qF true wa0 wa1 (qa.1),qF true wa2 wa3 (qa.2),qF true wb0 wb1 (qb.1),qF true wb2 wb3 (qb.2)])) ?_ (fun hD8=> ?_)
  ·
   rintro ⟨u2_1,u2_2,u7_1⟩
   dsimp only [cw]
   refine zZb 5 6 kr ?_ ?_
   ·
    refine zgc (first:=[]) (cap:=[.pointer (some ⟨b1,0,none⟩),.pointer (some ⟨b2,0,none⟩)]) rfl rfl rfl rfl rfl (.c rfl .n) ce94 (zpb (ba:=b1) (bb:=b2) (wa0:=wa0) (wa1:=wa1) (wa2:=wa2) (wa3:=wa3) (qa:=qa) (wb0:=wb0) (wb1:=wb1) (wb2:=wb2) (wb3:=wb3) (qb:=qb) (wd0:=w13) (wd1:=w14) (wd2:=w15) (wd3:=w16) (qd:=(l.getD ((i+1)%n) ((0:Rat),(0:Rat)))) (K:=K) (hpa:=ass) (hpb:=ass) (hpd:=cbo) (hK:=cbo)) (.c (j:=6) rfl (.c (j:=5) rfl (.c (j:=8) rfl (.c (j:=9) rfl (.c (j:=10) rfl (.c (j:=11) rfl (.c (j:=1) rfl (.c (j:=2) rfl .n)))))))) ?_
    rintro ⟨u5_1,u5_2⟩ -
    dsimp only [aq,nq,cq]
    exact zda (hD4 (u2_1,u2_2,u5_1,u5_2,u7_1)) kr ((.of rfl):SubM _ _) .rfl .rfl ((.of [0,1,2,3,4,5,6,7,8,9,10,11,12] rfl):SelR _ _ _)
   ·
    refine zua rfl rfl rfl rfl (zp zr43 rfl) (fun u6_1 _=> ?_)
    exact zda (hD5 (u2_1,u2_2,u6_1,u7_1)) kr ((.of rfl):SubM _ _) (zKa 1 rfl (zKa 0 rfl .nil)) .rfl ((.of [0,1,2,3,4,5,6,7,8,9,10,11] rfl):SelR _ _ _)
  refine zva (X:=Nat×Nat) (k':=4) (L':=(lb 10 219)) (fun (u6_1,u7_1)=>([(13,.pointer (some ⟨u7_1,0,none⟩)),(12,.pointer (some ⟨u6_1,0,none⟩)),(37,.agg (cw [w13,w14,w15,w16]).toArray),(36,.func (.func 94) #[] #[.pointer (some ⟨b1,0,none⟩),.pointer (some ⟨b2,0,none⟩)]),(34,.agg (cw [w6,w7,w8,w9]).toArray),(33,.func (.func 94) #[] #[.pointer (some ⟨b1,0,none⟩),.pointer (some ⟨b2,0,none⟩)]),(11,.pointer (some ⟨b17,0,none⟩)),(10,.pointer (some ⟨b10,0,none⟩)),(8,.slice p7 ((Pg.clN n qa qb l i).length) c7),(20,.int .i64 ((i:Nat):Int)),(19,.int .i64 ((n:Nat):Int)),(18,.slice p n cap),(7,.func (.func 94) #[] #[.pointer (some ⟨b1,0,none⟩),.pointer (some ⟨b2,0,none⟩)]),(6,.slice none 0 0),(0,.slice p n cap)],[boxA u7_1 43 (cw [wz,wz]),boxA u6_1 43 (cw [wz,wz])],[boxA b17 69 (cw [w13,w14,w15,w16]),boxA b10 69 (cw [w6,w7,w8,w9]),rowA 69 rR p7 c7 (Pg.clN n qa qb l i)],[qF true w13 w14 ((l.getD ((i+1)%n) ((0:Rat),(0:Rat))).1),qF true w15 w16 ((l.getD ((i+1)%n) ((0:Rat),(0:Rat))).2),qF true w6 w7 ((l.getD i ((0:Rat),(0:Rat))).1),qF true w8 w9 ((l.getD i ((0:Rat),(0:Rat))).2),atF b2 0 [wb0.b,wb0.l,wb1.b,wb1.l,wb2.b,wb2.l,wb3.b,wb3.l],atF b1 0 [wa0.b,wa0.l,wa1.b,wa1.l,wa2.b,wa2.l,wa3.b,wa3.l],slF rR p cap l,qF true wa0 wa1 (qa.1),qF true wa2 wa3 (qa.2),qF true wb0 wb1 (qb.1),qF true wb2 wb3 (qb.2)])) ?_ (fun hD9=> ?_)
  ·
   rintro ⟨u6_1,u7_1⟩
   dsimp only [cw]
   refine zkb 2 kr ?_
   ·
    refine zgc (first:=[]) (cap:=[.pointer (some ⟨b1,0,none⟩),.pointer (some ⟨b2,0,none⟩)]) rfl rfl rfl rfl rfl (.c rfl .n) ce94 (zpb (ba:=b1) (bb:=b2) (wa0:=wa0) (wa1:=wa1) (wa2:=wa2) (wa3:=wa3) (qa:=qa) (wb0:=wb0) (wb1:=wb1) (wb2:=wb2) (wb3:=wb3) (qb:=qb) (wd0:=w6) (wd1:=w7) (wd2:=w8) (wd3:=w9) (qd:=(l.getD i ((0:Rat),(0:Rat)))) (K:=K) (hpa:=ass) (hpb:=ass) (hpd:=cbo) (hK:=cbo)) (.c (j:=5) rfl (.c (j:=4) rfl (.c (j:=7) rfl (.c (j:=8) rfl (.c (j:=9) rfl (.c (j:=10) rfl (.c (j:=2) rfl (.c (j:=3) rfl .n)))))))) ?_
    rintro ⟨u2_1,u2_2⟩ -
    dsimp only [aq,nq,cq]
    exact zda (hD5 (u2_1,u2_2,u6_1,u7_1)) kr ((.of rfl):SubM _ _) .rfl .rfl ((.of [0,1,2,3,4,5,6,7,8,9,10,11] rfl):SelR _ _ _)
  refine zva (X:=Wd×Wd) (k':=5) (L':=(lb 10 31)) (fun (u2_1,u2_2)=>([(35,.agg (cw [u2_1,u2_2]).toArray),(37,.agg (cw [w13,w14,w15,w16]).toArray),(36,.func (.func 94) #[] #[.pointer (some ⟨b1,0,none⟩),.pointer (some ⟨b2,0,none⟩)]),(11,.pointer (some ⟨b17,0,none⟩)),(10,.pointer (some ⟨b10,0,none⟩)),(8,.slice p7 ((Pg.clN n qa qb l i).length) c7),(20,.int .i64 ((i:Nat):Int)),(19,.int .i64 ((n:Nat):Int)),(18,.slice p n cap),(7,.func (.func 94) #[] #[.pointer (some ⟨b1,0,none⟩),.pointer (some ⟨b2,0,none⟩)]),(6,.slice none 0 0),(0,.slice p n cap)],[],[boxA b17 69 (cw [w13,w14,w15,w16]),boxA b10 69 (cw [w6,w7,w8,w9]),rowA 69 rR p7 c7 (Pg.clN n qa qb l i)],[qF true u2_1 u2_2 (Pg.sdq qa qb (l.getD i ((0:Rat),(0:Rat)))),qF true w13 w14 ((l.getD ((i+1)%n) ((0:Rat),(0:Rat))).1),qF true w15 w16 ((l.getD ((i+1)%n) ((0:Rat),(0:Rat))).2),qF true w6 w7 ((l.getD i ((0:Rat),(0:Rat))).1),qF true w8 w9 ((l.getD i ((0:Rat),(0:Rat))).2),atF b2 0 [wb0.b,wb0.l,wb1.b,wb1.l,wb2.b,wb2.l,wb3.b,wb3.l],atF b1 0 [wa0.b,wa0.l,wa1.b,wa1.l,wa2.b,wa2.l,wa3.b,wa3.l],slF rR p cap l,qF true wa0 wa1 (qa.1),qF true wa2 wa3 (qa.2),qF true wb0 wb1 (qb.1),qF true wb2 wb3 (qb.2)])) ?_ (fun hD10=> ?_)
  ·
   rintro ⟨u2_1,u2_2⟩
   dsimp only [cw]
   refine zmd 5 6 7 kr ?_ ?_ ?_
   ·
    refine zgc (first:=[]) (cap:=[.pointer (some ⟨b1,0,none⟩),.pointer (some ⟨b2,0,none⟩)]) rfl rfl rfl rfl rfl (.c rfl .n) ce94 (zpb (ba:=b1) (bb:=b2) (wa0:=wa0) (wa1:=wa1) (wa2:=wa2) (wa3:=wa3) (qa:=qa) (wb0:=wb0) (wb1:=wb1) (wb2:=wb2) (wb3:=wb3) (qb:=qb) (wd0:=w13) (wd1:=w14) (wd2:=w15) (wd3:=w16) (qd:=(l.getD ((i+1)%n) ((0:Rat),(0:Rat)))) (K:=K) (hpa:=ass) (hpb:=ass) (hpd:=cbo) (hK:=cbo)) (.c (j:=6) rfl (.c (j:=5) rfl (.c (j:=8) rfl (.c (j:=9) rfl (.c (j:=10) rfl (.c (j:=11) rfl (.c (j:=1) rfl (.c (j:=2) rfl .n)))))))) ?_
    rintro ⟨u5_1,u5_2⟩ -
    dsimp only [aq,nq,cq]
    exact zda (hD6 (u2_1,u2_2,u5_1,u5_2)) kr ((.of rfl):SubM _ _) .rfl .rfl ((.of [0,1,2,3,4,5,6,7,8,9,10,11,12] rfl):SelR _ _ _)
   ·
    refine zua rfl rfl rfl rfl (zp zr43 rfl) (fun u6_1 _=> ?_)
    exact zda (hD7 (u2_1,u2_2,u6_1)) kr ((.of rfl):SubM _ _) .rfl .rfl ((.of [0,1,2,3,4,5,6,7,8,9,10,11] rfl):SelR _ _ _)
   ·
    refine zua rfl rfl rfl rfl (zp zr43 rfl) (fun u7_1 _=> ?_)
    exact zda (hD8 (u2_1,u2_2,u7_1)) kr ((.of rfl):SubM _ _) .rfl .rfl ((.of [0,1,2,3,4,5,6,7,8,9,10,11] rfl):SelR _ _ _)
  refine zva (X:=Nat) (k':=5) (L':=(lb 10 91)) (fun u6_1=>([(12,.pointer (some ⟨u6_1,0,none⟩)),(37,.agg (cw [w13,w14,w15,w16]).toArray),(36,.func (.func 94) #[] #[.pointer (some ⟨b1,0,none⟩),.pointer (some ⟨b2,0,none⟩)]),(34,.agg (cw [w6,w7,w8,w9]).toArray),(33,.func (.func 94) #[] #[.pointer (some ⟨b1,0,none⟩),.pointer (some ⟨b2,0,none⟩)]),(11,.pointer (some ⟨b17,0,none⟩)),(10,.pointer (some ⟨b10,0,none⟩)),(8,.slice p7 ((Pg.clN n qa qb l i).length) c7),(20,.int .i64 ((i:Nat):Int)),(19,.int .i64 ((n:Nat):Int)),(18,.slice p n cap),(7,.func (.func 94) #[] #[.pointer (some ⟨b1,0,none⟩),.pointer (some ⟨b2,0,none⟩)]),(6,.slice none 0 0),(0,.slice p n cap)],[boxA u6_1 43 (cw [wz,wz])],[boxA b17 69 (cw [w13,w14,w15,w16]),boxA b10 69 (cw [w6,w7,w8,w9]),rowA 69 rR p7 c7 (Pg.clN n qa qb l i)],[qF true w13 w14 ((l.getD ((i+1)%n) ((0:Rat),(0:Rat))).1),qF true w15 w16 ((l.getD ((i+1)%n) ((0:Rat),(0:Rat))).2),qF true w6 w7 ((l.getD i ((0:Rat),(0:Rat))).1),qF true w8 w9 ((l.getD i ((0:Rat),(0:Rat))).2),atF b2 0 [wb0.b,wb0.l,wb1.b,wb1.l,wb2.b,wb2.l,wb3.b,wb3.l],atF b1 0 [wa0.b,wa0.l,wa1.b,wa1.l,wa2.b,wa2.l,wa3.b,wa3.l],slF rR p cap l,qF true wa0 wa1 (qa.1),qF true wa2 wa3 (qa.2),qF true wb0 wb1 (qb.1),qF true wb2 wb3 (qb.2)])) ?_ (fun hD11=> ?_)
  ·
   rintro u6_1
   dsimp only [cw]
   refine zZb 2 7 kr ?_ ?_
   ·
    refine zgc (first:=[]) (cap:=[.pointer (some ⟨b1,0,none⟩),.pointer (some ⟨b2,0,none⟩)]) rfl rfl rfl rfl rfl (.c rfl .n) ce94 (zpb (ba:=b1) (bb:=b2) (wa0:=wa0) (wa1:=wa1) (wa2:=wa2) (wa3:=wa3) (qa:=qa) (wb0:=wb0) (wb1:=wb1) (wb2:=wb2) (wb3:=wb3) (qb:=qb) (wd0:=w6) (wd1:=w7) (wd2:=w8) (wd3:=w9) (qd:=(l.getD i ((0:Rat),(0:Rat)))) (K:=K) (hpa:=ass) (hpb:=ass) (hpd:=cbo) (hK:=cbo)) (.c (j:=5) rfl (.c (j:=4) rfl (.c (j:=7) rfl (.c (j:=8) rfl (.c (j:=9) rfl (.c (j:=10) rfl (.c (j:=2) rfl (.c (j:=3) rfl .n)))))))) ?_
    rintro ⟨u2_1,u2_2⟩ -
    dsimp only [aq,nq,cq]
    exact zda (hD7 (u2_1,u2_2,u6_1)) kr ((.of rfl):SubM _ _) .rfl .rfl ((.of [0,1,2,3,4,5,6,7,8,9,10,11] rfl):SelR _ _ _)
   ·
    refine zua rfl rfl rfl rfl (zp zr43 rfl) (fun u7_1 _=> ?_)
    exact zda (hD9 (u6_1,u7_1)) kr ((.of rfl):SubM _ _) .rfl .rfl ((.of [0,1,2,3,4,5,6,7,8,9,10] rfl):SelR _ _ _)
  refine zva (X:=Nat) (k':=5) (L':=(lb 10 155)) (fun u7_1=>([(13,.pointer (some ⟨u7_1,0,none⟩)),(37,.agg (cw [w13,w14,w15,w16]).toArray),(36,.func (.func 94) #[] #[.pointer (some ⟨b1,0,none⟩),.pointer (some ⟨b2,0,none⟩)]),(34,.agg (cw [w6,w7,w8,w9]).toArray),(33,.func (.func 94) #[] #[.pointer (some ⟨b1,0,none⟩),.pointer (some ⟨b2,0,none⟩)]),(11,.pointer (some ⟨b17,0,none⟩)),(10,.pointer (some ⟨b10,0,none⟩)),(8,.slice p7 ((Pg.clN n qa qb l i).length) c7),(20,.int .i64 ((i:Nat):Int)),(19,.int .i64 ((n:Nat):Int)),(18,.slice p n cap),(7,.func (.func 94) #[] #[.pointer (some ⟨b1,0,none⟩),.pointer (some ⟨b2,0,none⟩)]),(6,.slice none 0 0),(0,.slice p n cap)],[boxA u7_1 43 (cw [wz,wz])],[boxA b17 69 (cw [w13,w14,w15,w16]),boxA b10 69 (cw [w6,w7,w8,w9]),rowA 69 rR p7 c7 (Pg.clN n qa qb l i)],[qF true w13 w14 ((l.getD ((i+1)%n) ((0:Rat),(0:Rat))).1),qF true w15 w16 ((l.getD ((i+1)%n) ((0:Rat),(0:Rat))).2),qF true w6 w7 ((l.getD i ((0:Rat),(0:Rat))).1),qF true w8 w9 ((l.getD i ((0:Rat),(0:Rat))).2),atF b2 0 [wb0.b,wb0.l,wb1.b,wb1.l,wb2.b,wb2.l,wb3.b,wb3.l],atF b1 0 [wa0.b,wa0.l,wa1.b,wa1.l,wa2.b,wa2.l,wa3.b,wa3.l],slF rR p cap l,qF true wa0 wa1 (qa.1),qF true wa2 wa3 (qa.2),qF true wb0 wb1 (qb.1),qF true wb2 wb3 (qb.2)])) ?_ (fun hD12=> ?_)
  ·
   rintro u7_1
   dsimp only [cw]
   refine zZb 2 6 kr ?_ ?_
   ·
    refine zgc (first:=[]) (cap:=[.pointer (some ⟨b1,0,none⟩),.pointer (some ⟨b2,0,none⟩)]) rfl rfl rfl rfl rfl (.c rfl .n) ce94 (zpb (ba:=b1) (bb:=b2) (wa0:=wa0) (wa1:=wa1) (wa2:=wa2) (wa3:=wa3) (qa:=qa) (wb0:=wb0) (wb1:=wb1) (wb2:=wb2) (wb3:=wb3) (qb:=qb) (wd0:=w6) (wd1:=w7) (wd2:=w8) (wd3:=w9) (qd:=(l.getD i ((0:Rat),(0:Rat)))) (K:=K) (hpa:=ass) (hpb:=ass) (hpd:=cbo) (hK:=cbo)) (.c (j:=5) rfl (.c (j:=4) rfl (.c (j:=7) rfl (.c (j:=8) rfl (.c (j:=9) rfl (.c (j:=10) rfl (.c (j:=2) rfl (.c (j:=3) rfl .n)))))))) ?_
    rintro ⟨u2_1,u2_2⟩ -
    dsimp only [aq,nq,cq]
    exact zda (hD8 (u2_1,u2_2,u7_1)) kr ((.of rfl):SubM _ _) .rfl .rfl ((.of [0,1,2,3,4,5,6,7,8,9,10,11] rfl):SelR _ _ _)
   ·
    refine zua rfl rfl rfl rfl (zp zr43 rfl) (fun u6_1 _=> ?_)
    exact zda (hD9 (u6_1,u7_1)) kr ((.of rfl):SubM _ _) (zKa 1 rfl (zKa 0 rfl .nil)) .rfl ((.of [0,1,2,3,4,5,6,7,8,9,10] rfl):SelR _ _ _)
  refine zmd 2 6 7 kr ?_ ?_ ?_
  ·
   refine zgc (first:=[]) (cap:=[.pointer (some ⟨b1,0,none⟩),.pointer (some ⟨b2,0,none⟩)]) rfl rfl rfl rfl rfl (.c rfl .n) ce94 (zpb (ba:=b1) (bb:=b2) (wa0:=wa0) (wa1:=wa1) (wa2:=wa2) (wa3:=wa3) (qa:=qa) (wb0:=wb0) (wb1:=wb1) (wb2:=wb2) (wb3:=wb3) (qb:=qb) (wd0:=w6) (wd1:=w7) (wd2:=w8) (wd3:=w9) (qd:=(l.getD i ((0:Rat),(0:Rat)))) (K:=K) (hpa:=ass) (hpb:=ass) (hpd:=cbo) (hK:=cbo)) (.c (j:=5) rfl (.c (j:=4) rfl (.c (j:=7) rfl (.c (j:=8) rfl (.c (j:=9) rfl (.c (j:=10) rfl (.c (j:=2) rfl (.c (j:=3) rfl .n)))))))) ?_
   rintro ⟨u2_1,u2_2⟩ -
   dsimp only [aq,nq,cq]
   exact zda (hD10 (u2_1,u2_2)) kr ((.of rfl):SubM _ _) .rfl .rfl ((.of [0,1,2,3,4,5,6,7,8,9,10,11] rfl):SelR _ _ _)
  ·
   refine zua rfl rfl rfl rfl (zp zr43 rfl) (fun u6_1 _=> ?_)
   exact zda (hD11 u6_1) kr ((.of rfl):SubM _ _) .rfl .rfl ((.of [0,1,2,3,4,5,6,7,8,9,10] rfl):SelR _ _ _)
  ·
   refine zua rfl rfl rfl rfl (zp zr43 rfl) (fun u7_1 _=> ?_)
   exact zda (hD12 u7_1) kr ((.of rfl):SubM _ _) .rfl .rfl ((.of [0,1,2,3,4,5,6,7,8,9,10] rfl):SelR _ _ _)
 ·
  refine zla<|zj<|zj<|zr<|zd<|zg<|za<|e_mv rfl<|e_p (zb rfl)<|zh<|zd<|zK ?_
  have e57:Pg.clN n qa qb l i=Pg.clL qa qb l:=by rw [show i=n by omega,Pg.clL,hn]
  rw [e57]
  exact zx Tryz.results58 (p7,c7) trivial (zk rfl) rfl (ho:=((.c (i:=0) rfl .n):PickO _ _ _)) (.n:SelR _ _ _)
end Go.Proofs.YtjcpbhlijoigfaaGreat.Sp
namespace Go.Proofs.YtjcpbhlijoigfaaGreat.Sp
open Go
set_option linter.unusedVariables false
set_option maxRecDepth 100000
set_option maxHeartbeats 8000000
theorem zke {p:Option Addr} {n:Nat} {cap:Nat} {l:List Pg.Q2} {ba:Nat} {ex:Int} {ey:Int} (hn:l.length=n) (hwex: -9223372036854775808≤ex∧ex≤9223372036854775807) (hwey: -9223372036854775808≤ey∧ey≤9223372036854775807) (hbq:Pg.bq 3 l) (hnK:n≤100000):Con ye 57 [.slice p n cap,.pointer (some ⟨ba,0,none⟩)] [] [slF rR p cap l,atF ba 0 [.int .i64 ex,.int .i64 ey]] (Y:=(Option Addr)×Nat) (fun y=>True) (fun y=> .slice (y.1) ((Pg.clL (Pg.pq ex 1) (Pg.pq ex 0) l).length) (y.2)) (fun y=>[rowA 69 rR (y.1) (y.2) (Pg.clL (Pg.pq ex 1) (Pg.pq ex 0) l)]) (fun y=>[]):=by
 refine zn Tryz.func57 rfl rfl rfl (fun c=> ?_)
 show RunC _ _ _ _ _ [(0,.slice p n cap),(1,.pointer (some ⟨ba,0,none⟩))] [] [slF rR p cap l,atF ba 0 [.int .i64 ex,.int .i64 ey]]
 refine zia 0 rfl (fun hL0=> ?_)
 refine zg<|za<|e_p (zb rfl)<|zh<|zd<|zg<|zba (OW:=[]) (O:=[]) 100000 mixed (.then .ret) kr<|e_dm 0 rfl rfl rfl<|e_pv 1 rfl rfl (zf yf rfl sz3 rfl rfl)<|e_u 2 rfl rfl (zB (j:=0) 1 ty3 rfl rfl rfl rfl)<|e_pv 4 rfl rfl (zf yf rfl sz3 rfl rfl)<|e_u 5 rfl rfl (zB (j:=0) 1 ty3 rfl rfl rfl rfl)<|e_one 3 (zE rfl rfl rfl rfl (.c rfl (.c rfl .n)) ce56 (zjb (ex:=ex) (ey:=1) (hwex:=ass) (hwey:=by first|rfl|assumption|omega|(exact Pg.hp_pq om om))) (.n) ?_)
 rintro ⟨wr01,wr12,wr23,wr34⟩ -
 dsimp only [aq,nq,cq]
 refine e_one 6 (zE rfl rfl rfl rfl (.c rfl (.c rfl .n)) ce56 (zjb (ex:=ex) (ey:=0) (hwex:=ass) (hwey:=by first|rfl|assumption|omega|(exact Pg.hp_pq om om))) (.n) ?_)
 rintro ⟨wr05,wr16,wr27,wr38⟩ -
 dsimp only [aq,nq,cq]
 refine e_one 7 (zE rfl rfl rfl rfl (.c rfl (.c rfl (.c rfl .n))) ce58 (zGc (p:=p) (n:=n) (cap:=cap) (l:=l) (wa0:=wr01) (wa1:=wr12) (wa2:=wr23) (wa3:=wr34) (qa:=(Pg.pq ex 1)) (wb0:=wr05) (wb1:=wr16) (wb2:=wr27) (wb3:=wr38) (qb:=(Pg.pq ex 0)) (K:=3) (hn:=ass) (hpa:=by first|rfl|assumption|omega|(exact Pg.hp_pq om om)) (hpb:=by first|rfl|assumption|omega|(exact Pg.hp_pq om om)) (hbq:=ass) (hK:=by first|rfl|assumption|omega|(exact Pg.hp_pq om om)) (hnK:=ass)) (.c (j:=4) rfl (.c (j:=2) rfl (.c (j:=3) rfl (.c (j:=0) rfl (.c (j:=1) rfl .n))))) ?_)
 rintro ⟨p29,c210⟩ -
 dsimp only [aq,nq,cq]
 refine e_pv 8 rfl rfl (zb rfl)<|zX kr<|zd<|zK ?_
 exact zx Tryz.results57 (p29,c210) trivial (zk rfl) rfl (ho:=((.c (i:=0) rfl .n):PickO _ _ _)) (.n:SelR _ _ _)
theorem zle {p:Option Addr} {n:Nat} {cap:Nat} {l:List Pg.Q2} {ba:Nat} {ex:Int} {ey:Int} (hn:l.length=n) (hwex: -9223372036854775808≤ex∧ex≤9223372036854775807) (hwey: -9223372036854775808≤ey∧ey≤9223372036854775807) (hbq:Pg.bq 99 l) (hnK:n≤100000):Con ye 59 [.slice p n cap,.pointer (some ⟨ba,0,none⟩)] [] [slF rR p cap l,atF ba 0 [.int .i64 ex,.int .i64 ey]] (Y:=(Option Addr)×Nat) (fun y=>True) (fun y=> .slice (y.1) ((Pg.clL (Pg.pq ex 0) (Pg.pq ex 1) l).length) (y.2)) (fun y=>[rowA 69 rR (y.1) (y.2) (Pg.clL (Pg.pq ex 0) (Pg.pq ex 1) l)]) (fun y=>[]):=by
 refine zn Tryz.func59 rfl rfl rfl (fun c=> ?_)
 show RunC _ _ _ _ _ [(0,.slice p n cap),(1,.pointer (some ⟨ba,0,none⟩))] [] [slF rR p cap l,atF ba 0 [.int .i64 ex,.int .i64 ey]]
 refine zia 0 rfl (fun hL0=> ?_)
 refine zg<|za<|e_p (zb rfl)<|zh<|zd<|zg<|zba (OW:=[]) (O:=[]) 100000 mixed (.then .ret) kr<|e_dm 0 rfl rfl rfl<|e_pv 1 rfl rfl (zf yf rfl sz3 rfl rfl)<|e_u 2 rfl rfl (zB (j:=0) 1 ty3 rfl rfl rfl rfl)<|e_pv 4 rfl rfl (zf yf rfl sz3 rfl rfl)<|e_u 5 rfl rfl (zB (j:=0) 1 ty3 rfl rfl rfl rfl)<|e_one 3 (zE rfl rfl rfl rfl (.c rfl (.c rfl .n)) ce56 (zjb (ex:=ex) (ey:=0) (hwex:=ass) (hwey:=by first|rfl|assumption|omega|(exact Pg.hp_pq om om))) (.n) ?_)
 rintro ⟨wr01,wr12,wr23,wr34⟩ -
 dsimp only [aq,nq,cq]
 refine e_one 6 (zE rfl rfl rfl rfl (.c rfl (.c rfl .n)) ce56 (zjb (ex:=ex) (ey:=1) (hwex:=ass) (hwey:=by first|rfl|assumption|omega|(exact Pg.hp_pq om om))) (.n) ?_)
 rintro ⟨wr05,wr16,wr27,wr38⟩ -
 dsimp only [aq,nq,cq]
 refine e_one 7 (zE rfl rfl rfl rfl (.c rfl (.c rfl (.c rfl .n))) ce58 (zGc (p:=p) (n:=n) (cap:=cap) (l:=l) (wa0:=wr01) (wa1:=wr12) (wa2:=wr23) (wa3:=wr34) (qa:=(Pg.pq ex 0)) (wb0:=wr05) (wb1:=wr16) (wb2:=wr27) (wb3:=wr38) (qb:=(Pg.pq ex 1)) (K:=99) (hn:=ass) (hpa:=by first|rfl|assumption|omega|(exact Pg.hp_pq om om)) (hpb:=by first|rfl|assumption|omega|(exact Pg.hp_pq om om)) (hbq:=ass) (hK:=by first|rfl|assumption|omega|(exact Pg.hp_pq om om)) (hnK:=ass)) (.c (j:=4) rfl (.c (j:=2) rfl (.c (j:=3) rfl (.c (j:=0) rfl (.c (j:=1) rfl .n))))) ?_)
 rintro ⟨p29,c210⟩ -
 dsimp only [aq,nq,cq]
 refine e_pv 8 rfl rfl (zb rfl)<|zX kr<|zd<|zK ?_
 exact zx Tryz.results59 (p29,c210) trivial (zk rfl) rfl (ho:=((.c (i:=0) rfl .n):PickO _ _ _)) (.n:SelR _ _ _)
theorem zme {p:Option Addr} {n:Nat} {cap:Nat} {l:List Pg.Q2} {ba:Nat} {ex:Int} {ey:Int} (hn:l.length=n) (hwex: -9223372036854775808≤ex∧ex≤9223372036854775807) (hwey: -9223372036854775808≤ey∧ey≤9223372036854775807) (hbq:Pg.bq 963 l) (hnK:n≤100000):Con ye 60 [.slice p n cap,.pointer (some ⟨ba,0,none⟩)] [] [slF rR p cap l,atF ba 0 [.int .i64 ex,.int .i64 ey]] (Y:=(Option Addr)×Nat) (fun y=>True) (fun y=> .slice (y.1) ((Pg.clL (Pg.pq 0 ey) (Pg.pq 1 ey) l).length) (y.2)) (fun y=>[rowA 69 rR (y.1) (y.2) (Pg.clL (Pg.pq 0 ey) (Pg.pq 1 ey) l)]) (fun y=>[]):=by
 refine zn Tryz.func60 rfl rfl rfl (fun c=> ?_)
 show RunC _ _ _ _ _ [(0,.slice p n cap),(1,.pointer (some ⟨ba,0,none⟩))] [] [slF rR p cap l,atF ba 0 [.int .i64 ex,.int .i64 ey]]
 refine zia 0 rfl (fun hL0=> ?_)
 refine zg<|za<|e_p (zb rfl)<|zh<|zd<|zg<|zba (OW:=[]) (O:=[]) 100000 mixed (.then .ret) kr<|e_dm 0 rfl rfl rfl<|e_pv 1 rfl rfl (zf yf rfl sz3 rfl rfl)<|e_u 2 rfl rfl (zB (j:=1) 1 ty3 rfl rfl rfl rfl)<|e_pv 4 rfl rfl (zf yf rfl sz3 rfl rfl)<|e_u 5 rfl rfl (zB (j:=1) 1 ty3 rfl rfl rfl rfl)<|e_one 3 (zE rfl rfl rfl rfl (.c rfl (.c rfl .n)) ce56 (zjb (ex:=0) (ey:=ey) (hwex:=by first|rfl|assumption|omega|(exact Pg.hp_pq om om)) (hwey:=ass)) (.n) ?_)
 rintro ⟨wr01,wr12,wr23,wr34⟩ -
 dsimp only [aq,nq,cq]
 refine e_one 6 (zE rfl rfl rfl rfl (.c rfl (.c rfl .n)) ce56 (zjb (ex:=1) (ey:=ey) (hwex:=by first|rfl|assumption|omega|(exact Pg.hp_pq om om)) (hwey:=ass)) (.n) ?_)
 rintro ⟨wr05,wr16,wr27,wr38⟩ -
 dsimp only [aq,nq,cq]
 refine e_one 7 (zE rfl rfl rfl rfl (.c rfl (.c rfl (.c rfl .n))) ce58 (zGc (p:=p) (n:=n) (cap:=cap) (l:=l) (wa0:=wr01) (wa1:=wr12) (wa2:=wr23) (wa3:=wr34) (qa:=(Pg.pq 0 ey)) (wb0:=wr05) (wb1:=wr16) (wb2:=wr27) (wb3:=wr38) (qb:=(Pg.pq 1 ey)) (K:=963) (hn:=ass) (hpa:=by first|rfl|assumption|omega|(exact Pg.hp_pq om om)) (hpb:=by first|rfl|assumption|omega|(exact Pg.hp_pq om om)) (hbq:=ass) (hK:=by first|rfl|assumption|omega|(exact Pg.hp_pq om om)) (hnK:=ass)) (.c (j:=4) rfl (.c (j:=2) rfl (.c (j:=3) rfl (.c (j:=0) rfl (.c (j:=1) rfl .n))))) ?_)
 rintro ⟨p29,c210⟩ -
 dsimp only [aq,nq,cq]
 refine e_pv 8 rfl rfl (zb rfl)<|zX kr<|zd<|zK ?_
 exact zx Tryz.results60 (p29,c210) trivial (zk rfl) rfl (ho:=((.c (i:=0) rfl .n):PickO _ _ _)) (.n:SelR _ _ _)
theorem zne {p:Option Addr} {n:Nat} {cap:Nat} {l:List Pg.Q2} {ba:Nat} {ex:Int} {ey:Int} (hn:l.length=n) (hwex: -9223372036854775808≤ex∧ex≤9223372036854775807) (hwey: -9223372036854775808≤ey∧ey≤9223372036854775807) (hbq:Pg.bq 8739 l) (hnK:n≤100000):Con ye 61 [.slice p n cap,.pointer (some ⟨ba,0,none⟩)] [] [slF rR p cap l,atF ba 0 [.int .i64 ex,.int .i64 ey]] (Y:=(Option Addr)×Nat) (fun y=>True) (fun y=> .slice (y.1) ((Pg.clL (Pg.pq 1 ey) (Pg.pq 0 ey) l).length) (y.2)) (fun y=>[rowA 69 rR (y.1) (y.2) (Pg.clL (Pg.pq 1 ey) (Pg.pq 0 ey) l)]) (fun y=>[]):=by
 refine zn Tryz.func61 rfl rfl rfl (fun c=> ?_)
 show RunC _ _ _ _ _ [(0,.slice p n cap),(1,.pointer (some ⟨ba,0,none⟩))] [] [slF rR p cap l,atF ba 0 [.int .i64 ex,.int .i64 ey]]
 refine zia 0 rfl (fun hL0=> ?_)
 refine zg<|za<|e_p (zb rfl)<|zh<|zd<|zg<|zba (OW:=[]) (O:=[]) 100000 mixed (.then .ret) kr<|e_dm 0 rfl rfl rfl<|e_pv 1 rfl rfl (zf yf rfl sz3 rfl rfl)<|e_u 2 rfl rfl (zB (j:=1) 1 ty3 rfl rfl rfl rfl)<|e_pv 4 rfl rfl (zf yf rfl sz3 rfl rfl)<|e_u 5 rfl rfl (zB (j:=1) 1 ty3 rfl rfl rfl rfl)<|e_one 3 (zE rfl rfl rfl rfl (.c rfl (.c rfl .n)) ce56 (zjb (ex:=1) (ey:=ey) (hwex:=by first|rfl|assumption|omega|(exact Pg.hp_pq om om)) (hwey:=ass)) (.n) ?_)
 rintro ⟨wr01,wr12,wr23,wr34⟩ -
 dsimp only [aq,nq,cq]
 refine e_one 6 (zE rfl rfl rfl rfl (.c rfl (.c rfl .n)) ce56 (zjb (ex:=0) (ey:=ey) (hwex:=by first|rfl|assumption|omega|(exact Pg.hp_pq om om)) (hwey:=ass)) (.n) ?_)
 rintro ⟨wr05,wr16,wr27,wr38⟩ -
 dsimp only [aq,nq,cq]
 refine e_one 7 (zE rfl rfl rfl rfl (.c rfl (.c rfl (.c rfl .n))) ce58 (zGc (p:=p) (n:=n) (cap:=cap) (l:=l) (wa0:=wr01) (wa1:=wr12) (wa2:=wr23) (wa3:=wr34) (qa:=(Pg.pq 1 ey)) (wb0:=wr05) (wb1:=wr16) (wb2:=wr27) (wb3:=wr38) (qb:=(Pg.pq 0 ey)) (K:=8739) (hn:=ass) (hpa:=by first|rfl|assumption|omega|(exact Pg.hp_pq om om)) (hpb:=by first|rfl|assumption|omega|(exact Pg.hp_pq om om)) (hbq:=ass) (hK:=by first|rfl|assumption|omega|(exact Pg.hp_pq om om)) (hnK:=ass)) (.c (j:=4) rfl (.c (j:=2) rfl (.c (j:=3) rfl (.c (j:=0) rfl (.c (j:=1) rfl .n))))) ?_)
 rintro ⟨p29,c210⟩ -
 dsimp only [aq,nq,cq]
 refine e_pv 8 rfl rfl (zb rfl)<|zX kr<|zd<|zK ?_
 exact zx Tryz.results61 (p29,c210) trivial (zk rfl) rfl (ho:=((.c (i:=0) rfl .n):PickO _ _ _)) (.n:SelR _ _ _)
end Go.Proofs.YtjcpbhlijoigfaaGreat.Sp
namespace Go.Proofs.YtjcpbhlijoigfaaGreat.Sp
open Go
set_option linter.unusedVariables false
set_option maxRecDepth 100000
set_option maxHeartbeats 8000000
theorem zTe {p:Option Addr} {n:Nat} {cap:Nat} {l:List Pg.P2} {ex:Int} {ey:Int} {fx:Int} {fy:Int} (hn:l.length=n) (hwex: -9223372036854775808≤ex∧ex≤9223372036854775807) (hwey: -9223372036854775808≤ey∧ey≤9223372036854775807) (hwfx: -9223372036854775808≤fx∧fx≤9223372036854775807) (hwfy: -9223372036854775808≤fy∧fy≤9223372036854775807):Con ye 19 [.slice p n cap,.agg #[.int .i64 ex,.int .i64 ey],.agg #[.int .i64 fx,.int .i64 fy]] [] [slF (rI2 .i64) p cap l] (Y:=(Option Addr)×Nat) (fun y=>True) (fun y=> .tuple #[.slice (y.1) ((Pg.wnV l (ex,ey) (fx,fy)).length) (y.2),.int .i64 (Pg.wnC l (ex,ey) (fx,fy))]) (fun y=>[rowA 69 rR (y.1) (y.2) (Pg.wnV l (ex,ey) (fx,fy))]) (fun y=>[]):=by
 refine zn Tryz.func19 rfl rfl rfl (fun c=> ?_)
 show RunC _ _ _ _ _ [(0,.slice p n cap),(1,.agg #[.int .i64 ex,.int .i64 ey]),(2,.agg #[.int .i64 fx,.int .i64 fy])] [] [slF (rI2 .i64) p cap l]
 refine zia 0 rfl (fun hL0=> ?_)
 refine zg<|za<|zO rfl rfl (zS rfl rfl) (fun b1=> ?_)
 refine zO rfl rfl (zS rfl rfl) (fun b2=> ?_)
 refine e_p (zb rfl)<|e_p (zb rfl)<|zh<|zd<|zg<|zg<|za<|e_mv rfl<|zN rfl rfl (.c rfl .n) ce15 (zlc (p:=p) (n:=n) (cap:=cap) (l:=l) (hn:=ass)) (.c (j:=0) rfl .n)<|e_p (zb rfl)<|zh<|zd<|zg<|za<|e_mv rfl<|e_p (zQa rfl rfl)<|zh<|zd<|zG rfl (fun hbad=> ?_) (fun hbad=> ?_)
 ·
  obtain ⟨hv1,hv2⟩:=Pg.wn_bad (a:=(ex,ey)) (b:=(fx,fy)) hbad
  refine zg<|zqb 69 rR ?_
  have e3:([]:List Pg.Q2)=Pg.wnV l (ex,ey) (fx,fy):=hv2.symm
  rw [e3]
  refine za<|e_mv rfl<|e_p (zb rfl)<|e_p (zb rfl)<|zh<|zd<|zK<|zi ?_
  exact zAa yr (none,0) trivial (zk rfl) (zk rfl) (by rw [hv1,hv2];rfl) (ho:=((.c (i:=0) rfl .n):PickO _ _ _)) (.n:SelR _ _ _)
 ·
  have hz:=Decidable.not_not.1 hbad
  have hok:=Pg.ok hz
  have hrng:=hok.rng
  have h64:n≤64:=by have:=hok.n64;omega
  refine zt<|zd<|zg<|zFa (X:=Unit) (fun x=>True) (fun x=>[(24,.bool (decide (((Pg.far (ex,ey))=true)∨((Pg.far (fx,fy))=true)))),(7,.int .i64 0),(6,.slice none 0 0),(5,.pointer (some ⟨b2,0,none⟩)),(4,.pointer (some ⟨b1,0,none⟩)),(0,.slice p n cap)]) (fun x=>[boxA b2 30 [.int .i64 fx,.int .i64 fy],boxA b1 30 [.int .i64 ex,.int .i64 ey]]) (fun x=>[slF (rI2 .i64) p cap l]) ?_ ?_
  ·
   refine za<|e_ru (zc 1 ty30 rfl rfl (.t2 .nil))<|zN rfl rfl (.c rfl .n) ce46 (zkc (ex:=ex) (ey:=ey) (hwex:=ass) (hwey:=ass)) (.n)<|zre rfl rfl (zV rfl) (fun h4=> ?_) (fun h4=> ?_)
   ·
    refine e_no<|e_no<|e_p (zl rfl rfl)<|zh ?_
    exact zea () (show True from by first|trivial|omega|simp_all) ((.e rfl (congrArg Value.bool cbu) (.of rfl)):SubM _ _) (ho:=((.of [0,0] rfl):PickO _ _ _)) ((.c (j:=0) rfl .n):SelR _ _ _)
   ·
    refine e_ru (zc 0 ty30 rfl rfl (.t2 .nil))<|zN rfl rfl (.c rfl .n) ce46 (zkc (ex:=fx) (ey:=fy) (hwex:=ass) (hwey:=ass)) (.n)<|e_p (zl rfl rfl)<|zh ?_
    exact zea () (show True from by first|trivial|omega|simp_all) ((.e rfl (congrArg Value.bool cbu) (.of rfl)):SubM _ _) (ho:=((.of [0,0] rfl):PickO _ _ _)) ((.c (j:=0) rfl .n):SelR _ _ _)
  ·
   rintro ⟨⟩ -
   try dsimp only
   refine zG rfl (fun hfar=> ?_) (fun hfar=> ?_)
   ·
    obtain ⟨hv1,hv2⟩:=Pg.wn_far (a:=(ex,ey)) (b:=(fx,fy)) hz (by simp [Pg.far] at hfar;intro h;rcases hfar with k|k;exact k h.1;exact k h.2)
    refine zg<|zqb 69 rR ?_
    have e5:([]:List Pg.Q2)=Pg.wnV l (ex,ey) (fx,fy):=hv2.symm
    rw [e5]
    refine za<|e_p (zb rfl)<|e_p (zb rfl)<|zh<|zd<|zK<|zi ?_
    exact zAa yr (none,0) trivial (zk rfl) (zk rfl) (by rw [hv1,hv2];rfl) (ho:=((.c (i:=0) rfl .n):PickO _ _ _)) (.n:SelR _ _ _)
   ·
    have hin:Pg.inR (ex,ey)∧Pg.inR (fx,fy):=by simpa [Pg.far] using hfar
    refine zt<|zd<|zg<|zFa (X:=Unit) (fun x=>True) (fun x=>[(36,.bool (decide ((fx≤ex)∨(fy≤ey)))),(7,.int .i64 0),(6,.slice none 0 0),(5,.pointer (some ⟨b2,0,none⟩)),(4,.pointer (some ⟨b1,0,none⟩)),(0,.slice p n cap)]) (fun x=>[boxA b2 30 [.int .i64 fx,.int .i64 fy],boxA b1 30 [.int .i64 ex,.int .i64 ey]]) (fun x=>[slF (rI2 .i64) p cap l]) ?_ ?_
    ·
     refine za<|e_p (zf yf rfl sz3 rfl rfl)<|e_ru (ze 1 ty3 rfl rfl rfl)<|e_p (zf yf rfl sz3 rfl rfl)<|e_ru (ze 0 ty3 rfl rfl rfl)<|e_p (zGa rfl rfl)<|zW rfl rfl (zV rfl) (fun h6=> ?_) (fun h6=> ?_)
     ·
      refine e_no<|e_no<|e_no<|e_no<|e_no<|e_p (zl rfl rfl)<|zh ?_
      exact zea () (show True from by first|trivial|omega|simp_all) ((.e rfl (congrArg Value.bool cbu) (.of rfl)):SubM _ _) (ho:=((.of [0,0] rfl):PickO _ _ _)) ((.c (j:=0) rfl .n):SelR _ _ _)
     ·
      refine e_p (zf yf rfl sz3 rfl rfl)<|e_ru (ze 1 ty3 rfl rfl rfl)<|e_p (zf yf rfl sz3 rfl rfl)<|e_ru (ze 0 ty3 rfl rfl rfl)<|e_p (zGa rfl rfl)<|e_p (zl rfl rfl)<|zh ?_
      exact zea () (show True from by first|trivial|omega|simp_all) ((.e rfl (congrArg Value.bool cbu) (.of rfl)):SubM _ _) (ho:=((.of [0,0] rfl):PickO _ _ _)) ((.c (j:=0) rfl .n):SelR _ _ _)
    ·
     rintro ⟨⟩ -
     try dsimp only
     refine zG rfl (fun hord=> ?_) (fun hord=> ?_)
     ·
      obtain ⟨hv1,hv2⟩:=Pg.wn_ord (a:=(ex,ey)) (b:=(fx,fy)) hz hin (by dsimp only;omega)
      refine zg<|zqb 69 rR ?_
      have e7:([]:List Pg.Q2)=Pg.wnV l (ex,ey) (fx,fy):=hv2.symm
      rw [e7]
      refine za<|e_p (zb rfl)<|e_p (zb rfl)<|zh<|zd<|zK<|zi ?_
      exact zAa yr (none,0) trivial (zk rfl) (zk rfl) (by rw [hv1,hv2];rfl) (ho:=((.c (i:=0) rfl .n):PickO _ _ _)) (.n:SelR _ _ _)
     ·
      obtain ⟨hv1,hv2⟩:=Pg.wn_ok (a:=(ex,ey)) (b:=(fx,fy)) hz hin (by dsimp only;omega)
      refine zt<|zd<|zg<|zqb 69 rR<|za<|e_p (zb rfl)<|zh<|zd<|zg<|zg<|za<|e_mv rfl<|e_p (zQ Tryz.underlying22 rfl)<|e_mv rfl<|zh<|zd<|zv<|zqa (X:=Nat×(Option Addr)×Nat) (fun x:Nat×(Option Addr)×Nat=>x.1≤n) (fun x=>[(9,.slice (x.2.1) (x.1) (x.2.2)),(39,.int .i64 ((x.1:Nat):Int)),(38,.int .i64 ((n:Nat):Int)),(37,.slice p n cap),(7,.int .i64 0),(6,.slice none 0 0),(5,.pointer (some ⟨b2,0,none⟩)),(4,.pointer (some ⟨b1,0,none⟩))]) (fun x=>[rowA 69 rR (x.2.1) (x.2.2) (Pg.pts (l.take x.1)),boxA b2 30 [.int .i64 fx,.int .i64 fy],boxA b1 30 [.int .i64 ex,.int .i64 ey]]) (fun x=>[slF (rI2 .i64) p cap l]) (fun x:Nat×(Option Addr)×Nat=>n - x.1) (0,none,0) (show 0≤n from by exact Nat.zero_le _) ((.c rfl (.e rfl (by first|rfl|(congr 1;omega)|simp_all) (.of rfl))):SubM _ _) (ho:=((.e (i:=0) rfl (by first|rfl|(congr 1;omega)|simp_all) (.of [0,0] rfl)):PickO _ _ _)) ((.c (j:=0) rfl .n):SelR _ _ _) ?_
      rintro ⟨i,p7,c7⟩ hI
      replace hI:i≤n:=hI
      try dsimp only
      refine zg<|za<|e_p (zaa rfl rfl)<|zh<|zd<|zg<|zG rfl (fun h8=> ?_) (fun h8=> ?_)
      ·
       have hpl:(Pg.pts (l.take i)).length=i:=by unfold Pg.pts;rw [List.length_map,List.length_take];omega
       refine zt<|zd<|zg<|zv<|zg<|za<|zY (x0:=(l.getD i (0,0))) 0 i rfl Tryz.underlying22 sz30 rfl rfl rfl cbs rfl rfl (gD (d:=(0,0)) om) (fun b9 o10 hok11=> ?_)
       obtain ⟨hok11x,hok11y⟩:=hok11
       replace hok11x:=zq.1 hok11x
       replace hok11y:=zq.1 hok11y
       refine e_ru (zA (j:=0) 0 ty30 rfl rfl rfl (.t2 .nil))<|zO rfl rfl (zp zr30 rfl) (fun b12=> ?_)
       refine zo 0 rfl rfl rfl rfl rfl sz30 rfl (.t2 .nil) .z<|zh<|zd<|za<|e_mv rfl<|e_p (zf yf rfl sz3 rfl rfl)<|e_ru (ze 0 ty3 rfl rfl rfl)<|e_p (zf yf rfl sz3 rfl rfl)<|e_ru (ze 0 ty3 rfl rfl rfl)<|zJ rfl rfl (.c rfl (.c rfl .n)) ce56 (zjb (ex:=(l.getD i (0,0)).1) (ey:=(l.getD i (0,0)).2) (hwex:=cbo) (hwey:=cbo)) (.n) ?_
       rintro ⟨wr013,wr114,wr215,wr316⟩ -
       dsimp only [aq,nq,cq]
       refine zIa rfl rfl (zgb (r:=rR) (k:=1) yh inf69 rfl dd dd dd (.c (x:=(((Pg.pq ((l.getD i (0,0)).1) ((l.getD i (0,0)).2)).1),((Pg.pq ((l.getD i (0,0)).1) ((l.getD i (0,0)).2)).2))) (cs:=[wr013.b,wr013.l,wr114.b,wr114.l,wr215.b,wr215.l,wr316.b,wr316.l]) (wr013,wr114,wr215,wr316) rfl rfl rfl (fun g hr=>⟨Holds.get 0 rfl hr,Holds.get 1 rfl hr⟩) .n)) (fun b17 _=> ?_)
       refine zma 0 rfl .z<|zLa 2 rfl rfl rfl (zra 0 rfl yh inf69 dd rfl rfl cbs rfl cbs om om) (fun _=>(.s (.s .z))) ?_
       rintro ⟨p18,c19⟩ -
       dsimp only [aq,nq,cq]
       refine e_p (zb rfl)<|zh<|zP<|zd ?_
       have hrw:((Pg.pts (l.take i))++([(((Pg.pq ((l.getD i (0,0)).1) ((l.getD i (0,0)).2)).1),((Pg.pq ((l.getD i (0,0)).1) ((l.getD i (0,0)).2)).2))]))=Pg.pts (l.take (i+1)):=by rw [Pg.pts_take om]
       rw [hrw]
       refine za<|e_p (zI (z:=(((i+1):Nat):Int)) rfl rfl (w64 om))<|e_mv rfl<|zh<|zha ((i+1),p18,c19) (show (i+1)≤n from by show i+1≤n;omega) (by show n - (i+1)<n - i;omega) ((.e rfl (by first|rfl|(congr 1;omega)|simp_all) (.of rfl)):SubM _ _) (ho:=((.of [2,2,2] rfl):PickO _ _ _)) ((.c (j:=4) rfl .n):SelR _ _ _)
      ·
       refine zla<|zj<|zj<|zr<|zd<|zg<|zg ?_
       have hin9:i=n:=by omega
       have e20:Pg.pts (l.take i)=Pg.pts l:=by rw [hin9,List.take_of_length_le om]
       rw [e20]
       have hpl:(Pg.pts l).length=i:=by unfold Pg.pts;rw [List.length_map];omega
       have hbq0:=Pg.pts_bq hrng
       have hbq1:Pg.bq 99 (Pg.clL (Pg.pq ex 1) (Pg.pq ex 0) (Pg.pts l)):=Pg.clL_bq (Pg.hp_pq om om) (Pg.hp_pq om om) hbq0
       have hbq2:Pg.bq 963 (Pg.clL (Pg.pq fx 0) (Pg.pq fx 1) (Pg.clL (Pg.pq ex 1) (Pg.pq ex 0) (Pg.pts l))):=Pg.clL_bq (Pg.hp_pq om om) (Pg.hp_pq om om) hbq1
       have hbq3:Pg.bq 8739 (Pg.clL (Pg.pq 0 ey) (Pg.pq 1 ey) (Pg.clL (Pg.pq fx 0) (Pg.pq fx 1) (Pg.clL (Pg.pq ex 1) (Pg.pq ex 0) (Pg.pts l)))):=Pg.clL_bq (Pg.hp_pq om om) (Pg.hp_pq om om) hbq2
       have hcl0:(Pg.clL (Pg.pq ex 1) (Pg.pq ex 0) (Pg.pts l)).length≤2*(Pg.pts l).length:=Pg.clL_len
       have hcl1:(Pg.clL (Pg.pq fx 0) (Pg.pq fx 1) (Pg.clL (Pg.pq ex 1) (Pg.pq ex 0) (Pg.pts l))).length≤2*(Pg.clL (Pg.pq ex 1) (Pg.pq ex 0) (Pg.pts l)).length:=Pg.clL_len
       have hcl2:(Pg.clL (Pg.pq 0 ey) (Pg.pq 1 ey) (Pg.clL (Pg.pq fx 0) (Pg.pq fx 1) (Pg.clL (Pg.pq ex 1) (Pg.pq ex 0) (Pg.pts l)))).length≤2*(Pg.clL (Pg.pq fx 0) (Pg.pq fx 1) (Pg.clL (Pg.pq ex 1) (Pg.pq ex 0) (Pg.pts l))).length:=Pg.clL_len
       refine zhc 2 rfl (.s (.s .z))<|zhc 1 rfl (.s .z)<|za<|e_p (zab .n (.c rfl .n))<|e_p (zab .n (.c rfl .n))<|e_p (zab .n (.c rfl .n))<|e_p (zab .n (.c rfl .n))<|zIa rfl rfl (zT (enc:=fun z:Nat×List Value=>[.func (.func z.1) #[] z.2.toArray]) (ok:=fun _=>True) (h1:=fun _=>rfl) (h2:=fun _=>rfl) (k:=4) yk inf83 rfl dd dd dd (.c (x:=(57,[.pointer (some ⟨b1,0,none⟩)])) rfl rfl (fun _ _=>by trivial) (.c (x:=(59,[.pointer (some ⟨b2,0,none⟩)])) rfl rfl (fun _ _=>by trivial) (.c (x:=(60,[.pointer (some ⟨b1,0,none⟩)])) rfl rfl (fun _ _=>by trivial) (.c (x:=(61,[.pointer (some ⟨b2,0,none⟩)])) rfl rfl (fun _ _=>by trivial) .n))))) (fun b21 _=> ?_)
       refine e_p (zQ yk rfl)<|e_mv rfl<|zh<|zd<|zv<|zZd<|zlb<|zg<|za<|e_p (zaa rfl rfl)<|zh<|zd<|zg<|zWa rfl rfl<|zt<|zd<|zg<|zv<|zg<|za<|e_p (zpa (j:=0) yk sz83 rfl rfl rfl om)<|r_vl rfl rfl (zZ (x0:=(57,[.pointer (some ⟨b1,0,none⟩)])) (v:= .func (.func 57) #[] #[.pointer (some ⟨b1,0,none⟩)]) 0 0 rfl ty83 rfl rfl (by rfl) rfl) (fun _ hok22=> ?_)
       refine e_p (zb rfl)<|zh<|zd<|za<|e_mv rfl<|e_mv rfl<|zma 1 rfl (.s .z)<|zBc (first:=[]) (cap:=[.pointer (some ⟨b1,0,none⟩)]) rfl rfl rfl (.c rfl .n) ce57 (zke (p:=p7) (n:=i) (cap:=c7) (l:=(Pg.pts l)) (ba:=b1) (ex:=ex) (ey:=ey) (hn:=cbo) (hwex:=ass) (hwey:=ass) (hbq:=cbo) (hnK:=cbo)) (.c (j:=0) rfl (.c (j:=2) rfl .n)) ?_
       rintro ⟨p223,c224⟩ -
       dsimp only [aq,nq,cq]
       refine e_p (zb rfl)<|zh<|zP<|zd<|za<|e_p (zI (z:=1) rfl rfl (w64 dd))<|e_mv rfl<|zh<|zxb<|zlb<|zg<|za<|e_p (zaa rfl rfl)<|zh<|zd<|zg<|zWa rfl rfl<|zt<|zd<|zg<|zv<|zg<|za<|e_p (zpa (j:=1) yk sz83 rfl rfl rfl om)<|r_vl rfl rfl (zZ (x0:=(59,[.pointer (some ⟨b2,0,none⟩)])) (v:= .func (.func 59) #[] #[.pointer (some ⟨b2,0,none⟩)]) 1 1 rfl ty83 rfl rfl (by rfl) rfl) (fun _ hok25=> ?_)
       refine e_p (zb rfl)<|zh<|zd<|za<|e_mv rfl<|e_mv rfl<|zma 0 rfl .z<|zBc (first:=[]) (cap:=[.pointer (some ⟨b2,0,none⟩)]) rfl rfl rfl (.c rfl .n) ce59 (zle (p:=p223) (n:=(Pg.clL (Pg.pq ex 1) (Pg.pq ex 0) (Pg.pts l)).length) (cap:=c224) (l:=(Pg.clL (Pg.pq ex 1) (Pg.pq ex 0) (Pg.pts l))) (ba:=b2) (ex:=fx) (ey:=fy) (hn:=cbo) (hwex:=ass) (hwey:=ass) (hbq:=cbo) (hnK:=cbo)) (.c (j:=0) rfl (.c (j:=2) rfl .n)) ?_
       rintro ⟨p226,c227⟩ -
       dsimp only [aq,nq,cq]
       refine e_p (zb rfl)<|zh<|zP<|zd<|za<|e_p (zI (z:=2) rfl rfl (w64 dd))<|e_mv rfl<|zh<|zxb<|zlb<|zg<|za<|e_p (zaa rfl rfl)<|zh<|zd<|zg<|zWa rfl rfl<|zt<|zd<|zg<|zv<|zg<|za<|e_p (zpa (j:=2) yk sz83 rfl rfl rfl om)<|r_vl rfl rfl (zZ (x0:=(60,[.pointer (some ⟨b1,0,none⟩)])) (v:= .func (.func 60) #[] #[.pointer (some ⟨b1,0,none⟩)]) 2 2 rfl ty83 rfl rfl (by rfl) rfl) (fun _ hok28=> ?_)
       refine e_p (zb rfl)<|zh<|zd<|za<|e_mv rfl<|e_mv rfl<|zma 0 rfl .z<|zBc (first:=[]) (cap:=[.pointer (some ⟨b1,0,none⟩)]) rfl rfl rfl (.c rfl .n) ce60 (zme (p:=p226) (n:=(Pg.clL (Pg.pq fx 0) (Pg.pq fx 1) (Pg.clL (Pg.pq ex 1) (Pg.pq ex 0) (Pg.pts l))).length) (cap:=c227) (l:=(Pg.clL (Pg.pq fx 0) (Pg.pq fx 1) (Pg.clL (Pg.pq ex 1) (Pg.pq ex 0) (Pg.pts l)))) (ba:=b1) (ex:=ex) (ey:=ey) (hn:=cbo) (hwex:=ass) (hwey:=ass) (hbq:=cbo) (hnK:=cbo)) (.c (j:=0) rfl (.c (j:=4) rfl .n)) ?_
       rintro ⟨p229,c230⟩ -
       dsimp only [aq,nq,cq]
       refine e_p (zb rfl)<|zh<|zP<|zd<|za<|e_p (zI (z:=3) rfl rfl (w64 dd))<|e_mv rfl<|zh<|zxb<|zlb<|zg<|za<|e_p (zaa rfl rfl)<|zh<|zd<|zg<|zWa rfl rfl<|zt<|zd<|zg<|zv<|zg<|za<|e_p (zpa (j:=3) yk sz83 rfl rfl rfl om)<|r_vl rfl rfl (zZ (x0:=(61,[.pointer (some ⟨b2,0,none⟩)])) (v:= .func (.func 61) #[] #[.pointer (some ⟨b2,0,none⟩)]) 3 3 rfl ty83 rfl rfl (by rfl) rfl) (fun _ hok31=> ?_)
       refine e_p (zb rfl)<|zh<|zd<|za<|e_mv rfl<|e_mv rfl<|zma 0 rfl .z<|zBc (first:=[]) (cap:=[.pointer (some ⟨b2,0,none⟩)]) rfl rfl rfl (.c rfl .n) ce61 (zne (p:=p229) (n:=(Pg.clL (Pg.pq 0 ey) (Pg.pq 1 ey) (Pg.clL (Pg.pq fx 0) (Pg.pq fx 1) (Pg.clL (Pg.pq ex 1) (Pg.pq ex 0) (Pg.pts l)))).length) (cap:=c230) (l:=(Pg.clL (Pg.pq 0 ey) (Pg.pq 1 ey) (Pg.clL (Pg.pq fx 0) (Pg.pq fx 1) (Pg.clL (Pg.pq ex 1) (Pg.pq ex 0) (Pg.pts l))))) (ba:=b2) (ex:=fx) (ey:=fy) (hn:=cbo) (hwex:=ass) (hwey:=ass) (hbq:=cbo) (hnK:=cbo)) (.c (j:=0) rfl (.c (j:=4) rfl .n)) ?_
       rintro ⟨p232,c233⟩ -
       dsimp only [aq,nq,cq]
       refine e_p (zb rfl)<|zh<|zP<|zd<|za<|e_p (zI (z:=4) rfl rfl (w64 dd))<|e_mv rfl<|zh<|zxb<|zlb<|zg<|za<|e_p (zaa rfl rfl)<|zh<|zd<|zg<|zXa rfl rfl<|zla<|zj<|zj<|zr<|zd<|zg<|za<|e_mv rfl<|e_p (zb rfl)<|e_p (zb rfl)<|zh<|zd<|zK ?_
       have e34:Pg.clL (Pg.pq 1 fy) (Pg.pq 0 fy) (Pg.clL (Pg.pq 0 ey) (Pg.pq 1 ey) (Pg.clL (Pg.pq fx 0) (Pg.pq fx 1) (Pg.clL (Pg.pq ex 1) (Pg.pq ex 0) (Pg.pts l))))=Pg.wnV l (ex,ey) (fx,fy):=by exact hv2.symm
       rw [e34]
       exact zAa yr (p232,c233) trivial (zk rfl) (zk rfl) (by first|(rw [hv1,hv2];done)|(rw [hv1,hv2];rfl)) (ho:=((.c (i:=0) rfl .n):PickO _ _ _)) (.n:SelR _ _ _)
end Go.Proofs.YtjcpbhlijoigfaaGreat.Sp
