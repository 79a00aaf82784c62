/- Lemmas on the walk and plain lemmas that the claim of this folder uses; each states its own conditions. Lines were printed by a program of ours. -/
import Derived.Test.YtjeahiahjgifgaaGreatDoorZ3E
set_option linter.unusedVariables false
set_option linter.unusedSimpArgs false
set_option linter.unusedSectionVars false
namespace Go.Proofs.YtjeahiahjgifgaaGreatDoor.Sp
open Go
set_option linter.unusedVariables false
set_option maxRecDepth 100000
set_option maxHeartbeats 8000000
theorem zoe {s:Bool} {p1:Option Addr} {n1:Nat} {c1:Nat} {l1:List Int} {t:Bool} {p2:Option Addr} {n2:Nat} {c2:Nat} {l2:List Int} (hn1:l1.length=n1) (hn2:l2.length=n2) (hm1:n1≤549755813888) (hm2:n2≤549755813888):Con Tryz.prog 68 [.agg #[.bool s,.slice p1 n1 c1],.agg #[.bool t,.slice p2 n2 c2]] [] [slF (rI .u32) p1 c1 l1,slF (rI .u32) p2 c2 l2] (Y:=(Option Addr)×Nat) (fun y=>True) (fun y=> .agg #[.bool (decide (((Nat.gcd (Big.raw s l1).natAbs (Big.raw t l2).natAbs:Nat):Int)<0)),.slice (y.1) ((Big.digs (((Nat.gcd (Big.raw s l1).natAbs (Big.raw t l2).natAbs:Nat):Int).natAbs)).length) (y.2)]) (fun y=>[]) (fun y=>[slF (rI .u32) (y.1) (y.2) (Big.digs (((Nat.gcd (Big.raw s l1).natAbs (Big.raw t l2).natAbs:Nat):Int).natAbs))]):=by
 refine zA Tryz.func68 rfl rfl rfl (fun c=> ?_)
 show RunC _ _ _ _ _ [(0,.agg #[.bool s,.slice p1 n1 c1]),(1,.agg #[.bool t,.slice p2 n2 c2])] [] [slF (rI .u32) p1 c1 l1,slF (rI .u32) p2 c2 l2]
 refine zta 0 rfl (fun hL0=> ?_)
 refine zfb 0 rfl (fun hE0=> ?_)
 refine zta 1 rfl (fun hL1=> ?_)
 refine zfb 1 rfl (fun hE1=> ?_)
 have hnn1:Big.nn l1:=fun g hg=>(zI.1 (hE0 g hg)).1
 have hnn2:Big.nn l2:=fun g hg=>(zI.1 (hE1 g hg)).1
 have hb1:Big.ln (Big.raw s l1)≤n1:=by have:=Big.zgb (s:=s) hnn1;omega
 have hb2:Big.ln (Big.raw t l2)≤n2:=by have:=Big.zgb (s:=t) hnn2;omega
 unfold Big.ln at hb1 hb2
 refine zj<|zc<|zL rfl rfl (zfa rfl rfl) (fun b1=> ?_)
 refine zL rfl rfl (zfa rfl rfl) (fun b2=> ?_)
 refine zL rfl rfl (zr zr42 rfl) (fun b3=> ?_)
 refine zm<|zg<|zj<|zW (OW:=[]) (O:=[boxA b3 42 [.bool false,.slice none 0 0],boxA b2 42 [.bool t,.slice p2 n2 c2],boxA b1 42 [.bool s,.slice p1 n1 c1]]) 100000 mixed (.then .ret) (by kernel_rfl)<|d_u 0 rfl rfl (by kernel_rfl) (by kernel_rfl) rfl rfl (zf 2 ty42 rfl rfl (.take (.take .nil)))<|d_u 3 rfl rfl (by kernel_rfl) (by kernel_rfl) rfl rfl (zf 1 ty42 rfl rfl (.take (.take .nil)))<|zt 1 (by kernel_rfl) (zo rfl rfl rfl rfl (.c rfl .n) ce90 (zab (s:=s) (p:=p1) (n:=n1) (cap:=c1) (l:=l1) (hn:=by assumption) (hln:=by first|rfl|assumption|omega)) (.c (j:=0) rfl .n) ?_)
 rintro ⟨p24,c25⟩ -
 dsimp only [List.append_eq,List.nil_append,List.cons_append]
 refine d_pv 2 rfl rfl (by kernel_rfl) (by kernel_rfl) rfl rfl (zHa Tryz.underlying42 rfl ty40 rfl rfl)<|zt 4 (by kernel_rfl) (zo rfl rfl rfl rfl (.c rfl .n) ce90 (zab (s:=t) (p:=p2) (n:=n2) (cap:=c2) (l:=l2) (hn:=by assumption) (hln:=by first|rfl|assumption|omega)) (.c (j:=2) rfl .n) ?_)
 rintro ⟨p26,c27⟩ -
 dsimp only [List.append_eq,List.nil_append,List.cons_append]
 refine d_pv 5 rfl rfl (by kernel_rfl) (by kernel_rfl) rfl rfl (zHa Tryz.underlying42 rfl ty40 rfl rfl)<|d_pv 6 rfl rfl (by kernel_rfl) (by kernel_rfl) rfl rfl (zi rfl)<|d_pv 7 rfl rfl (by kernel_rfl) (by kernel_rfl) rfl rfl (zi rfl)<|zU (by kernel_rfl)<|zg<|zj<|zx<|zAa (X:=Nat×Nat×(Option Addr)×Nat×(Option Addr)×Nat) (fun x:Nat×Nat×(Option Addr)×Nat×(Option Addr)×Nat=>Nat.gcd x.1 x.2.1=Nat.gcd (Big.raw s l1).natAbs (Big.raw t l2).natAbs∧(Big.digs x.1).length≤549755813888∧(Big.digs x.2.1).length≤549755813888) (fun x=>[(6,.slice (x.2.2.2.2.1) ((Big.digs (x.2.1)).length) (x.2.2.2.2.2)),(5,.slice (x.2.2.1) ((Big.digs (x.1)).length) (x.2.2.2.1)),(4,.pointer (some ⟨b3,0,none⟩))]) (fun x=>[boxA b3 42 [.bool false,.slice none 0 0],boxA b2 42 [.bool t,.slice p2 n2 c2],boxA b1 42 [.bool s,.slice p1 n1 c1]]) (fun x=>[slF (rI .u32) (x.2.2.1) (x.2.2.2.1) (Big.digs (x.1)),slF (rI .u32) (x.2.2.2.2.1) (x.2.2.2.2.2) (Big.digs (x.2.1)),slF (rI .u32) p26 c27 (Big.digs ((Big.raw t l2).natAbs)),slF (rI .u32) p24 c25 (Big.digs ((Big.raw s l1).natAbs)),slF (rI .u32) p1 c1 l1,slF (rI .u32) p2 c2 l2]) (fun x:Nat×Nat×(Option Addr)×Nat×(Option Addr)×Nat=>x.2.1) ((Big.raw s l1).natAbs,(Big.raw t l2).natAbs,p24,c25,p26,c27) (show Nat.gcd ((Big.raw s l1).natAbs) ((Big.raw t l2).natAbs)=Nat.gcd (Big.raw s l1).natAbs (Big.raw t l2).natAbs∧(Big.digs ((Big.raw s l1).natAbs)).length≤549755813888∧(Big.digs ((Big.raw t l2).natAbs)).length≤549755813888 from by exact ⟨rfl,by omega,by omega⟩) ((.of rfl):SubM _ _) (ho:=((.of [0,0,0] rfl):PickO _ _ _)) ((.of [1,0,0,1,2,3] rfl):SelR _ _ _) ?_
 rintro ⟨a,b,pa,ca,pb,cb⟩ hI
 replace hI:Nat.gcd a b=Nat.gcd (Big.raw s l1).natAbs (Big.raw t l2).natAbs∧(Big.digs a).length≤549755813888∧(Big.digs b).length≤549755813888:=hI
 try dsimp only
 obtain ⟨hgc,hba,hbb⟩:=hI
 refine zj<|zIa (X:=Unit) (fun x=>True) (fun x=>[(29,.bool (decide (0<(Big.digs b).length∧(2<(Big.digs a).length∨2<(Big.digs b).length)))),(6,.slice pb ((Big.digs b).length) cb),(5,.slice pa ((Big.digs a).length) ca),(4,.pointer (some ⟨b3,0,none⟩))]) (fun x=>[boxA b3 42 [.bool false,.slice none 0 0],boxA b2 42 [.bool t,.slice p2 n2 c2],boxA b1 42 [.bool s,.slice p1 n1 c1]]) (fun x=>[slF (rI .u32) pa ca (Big.digs a),slF (rI .u32) pb cb (Big.digs b),slF (rI .u32) p26 c27 (Big.digs ((Big.raw t l2).natAbs)),slF (rI .u32) p24 c25 (Big.digs ((Big.raw s l1).natAbs)),slF (rI .u32) p1 c1 l1,slF (rI .u32) p2 c2 l2]) ?_ ?_
 ·
  refine zc<|r_pv rfl rfl (zd rfl)<|r_pv rfl rfl (zha Tryz.underlying40 rfl)<|r_pv rfl rfl (zUa rfl rfl)<|zoa rfl rfl (zd rfl) (fun h8=> ?_) (fun h8=> ?_)
  ·
   refine r_pv rfl rfl (zd rfl)<|r_pv rfl rfl (zha Tryz.underlying40 rfl)<|r_pv rfl rfl (zUa rfl rfl)<|zoa rfl rfl (zd rfl) (fun h9=> ?_) (fun h9=> ?_)
   ·
    refine zl rfl rfl<|zl rfl rfl<|zl rfl rfl<|r_pv rfl rfl (zS rfl rfl)<|r_pv rfl rfl (zS rfl rfl)<|zm ?_
    exact zna () (show True from by first|trivial|omega|simp_all) ((.e rfl (congrArg Value.bool (by first|(simp;omega)|exact decide_eq_decide.2 ⟨fun h=>⟨by omega,.inr (by omega)⟩,fun h=>by omega⟩)) (.of rfl)):SubM _ _) (ho:=((.of [0,0,0] rfl):PickO _ _ _)) ((.of [0,1,2,3,4,5] rfl):SelR _ _ _)
   ·
    refine r_pv rfl rfl (zd rfl)<|r_pv rfl rfl (zha Tryz.underlying40 rfl)<|r_pv rfl rfl (zUa rfl rfl)<|r_pv rfl rfl (zS rfl rfl)<|r_pv rfl rfl (zS rfl rfl)<|zm ?_
    exact zna () (show True from by first|trivial|omega|simp_all) ((.e rfl (congrArg Value.bool (by first|(simp;omega)|exact decide_eq_decide.2 ⟨fun h=>⟨by omega,.inr (by omega)⟩,fun h=>by omega⟩)) (.of rfl)):SubM _ _) (ho:=((.of [0,0,0] rfl):PickO _ _ _)) ((.of [0,1,2,3,4,5] rfl):SelR _ _ _)
  ·
   refine zl rfl rfl<|zl rfl rfl<|zl rfl rfl<|zl rfl rfl<|zl rfl rfl<|zl rfl rfl<|zl rfl rfl<|zl rfl rfl<|r_pv rfl rfl (zS rfl rfl)<|zm ?_
   exact zna () (show True from by first|trivial|omega|simp_all) ((.e rfl (congrArg Value.bool (by first|(simp;omega)|exact decide_eq_decide.2 ⟨fun h=>⟨by omega,.inr (by omega)⟩,fun h=>by omega⟩)) (.of rfl)):SubM _ _) (ho:=((.of [0,0,0] rfl):PickO _ _ _)) ((.of [0,1,2,3,4,5] rfl):SelR _ _ _)
 ·
  rintro ⟨⟩ -
  try dsimp only
  refine zV rfl (fun hw=> ?_) (fun hw=> ?_)
  ·
   have hb0:0<b:=Nat.pos_of_ne_zero (fun e=>by rw [e] at hw;simp [Big.digs_zero] at hw)
   refine zD<|zg<|zx<|zj<|zc<|r_pv rfl rfl (zd rfl)<|r_pv rfl rfl (zd rfl)<|zJ rfl rfl (.c rfl (.c rfl .n)) ce99 (zkd (a:=a) (b:=b) (p1:=pa) (c1:=ca) (p2:=pb) (c2:=cb) (hb1:=by first|rfl|assumption|omega) (hb2:=by first|rfl|assumption|omega) (hb0:=by first|rfl|assumption|omega)) (.c (j:=0) rfl (.c (j:=1) rfl .n)) ?_
   rintro ⟨p310,c311,p412,c413⟩ -
   dsimp only [List.append_eq,List.nil_append,List.cons_append]
   refine r_pv rfl rfl (zd rfl)<|r_pv rfl rfl (zG rfl rfl)<|r_pv rfl rfl (zG rfl rfl)<|r_pv rfl rfl (zi rfl)<|r_pv rfl rfl (zi rfl)<|zm<|zg<|zc<|r_pv rfl rfl (zd rfl)<|r_pv rfl rfl (zd rfl)<|r_pv rfl rfl (zi rfl)<|r_pv rfl rfl (zi rfl)<|zm<|zN<|zva (b,(a%b),pb,cb,p412,c413) (show Nat.gcd b (a%b)=Nat.gcd (Big.raw s l1).natAbs (Big.raw t l2).natAbs∧(Big.digs b).length≤549755813888∧(Big.digs (a%b)).length≤549755813888 from by exact ⟨by rw [Big.gcd_rest,hgc],hbb,Nat.le_trans (Big.ln_mono' (Nat.le_of_lt (Nat.mod_lt a hb0))) hbb⟩) (by exact Nat.mod_lt a hb0) ((.e rfl (by first|rfl|(congr 1;omega)|simp_all) (.c rfl (.c rfl .n))):SubM _ _) (ho:=((.of [0,0,0] rfl):PickO _ _ _)) ((.c (j:=3) rfl (.e (j:=1) rfl (by first|rfl|simp_all) (.of [4,5,6,7] rfl))):SelR _ _ _)
  ·
   refine zpa<|zp<|zp<|zE<|zg<|zj<|zj<|zc<|r_pv rfl rfl (zd rfl)<|r_pv rfl rfl (zha Tryz.underlying40 rfl)<|r_pv rfl rfl (zNa rfl rfl)<|zm<|zg<|zV rfl (fun hbz=> ?_) (fun hbz=> ?_)
   ·
    have hbz0:b=0:=Big.len_digs_nil.1 (by omega)
    have hfin:a=Nat.gcd (Big.raw s l1).natAbs (Big.raw t l2).natAbs:=by rw [← hgc,hbz0,Nat.gcd_zero_right]
    refine zj<|zc<|r_pv rfl rfl (zd rfl)<|zJ rfl rfl (.c rfl (.c rfl .n)) ce91 (zwb (s:=false) (a:=a) (p:=pa) (cap:=ca) (hln:=by first|rfl|assumption|omega)) (.c (j:=0) rfl .n) ?_
    rintro ⟨p214,c215⟩ -
    dsimp only [List.append_eq,List.nil_append,List.cons_append]
    refine zn 0 rfl rfl rfl rfl rfl sz42 rfl (.take (.take .nil)) .z<|zm<|zg<|zT<|zw ?_
    exact zO Tryz.results68 (p214,c215) trivial (zv 0 ty42 rfl rfl (.take (.take .nil))) (by rw [← hfin];rfl) (ho:=(.n:PickO _ _ _)) ((.e (j:=0) rfl (by rw [← hfin];rfl) .n):SelR _ _ _)
   ·
    have ha2:(Big.digs a).length≤2:=by omega
    have hb2:(Big.digs b).length≤2:=by omega
    have ha18:=Big.two_lt ha2
    have hb18:=Big.two_lt hb2
    refine zD<|zg<|zj<|zc<|r_pv rfl rfl (zd rfl)<|zY rfl rfl (.c rfl .n) ce100 (zQd (a:=a) (p:=pa) (cap:=ca) (hb:=by first|rfl|assumption|omega)) (.c (j:=0) rfl .n)<|r_pv rfl rfl (zd rfl)<|zY rfl rfl (.c rfl .n) ce100 (zQd (a:=b) (p:=pb) (cap:=cb) (hb:=by first|rfl|assumption|omega)) (.c (j:=1) rfl .n)<|r_pv rfl rfl (zi rfl)<|r_pv rfl rfl (zi rfl)<|zm<|zg<|zj<|zx<|zAa (X:=Nat×Nat) (fun x:Nat×Nat=>Nat.gcd x.1 x.2=Nat.gcd a b∧x.1<1000000000000000000∧x.2<1000000000000000000) (fun x=>[(10,.int .u64 ((x.2:Nat):Int)),(9,.int .u64 ((x.1:Nat):Int)),(4,.pointer (some ⟨b3,0,none⟩))]) (fun x=>[boxA b3 42 [.bool false,.slice none 0 0],boxA b2 42 [.bool t,.slice p2 n2 c2],boxA b1 42 [.bool s,.slice p1 n1 c1]]) (fun x=>[slF (rI .u32) pa ca (Big.digs a),slF (rI .u32) pb cb (Big.digs b),slF (rI .u32) p26 c27 (Big.digs ((Big.raw t l2).natAbs)),slF (rI .u32) p24 c25 (Big.digs ((Big.raw s l1).natAbs)),slF (rI .u32) p1 c1 l1,slF (rI .u32) p2 c2 l2]) (fun x:Nat×Nat=>x.2) (a,b) (show Nat.gcd a b=Nat.gcd a b∧a<1000000000000000000∧b<1000000000000000000 from by exact ⟨rfl,ha18,hb18⟩) ((.of rfl):SubM _ _) (ho:=((.of [0,0,0] rfl):PickO _ _ _)) ((.of [0,1,2,3,4,5] rfl):SelR _ _ _) ?_
    rintro ⟨q,r⟩ hJ
    replace hJ:Nat.gcd q r=Nat.gcd a b∧q<1000000000000000000∧r<1000000000000000000:=hJ
    try dsimp only
    obtain ⟨hgq,hq18,hr18⟩:=hJ
    have hmr:=Nat.mod_le q r
    refine zj<|zj<|zc<|r_pv rfl rfl (zd rfl)<|r_pv rfl rfl (zUa rfl rfl)<|zm<|zg<|zV rfl (fun hy=> ?_) (fun hy=> ?_)
    ·
     refine zD<|zg<|zx<|zW (OW:=[]) (O:=[boxA b3 42 [.bool false,.slice none 0 0],boxA b2 42 [.bool t,.slice p2 n2 c2],boxA b1 42 [.bool s,.slice p1 n1 c1]]) 100000 mixed (.block (.then (.block (.then .ret)))) (by kernel_rfl)<|d_pv 0 rfl rfl (by kernel_rfl) (by kernel_rfl) rfl rfl (zd rfl)<|d_pv 1 rfl rfl (by kernel_rfl) (by kernel_rfl) rfl rfl (zd rfl)<|d_pv 2 rfl rfl (by kernel_rfl) (by kernel_rfl) rfl rfl (zd rfl)<|d_pv 3 rfl rfl (by kernel_rfl) (by kernel_rfl) rfl rfl (zbb (z:=(((q%r):Nat):Int)) rfl rfl (by omega) (remN (by omega) (by omega)))<|d_pv 4 rfl rfl (by kernel_rfl) (by kernel_rfl) rfl rfl (zi rfl)<|d_pv 5 rfl rfl (by kernel_rfl) (by kernel_rfl) rfl rfl (zi rfl)<|zU (by kernel_rfl)<|zN<|zva (r,(q%r)) (show Nat.gcd r (q%r)=Nat.gcd a b∧r<1000000000000000000∧(q%r)<1000000000000000000 from by exact ⟨by rw [Big.gcd_rest,hgq],hr18,by omega⟩) (by exact Nat.mod_lt q (by omega)) ((.of rfl):SubM _ _) (ho:=((.of [0,0,0] rfl):PickO _ _ _)) ((.of [0,1,2,3,4,5] rfl):SelR _ _ _)
    ·
     have hrz:r=0:=by omega
     have hfin:q=Nat.gcd (Big.raw s l1).natAbs (Big.raw t l2).natAbs:=by rw [← hgc,←hgq,hrz,Nat.gcd_zero_right]
     obtain ⟨ht1,ht2⟩:=Big.two_val hq18
     refine zpa<|zp<|zp<|zE<|zg<|zj<|zc<|r_pv rfl rfl (zd rfl)<|r_pv rfl rfl (zbb (z:=(((q%1000000000):Nat):Int)) rfl rfl (by omega) (remN (by omega) (by omega)))<|r_pv rfl rfl (zM (z:=(((q%1000000000):Nat):Int)) rfl (by rw [Tryz.underlying130];rfl) Tryz.underlying131 (wu32 (by omega)))<|r_pv rfl rfl (zd rfl)<|r_pv rfl rfl (zRa (z:=(((q / 1000000000):Nat):Int)) rfl rfl (by omega) (by rw [quoN (z:=(((q / 1000000000):Nat):Int)) (by omega) (by omega)];exact wu64 (by omega)))<|r_pv rfl rfl (zM (z:=(((q / 1000000000):Nat):Int)) rfl (by rw [Tryz.underlying130];rfl) Tryz.underlying131 (wu32 (by omega)))<|zJa rfl rfl (zQ (enc:=fun z:Int=>[.int .u32 z]) (ok:=InK .u32) (h1:=fun _=>rfl) (h2:=fun _=>rfl) (k:=2) Tryz.underlying40 inf131 rfl (by decide) (by decide) (by decide) (.c (x:=(((q%1000000000):Nat):Int)) rfl rfl (fun _ _=>by exact zI.2 (by omega)) (.c (x:=(((q / 1000000000):Nat):Int)) rfl rfl (fun _ _=>by exact zI.2 (by omega)) .n))) (fun b16 _=> ?_)
     refine zla 0 rfl .z<|zJ rfl rfl (.c rfl (.c rfl .n)) ce91 (zSa (s:=false) (p:=some ⟨b16,0,none⟩) (n:=2) (cap:=2) (l:=[(((q%1000000000):Nat):Int),(((q / 1000000000):Nat):Int)]) (hn:=by first|rfl|omega|(simp;done)|(simp;omega)) (ho:=by exact ht1) (hln:=by first|rfl|omega|(simp;done)|(simp;omega))) (.c (j:=0) rfl .n) ?_
     rintro ⟨p217,c218⟩ -
     dsimp only [List.append_eq,List.nil_append,List.cons_append]
     refine zn 1 rfl rfl rfl rfl rfl sz42 rfl (.take (.take .nil)) (.s .z)<|zm<|zg<|zT ?_
     exact zO Tryz.results68 (p217,c218) trivial (zv 1 ty42 rfl rfl (.take (.take .nil))) (by rw [ht2,←hfin];rfl) (ho:=(.n:PickO _ _ _)) ((.e (j:=0) rfl (by rw [ht2,←hfin];rfl) .n):SelR _ _ _)
theorem zXe {x1:Int} {x2:Int} {p1:Option Addr} {c1:Nat} {p2:Option Addr} {c2:Nat} (hb1:Big.ln x1≤549755813888) (hb2:Big.ln x2≤549755813888):Con Tryz.prog 68 [.agg #[.bool (decide ((x1)<0)),.slice (p1) ((Big.digs ((x1).natAbs)).length) (c1)],.agg #[.bool (decide ((x2)<0)),.slice (p2) ((Big.digs ((x2).natAbs)).length) (c2)]] [] [slF (rI .u32) (p1) (c1) (Big.digs ((x1).natAbs)),slF (rI .u32) (p2) (c2) (Big.digs ((x2).natAbs))] (Y:=(Option Addr)×(Nat)) (fun y=>True) (fun y=> .agg #[.bool (decide ((((Nat.gcd x1.natAbs x2.natAbs:Nat):Int))<0)),.slice (y.1) ((Big.digs ((((Nat.gcd x1.natAbs x2.natAbs:Nat):Int)).natAbs)).length) (y.2)]) (fun y=>[]) (fun y=>[slF (rI .u32) (y.1) (y.2) (Big.digs ((((Nat.gcd x1.natAbs x2.natAbs:Nat):Int)).natAbs))]):=by
  have h:= @zoe (decide ((x1)<0)) p1 (Big.digs (x1).natAbs).length c1 (Big.digs (x1).natAbs) (decide ((x2)<0)) p2 (Big.digs (x2).natAbs).length c2 (Big.digs (x2).natAbs) rfl rfl hb1 hb2
  rw [Big.raw_big,Big.raw_big] at h
  exact h
theorem zYe {w1:Wd} {w2:Wd} {x1:Int} {x2:Int} (hb1:Big.ln x1≤549755813888) (hb2:Big.ln x2≤549755813888):Con Tryz.prog 68 [.agg #[w1.b,w1.l],.agg #[w2.b,w2.l]] [] [zF w1 (x1),zF w2 (x2)] (Y:=(Wd)) (fun y=>True) (fun y=> .agg #[y.b,y.l]) (fun y=>[]) (fun y=>[zF y (((Nat.gcd x1.natAbs x2.natAbs:Nat):Int))]):=by
  exact zZb (zDc (fun p1 c1 p2 c2=>zXe hb1 hb2))
theorem zRd {s:Bool} {p1:Option Addr} {n1:Nat} {c1:Nat} {l1:List Int} {t:Bool} {p2:Option Addr} {n2:Nat} {c2:Nat} {l2:List Int} (hn1:l1.length=n1) (hn2:l2.length=n2) (hm1:n1≤549755813888) (hm2:n2≤549755813888):Con Tryz.prog 67 [.agg #[.bool s,.slice p1 n1 c1],.agg #[.bool t,.slice p2 n2 c2]] [] [slF (rI .u32) p1 c1 l1,slF (rI .u32) p2 c2 l2] (Y:=Unit) (fun y=>True) (fun y=> .int .i64 ((Big.raw s l1 - Big.raw t l2).sign)) (fun y=>[]) (fun y=>[]):=by
 refine zA Tryz.func67 rfl rfl rfl (fun c=> ?_)
 show RunC _ _ _ _ _ [(0,.agg #[.bool s,.slice p1 n1 c1]),(1,.agg #[.bool t,.slice p2 n2 c2])] [] [slF (rI .u32) p1 c1 l1,slF (rI .u32) p2 c2 l2]
 refine zta 0 rfl (fun hL0=> ?_)
 refine zfb 0 rfl (fun hE0=> ?_)
 refine zta 1 rfl (fun hL1=> ?_)
 refine zfb 1 rfl (fun hE1=> ?_)
 have hnn1:Big.nn l1:=fun g hg=>(zI.1 (hE0 g hg)).1
 have hnn2:Big.nn l2:=fun g hg=>(zI.1 (hE1 g hg)).1
 have hb1:Big.ln (Big.raw s l1)≤n1:=by have:=Big.zgb (s:=s) hnn1;omega
 have hb2:Big.ln (Big.raw t l2)≤n2:=by have:=Big.zgb (s:=t) hnn2;omega
 unfold Big.ln at hb1 hb2
 have hls:=Big.ln_sub (Big.raw s l1) (Big.raw t l2)
 unfold Big.ln at hls
 refine zj<|zc<|zL rfl rfl (zfa rfl rfl) (fun b1=> ?_)
 refine zL rfl rfl (zfa rfl rfl) (fun b2=> ?_)
 refine r_pv rfl rfl (zi rfl)<|zm<|zg<|zj<|zc<|r_u rfl rfl (zf 1 ty42 rfl rfl (.take (.take .nil)))<|r_u rfl rfl (zf 0 ty42 rfl rfl (.take (.take .nil)))<|zJ rfl rfl (.c rfl (.c rfl .n)) ce98 (zne (s:=s) (p1:=p1) (n1:=n1) (c1:=c1) (l1:=l1) (t:=t) (p2:=p2) (n2:=n2) (c2:=c2) (l2:=l2) (hn1:=by assumption) (hn2:=by assumption) (hm1:=by first|rfl|assumption|omega|(unfold Big.ln;omega)) (hm2:=by first|rfl|assumption|omega|(unfold Big.ln;omega))) (.c (j:=0) rfl (.c (j:=1) rfl .n)) ?_
 rintro ⟨p33,c34⟩ -
 dsimp only [List.append_eq,List.nil_append,List.cons_append]
 refine zY rfl rfl (.c rfl .n) ce66 (zid (z:=Big.raw s l1 - Big.raw t l2) (p:=p33) (cap:=c34) (hln:=by first|rfl|assumption|omega|(unfold Big.ln;omega))) (.c (j:=0) rfl .n)<|r_pv rfl rfl (zi rfl)<|zm<|zg<|zT ?_
 exact zO Tryz.results67 () trivial (zH rfl) rfl (ho:=(.n:PickO _ _ _)) (.n:SelR _ _ _)
theorem zxd {x1:Int} {x2:Int} {p1:Option Addr} {c1:Nat} {p2:Option Addr} {c2:Nat} (hb1:Big.ln x1≤549755813888) (hb2:Big.ln x2≤549755813888):Con Tryz.prog 67 [.agg #[.bool (decide ((x1)<0)),.slice (p1) ((Big.digs ((x1).natAbs)).length) (c1)],.agg #[.bool (decide ((x2)<0)),.slice (p2) ((Big.digs ((x2).natAbs)).length) (c2)]] [] [slF (rI .u32) (p1) (c1) (Big.digs ((x1).natAbs)),slF (rI .u32) (p2) (c2) (Big.digs ((x2).natAbs))] (Y:=Unit) (fun y=>True) (fun y=> .int .i64 ((x1 - x2).sign)) (fun y=>[]) (fun y=>[]):=by
  have h:= @zRd (decide ((x1)<0)) p1 (Big.digs (x1).natAbs).length c1 (Big.digs (x1).natAbs) (decide ((x2)<0)) p2 (Big.digs (x2).natAbs).length c2 (Big.digs (x2).natAbs) rfl rfl hb1 hb2
  rw [Big.raw_big,Big.raw_big] at h
  exact h
theorem zSd {x1:Int} {x2:Int} {p1:Option Addr} {c1:Nat} {p2:Option Addr} {c2:Nat} (hb1:Big.ln x1≤274877906944) (hb2:Big.ln x2≤274877906944) (hy:x2≠0):Con Tryz.prog 89 [.agg #[.bool (decide (x1<0)),.slice p1 ((Big.digs ((x1).natAbs)).length) c1],.agg #[.bool (decide (x2<0)),.slice p2 ((Big.digs ((x2).natAbs)).length) c2]] [] [slF (rI .u32) p1 c1 (Big.digs ((x1).natAbs)),slF (rI .u32) p2 c2 (Big.digs ((x2).natAbs))] (Y:=(Option Addr)×Nat×(Option Addr)×Nat) (fun y=>True) (fun y=> .tuple #[.agg #[.bool (decide ((Big.fq x1 x2)<0)),.slice (y.1) ((Big.digs ((Big.fq x1 x2).natAbs)).length) (y.2.1)],.agg #[.bool (decide ((Big.fr x1 x2)<0)),.slice (y.2.2.1) ((Big.digs ((Big.fr x1 x2).natAbs)).length) (y.2.2.2)],.int .i64 0]) (fun y=>[]) (fun y=>[slF (rI .u32) (y.1) (y.2.1) (Big.digs ((Big.fq x1 x2).natAbs)),slF (rI .u32) (y.2.2.1) (y.2.2.2) (Big.digs ((Big.fr x1 x2).natAbs))]):=by
 refine zA Tryz.func89 rfl rfl rfl (fun c=> ?_)
 show RunC _ _ _ _ _ [(0,.agg #[.bool (decide (x1<0)),.slice p1 ((Big.digs ((x1).natAbs)).length) c1]),(1,.agg #[.bool (decide (x2<0)),.slice p2 ((Big.digs ((x2).natAbs)).length) c2])] [] [slF (rI .u32) p1 c1 (Big.digs ((x1).natAbs)),slF (rI .u32) p2 c2 (Big.digs ((x2).natAbs))]
 refine zta 0 rfl (fun hL0=> ?_)
 refine zta 1 rfl (fun hL1=> ?_)
 have hfl:=Big.ln_fq (x:=x1) hy
 have hml:=Big.zcb (Big.fq x1 x2) x2
 unfold Big.ln at hb1 hb2 hfl hml
 have hd1:=Nat.div_le_self x1.natAbs x2.natAbs
 have hd2:=Nat.mod_lt x1.natAbs (show 0<x2.natAbs by omega)
 have hl1:=Big.ln_mono' hd1
 have hl2:=Big.ln_mono' (Nat.le_of_lt hd2)
 refine zj<|zc<|zL rfl rfl (zfa rfl rfl) (fun b1=> ?_)
 refine zL rfl rfl (zfa rfl rfl) (fun b2=> ?_)
 refine zL rfl rfl (zr zr42 rfl) (fun b3=> ?_)
 refine zL rfl rfl (zr zr42 rfl) (fun b4=> ?_)
 refine r_pv rfl rfl (zi rfl)<|zm<|zg<|zj<|zea (.c (i:=3) rfl (.c (i:=2) rfl (.c (i:=0) rfl (.c (i:=0) rfl .n))))<|zW (OW:=[boxA b1 42 [.bool (decide (x1<0)),.slice p1 ((Big.digs ((x1).natAbs)).length) c1],boxA b2 42 [.bool (decide (x2<0)),.slice p2 ((Big.digs ((x2).natAbs)).length) c2]]) (O:=[boxA b4 42 [.bool false,.slice none 0 0],boxA b3 42 [.bool false,.slice none 0 0]]) 4 mixed (.then .ret) (by kernel_rfl)<|d_uw 0 rfl rfl (by kernel_rfl) (by kernel_rfl) (by kernel_rfl) rfl rfl (zf 0 ty42 rfl rfl (.take (.take .nil)))<|d_uw 2 rfl rfl (by kernel_rfl) (by kernel_rfl) (by kernel_rfl) rfl rfl (zf 1 ty42 rfl rfl (.take (.take .nil)))<|zt 1 (by kernel_rfl) (zo rfl rfl rfl rfl (.c rfl .n) ce90 (zSc (z:=x1) (p:=p1) (cap:=c1) (hln:=by first|rfl|assumption|omega|(unfold Big.ln;omega)|(unfold Big.ln;rw [hsq];omega)|(decide +kernel))) (.c (j:=0) rfl .n) ?_)
 rintro ⟨p25,c26⟩ -
 dsimp only [List.append_eq,List.nil_append,List.cons_append]
 refine zt 3 (by kernel_rfl) (zo rfl rfl rfl rfl (.c rfl .n) ce90 (zSc (z:=x2) (p:=p2) (cap:=c2) (hln:=by first|rfl|assumption|omega|(unfold Big.ln;omega)|(unfold Big.ln;rw [hsq];omega)|(decide +kernel))) (.c (j:=2) rfl .n) ?_)
 rintro ⟨p27,c28⟩ -
 dsimp only [List.append_eq,List.nil_append,List.cons_append]
 refine zt 4 (by kernel_rfl) (zq (by kernel_rfl) rfl rfl rfl rfl rfl sz42 rfl (.take (.take .nil)) ?_)
 refine zeb (zsa (i:=1) rfl)<|zt 5 (by kernel_rfl) (zq (by kernel_rfl) rfl rfl rfl rfl rfl sz42 rfl (.take (.take .nil)) ?_)
 refine zU (by kernel_rfl)<|zg<|zj<|zj<|zc<|r_pv rfl rfl (zh Tryz.underlying42 rfl sz40 rfl rfl)<|r_u rfl rfl (ze 0 ty40 rfl rfl rfl)<|r_pv rfl rfl (zha Tryz.underlying40 rfl)<|r_pv rfl rfl (zNa rfl rfl)<|zm<|zg<|zV rfl (fun h9=> ?_) (fun h9=> ?_)
 ·
  exact absurd (Big.len_digs_nil.1 (show (Big.digs x2.natAbs).length=0 by omega)) (by omega)
 ·
  refine zD<|zg<|zj<|zc<|r_pv rfl rfl (zh Tryz.underlying42 rfl sz40 rfl rfl)<|r_u rfl rfl (ze 1 ty40 rfl rfl rfl)<|r_pv rfl rfl (zh Tryz.underlying42 rfl sz40 rfl rfl)<|r_u rfl rfl (ze 0 ty40 rfl rfl rfl)<|zJ rfl rfl (.c rfl (.c rfl .n)) ce99 (zkd (a:=(x1).natAbs) (b:=(x2).natAbs) (p1:=p25) (c1:=c26) (p2:=p27) (c2:=c28) (hb1:=by first|rfl|assumption|omega|(unfold Big.ln;omega)|(unfold Big.ln;rw [hsq];omega)|(decide +kernel)) (hb2:=by first|rfl|assumption|omega|(unfold Big.ln;omega)|(unfold Big.ln;rw [hsq];omega)|(decide +kernel)) (hb0:=by first|rfl|assumption|omega|(unfold Big.ln;omega)|(unfold Big.ln;rw [hsq];omega)|(decide +kernel))) (.c (j:=1) rfl (.c (j:=0) rfl .n)) ?_
  rintro ⟨p310,c311,p412,c413⟩ -
  dsimp only [List.append_eq,List.nil_append,List.cons_append]
  refine r_pv rfl rfl (zd rfl)<|r_pv rfl rfl (zG rfl rfl)<|r_pv rfl rfl (zG rfl rfl)<|r_pv rfl rfl (zi rfl)<|r_pv rfl rfl (zi rfl)<|zm<|zg<|zj ?_
  obtain ⟨Q,hQ⟩:∃z,z=((x1).natAbs) / ((x2).natAbs):=⟨_,rfl⟩
  rw [← hQ]
  obtain ⟨R0,hR0⟩:∃z,z=((x1).natAbs)%((x2).natAbs):=⟨_,rfl⟩
  rw [← hR0]
  rw [← hQ] at hl1
  rw [← hR0] at hl2
  have hsq:(Big.sg (decide (decide (x1<0)≠decide (x2<0))) (Q:Int)).natAbs=Q:=by rw [Big.sg_abs (by omega)];exact Int.toNat_natCast _
  refine zc<|r_pv rfl rfl (zh Tryz.underlying42 rfl sz4 rfl rfl)<|r_u rfl rfl (ze 1 ty4 rfl rfl rfl)<|r_pv rfl rfl (zh Tryz.underlying42 rfl sz4 rfl rfl)<|r_u rfl rfl (ze 0 ty4 rfl rfl rfl)<|r_pv rfl rfl (zVa Tryz.underlying4 rfl rfl)<|r_pv rfl rfl (zd rfl)<|zJ rfl rfl (.c rfl (.c rfl .n)) ce91 (zwb (s:=decide (decide (x1<0)≠decide (x2<0))) (a:=Q) (p:=p310) (cap:=c311) (hln:=by first|rfl|assumption|omega|(unfold Big.ln;omega)|(unfold Big.ln;rw [hsq];omega)|(decide +kernel))) (.c (j:=0) rfl .n) ?_
  rintro ⟨p214,c215⟩ -
  dsimp only [List.append_eq,List.nil_append,List.cons_append]
  refine zL rfl rfl (zr zr42 rfl) (fun b16=> ?_)
  refine zn 0 rfl rfl rfl rfl rfl sz42 rfl (.take (.take .nil)) .z<|zm<|zg<|zj<|zj<|zc<|r_pv rfl rfl (zh Tryz.underlying42 rfl sz4 rfl rfl)<|r_u rfl rfl (ze 2 ty4 rfl rfl rfl)<|r_pv rfl rfl (zh Tryz.underlying42 rfl sz4 rfl rfl)<|r_u rfl rfl (ze 1 ty4 rfl rfl rfl)<|r_pv rfl rfl (zVa Tryz.underlying4 rfl rfl)<|zoa rfl rfl (zd rfl) (fun hsd=> ?_) (fun hsd=> ?_)
  ·
   refine r_pv rfl rfl (zd rfl)<|r_pv rfl rfl (zha Tryz.underlying40 rfl)<|r_pv rfl rfl (zUa rfl rfl)<|r_pv rfl rfl (zS rfl rfl)<|zm<|zg<|zV rfl (fun hadj=> ?_) (fun hadj=> ?_)
   ·
    have hr0:x1.natAbs%x2.natAbs≠0:=fun e=>by rw [hR0,e,Big.digs_zero] at hadj;exact absurd hadj (by decide)
    have hqz:Big.sg (decide (decide (x1<0)≠decide (x2<0))) (Q:Int) - 1=Big.fq x1 x2:=by have h9:=(Big.fq_odd hy hsd hr0).1;rw [← h9,decide_eq_true hsd,hQ,Big.sg_t,Big.sg_t];omega
    refine zW (OW:=[boxA b16 42 [.bool (decide ((Big.sg (decide (decide (x1<0)≠decide (x2<0))) (Q:Int))<0)),.slice p214 ((Big.digs ((Big.sg (decide (decide (x1<0)≠decide (x2<0))) (Q:Int)).natAbs)).length) c215]]) (O:=[boxA b2 42 [.bool (decide (x2<0)),.slice p27 ((Big.digs ((x2).natAbs)).length) c28],boxA b1 42 [.bool (decide (x1<0)),.slice p25 ((Big.digs ((x1).natAbs)).length) c26],boxA b4 42 [.bool false,.slice none 0 0],boxA b3 42 [.bool false,.slice none 0 0]]) 3 mixed (.then .ret) (by kernel_rfl)<|d_uw 0 rfl rfl (by kernel_rfl) (by kernel_rfl) (by kernel_rfl) rfl rfl (zf 0 ty42 rfl rfl (.take (.take .nil)))<|zt 1 (by kernel_rfl) (zo rfl rfl rfl rfl (.c rfl .n) ce87 (zSe (z:=1) (hz:=by first|rfl|assumption|omega|(unfold Big.ln;omega)|(unfold Big.ln;rw [hsq];omega)|(decide +kernel))) (.n) ?_)
    rintro ⟨p217,c218⟩ -
    dsimp only [List.append_eq,List.nil_append,List.cons_append]
    refine zt 2 (by kernel_rfl) (zo rfl rfl rfl rfl (.c rfl (.c rfl .n)) ce98 (zpc (x1:=Big.sg (decide (decide (x1<0)≠decide (x2<0))) (Q:Int)) (x2:=1) (p1:=p214) (c1:=c215) (p2:=p217) (c2:=c218) (hb1:=by first|rfl|assumption|omega|(unfold Big.ln;omega)|(unfold Big.ln;rw [hsq];omega)|(decide +kernel)) (hb2:=by first|rfl|assumption|omega|(unfold Big.ln;omega)|(unfold Big.ln;rw [hsq];omega)|(decide +kernel))) (.c (j:=1) rfl (.c (j:=0) rfl .n)) ?_)
    rintro ⟨p319,c320⟩ -
    dsimp only [List.append_eq,List.nil_append,List.cons_append]
    refine zt 3 (by kernel_rfl) (zq (by kernel_rfl) rfl rfl rfl rfl rfl sz42 rfl (.take (.take .nil)) ?_)
    refine zU (by kernel_rfl)<|zg<|zj ?_
    have e21:(Big.sg (decide (decide (x1<0)≠decide (x2<0))) (Q:Int)) - 1=Big.fq x1 x2:=by exact hqz
    rw [e21]
    refine zea (.c (i:=4) rfl (.c (i:=3) rfl (.c (i:=0) rfl (.c (i:=0) rfl (.c (i:=0) rfl .n)))))<|zW (OW:=[boxA b3 42 [.bool false,.slice none 0 0],boxA b4 42 [.bool false,.slice none 0 0]]) (O:=[boxA b16 42 [.bool (decide ((Big.fq x1 x2)<0)),.slice p319 ((Big.digs ((Big.fq x1 x2).natAbs)).length) c320],boxA b2 42 [.bool (decide (x2<0)),.slice p27 ((Big.digs ((x2).natAbs)).length) c28],boxA b1 42 [.bool (decide (x1<0)),.slice p25 ((Big.digs ((x1).natAbs)).length) c26]]) 6 mixed (.then .ret) (by kernel_rfl)<|d_uw 0 rfl rfl (by kernel_rfl) (by kernel_rfl) (by kernel_rfl) rfl rfl (zf 2 ty42 rfl rfl (.take (.take .nil)))<|d_uw 1 rfl rfl (by kernel_rfl) (by kernel_rfl) (by kernel_rfl) rfl rfl (zf 4 ty42 rfl rfl (.take (.take .nil)))<|d_uw 2 rfl rfl (by kernel_rfl) (by kernel_rfl) (by kernel_rfl) rfl rfl (zf 2 ty42 rfl rfl (.take (.take .nil)))<|d_uw 3 rfl rfl (by kernel_rfl) (by kernel_rfl) (by kernel_rfl) rfl rfl (zf 3 ty42 rfl rfl (.take (.take .nil)))<|zt 4 (by kernel_rfl) (zo rfl rfl rfl rfl (.c rfl (.c rfl .n)) ce60 (zqc (x1:=Big.fq x1 x2) (x2:=x2) (p1:=p319) (c1:=c320) (p2:=p27) (c2:=c28) (hb1:=by first|rfl|assumption|omega|(unfold Big.ln;omega)|(unfold Big.ln;rw [hsq];omega)|(decide +kernel)) (hb2:=by first|rfl|assumption|omega|(unfold Big.ln;omega)|(unfold Big.ln;rw [hsq];omega)|(decide +kernel))) (.c (j:=0) rfl (.c (j:=5) rfl .n)) ?_)
    rintro ⟨p322,c323⟩ -
    dsimp only [List.append_eq,List.nil_append,List.cons_append]
    refine zt 5 (by kernel_rfl) (zo rfl rfl rfl rfl (.c rfl (.c rfl .n)) ce98 (zpc (x1:=x1) (x2:=(Big.fq x1 x2)*x2) (p1:=p25) (c1:=c26) (p2:=p322) (c2:=c323) (hb1:=by first|rfl|assumption|omega|(unfold Big.ln;omega)|(unfold Big.ln;rw [hsq];omega)|(decide +kernel)) (hb2:=by first|rfl|assumption|omega|(unfold Big.ln;omega)|(unfold Big.ln;rw [hsq];omega)|(decide +kernel))) (.c (j:=7) rfl (.c (j:=0) rfl .n)) ?_)
    rintro ⟨p324,c325⟩ -
    dsimp only [List.append_eq,List.nil_append,List.cons_append]
    refine zt 6 (by kernel_rfl) (zq (by kernel_rfl) rfl rfl rfl rfl rfl sz42 rfl (.take (.take .nil)) ?_)
    refine zeb (zsa (i:=1) rfl)<|zt 7 (by kernel_rfl) (zq (by kernel_rfl) rfl rfl rfl rfl rfl sz42 rfl (.take (.take .nil)) ?_)
    refine d_pv 8 rfl rfl (by kernel_rfl) (by kernel_rfl) rfl rfl (zi rfl)<|zU (by kernel_rfl)<|zg<|zT ?_
    have hz2:x1 - Big.fq x1 x2*x2=Big.fr x1 x2:=by unfold Big.fr;rw [Int.mul_comm]
    exact zZc Tryz.results89 (p319,c320,p324,c325) trivial (zv 1 ty42 rfl rfl (.take (.take .nil))) (zv 0 ty42 rfl rfl (.take (.take .nil))) (zH rfl) (by rw [hz2]) (ho:=(.n:PickO _ _ _)) ((.c (j:=2) rfl (.e (j:=0) rfl (by rw [hz2]) .n)):SelR _ _ _)
   ·
    have hr0:x1.natAbs%x2.natAbs=0:=Big.len_digs_nil.1 (by rw [← hR0];omega)
    have hqz:Big.sg (decide (decide (x1<0)≠decide (x2<0))) (Q:Int)=Big.fq x1 x2:=by rw [decide_eq_true hsd,hQ];exact (Big.fq_even hy hsd hr0).1
    refine zD<|zg<|zj ?_
    have e26:Big.sg (decide (decide (x1<0)≠decide (x2<0))) (Q:Int)=Big.fq x1 x2:=by exact hqz
    rw [e26]
    refine zea (.c (i:=4) rfl (.c (i:=3) rfl (.c (i:=0) rfl (.c (i:=0) rfl (.c (i:=0) rfl .n)))))<|zW (OW:=[boxA b3 42 [.bool false,.slice none 0 0],boxA b4 42 [.bool false,.slice none 0 0]]) (O:=[boxA b16 42 [.bool (decide ((Big.fq x1 x2)<0)),.slice p214 ((Big.digs ((Big.fq x1 x2).natAbs)).length) c215],boxA b2 42 [.bool (decide (x2<0)),.slice p27 ((Big.digs ((x2).natAbs)).length) c28],boxA b1 42 [.bool (decide (x1<0)),.slice p25 ((Big.digs ((x1).natAbs)).length) c26]]) 6 mixed (.then .ret) (by kernel_rfl)<|d_uw 0 rfl rfl (by kernel_rfl) (by kernel_rfl) (by kernel_rfl) rfl rfl (zf 2 ty42 rfl rfl (.take (.take .nil)))<|d_uw 1 rfl rfl (by kernel_rfl) (by kernel_rfl) (by kernel_rfl) rfl rfl (zf 4 ty42 rfl rfl (.take (.take .nil)))<|d_uw 2 rfl rfl (by kernel_rfl) (by kernel_rfl) (by kernel_rfl) rfl rfl (zf 2 ty42 rfl rfl (.take (.take .nil)))<|d_uw 3 rfl rfl (by kernel_rfl) (by kernel_rfl) (by kernel_rfl) rfl rfl (zf 3 ty42 rfl rfl (.take (.take .nil)))<|zt 4 (by kernel_rfl) (zo rfl rfl rfl rfl (.c rfl (.c rfl .n)) ce60 (zqc (x1:=Big.fq x1 x2) (x2:=x2) (p1:=p214) (c1:=c215) (p2:=p27) (c2:=c28) (hb1:=by first|rfl|assumption|omega|(unfold Big.ln;omega)|(unfold Big.ln;rw [hsq];omega)|(decide +kernel)) (hb2:=by first|rfl|assumption|omega|(unfold Big.ln;omega)|(unfold Big.ln;rw [hsq];omega)|(decide +kernel))) (.c (j:=0) rfl (.c (j:=3) rfl .n)) ?_)
    rintro ⟨p327,c328⟩ -
    dsimp only [List.append_eq,List.nil_append,List.cons_append]
    refine zt 5 (by kernel_rfl) (zo rfl rfl rfl rfl (.c rfl (.c rfl .n)) ce98 (zpc (x1:=x1) (x2:=(Big.fq x1 x2)*x2) (p1:=p25) (c1:=c26) (p2:=p327) (c2:=c328) (hb1:=by first|rfl|assumption|omega|(unfold Big.ln;omega)|(unfold Big.ln;rw [hsq];omega)|(decide +kernel)) (hb2:=by first|rfl|assumption|omega|(unfold Big.ln;omega)|(unfold Big.ln;rw [hsq];omega)|(decide +kernel))) (.c (j:=5) rfl (.c (j:=0) rfl .n)) ?_)
    rintro ⟨p329,c330⟩ -
    dsimp only [List.append_eq,List.nil_append,List.cons_append]
    refine zt 6 (by kernel_rfl) (zq (by kernel_rfl) rfl rfl rfl rfl rfl sz42 rfl (.take (.take .nil)) ?_)
    refine zeb (zsa (i:=1) rfl)<|zt 7 (by kernel_rfl) (zq (by kernel_rfl) rfl rfl rfl rfl rfl sz42 rfl (.take (.take .nil)) ?_)
    refine d_pv 8 rfl rfl (by kernel_rfl) (by kernel_rfl) rfl rfl (zi rfl)<|zU (by kernel_rfl)<|zg<|zT ?_
    have hz2:x1 - Big.fq x1 x2*x2=Big.fr x1 x2:=by unfold Big.fr;rw [Int.mul_comm]
    exact zZc Tryz.results89 (p214,c215,p329,c330) trivial (zv 1 ty42 rfl rfl (.take (.take .nil))) (zv 0 ty42 rfl rfl (.take (.take .nil))) (zH rfl) (by rw [hz2]) (ho:=(.n:PickO _ _ _)) ((.c (j:=2) rfl (.e (j:=0) rfl (by rw [hz2]) .n)):SelR _ _ _)
  ·
   have hs9:=Decidable.not_not.1 hsd
   have hqz:Big.sg (decide (decide (x1<0)≠decide (x2<0))) (Q:Int)=Big.fq x1 x2:=by rw [decide_eq_false hsd,hQ];exact (Big.fq_same hy hs9).1
   refine zl rfl rfl<|zl rfl rfl<|zl rfl rfl<|r_pv rfl rfl (zS rfl rfl)<|zm<|zg<|zua rfl rfl<|zD<|zg<|zj ?_
   have e31:Big.sg (decide (decide (x1<0)≠decide (x2<0))) (Q:Int)=Big.fq x1 x2:=by exact hqz
   rw [e31]
   refine zea (.c (i:=4) rfl (.c (i:=3) rfl (.c (i:=0) rfl (.c (i:=0) rfl (.c (i:=0) rfl .n)))))<|zW (OW:=[boxA b3 42 [.bool false,.slice none 0 0],boxA b4 42 [.bool false,.slice none 0 0]]) (O:=[boxA b16 42 [.bool (decide ((Big.fq x1 x2)<0)),.slice p214 ((Big.digs ((Big.fq x1 x2).natAbs)).length) c215],boxA b2 42 [.bool (decide (x2<0)),.slice p27 ((Big.digs ((x2).natAbs)).length) c28],boxA b1 42 [.bool (decide (x1<0)),.slice p25 ((Big.digs ((x1).natAbs)).length) c26]]) 6 mixed (.then .ret) (by kernel_rfl)<|d_uw 0 rfl rfl (by kernel_rfl) (by kernel_rfl) (by kernel_rfl) rfl rfl (zf 2 ty42 rfl rfl (.take (.take .nil)))<|d_uw 1 rfl rfl (by kernel_rfl) (by kernel_rfl) (by kernel_rfl) rfl rfl (zf 4 ty42 rfl rfl (.take (.take .nil)))<|d_uw 2 rfl rfl (by kernel_rfl) (by kernel_rfl) (by kernel_rfl) rfl rfl (zf 2 ty42 rfl rfl (.take (.take .nil)))<|d_uw 3 rfl rfl (by kernel_rfl) (by kernel_rfl) (by kernel_rfl) rfl rfl (zf 3 ty42 rfl rfl (.take (.take .nil)))<|zt 4 (by kernel_rfl) (zo rfl rfl rfl rfl (.c rfl (.c rfl .n)) ce60 (zqc (x1:=Big.fq x1 x2) (x2:=x2) (p1:=p214) (c1:=c215) (p2:=p27) (c2:=c28) (hb1:=by first|rfl|assumption|omega|(unfold Big.ln;omega)|(unfold Big.ln;rw [hsq];omega)|(decide +kernel)) (hb2:=by first|rfl|assumption|omega|(unfold Big.ln;omega)|(unfold Big.ln;rw [hsq];omega)|(decide +kernel))) (.c (j:=0) rfl (.c (j:=3) rfl .n)) ?_)
   rintro ⟨p332,c333⟩ -
   dsimp only [List.append_eq,List.nil_append,List.cons_append]
   refine zt 5 (by kernel_rfl) (zo rfl rfl rfl rfl (.c rfl (.c rfl .n)) ce98 (zpc (x1:=x1) (x2:=(Big.fq x1 x2)*x2) (p1:=p25) (c1:=c26) (p2:=p332) (c2:=c333) (hb1:=by first|rfl|assumption|omega|(unfold Big.ln;omega)|(unfold Big.ln;rw [hsq];omega)|(decide +kernel)) (hb2:=by first|rfl|assumption|omega|(unfold Big.ln;omega)|(unfold Big.ln;rw [hsq];omega)|(decide +kernel))) (.c (j:=5) rfl (.c (j:=0) rfl .n)) ?_)
   rintro ⟨p334,c335⟩ -
   dsimp only [List.append_eq,List.nil_append,List.cons_append]
   refine zt 6 (by kernel_rfl) (zq (by kernel_rfl) rfl rfl rfl rfl rfl sz42 rfl (.take (.take .nil)) ?_)
   refine zeb (zsa (i:=1) rfl)<|zt 7 (by kernel_rfl) (zq (by kernel_rfl) rfl rfl rfl rfl rfl sz42 rfl (.take (.take .nil)) ?_)
   refine d_pv 8 rfl rfl (by kernel_rfl) (by kernel_rfl) rfl rfl (zi rfl)<|zU (by kernel_rfl)<|zg<|zT ?_
   have hz2:x1 - Big.fq x1 x2*x2=Big.fr x1 x2:=by unfold Big.fr;rw [Int.mul_comm]
   exact zZc Tryz.results89 (p214,c215,p334,c335) trivial (zv 1 ty42 rfl rfl (.take (.take .nil))) (zv 0 ty42 rfl rfl (.take (.take .nil))) (zH rfl) (by rw [hz2]) (ho:=(.n:PickO _ _ _)) ((.c (j:=2) rfl (.e (j:=0) rfl (by rw [hz2]) .n)):SelR _ _ _)
theorem zAb {w1:Wd} {w2:Wd} {x1:Int} {x2:Int} (hb1:Big.ln x1≤274877906944) (hb2:Big.ln x2≤274877906944) (hy:x2≠0):Con Tryz.prog 89 [.agg #[w1.b,w1.l],.agg #[w2.b,w2.l]] [] [zF w1 (x1),zF w2 (x2)] (Y:=(Wd)×(Wd)) (fun y=>True) (fun y=> .tuple #[.agg #[y.1.b,y.1.l],.agg #[y.2.b,y.2.l],.int .i64 (0)]) (fun y=>[]) (fun y=>[zF y.1 (Big.fq x1 x2),zF y.2 (Big.fr x1 x2)]):=by
  exact zNe (zDc (fun p1 c1 p2 c2=>zSd hb1 hb2 hy))
end Go.Proofs.YtjeahiahjgifgaaGreatDoor.Sp
namespace Go.Proofs.YtjeahiahjgifgaaGreatDoor.Sp
open Go
set_option linter.unusedVariables false
set_option maxRecDepth 100000
set_option maxHeartbeats 8000000
theorem zld {z:Int} (hz: -9223372036854775808≤z∧z≤9223372036854775807):Con Tryz.prog 56 [.int .i64 z] [] [] (Y:=(Option Addr)×Nat) (fun y=>True) (fun y=> .agg #[.bool (decide (z<0)),.slice (y.1) ((Big.digs ((z).natAbs)).length) (y.2)]) (fun y=>[]) (fun y=>[slF (rI .u32) (y.1) (y.2) (Big.digs ((z).natAbs))]):=by
 refine zA Tryz.func56 rfl rfl rfl (fun c=> ?_)
 show RunC _ _ _ _ _ [(0,.int .i64 z)] [] []
 refine zj<|zc<|zL rfl rfl (zr zr42 rfl) (fun b1=> ?_)
 refine zm<|zg<|zj<|zc<|r_pv rfl rfl (zd rfl)<|zJ rfl rfl (.c rfl .n) ce87 (zSe (z:=z) (hz:=by assumption)) (.n) ?_
 rintro ⟨p22,c23⟩ -
 dsimp only [List.append_eq,List.nil_append,List.cons_append]
 refine zn 0 rfl rfl rfl rfl rfl sz42 rfl (.take (.take .nil)) .z<|zm<|zg<|zT ?_
 exact zO Tryz.results56 (p22,c23) trivial (zv 0 ty42 rfl rfl (.take (.take .nil))) rfl (ho:=(.n:PickO _ _ _)) ((.c (j:=0) rfl .n):SelR _ _ _)
theorem zLb {z:Int} (hz: -9223372036854775808≤z∧z≤9223372036854775807):Con Tryz.prog 56 [.int .i64 (z)] [] [] (Y:=(Wd)) (fun y=>True) (fun y=> .agg #[y.b,y.l]) (fun y=>[]) (fun y=>[zF y (z)]):=by
  exact zZb (zld hz)
theorem zWb {z:Int} (hz: -9223372036854775808≤z∧z≤9223372036854775807):Con Tryz.prog 22 [.int .i64 z] [] [] (Y:=Wd×Wd) (fun y=>True) (fun y=> .agg #[y.1.b,y.1.l,y.2.b,y.2.l]) (fun y=>[]) (fun y=>[qF true y.1 y.2 ((z:Int):Rat)]):=by
 refine zA Tryz.func22 rfl rfl rfl (fun c=> ?_)
 show RunC _ _ _ _ _ [(0,.int .i64 z)] [] []
 refine zj<|zc<|zL rfl rfl (zr zr44 rfl) (fun b1=> ?_)
 refine zm<|zg<|zj<|zc<|r_pv rfl rfl (zd rfl)<|zJ rfl rfl (.c rfl .n) ce56 (zLb (z:=z) (hz:=by assumption)) (.n) ?_
 rintro w32 -
 dsimp only [List.append_eq,List.nil_append,List.cons_append]
 refine zJ rfl rfl (.c rfl .n) ce56 (zLb (z:=1) (hz:=by first|rfl|assumption|omega|(rw [Big.zba];omega)|(decide +kernel))) (.n) ?_
 rintro w33 -
 dsimp only [List.append_eq,List.nil_append,List.cons_append]
 refine r_pv rfl rfl (zy zr44 rfl Tryz.underlying44 (.c sz42 (.c sz42 .n)) (.c rfl (.c rfl .n)) (.c rfl rfl rfl (.take (.take .nil)) (.c rfl rfl rfl (.skip (.skip (.take (.take .nil)))) .n)))<|zn 0 rfl rfl rfl rfl rfl sz44 rfl (.take (.take (.take (.take .nil)))) .z<|zm<|zg<|zT<|zdb (qF true w32 w33 ((z:Int):Rat)) (qF_close 1 0 rfl rfl (by exact ⟨(Rat.num_intCast z).symm,by rw [Rat.den_intCast];rfl,Nat.le_trans (Big.hq_64 hz.1 hz.2) (by decide)⟩)) ?_
 exact zO Tryz.results22 (w32,w33) trivial (zv 0 ty44 rfl rfl (.take (.take (.take (.take .nil))))) rfl (ho:=(.n:PickO _ _ _)) ((.c (j:=0) rfl .n):SelR _ _ _)
theorem zVc {s:Bool} {p1:Option Addr} {n1:Nat} {c1:Nat} {l1:List Int} {t:Bool} {p2:Option Addr} {n2:Nat} {c2:Nat} {l2:List Int} (hn1:l1.length=n1) (hn2:l2.length=n2) (hm1:n1≤1048576) (hm2:n2≤1048576):Con Tryz.prog 31 [.agg #[.bool s,.slice p1 n1 c1,.bool t,.slice p2 n2 c2]] [] [slF (rI .u32) p1 c1 l1,slF (rI .u32) p2 c2 l2] (Y:=Unit) (fun y=>True) (fun y=> .bool (decide (Big.qok ((s,l1),(t,l2))))) (fun y=>[]) (fun y=>[]):=by
 refine zA Tryz.func31 rfl rfl rfl (fun c=> ?_)
 show RunC _ _ _ _ _ [(0,.agg #[.bool s,.slice p1 n1 c1,.bool t,.slice p2 n2 c2])] [] [slF (rI .u32) p1 c1 l1,slF (rI .u32) p2 c2 l2]
 refine zta 0 rfl (fun hL0=> ?_)
 refine zfb 0 rfl (fun hE0=> ?_)
 refine zta 1 rfl (fun hL1=> ?_)
 refine zfb 1 rfl (fun hE1=> ?_)
 have hnn1:Big.nn l1:=fun g hg=>(zI.1 (hE0 g hg)).1
 have hnn2:Big.nn l2:=fun g hg=>(zI.1 (hE1 g hg)).1
 have hb1:Big.ln (Big.raw s l1)≤n1:=by have:=Big.zgb (s:=s) hnn1;omega
 have hb2:Big.ln (Big.raw t l2)≤n2:=by have:=Big.zgb (s:=t) hnn2;omega
 refine zj<|zc<|zL rfl rfl (zfa rfl rfl) (fun b1=> ?_)
 refine r_pv rfl rfl (zi rfl)<|zm<|zg<|zj<|zIa (X:=Unit) (fun x=>True) (fun x=>[(18,.bool (decide (¬(Big.canon s l1∧Big.canon t l2∧0<Big.raw t l2)))),(2,.bool false),(1,.pointer (some ⟨b1,0,none⟩))]) (fun x=>[boxA b1 44 [.bool s,.slice p1 n1 c1,.bool t,.slice p2 n2 c2]]) (fun x=>[slF (rI .u32) p1 c1 l1,slF (rI .u32) p2 c2 l2]) ?_ ?_
 ·
  refine zc<|r_pv rfl rfl (zh Tryz.underlying44 rfl sz42 rfl rfl)<|r_u rfl rfl (zf 0 ty42 rfl rfl (.take (.take .nil)))<|zY rfl rfl (.c rfl .n) ce65 (zuc (s:=s) (p:=p1) (n:=n1) (cap:=c1) (l:=l1) (hn:=by assumption)) (.c (j:=0) rfl .n)<|r_pv rfl rfl (zMa rfl)<|zoa rfl rfl (zd rfl) (fun h2=> ?_) (fun h2=> ?_)
  ·
   refine zl rfl rfl<|zl rfl rfl<|zl rfl rfl<|zl rfl rfl<|r_pv rfl rfl (zS rfl rfl)<|r_pv rfl rfl (zd rfl)<|zl rfl rfl<|zl rfl rfl<|zl rfl rfl<|zl rfl rfl<|r_pv rfl rfl (zS rfl rfl)<|zm ?_
   exact zna () (show True from by first|trivial|omega|simp_all) ((.e rfl (congrArg Value.bool (by simp_all)) (.c rfl (.c rfl .n))):SubM _ _) (ho:=((.c (i:=0) rfl .n):PickO _ _ _)) ((.of [0,1] rfl):SelR _ _ _)
  ·
   refine r_pv rfl rfl (zh Tryz.underlying44 rfl sz42 rfl rfl)<|r_u rfl rfl (zf 0 ty42 rfl rfl (.skip (.skip (.take (.take .nil)))))<|zY rfl rfl (.c rfl .n) ce65 (zuc (s:=t) (p:=p2) (n:=n2) (cap:=c2) (l:=l2) (hn:=by assumption)) (.c (j:=1) rfl .n)<|r_pv rfl rfl (zMa rfl)<|r_pv rfl rfl (zS rfl rfl)<|zoa rfl rfl (zd rfl) (fun h3=> ?_) (fun h3=> ?_)
   ·
    refine zl rfl rfl<|zl rfl rfl<|zl rfl rfl<|zl rfl rfl<|r_pv rfl rfl (zS rfl rfl)<|zm ?_
    exact zna () (show True from by first|trivial|omega|simp_all) ((.e rfl (congrArg Value.bool (by simp_all)) (.c rfl (.c rfl .n))):SubM _ _) (ho:=((.c (i:=0) rfl .n):PickO _ _ _)) ((.of [0,1] rfl):SelR _ _ _)
   ·
    refine r_pv rfl rfl (zh Tryz.underlying44 rfl sz42 rfl rfl)<|r_u rfl rfl (zf 0 ty42 rfl rfl (.skip (.skip (.take (.take .nil)))))<|zY rfl rfl (.c rfl .n) ce66 (zOd (s:=t) (p:=p2) (n:=n2) (cap:=c2) (l:=l2) (hn:=by assumption) (hln:=by first|rfl|assumption|omega|(rw [Big.zba];omega)|(decide +kernel))) (.c (j:=1) rfl .n)<|r_pv rfl rfl (zyc rfl rfl)<|r_pv rfl rfl (zS rfl rfl)<|zm ?_
    exact zna () (show True from by first|trivial|omega|simp_all) ((.e rfl (congrArg Value.bool (by exact decide_eq_decide.2 (Big.sgn_le (Decidable.not_not.1 ‹_›) (Decidable.not_not.1 ‹_›)))) (.c rfl (.c rfl .n))):SubM _ _) (ho:=((.c (i:=0) rfl .n):PickO _ _ _)) ((.of [0,1] rfl):SelR _ _ _)
 ·
  rintro ⟨⟩ -
  try dsimp only
  refine zV rfl (fun hc=> ?_) (fun hc=> ?_)
  ·
   refine zj<|zc<|r_pv rfl rfl (zi rfl)<|zm<|zg<|zT<|zw ?_
   exact zO Tryz.results31 () trivial (zH rfl) (congrArg Value.bool (decide_eq_false (fun h=>hc ⟨h.1,h.2.1,h.2.2.1⟩))) (ho:=(.n:PickO _ _ _)) (.n:SelR _ _ _)
  ·
   have hcc:=Decidable.not_not.1 hc
   have hgl:=Big.zGd (n:=Big.raw s l1) (d:=Big.raw t l2) (by omega)
   refine zD<|zg<|zj<|zc<|r_pv rfl rfl (zh Tryz.underlying44 rfl sz42 rfl rfl)<|r_u rfl rfl (zf 0 ty42 rfl rfl (.take (.take .nil)))<|r_pv rfl rfl (zh Tryz.underlying44 rfl sz42 rfl rfl)<|r_u rfl rfl (zf 0 ty42 rfl rfl (.skip (.skip (.take (.take .nil)))))<|zJ rfl rfl (.c rfl (.c rfl .n)) ce68 (zoe (s:=s) (p1:=p1) (n1:=n1) (c1:=c1) (l1:=l1) (t:=t) (p2:=p2) (n2:=n2) (c2:=c2) (l2:=l2) (hn1:=by assumption) (hn2:=by assumption) (hm1:=by first|rfl|assumption|omega|(rw [Big.zba];omega)|(decide +kernel)) (hm2:=by first|rfl|assumption|omega|(rw [Big.zba];omega)|(decide +kernel))) (.c (j:=0) rfl (.c (j:=1) rfl .n)) ?_
   rintro ⟨p34,c35⟩ -
   dsimp only [List.append_eq,List.nil_append,List.cons_append]
   refine zJ rfl rfl (.c rfl .n) ce56 (zld (z:=1) (hz:=by first|rfl|assumption|omega|(rw [Big.zba];omega)|(decide +kernel))) (.n) ?_
   rintro ⟨p26,c27⟩ -
   dsimp only [List.append_eq,List.nil_append,List.cons_append]
   refine zY rfl rfl (.c rfl (.c rfl .n)) ce67 (zxd (x1:=((Nat.gcd (Big.raw s l1).natAbs (Big.raw t l2).natAbs:Nat):Int)) (x2:=1) (p1:=p34) (c1:=c35) (p2:=p26) (c2:=c27) (hb1:=by first|rfl|assumption|omega|(rw [Big.zba];omega)|(decide +kernel)) (hb2:=by first|rfl|assumption|omega|(rw [Big.zba];omega)|(decide +kernel))) (.c (j:=1) rfl (.c (j:=0) rfl .n))<|r_pv rfl rfl (zNa rfl rfl)<|r_pv rfl rfl (zi rfl)<|zm<|zg<|zT ?_
   exact zO Tryz.results31 () trivial (zH rfl) (congrArg Value.bool (decide_eq_decide.2 (Big.qok_sub (x:=((s,l1),(t,l2))) (Decidable.not_not.1 hc)).symm)) (ho:=(.n:PickO _ _ _)) (.n:SelR _ _ _)
theorem zFc {u1:Wd} {v1:Wd} {q1:Rat}:Con Tryz.prog 31 [.agg #[u1.b,u1.l,v1.b,v1.l]] [] [qF true u1 v1 (q1)] (Y:=Unit) (fun y=>True) (fun y=> .bool true) (fun y=>[]) (fun y=>[]):=by
  exact zyf (fun x hx hk h1 h2=>by have h:= @zVc x.1.1 u1.p _ u1.c x.1.2 x.2.1 v1.p _ v1.c x.2.2 rfl rfl h1 h2;rw [decide_eq_true (hk rfl)] at h;exact h)
theorem zde {s:Bool} {p1:Option Addr} {n1:Nat} {c1:Nat} {l1:List Int} {t:Bool} {p2:Option Addr} {n2:Nat} {c2:Nat} {l2:List Int} (hn1:l1.length=n1) (hn2:l2.length=n2) (hm1:n1≤1048576) (hm2:n2≤1048576):Con Tryz.prog 57 [.agg #[.bool s,.slice p1 n1 c1,.bool t,.slice p2 n2 c2]] [] [slF (rI .u32) p1 c1 l1,slF (rI .u32) p2 c2 l2] (Y:=Wd×Wd) (fun y=>True) (fun y=> .agg #[y.1.b,y.1.l,y.2.b,y.2.l]) (fun y=>[]) (fun y=>[qF true y.1 y.2 (Big.qv ((s,l1),(t,l2)))]):=by
 refine zA Tryz.func57 rfl rfl rfl (fun c=> ?_)
 show RunC _ _ _ _ _ [(0,.agg #[.bool s,.slice p1 n1 c1,.bool t,.slice p2 n2 c2])] [] [slF (rI .u32) p1 c1 l1,slF (rI .u32) p2 c2 l2]
 refine zta 0 rfl (fun hL0=> ?_)
 refine zfb 0 rfl (fun hE0=> ?_)
 refine zta 1 rfl (fun hL1=> ?_)
 refine zfb 1 rfl (fun hE1=> ?_)
 have hnn1:Big.nn l1:=fun g hg=>(zI.1 (hE0 g hg)).1
 have hnn2:Big.nn l2:=fun g hg=>(zI.1 (hE1 g hg)).1
 have hb1:Big.ln (Big.raw s l1)≤n1:=by have:=Big.zgb (s:=s) hnn1;omega
 have hb2:Big.ln (Big.raw t l2)≤n2:=by have:=Big.zgb (s:=t) hnn2;omega
 refine zj<|zc<|zL rfl rfl (zfa rfl rfl) (fun b1=> ?_)
 refine zL rfl rfl (zr zr44 rfl) (fun b2=> ?_)
 refine zm<|zg<|zj<|zj<|zc<|r_u rfl rfl (zf 1 ty44 rfl rfl (.take (.take (.take (.take .nil)))))<|zY rfl rfl (.c rfl .n) ce31 (zVc (s:=s) (p1:=p1) (n1:=n1) (c1:=c1) (l1:=l1) (t:=t) (p2:=p2) (n2:=n2) (c2:=c2) (l2:=l2) (hn1:=by assumption) (hn2:=by assumption) (hm1:=by assumption) (hm2:=by assumption)) (.c (j:=0) rfl (.c (j:=1) rfl .n))<|zm<|zg<|zV rfl (fun hq=> ?_) (fun hq=> ?_)
 ·
  have hrp:=Big.raw_parts (x:=((s,l1),(t,l2))) hnn1 hnn2 hq
  have hqp:=Big.qv_parts (x:=((s,l1),(t,l2))) hq
  have hl:Big.hq (Big.qv ((s,l1),(t,l2)))≤1048576:=by unfold Big.hq;rw [hqp.1,hqp.2];dsimp only;omega
  refine zj<|zc<|r_u rfl rfl (zf 1 ty44 rfl rfl (.take (.take (.take (.take .nil)))))<|zn 0 rfl rfl rfl rfl rfl sz44 rfl (.take (.take (.take (.take .nil)))) .z<|zm<|zg<|zT<|zw<|zdb (qF true ⟨s,p1,n1,c1⟩ ⟨t,p2,n2,c2⟩ (Big.qv ((s,l1),(t,l2)))) (fun g r=>qF_rawI 0 1 rfl rfl hn1 hn2 hm1 hm2 hq g r) ?_
  exact zO Tryz.results57 (⟨s,p1,n1,c1⟩,⟨t,p2,n2,c2⟩) trivial (zv 0 ty44 rfl rfl (.take (.take (.take (.take .nil))))) rfl (ho:=(.n:PickO _ _ _)) ((.c (j:=0) rfl .n):SelR _ _ _)
 ·
  have hz:=Big.qv_not (x:=((s,l1),(t,l2))) hq
  refine zD<|zg<|zj<|zc<|zJ rfl rfl (.c rfl .n) ce22 (zWb (z:=0) (hz:=by first|rfl|assumption|omega|(rw [Big.zba];omega)|(decide +kernel))) (.n) ?_
  rintro ⟨w33,w44⟩ -
  dsimp only [List.append_eq,List.nil_append,List.cons_append]
  refine zn 0 rfl rfl rfl rfl rfl sz44 rfl (.take (.take (.take (.take .nil)))) .z<|zm<|zg<|zT ?_
  exact zO Tryz.results57 (w33,w44) trivial (zv 0 ty44 rfl rfl (.take (.take (.take (.take .nil))))) rfl (ho:=(.n:PickO _ _ _)) ((.e (j:=0) rfl (by rw [hz];rfl) .n):SelR _ _ _)
theorem zBb {k1:Bool} {u1:Wd} {v1:Wd} {q1:Rat}:Con Tryz.prog 57 [.agg #[u1.b,u1.l,v1.b,v1.l]] [] [qF k1 u1 v1 (q1)] (Y:=(Wd)×(Wd)) (fun y=>True) (fun y=> .agg #[y.1.b,y.1.l,y.2.b,y.2.l]) (fun y=>[]) (fun y=>[qF true y.1 y.2 (q1)]):=by
  exact zMe (fun x hx hk h1 h2 hl=>by subst hx;exact zde rfl rfl h1 h2)
theorem zGc {w1:Wd} {w2:Wd} {x1:Int} {x2:Int} (hl1:Big.ln x1≤1048576) (hl2:Big.ln x2≤1048576) (hd:x2≠0):Con Tryz.prog 58 [.agg #[w1.b,w1.l],.agg #[w2.b,w2.l]] [] [zF w1 x1,zF w2 x2] (Y:=Wd×Wd) (fun y=>True) (fun y=> .agg #[y.1.b,y.1.l,y.2.b,y.2.l]) (fun y=>[]) (fun y=>[qF true y.1 y.2 (Rat.divInt x1 x2)]):=by
 refine zA Tryz.func58 rfl rfl rfl (fun c=> ?_)
 show RunC _ _ _ _ _ [(0,.agg #[w1.b,w1.l]),(1,.agg #[w2.b,w2.l])] [] [zF w1 x1,zF w2 x2]
 refine zj<|zc<|zL rfl rfl (zfa rfl rfl) (fun b1=> ?_)
 refine zL rfl rfl (zfa rfl rfl) (fun b2=> ?_)
 refine zL rfl rfl (zr zr44 rfl) (fun b3=> ?_)
 refine zm<|zg<|zj<|zc<|r_u rfl rfl (zf 2 ty42 rfl rfl (.take (.take .nil)))<|r_u rfl rfl (zf 1 ty42 rfl rfl (.take (.take .nil)))<|zJ rfl rfl (.c rfl (.c rfl .n)) ce68 (zYe (w1:=w1) (w2:=w2) (x1:=x1) (x2:=x2) (hb1:=by first|rfl|assumption|omega|(rw [Big.zba];omega)|(decide +kernel)) (hb2:=by first|rfl|assumption|omega|(rw [Big.zba];omega)|(decide +kernel))) (.c (j:=0) rfl (.c (j:=1) rfl .n)) ?_
 rintro w34 -
 dsimp only [List.append_eq,List.nil_append,List.cons_append]
 refine zL rfl rfl (zr zr42 rfl) (fun b5=> ?_)
 refine zn 0 rfl rfl rfl rfl rfl sz42 rfl (.take (.take .nil)) .z<|zm<|zg<|zj<|zj<|zc<|r_u rfl rfl (zf 2 ty42 rfl rfl (.take (.take .nil)))<|zY rfl rfl (.c rfl .n) ce66 (zvc (w1:=w2) (x1:=x2) (hln:=by first|rfl|assumption|omega|(rw [Big.zba];omega)|(decide +kernel))) (.c (j:=2) rfl .n)<|r_pv rfl rfl (zX rfl rfl)<|zm<|zg<|zV rfl (fun hneg=> ?_) (fun hneg=> ?_)
 ·
  have hs:x2<0:=by rcases Big.sign_le (x:=x2) with h|h|h <;> omega
  have hgp:=Big.gcd_pos_right (n:=x1) (d:=x2) (by omega)
  have hgl:=Big.zGd (n:=x1) (d:=x2) (by omega)
  obtain ⟨hr1,hr2⟩:=Big.red_neg (n:=x1) hs
  refine zc<|r_u rfl rfl (zf 0 ty42 rfl rfl (.take (.take .nil)))<|zJ rfl rfl (.c rfl .n) ce88 (zNd (w1:=w34) (x1:=((Nat.gcd x1.natAbs x2.natAbs:Nat):Int)) (hln:=by first|rfl|assumption|omega|(rw [Big.zba];omega)|(decide +kernel))) (.c (j:=0) rfl .n) ?_
  rintro w36 -
  dsimp only [List.append_eq,List.nil_append,List.cons_append]
  refine zn 0 rfl rfl rfl rfl rfl sz42 rfl (.take (.take .nil)) .z<|zm<|zg<|zj<|zc<|r_u rfl rfl (zf 3 ty42 rfl rfl (.take (.take .nil)))<|r_u rfl rfl (zf 0 ty42 rfl rfl (.take (.take .nil)))<|zJ rfl rfl (.c rfl (.c rfl .n)) ce89 (zAb (w1:=w1) (w2:=w36) (x1:=x1) (x2:= - ((Nat.gcd x1.natAbs x2.natAbs:Nat):Int)) (hb1:=by first|rfl|assumption|omega|(rw [Big.zba];omega)|(decide +kernel)) (hb2:=by first|rfl|assumption|omega|(rw [Big.zba];omega)|(decide +kernel)) (hy:=by first|rfl|assumption|omega|(rw [Big.zba];omega)|(decide +kernel))) (.c (j:=2) rfl (.c (j:=0) rfl .n)) ?_
  rintro ⟨w37,w48⟩ -
  dsimp only [List.append_eq,List.nil_append,List.cons_append]
  refine r_pv rfl rfl (zd rfl)<|r_pv rfl rfl (zG rfl rfl)<|r_pv rfl rfl (zG rfl rfl)<|r_pv rfl rfl (zG rfl rfl)<|zL rfl rfl (zr zr42 rfl) (fun b9=> ?_)
  refine zL rfl rfl (zr zr42 rfl) (fun b10=> ?_)
  refine zn 1 rfl rfl rfl rfl rfl sz42 rfl (.take (.take .nil)) (.s .z)<|zn 0 rfl rfl rfl rfl rfl sz42 rfl (.take (.take .nil)) .z<|r_pv rfl rfl (zi rfl)<|zm<|zg<|zj<|zc<|r_u rfl rfl (zf 4 ty42 rfl rfl (.take (.take .nil)))<|r_u rfl rfl (zf 2 ty42 rfl rfl (.take (.take .nil)))<|zJ rfl rfl (.c rfl (.c rfl .n)) ce89 (zAb (w1:=w2) (w2:=w36) (x1:=x2) (x2:= - ((Nat.gcd x1.natAbs x2.natAbs:Nat):Int)) (hb1:=by first|rfl|assumption|omega|(rw [Big.zba];omega)|(decide +kernel)) (hb2:=by first|rfl|assumption|omega|(rw [Big.zba];omega)|(decide +kernel)) (hy:=by first|rfl|assumption|omega|(rw [Big.zba];omega)|(decide +kernel))) (.c (j:=5) rfl (.c (j:=2) rfl .n)) ?_
  rintro ⟨w311,w412⟩ -
  dsimp only [List.append_eq,List.nil_append,List.cons_append]
  refine r_pv rfl rfl (zd rfl)<|r_pv rfl rfl (zG rfl rfl)<|r_pv rfl rfl (zG rfl rfl)<|r_pv rfl rfl (zG rfl rfl)<|zL rfl rfl (zr zr42 rfl) (fun b13=> ?_)
  refine zL rfl rfl (zr zr42 rfl) (fun b14=> ?_)
  refine zn 1 rfl rfl rfl rfl rfl sz42 rfl (.take (.take .nil)) (.s .z)<|zn 0 rfl rfl rfl rfl rfl sz42 rfl (.take (.take .nil)) .z<|r_pv rfl rfl (zi rfl)<|zm<|zg<|zj<|zc<|r_u rfl rfl (zf 3 ty42 rfl rfl (.take (.take .nil)))<|r_u rfl rfl (zf 1 ty42 rfl rfl (.take (.take .nil)))<|r_pv rfl rfl (zy zr44 rfl Tryz.underlying44 (.c sz42 (.c sz42 .n)) (.c rfl (.c rfl .n)) (.c rfl rfl rfl (.take (.take .nil)) (.c rfl rfl rfl (.skip (.skip (.take (.take .nil)))) .n)))<|zn 5 rfl rfl rfl rfl rfl sz44 rfl (.take (.take (.take (.take .nil)))) (.s (.s (.s (.s (.s .z)))))<|zm<|zg<|zT<|zdb (qF true w37 w311 (Rat.divInt x1 x2)) (qF_close 2 0 rfl rfl (by exact ⟨hr1,hr2,Nat.le_trans (Big.hq_divInt hd) (by omega)⟩)) ?_
  exact zO Tryz.results58 (w37,w311) trivial (zv 5 ty44 rfl rfl (.take (.take (.take (.take .nil))))) rfl (ho:=(.n:PickO _ _ _)) ((.c (j:=0) rfl .n):SelR _ _ _)
 ·
  have hs:0<x2:=by rcases Big.sign_le (x:=x2) with h|h|h <;> omega
  have hgp:=Big.gcd_pos_right (n:=x1) (d:=x2) (by omega)
  have hgl:=Big.zGd (n:=x1) (d:=x2) (by omega)
  obtain ⟨hr1,hr2⟩:=Big.red_pos (n:=x1) hs
  refine zD<|zg<|zj<|zc<|r_u rfl rfl (zf 3 ty42 rfl rfl (.take (.take .nil)))<|r_u rfl rfl (zf 0 ty42 rfl rfl (.take (.take .nil)))<|zJ rfl rfl (.c rfl (.c rfl .n)) ce89 (zAb (w1:=w1) (w2:=w34) (x1:=x1) (x2:=((Nat.gcd x1.natAbs x2.natAbs:Nat):Int)) (hb1:=by first|rfl|assumption|omega|(rw [Big.zba];omega)|(decide +kernel)) (hb2:=by first|rfl|assumption|omega|(rw [Big.zba];omega)|(decide +kernel)) (hy:=by first|rfl|assumption|omega|(rw [Big.zba];omega)|(decide +kernel))) (.c (j:=1) rfl (.c (j:=0) rfl .n)) ?_
  rintro ⟨w315,w416⟩ -
  dsimp only [List.append_eq,List.nil_append,List.cons_append]
  refine r_pv rfl rfl (zd rfl)<|r_pv rfl rfl (zG rfl rfl)<|r_pv rfl rfl (zG rfl rfl)<|r_pv rfl rfl (zG rfl rfl)<|zL rfl rfl (zr zr42 rfl) (fun b17=> ?_)
  refine zL rfl rfl (zr zr42 rfl) (fun b18=> ?_)
  refine zn 1 rfl rfl rfl rfl rfl sz42 rfl (.take (.take .nil)) (.s .z)<|zn 0 rfl rfl rfl rfl rfl sz42 rfl (.take (.take .nil)) .z<|r_pv rfl rfl (zi rfl)<|zm<|zg<|zj<|zc<|r_u rfl rfl (zf 4 ty42 rfl rfl (.take (.take .nil)))<|r_u rfl rfl (zf 2 ty42 rfl rfl (.take (.take .nil)))<|zJ rfl rfl (.c rfl (.c rfl .n)) ce89 (zAb (w1:=w2) (w2:=w34) (x1:=x2) (x2:=((Nat.gcd x1.natAbs x2.natAbs:Nat):Int)) (hb1:=by first|rfl|assumption|omega|(rw [Big.zba];omega)|(decide +kernel)) (hb2:=by first|rfl|assumption|omega|(rw [Big.zba];omega)|(decide +kernel)) (hy:=by first|rfl|assumption|omega|(rw [Big.zba];omega)|(decide +kernel))) (.c (j:=4) rfl (.c (j:=2) rfl .n)) ?_
  rintro ⟨w319,w420⟩ -
  dsimp only [List.append_eq,List.nil_append,List.cons_append]
  refine r_pv rfl rfl (zd rfl)<|r_pv rfl rfl (zG rfl rfl)<|r_pv rfl rfl (zG rfl rfl)<|r_pv rfl rfl (zG rfl rfl)<|zL rfl rfl (zr zr42 rfl) (fun b21=> ?_)
  refine zL rfl rfl (zr zr42 rfl) (fun b22=> ?_)
  refine zn 1 rfl rfl rfl rfl rfl sz42 rfl (.take (.take .nil)) (.s .z)<|zn 0 rfl rfl rfl rfl rfl sz42 rfl (.take (.take .nil)) .z<|r_pv rfl rfl (zi rfl)<|zm<|zg<|zj<|zc<|r_u rfl rfl (zf 3 ty42 rfl rfl (.take (.take .nil)))<|r_u rfl rfl (zf 1 ty42 rfl rfl (.take (.take .nil)))<|r_pv rfl rfl (zy zr44 rfl Tryz.underlying44 (.c sz42 (.c sz42 .n)) (.c rfl (.c rfl .n)) (.c rfl rfl rfl (.take (.take .nil)) (.c rfl rfl rfl (.skip (.skip (.take (.take .nil)))) .n)))<|zn 5 rfl rfl rfl rfl rfl sz44 rfl (.take (.take (.take (.take .nil)))) (.s (.s (.s (.s (.s .z)))))<|zm<|zg<|zT<|zdb (qF true w315 w319 (Rat.divInt x1 x2)) (qF_close 2 0 rfl rfl (by exact ⟨hr1,hr2,Nat.le_trans (Big.hq_divInt hd) (by omega)⟩)) ?_
  exact zO Tryz.results58 (w315,w319) trivial (zv 5 ty44 rfl rfl (.take (.take (.take (.take .nil))))) rfl (ho:=(.n:PickO _ _ _)) ((.c (j:=0) rfl .n):SelR _ _ _)
theorem zuf {w1:Wd} {w2:Wd} {x1:Int} {x2:Int} (hl1:Big.ln x1≤1048576) (hl2:Big.ln x2≤1048576):Con Tryz.prog 72 [.agg #[w1.b,w1.l],.agg #[w2.b,w2.l]] [] [zF w1 x1,zF w2 x2] (Y:=Wd×Wd) (fun y=>True) (fun y=> .tuple #[.agg #[y.1.b,y.1.l,y.2.b,y.2.l],.int .i64 (if x2=0 then 14 else 0)]) (fun y=>[]) (fun y=>[qF (decide (x2≠0)) y.1 y.2 (Rat.divInt x1 x2)]):=by
 refine zA Tryz.func72 rfl rfl rfl (fun c=> ?_)
 show RunC _ _ _ _ _ [(0,.agg #[w1.b,w1.l]),(1,.agg #[w2.b,w2.l])] [] [zF w1 x1,zF w2 x2]
 refine zj<|zc<|zL rfl rfl (zfa rfl rfl) (fun b1=> ?_)
 refine zL rfl rfl (zfa rfl rfl) (fun b2=> ?_)
 refine zL rfl rfl (zr zr44 rfl) (fun b3=> ?_)
 refine r_pv rfl rfl (zi rfl)<|zm<|zg<|zj<|zj<|zc<|r_u rfl rfl (zf 1 ty42 rfl rfl (.take (.take .nil)))<|zY rfl rfl (.c rfl .n) ce66 (zvc (w1:=w2) (x1:=x2) (hln:=by first|rfl|assumption|omega|(rw [Big.zba];omega)|(decide +kernel))) (.c (j:=1) rfl .n)<|r_pv rfl rfl (zNa rfl rfl)<|zm<|zg<|zV rfl (fun hz0=> ?_) (fun hz0=> ?_)
 ·
  have hx0:x2=0:=Big.sign_zero.1 hz0
  refine zj<|zc<|r_pv rfl rfl (zy zr44 rfl Tryz.underlying44 (.c sz42 (.c sz42 .n)) .n .n)<|zn 0 rfl rfl rfl rfl rfl sz44 rfl (.take (.take (.take (.take .nil)))) .z<|r_pv rfl rfl (zi rfl)<|zm<|zg<|zT<|zw<|zdb (qF false wz wz 0) (fun g _=>qF_none g) ?_
  exact zEa Tryz.results72 (wz,wz) trivial (zv 0 ty44 rfl rfl (.take (.take (.take (.take .nil))))) (zH rfl) (by rw [if_pos hx0];rfl) (ho:=(.n:PickO _ _ _)) ((.e (j:=0) rfl (by rw [Big.divInt_nil hx0,decide_eq_false (not_not_intro hx0)]) .n):SelR _ _ _)
 ·
  have hx0:x2≠0:=fun e=>hz0 (Big.sign_zero.2 e)
  refine zD<|zg<|zj<|zc<|r_u rfl rfl (zf 2 ty42 rfl rfl (.take (.take .nil)))<|r_u rfl rfl (zf 1 ty42 rfl rfl (.take (.take .nil)))<|zJ rfl rfl (.c rfl (.c rfl .n)) ce58 (zGc (w1:=w1) (w2:=w2) (x1:=x1) (x2:=x2) (hl1:=by assumption) (hl2:=by assumption) (hd:=by first|rfl|assumption|omega|(rw [Big.zba];omega)|(decide +kernel))) (.c (j:=0) rfl (.c (j:=1) rfl .n)) ?_
  rintro ⟨w34,w45⟩ -
  dsimp only [List.append_eq,List.nil_append,List.cons_append]
  refine zn 0 rfl rfl rfl rfl rfl sz44 rfl (.take (.take (.take (.take .nil)))) .z<|r_pv rfl rfl (zi rfl)<|zm<|zg<|zT ?_
  exact zEa Tryz.results72 (w34,w45) trivial (zv 0 ty44 rfl rfl (.take (.take (.take (.take .nil))))) (zH rfl) (by rw [if_neg hx0]) (ho:=(.n:PickO _ _ _)) ((.e (j:=0) rfl (by rw [decide_eq_true hx0]) .n):SelR _ _ _)
theorem zvf {z1:Int} {z2:Int} (hz1: -9223372036854775808≤z1∧z1≤9223372036854775807) (hz2: -9223372036854775808≤z2∧z2≤9223372036854775807):Con Tryz.prog 41 [.int .i64 z1,.int .i64 z2] [] [] (Y:=Wd×Wd) (fun y=>True) (fun y=> .tuple #[.agg #[y.1.b,y.1.l,y.2.b,y.2.l],.int .i64 (if z2=0 then 14 else 0)]) (fun y=>[]) (fun y=>[qF (decide (z2≠0)) y.1 y.2 (Rat.divInt z1 z2)]):=by
 refine zA Tryz.func41 rfl rfl rfl (fun c=> ?_)
 show RunC _ _ _ _ _ [(0,.int .i64 z1),(1,.int .i64 z2)] [] []
 have g1:=Big.zJe hz1.1 hz1.2
 have g2:=Big.zJe hz2.1 hz2.2
 refine zj<|zc<|zL rfl rfl (zr zr44 rfl) (fun b1=> ?_)
 refine r_pv rfl rfl (zi rfl)<|zm<|zg<|zj<|zc<|r_pv rfl rfl (zd rfl)<|zJ rfl rfl (.c rfl .n) ce56 (zLb (z:=z1) (hz:=by assumption)) (.n) ?_
 rintro w32 -
 dsimp only [List.append_eq,List.nil_append,List.cons_append]
 refine r_pv rfl rfl (zd rfl)<|zJ rfl rfl (.c rfl .n) ce56 (zLb (z:=z2) (hz:=by assumption)) (.n) ?_
 rintro w33 -
 dsimp only [List.append_eq,List.nil_append,List.cons_append]
 refine zJ rfl rfl (.c rfl (.c rfl .n)) ce72 (zuf (w1:=w32) (w2:=w33) (x1:=z1) (x2:=z2) (hl1:=by first|rfl|assumption|omega|(rw [Big.zba];omega)|(decide +kernel)) (hl2:=by first|rfl|assumption|omega|(rw [Big.zba];omega)|(decide +kernel))) (.c (j:=1) rfl (.c (j:=0) rfl .n)) ?_
 rintro ⟨w34,w45⟩ -
 dsimp only [List.append_eq,List.nil_append,List.cons_append]
 refine r_pv rfl rfl (zG rfl rfl)<|r_pv rfl rfl (zG rfl rfl)<|zn 0 rfl rfl rfl rfl rfl sz44 rfl (.take (.take (.take (.take .nil)))) .z<|r_pv rfl rfl (zi rfl)<|zm<|zg<|zT ?_
 exact zEa Tryz.results41 (w34,w45) trivial (zv 0 ty44 rfl rfl (.take (.take (.take (.take .nil))))) (zH rfl) rfl (ho:=(.n:PickO _ _ _)) ((.c (j:=0) rfl .n):SelR _ _ _)
theorem zxe {z1:Int} {z2:Int} (hz1: -9223372036854775808≤z1∧z1≤9223372036854775807) (hz2: -9223372036854775808≤z2∧z2≤9223372036854775807) (hy:z2≠0):Con Tryz.prog 41 [.int .i64 (z1),.int .i64 (z2)] [] [] (Y:=(Wd)×(Wd)) (fun y=>True) (fun y=> .tuple #[.agg #[y.1.b,y.1.l,y.2.b,y.2.l],.int .i64 (0)]) (fun y=>[]) (fun y=>[qF true y.1 y.2 (Rat.divInt z1 z2)]):=by
  have h:=zvf hz1 hz2
  rw [if_neg hy,decide_eq_true hy] at h
  exact h
theorem zye {k1:Bool} {u1:Wd} {v1:Wd} {q1:Rat} (hl:Big.hq q1≤1048576):Con Tryz.prog 53 [.agg #[u1.b,u1.l,v1.b,v1.l]] [] [qF k1 u1 v1 q1] (Y:=Unit) (fun y=>True) (fun y=> .int .i64 (Big.sgq q1)) (fun y=>[]) (fun y=>[]):=by
 refine zA Tryz.func53 rfl rfl rfl (fun c=> ?_)
 show RunC _ _ _ _ _ [(0,.agg #[u1.b,u1.l,v1.b,v1.l])] [] [qF k1 u1 v1 q1]
 have a1:=Big.hq_num q1
 have a2:=Big.hq_den q1
 refine zj<|zc<|zL rfl rfl (zfa rfl rfl) (fun b1=> ?_)
 refine r_pv rfl rfl (zi rfl)<|zm<|zg<|zj<|zc<|r_u rfl rfl (zf 0 ty44 rfl rfl (.take (.take (.take (.take .nil)))))<|zJ rfl rfl (.c rfl .n) ce57 (zBb (k1:=k1) (u1:=u1) (v1:=v1) (q1:=q1)) (.c (j:=0) rfl .n) ?_
 rintro ⟨w32,w43⟩ -
 dsimp only [List.append_eq,List.nil_append,List.cons_append]
 refine r_pv rfl rfl (zAc Tryz.underlying44 rfl ty42 rfl (.take (.take .nil)))<|zxc (qF_open 0 rfl) (fun _ _=> ?_)
 refine zY rfl rfl (.c rfl .n) ce66 (zvc (w1:=w32) (x1:=(q1).num) (hln:=by first|rfl|assumption|omega|(rw [Big.zba];omega)|(decide +kernel))) (.c (j:=0) rfl .n)<|r_pv rfl rfl (zi rfl)<|zm<|zg<|zT ?_
 exact zO Tryz.results53 () trivial (zH rfl) rfl (ho:=(.n:PickO _ _ _)) (.n:SelR _ _ _)
theorem zZe {k1:Bool} {u1:Wd} {v1:Wd} {q1:Rat} (hl:Big.hq q1≤1048576):Con Tryz.prog 62 [.agg #[u1.b,u1.l,v1.b,v1.l]] [] [qF k1 u1 v1 q1] (Y:=Wd×Wd) (fun y=>True) (fun y=> .agg #[y.1.b,y.1.l,y.2.b,y.2.l]) (fun y=>[]) (fun y=>[qF true y.1 y.2 (- q1)]):=by
 refine zA Tryz.func62 rfl rfl rfl (fun c=> ?_)
 show RunC _ _ _ _ _ [(0,.agg #[u1.b,u1.l,v1.b,v1.l])] [] [qF k1 u1 v1 q1]
 have a1:=Big.hq_num q1
 have a2:=Big.hq_den q1
 refine zj<|zc<|zL rfl rfl (zfa rfl rfl) (fun b1=> ?_)
 refine zL rfl rfl (zr zr44 rfl) (fun b2=> ?_)
 refine zm<|zg<|zj<|zc<|r_u rfl rfl (zf 1 ty44 rfl rfl (.take (.take (.take (.take .nil)))))<|zJ rfl rfl (.c rfl .n) ce57 (zBb (k1:=k1) (u1:=u1) (v1:=v1) (q1:=q1)) (.c (j:=0) rfl .n) ?_
 rintro ⟨w33,w44⟩ -
 dsimp only [List.append_eq,List.nil_append,List.cons_append]
 refine zL rfl rfl (zr zr44 rfl) (fun b5=> ?_)
 refine zn 0 rfl rfl rfl rfl rfl sz44 rfl (.take (.take (.take (.take .nil)))) .z<|zm<|zg<|zj<|zea (.c (i:=1) rfl (.c (i:=0) rfl (.c (i:=0) rfl .n)))<|zW (OW:=[boxA b2 44 [.bool false,.slice none 0 0,.bool false,.slice none 0 0]]) (O:=[boxA b5 44 [w33.b,w33.l,w44.b,w44.l],boxA b1 44 [u1.b,u1.l,v1.b,v1.l]]) 6 mixed (.then .ret) (by kernel_rfl)<|d_pv 0 rfl rfl (by kernel_rfl) (by kernel_rfl) rfl rfl (zh Tryz.underlying44 rfl sz42 rfl rfl)<|d_uw 1 rfl rfl (by kernel_rfl) (by kernel_rfl) (by kernel_rfl) rfl rfl (zf 1 ty42 rfl rfl (.take (.take .nil)))<|d_pv 3 rfl rfl (by kernel_rfl) (by kernel_rfl) rfl rfl (zh Tryz.underlying44 rfl sz42 rfl rfl)<|d_uw 4 rfl rfl (by kernel_rfl) (by kernel_rfl) (by kernel_rfl) rfl rfl (zf 1 ty42 rfl rfl (.skip (.skip (.take (.take .nil)))))<|zgc (qF_open 0 rfl) (fun _ _=> ?_)
 refine zt 2 (by kernel_rfl) (zo rfl rfl rfl rfl (.c rfl .n) ce88 (zNd (w1:=w33) (x1:=(q1).num) (hln:=by first|rfl|assumption|omega|(rw [Big.zba];omega)|(decide +kernel))) (.c (j:=0) rfl .n) ?_)
 rintro w36 -
 dsimp only [List.append_eq,List.nil_append,List.cons_append]
 refine d_pv 5 rfl rfl (by kernel_rfl) (by kernel_rfl) rfl rfl (zy zr44 rfl Tryz.underlying44 (.c sz42 (.c sz42 .n)) (.c rfl (.c rfl .n)) (.c rfl rfl rfl (.take (.take .nil)) (.c rfl rfl rfl (.skip (.skip (.take (.take .nil)))) .n)))<|zt 6 (by kernel_rfl) (zq (by kernel_rfl) rfl rfl rfl rfl rfl sz44 rfl (.take (.take (.take (.take .nil)))) ?_)
 refine zU (by kernel_rfl)<|zg<|zT<|zdb (qF true w36 w44 (- q1)) (qF_close 0 2 rfl rfl (by exact ⟨(Rat.neg_num q1).symm,by rw [Rat.neg_den],by rw [Big.hq_neg];exact hl⟩)) ?_
 exact zO Tryz.results62 (w36,w44) trivial (zv 0 ty44 rfl rfl (.take (.take (.take (.take .nil))))) rfl (ho:=(.n:PickO _ _ _)) ((.c (j:=0) rfl .n):SelR _ _ _)
theorem zaf {k1:Bool} {u1:Wd} {v1:Wd} {q1:Rat} {k2:Bool} {u2:Wd} {v2:Wd} {q2:Rat} (hl:Big.hq q1+Big.hq q2+1≤1048576):Con Tryz.prog 25 [.agg #[u1.b,u1.l,v1.b,v1.l],.agg #[u2.b,u2.l,v2.b,v2.l]] [] [qF k1 u1 v1 q1,qF k2 u2 v2 q2] (Y:=Wd×Wd) (fun y=>True) (fun y=> .agg #[y.1.b,y.1.l,y.2.b,y.2.l]) (fun y=>[]) (fun y=>[qF true y.1 y.2 (q1+q2)]):=by
 refine zA Tryz.func25 rfl rfl rfl (fun c=> ?_)
 show RunC _ _ _ _ _ [(0,.agg #[u1.b,u1.l,v1.b,v1.l]),(1,.agg #[u2.b,u2.l,v2.b,v2.l])] [] [qF k1 u1 v1 q1,qF k2 u2 v2 q2]
 have a1:=Big.hq_num q1
 have a2:=Big.hq_den q1
 have a3:=Big.hq_num q2
 have a4:=Big.hq_den q2
 have b1:=Big.zcb q1.num q2.den
 have b2:=Big.zcb q2.num q1.den
 have b3:=Big.zed (q1.num*q2.den) (q2.num*q1.den)
 have b4:=Big.zcb (q1.den:Int) q2.den
 have b5:=Big.zcb q1.num q2.num
 refine zj<|zc<|zL rfl rfl (zfa rfl rfl) (fun b1=> ?_)
 refine zL rfl rfl (zfa rfl rfl) (fun b2=> ?_)
 refine zL rfl rfl (zr zr44 rfl) (fun b3=> ?_)
 refine zm<|zg<|zj<|zc<|r_u rfl rfl (zf 2 ty44 rfl rfl (.take (.take (.take (.take .nil)))))<|zJ rfl rfl (.c rfl .n) ce57 (zBb (k1:=k1) (u1:=u1) (v1:=v1) (q1:=q1)) (.c (j:=0) rfl .n) ?_
 rintro ⟨w34,w45⟩ -
 dsimp only [List.append_eq,List.nil_append,List.cons_append]
 refine zL rfl rfl (zr zr44 rfl) (fun b6=> ?_)
 refine zn 0 rfl rfl rfl rfl rfl sz44 rfl (.take (.take (.take (.take .nil)))) .z<|zm<|zg<|zj<|zc<|r_u rfl rfl (zf 2 ty44 rfl rfl (.take (.take (.take (.take .nil)))))<|zJ rfl rfl (.c rfl .n) ce57 (zBb (k1:=k2) (u1:=u2) (v1:=v2) (q1:=q2)) (.c (j:=2) rfl .n) ?_
 rintro ⟨w37,w48⟩ -
 dsimp only [List.append_eq,List.nil_append,List.cons_append]
 refine zL rfl rfl (zr zr44 rfl) (fun b9=> ?_)
 refine zn 0 rfl rfl rfl rfl rfl sz44 rfl (.take (.take (.take (.take .nil)))) .z<|zm<|zg<|zj<|zea (.c (i:=2) rfl (.c (i:=0) rfl (.c (i:=0) rfl (.c (i:=0) rfl (.c (i:=0) rfl .n)))))<|zW (OW:=[boxA b3 44 [.bool false,.slice none 0 0,.bool false,.slice none 0 0]]) (O:=[boxA b9 44 [w37.b,w37.l,w48.b,w48.l],boxA b6 44 [w34.b,w34.l,w45.b,w45.l],boxA b2 44 [u2.b,u2.l,v2.b,v2.l],boxA b1 44 [u1.b,u1.l,v1.b,v1.l]]) 17 mixed (.then .ret) (by kernel_rfl)<|d_pv 0 rfl rfl (by kernel_rfl) (by kernel_rfl) rfl rfl (zh Tryz.underlying44 rfl sz42 rfl rfl)<|d_uw 1 rfl rfl (by kernel_rfl) (by kernel_rfl) (by kernel_rfl) rfl rfl (zf 2 ty42 rfl rfl (.take (.take .nil)))<|d_pv 2 rfl rfl (by kernel_rfl) (by kernel_rfl) rfl rfl (zh Tryz.underlying44 rfl sz42 rfl rfl)<|d_uw 3 rfl rfl (by kernel_rfl) (by kernel_rfl) (by kernel_rfl) rfl rfl (zf 1 ty42 rfl rfl (.skip (.skip (.take (.take .nil)))))<|d_pv 5 rfl rfl (by kernel_rfl) (by kernel_rfl) rfl rfl (zh Tryz.underlying44 rfl sz42 rfl rfl)<|d_uw 6 rfl rfl (by kernel_rfl) (by kernel_rfl) (by kernel_rfl) rfl rfl (zf 1 ty42 rfl rfl (.take (.take .nil)))<|d_pv 7 rfl rfl (by kernel_rfl) (by kernel_rfl) rfl rfl (zh Tryz.underlying44 rfl sz42 rfl rfl)<|d_uw 8 rfl rfl (by kernel_rfl) (by kernel_rfl) (by kernel_rfl) rfl rfl (zf 2 ty42 rfl rfl (.skip (.skip (.take (.take .nil)))))<|d_pv 11 rfl rfl (by kernel_rfl) (by kernel_rfl) rfl rfl (zh Tryz.underlying44 rfl sz42 rfl rfl)<|d_uw 12 rfl rfl (by kernel_rfl) (by kernel_rfl) (by kernel_rfl) rfl rfl (zf 2 ty42 rfl rfl (.skip (.skip (.take (.take .nil)))))<|d_pv 13 rfl rfl (by kernel_rfl) (by kernel_rfl) rfl rfl (zh Tryz.underlying44 rfl sz42 rfl rfl)<|d_uw 14 rfl rfl (by kernel_rfl) (by kernel_rfl) (by kernel_rfl) rfl rfl (zf 1 ty42 rfl rfl (.skip (.skip (.take (.take .nil)))))<|zgc (qF_open 1 rfl) (fun _ _=> ?_)
 refine zgc (qF_open 2 rfl) (fun _ _=> ?_)
 refine zt 4 (by kernel_rfl) (zo rfl rfl rfl rfl (.c rfl (.c rfl .n)) ce60 (zUc (w1:=w34) (w2:=w48) (x1:=(q1).num) (x2:=(((q2).den:Nat):Int)) (hb1:=by first|rfl|assumption|omega|(rw [Big.zba];omega)|(decide +kernel)) (hb2:=by first|rfl|assumption|omega|(rw [Big.zba];omega)|(decide +kernel))) (.c (j:=2) rfl (.c (j:=1) rfl .n)) ?_)
 rintro w310 -
 dsimp only [List.append_eq,List.nil_append,List.cons_append]
 refine zt 9 (by kernel_rfl) (zo rfl rfl rfl rfl (.c rfl (.c rfl .n)) ce60 (zUc (w1:=w37) (w2:=w45) (x1:=(q2).num) (x2:=(((q1).den:Nat):Int)) (hb1:=by first|rfl|assumption|omega|(rw [Big.zba];omega)|(decide +kernel)) (hb2:=by first|rfl|assumption|omega|(rw [Big.zba];omega)|(decide +kernel))) (.c (j:=1) rfl (.c (j:=4) rfl .n)) ?_)
 rintro w311 -
 dsimp only [List.append_eq,List.nil_append,List.cons_append]
 refine zt 10 (by kernel_rfl) (zo rfl rfl rfl rfl (.c rfl (.c rfl .n)) ce59 (zWe (w1:=w310) (w2:=w311) (x1:=((q1).num)*(((q2).den:Nat):Int)) (x2:=((q2).num)*(((q1).den:Nat):Int)) (hb1:=by first|rfl|assumption|omega|(rw [Big.zba];omega)|(decide +kernel)) (hb2:=by first|rfl|assumption|omega|(rw [Big.zba];omega)|(decide +kernel))) (.c (j:=1) rfl (.c (j:=0) rfl .n)) ?_)
 rintro w312 -
 dsimp only [List.append_eq,List.nil_append,List.cons_append]
 refine zt 15 (by kernel_rfl) (zo rfl rfl rfl rfl (.c rfl (.c rfl .n)) ce60 (zUc (w1:=w45) (w2:=w48) (x1:=(((q1).den:Nat):Int)) (x2:=(((q2).den:Nat):Int)) (hb1:=by first|rfl|assumption|omega|(rw [Big.zba];omega)|(decide +kernel)) (hb2:=by first|rfl|assumption|omega|(rw [Big.zba];omega)|(decide +kernel))) (.c (j:=6) rfl (.c (j:=4) rfl .n)) ?_)
 rintro w313 -
 dsimp only [List.append_eq,List.nil_append,List.cons_append]
 refine zt 16 (by kernel_rfl) (zo rfl rfl rfl rfl (.c rfl (.c rfl .n)) ce58 (zGc (w1:=w312) (w2:=w313) (x1:=(((q1).num)*(((q2).den:Nat):Int))+(((q2).num)*(((q1).den:Nat):Int))) (x2:=(((q1).den:Nat):Int)*(((q2).den:Nat):Int)) (hl1:=by first|rfl|assumption|omega|(rw [Big.zba];omega)|(decide +kernel)) (hl2:=by first|rfl|assumption|omega|(rw [Big.zba];omega)|(decide +kernel)) (hd:=by exact Int.mul_ne_zero (Big.den_ne q1) (Big.den_ne q2))) (.c (j:=1) rfl (.c (j:=0) rfl .n)) ?_)
 rintro ⟨w314,w415⟩ -
 dsimp only [List.append_eq,List.nil_append,List.cons_append]
 refine zt 17 (by kernel_rfl) (zq (by kernel_rfl) rfl rfl rfl rfl rfl sz44 rfl (.take (.take (.take (.take .nil)))) ?_)
 refine zU (by kernel_rfl)<|zg<|zT ?_
 exact zO Tryz.results25 (w314,w415) trivial (zv 0 ty44 rfl rfl (.take (.take (.take (.take .nil))))) rfl (ho:=(.n:PickO _ _ _)) ((.e (j:=0) rfl (by rw [Big.add_parts]) .n):SelR _ _ _)
theorem zbf {k1:Bool} {u1:Wd} {v1:Wd} {q1:Rat} {k2:Bool} {u2:Wd} {v2:Wd} {q2:Rat} (hl:Big.hq q1+Big.hq q2+1≤1048576):Con Tryz.prog 28 [.agg #[u1.b,u1.l,v1.b,v1.l],.agg #[u2.b,u2.l,v2.b,v2.l]] [] [qF k1 u1 v1 q1,qF k2 u2 v2 q2] (Y:=Wd×Wd) (fun y=>True) (fun y=> .agg #[y.1.b,y.1.l,y.2.b,y.2.l]) (fun y=>[]) (fun y=>[qF true y.1 y.2 (q1 - q2)]):=by
 refine zA Tryz.func28 rfl rfl rfl (fun c=> ?_)
 show RunC _ _ _ _ _ [(0,.agg #[u1.b,u1.l,v1.b,v1.l]),(1,.agg #[u2.b,u2.l,v2.b,v2.l])] [] [qF k1 u1 v1 q1,qF k2 u2 v2 q2]
 have a1:=Big.hq_num q1
 have a2:=Big.hq_den q1
 have a3:=Big.hq_num q2
 have a4:=Big.hq_den q2
 refine zj<|zc<|zL rfl rfl (zfa rfl rfl) (fun b1=> ?_)
 refine zL rfl rfl (zfa rfl rfl) (fun b2=> ?_)
 refine zL rfl rfl (zr zr44 rfl) (fun b3=> ?_)
 refine zm<|zg<|zj<|zW (OW:=[boxA b3 44 [.bool false,.slice none 0 0,.bool false,.slice none 0 0]]) (O:=[boxA b2 44 [u2.b,u2.l,v2.b,v2.l],boxA b1 44 [u1.b,u1.l,v1.b,v1.l]]) 4 mixed (.then .ret) (by kernel_rfl)<|d_uw 0 rfl rfl (by kernel_rfl) (by kernel_rfl) (by kernel_rfl) rfl rfl (zf 2 ty44 rfl rfl (.take (.take (.take (.take .nil)))))<|d_uw 1 rfl rfl (by kernel_rfl) (by kernel_rfl) (by kernel_rfl) rfl rfl (zf 1 ty44 rfl rfl (.take (.take (.take (.take .nil)))))<|zt 2 (by kernel_rfl) (zo rfl rfl rfl rfl (.c rfl .n) ce62 (zZe (k1:=k2) (u1:=u2) (v1:=v2) (q1:=q2) (hl:=by first|rfl|assumption|omega|(rw [Big.zba];omega)|(decide +kernel)|(rw [Big.hq_neg];omega))) (.c (j:=1) rfl .n) ?_)
 rintro ⟨w34,w45⟩ -
 dsimp only [List.append_eq,List.nil_append,List.cons_append]
 refine zt 3 (by kernel_rfl) (zo rfl rfl rfl rfl (.c rfl (.c rfl .n)) ce25 (zaf (k1:=k1) (u1:=u1) (v1:=v1) (q1:=q1) (k2:=true) (u2:=w34) (v2:=w45) (q2:= - q2) (hl:=by first|rfl|assumption|omega|(rw [Big.zba];omega)|(decide +kernel)|(rw [Big.hq_neg];omega))) (.c (j:=1) rfl (.c (j:=0) rfl .n)) ?_)
 rintro ⟨w36,w47⟩ -
 dsimp only [List.append_eq,List.nil_append,List.cons_append]
 refine zt 4 (by kernel_rfl) (zq (by kernel_rfl) rfl rfl rfl rfl rfl sz44 rfl (.take (.take (.take (.take .nil)))) ?_)
 refine zU (by kernel_rfl)<|zg<|zT ?_
 exact zO Tryz.results28 (w36,w47) trivial (zv 0 ty44 rfl rfl (.take (.take (.take (.take .nil))))) rfl (ho:=(.n:PickO _ _ _)) ((.e (j:=0) rfl (by rw [Rat.sub_eq_add_neg]) .n):SelR _ _ _)
theorem zyd {k1:Bool} {u1:Wd} {v1:Wd} {q1:Rat} {k2:Bool} {u2:Wd} {v2:Wd} {q2:Rat} (hl:Big.hq q1+Big.hq q2+1≤1048576):Con Tryz.prog 38 [.agg #[u1.b,u1.l,v1.b,v1.l],.agg #[u2.b,u2.l,v2.b,v2.l]] [] [qF k1 u1 v1 q1,qF k2 u2 v2 q2] (Y:=Unit) (fun y=>True) (fun y=> .int .i64 (Big.sgq (q1 - q2))) (fun y=>[]) (fun y=>[]):=by
 refine zA Tryz.func38 rfl rfl rfl (fun c=> ?_)
 show RunC _ _ _ _ _ [(0,.agg #[u1.b,u1.l,v1.b,v1.l]),(1,.agg #[u2.b,u2.l,v2.b,v2.l])] [] [qF k1 u1 v1 q1,qF k2 u2 v2 q2]
 have hsb:=Big.hq_sub q1 q2
 refine zj<|zc<|zL rfl rfl (zfa rfl rfl) (fun b1=> ?_)
 refine zL rfl rfl (zfa rfl rfl) (fun b2=> ?_)
 refine r_pv rfl rfl (zi rfl)<|zm<|zg<|zj<|zc<|r_u rfl rfl (zf 1 ty44 rfl rfl (.take (.take (.take (.take .nil)))))<|r_u rfl rfl (zf 0 ty44 rfl rfl (.take (.take (.take (.take .nil)))))<|zJ rfl rfl (.c rfl (.c rfl .n)) ce28 (zbf (k1:=k1) (u1:=u1) (v1:=v1) (q1:=q1) (k2:=k2) (u2:=u2) (v2:=v2) (q2:=q2) (hl:=by assumption)) (.c (j:=0) rfl (.c (j:=1) rfl .n)) ?_
 rintro ⟨w33,w44⟩ -
 dsimp only [List.append_eq,List.nil_append,List.cons_append]
 refine zY rfl rfl (.c rfl .n) ce53 (zye (k1:=true) (u1:=w33) (v1:=w44) (q1:=q1 - q2) (hl:=by first|rfl|assumption|omega|(rw [Big.zba];omega)|(decide +kernel))) (.c (j:=0) rfl .n)<|r_pv rfl rfl (zi rfl)<|zm<|zg<|zT ?_
 exact zO Tryz.results38 () trivial (zH rfl) rfl (ho:=(.n:PickO _ _ _)) (.n:SelR _ _ _)
theorem zmd {u1:Wd} {v1:Wd} {q1:Rat} {u2:Wd} {v2:Wd} {q2:Rat} (hl:Big.hq q1+Big.hq q2+1≤1048576):Con Tryz.prog 27 [.agg #[u1.b,u1.l,v1.b,v1.l],.agg #[u2.b,u2.l,v2.b,v2.l]] [] [qF true u1 v1 q1,qF true u2 v2 q2] (Y:=Unit) (fun y=>True) (fun y=> .bool (decide (q1=q2))) (fun y=>[]) (fun y=>[]):=by
 refine zA Tryz.func27 rfl rfl rfl (fun c=> ?_)
 show RunC _ _ _ _ _ [(0,.agg #[u1.b,u1.l,v1.b,v1.l]),(1,.agg #[u2.b,u2.l,v2.b,v2.l])] [] [qF true u1 v1 q1,qF true u2 v2 q2]
 refine zj<|zc<|zL rfl rfl (zfa rfl rfl) (fun b1=> ?_)
 refine zL rfl rfl (zfa rfl rfl) (fun b2=> ?_)
 refine r_pv rfl rfl (zi rfl)<|zm<|zg<|zIa (X:=Unit) (fun x=>True) (fun x=>[(4,.bool (decide (Big.sgq (q1 - q2)=0)))]) (fun x=>[boxA b2 44 (cw [u2,v2]),boxA b1 44 (cw [u1,v1])]) (fun x=>[qF true u1 v1 q1,qF true u2 v2 q2]) ?_ ?_
 ·
  refine zc<|r_u rfl rfl (zf 1 ty44 rfl rfl (.take (.take (.take (.take .nil)))))<|zY rfl rfl (.c rfl .n) ce31 (zFc (u1:=u1) (v1:=v1) (q1:=q1)) (.c (j:=0) rfl .n)<|r_pv rfl rfl (zd rfl)<|r_u rfl rfl (zf 0 ty44 rfl rfl (.take (.take (.take (.take .nil)))))<|zY rfl rfl (.c rfl .n) ce31 (zFc (u1:=u2) (v1:=v2) (q1:=q2)) (.c (j:=1) rfl .n)<|r_pv rfl rfl (zS rfl rfl)<|r_pv rfl rfl (zd rfl)<|r_u rfl rfl (zf 1 ty44 rfl rfl (.take (.take (.take (.take .nil)))))<|r_u rfl rfl (zf 0 ty44 rfl rfl (.take (.take (.take (.take .nil)))))<|zY rfl rfl (.c rfl (.c rfl .n)) ce38 (zyd (k1:=true) (u1:=u1) (v1:=v1) (q1:=q1) (k2:=true) (u2:=u2) (v2:=v2) (q2:=q2) (hl:=by assumption)) (.c (j:=0) rfl (.c (j:=1) rfl .n))<|r_pv rfl rfl (zNa rfl rfl)<|r_pv rfl rfl (zS rfl rfl)<|r_pv rfl rfl (zi rfl)<|zm ?_
  exact zna () (show True from by first|trivial|omega|simp_all) ((.c rfl .n):SubM _ _) (ho:=((.of [0,0] rfl):PickO _ _ _)) ((.of [0,1] rfl):SelR _ _ _)
 ·
  rintro ⟨⟩ -
  try dsimp only [cw]
  refine zT ?_
  exact zO Tryz.results27 () trivial (zH rfl) (congrArg Value.bool (decide_eq_decide.2 Big.sgq_sub_zero.symm)) (ho:=(.n:PickO _ _ _)) (.n:SelR _ _ _)
end Go.Proofs.YtjeahiahjgifgaaGreatDoor.Sp
namespace Go.Proofs.YtjeahiahjgifgaaGreatDoor.Sp
open Go
set_option linter.unusedVariables false
def Wd.zz (u v:Wd):Prop:=u.s=false∧v.s=false∧u.n=0∧v.n=0
instance (u v:Wd):Decidable (Wd.zz u v):=inferInstanceAs (Decidable (_∧_))
def qo (y:Big.RQ):Option Rat:=if Big.qok y then some (Big.qv y) else none
section
variable {P : Program} {O : List As} {R : List Fa} {f : Nat} {u v : Wd}
end
end Go.Proofs.YtjeahiahjgifgaaGreatDoor.Sp
namespace Go.Proofs.YtjeahiahjgifgaaGreatDoor.Sp
open Go
set_option linter.unusedVariables false
set_option maxRecDepth 100000
set_option maxHeartbeats 8000000
theorem zRb {cm:Sh.C} {h:Int} (h64fo: -9223372036854775808≤cm.fo∧cm.fo≤9223372036854775807) (h64cx: -9223372036854775808≤cm.cx∧cm.cx≤9223372036854775807) (h64cy: -9223372036854775808≤cm.cy∧cm.cy≤9223372036854775807) (h64h: -9223372036854775808≤h∧h≤9223372036854775807):Con Tryz.prog 45 [.agg #[.int .i64 (cm.fo),.int .i64 (cm.cx),.int .i64 (cm.cy)],.int .i64 h] [] [] (Y:=Unit) (fun y=>True) (fun y=> .bool (decide (Sh.cam cm∧Sh.inb h))) (fun y=>[]) (fun y=>[]):=by
 refine zA Tryz.func45 rfl rfl rfl (fun c=> ?_)
 show RunC _ _ _ _ _ [(0,.agg #[.int .i64 (cm.fo),.int .i64 (cm.cx),.int .i64 (cm.cy)]),(1,.int .i64 h)] [] []
 refine zj<|zc<|zL rfl rfl (zfa rfl rfl) (fun b1=> ?_)
 refine r_pv rfl rfl (zi rfl)<|zm<|zg<|zIa (X:=Unit) (fun x=>True) (fun x=>[(4,.bool (decide (((1≤cm.fo)∧(cm.fo≤1048576))∧(Sh.wi 1048576 ([cm.cx,cm.cy,h])))))]) (fun x=>[boxA b1 37 [.int .i64 (cm.fo),.int .i64 (cm.cx),.int .i64 (cm.cy)]]) (fun x=>[]) ?_ ?_
 ·
  refine zc<|r_pv rfl rfl (zh Tryz.underlying37 rfl sz3 rfl rfl)<|r_u rfl rfl (ze 0 ty3 rfl rfl rfl)<|r_pv rfl rfl (zub rfl rfl)<|zoa rfl rfl (zd rfl) (fun h2=> ?_) (fun h2=> ?_)
  ·
   refine r_pv rfl rfl (zh Tryz.underlying37 rfl sz3 rfl rfl)<|r_u rfl rfl (ze 0 ty3 rfl rfl rfl)<|r_pv rfl rfl (zyc rfl rfl)<|r_pv rfl rfl (zS rfl rfl)<|zoa rfl rfl (zd rfl) (fun h3=> ?_) (fun h3=> ?_)
   ·
    refine r_pv rfl rfl (zh Tryz.underlying37 rfl sz35 rfl rfl)<|r_pv rfl rfl (zh Tryz.underlying35 rfl sz3 rfl rfl)<|r_u rfl rfl (ze 0 ty3 rfl rfl rfl)<|r_pv rfl rfl (zh Tryz.underlying37 rfl sz35 rfl rfl)<|r_pv rfl rfl (zh Tryz.underlying35 rfl sz3 rfl rfl)<|r_u rfl rfl (ze 0 ty3 rfl rfl rfl)<|r_pv rfl rfl (zd rfl)<|zJa rfl rfl (zQ (enc:=fun z:Int=>[.int .i64 z]) (ok:=InK .i64) (h1:=fun _=>rfl) (h2:=fun _=>rfl) (k:=3) Tryz.underlying51 inf3 rfl (by decide) (by decide) (by decide) (.c (x:=cm.cx) rfl rfl (fun _ _=>by exact zu.2 (by omega)) (.c (x:=cm.cy) rfl rfl (fun _ _=>by exact zu.2 (by omega)) (.c (x:=h) rfl rfl (fun _ _=>by exact zu.2 (by omega)) .n)))) (fun b4 _=> ?_)
    refine zla 0 rfl .z<|zY rfl rfl (.c rfl (.c rfl .n)) ce42 (zrb (p:=some ⟨b4,0,none⟩) (n:=3) (cap:=3) (l:=[cm.cx,cm.cy,h]) (m:=1048576) (hn:=by first|rfl|assumption|decide|omega) (hm:=by first|rfl|assumption|decide|omega)) (.c (j:=0) rfl .n)<|r_pv rfl rfl (zS rfl rfl)<|r_pv rfl rfl (zi rfl)<|zm ?_
    exact zna () (show True from by first|trivial|omega|simp_all) ((.e rfl (congrArg Value.bool (by first|(simp_all;done)|(simp_all;omega)|(simp;omega)|omega)) .n):SubM _ _) (ho:=((.c (i:=1) rfl .n):PickO _ _ _)) (.n:SelR _ _ _)
   ·
    refine zl rfl rfl<|zl rfl rfl<|zl rfl rfl<|zl rfl rfl<|zl rfl rfl<|zl rfl rfl<|zl rfl rfl<|zl rfl rfl<|zl rfl rfl<|r_pv rfl rfl (zS rfl rfl)<|r_pv rfl rfl (zi rfl)<|zm ?_
    exact zna () (show True from by first|trivial|omega|simp_all) ((.e rfl (congrArg Value.bool (by first|(simp_all;done)|(simp_all;omega)|(simp;omega)|omega)) .n):SubM _ _) (ho:=((.c (i:=0) rfl .n):PickO _ _ _)) (.n:SelR _ _ _)
  ·
   refine zl rfl rfl<|zl rfl rfl<|zl rfl rfl<|r_pv rfl rfl (zS rfl rfl)<|r_pv rfl rfl (zd rfl)<|zl rfl rfl<|zl rfl rfl<|zl rfl rfl<|zl rfl rfl<|zl rfl rfl<|zl rfl rfl<|zl rfl rfl<|zl rfl rfl<|zl rfl rfl<|r_pv rfl rfl (zS rfl rfl)<|r_pv rfl rfl (zi rfl)<|zm ?_
   exact zna () (show True from by first|trivial|omega|simp_all) ((.e rfl (congrArg Value.bool (by first|(simp_all;done)|(simp_all;omega)|(simp;omega)|omega)) .n):SubM _ _) (ho:=((.c (i:=0) rfl .n):PickO _ _ _)) (.n:SelR _ _ _)
 ·
  rintro ⟨⟩ -
  try dsimp only
  refine zT ?_
  exact zO Tryz.results45 () trivial (zH rfl) (congrArg Value.bool (decide_eq_decide.2 (by unfold Sh.cam Sh.inb;rw [Sh.wi_3];constructor <;> intro k <;> omega))) (ho:=(.n:PickO _ _ _)) (.n:SelR _ _ _)
theorem zac {u:Int} {v:Int} (h64u: -9223372036854775808≤u∧u≤9223372036854775807) (h64v: -9223372036854775808≤v∧v≤9223372036854775807):Con Tryz.prog 46 [.agg #[.int .i64 u,.int .i64 v]] [] [] (Y:=Unit) (fun y=>True) (fun y=> .bool (decide (Sh.inb u∧Sh.inb v∧Sh.inr (Sh.ro v)))) (fun y=>[]) (fun y=>[]):=by
 refine zA Tryz.func46 rfl rfl rfl (fun c=> ?_)
 show RunC _ _ _ _ _ [(0,.agg #[.int .i64 u,.int .i64 v])] [] []
 refine zj<|zc<|zL rfl rfl (zfa rfl rfl) (fun b1=> ?_)
 refine r_pv rfl rfl (zi rfl)<|zm<|zg<|zIa (X:=Unit) (fun x=>True) (fun x=>[(2,.bool (decide ((Sh.wi 1048576 ([u,v]))∧(0≤(Sh.ro v)∧(Sh.ro v)<64))))]) (fun x=>[boxA b1 35 [.int .i64 u,.int .i64 v]]) (fun x=>[]) ?_ ?_
 ·
  refine zc<|r_pv rfl rfl (zh Tryz.underlying35 rfl sz3 rfl rfl)<|r_u rfl rfl (ze 0 ty3 rfl rfl rfl)<|r_pv rfl rfl (zh Tryz.underlying35 rfl sz3 rfl rfl)<|r_u rfl rfl (ze 0 ty3 rfl rfl rfl)<|zJa rfl rfl (zQ (enc:=fun z:Int=>[.int .i64 z]) (ok:=InK .i64) (h1:=fun _=>rfl) (h2:=fun _=>rfl) (k:=2) Tryz.underlying51 inf3 rfl (by decide) (by decide) (by decide) (.c (x:=u) rfl rfl (fun _ _=>by exact zu.2 (by omega)) (.c (x:=v) rfl rfl (fun _ _=>by exact zu.2 (by omega)) .n))) (fun b2 _=> ?_)
  refine zla 0 rfl .z<|zY rfl rfl (.c rfl (.c rfl .n)) ce42 (zrb (p:=some ⟨b2,0,none⟩) (n:=2) (cap:=2) (l:=[u,v]) (m:=1048576) (hn:=by first|rfl|assumption|decide|omega) (hm:=by first|rfl|assumption|decide|omega)) (.c (j:=0) rfl .n)<|zoa rfl rfl (zd rfl) (fun h3=> ?_) (fun h3=> ?_)
  ·
   refine r_u rfl rfl (zf 1 ty35 rfl rfl (.take (.take .nil)))<|zY rfl rfl (.c rfl .n) ce74 (zHd (u:=u) (v:=v)) (.n)<|zY rfl rfl (.c rfl .n) ce44 (zfd (r:=(Sh.ro v))) (.n)<|r_pv rfl rfl (zS rfl rfl)<|r_pv rfl rfl (zi rfl)<|zm ?_
   exact zna () (show True from by first|trivial|omega|simp_all) ((.e rfl (congrArg Value.bool (by first|(simp_all;done)|(simp_all;omega)|(simp;omega)|omega)) .n):SubM _ _) (ho:=((.c (i:=1) rfl .n):PickO _ _ _)) (.n:SelR _ _ _)
  ·
   refine zl rfl rfl<|zl rfl rfl<|zl rfl rfl<|r_pv rfl rfl (zS rfl rfl)<|r_pv rfl rfl (zi rfl)<|zm ?_
   exact zna () (show True from by first|trivial|omega|simp_all) ((.e rfl (congrArg Value.bool (by first|(simp_all;done)|(simp_all;omega)|(simp;omega)|omega)) .n):SubM _ _) (ho:=((.c (i:=1) rfl .n):PickO _ _ _)) (.n:SelR _ _ _)
 ·
  rintro ⟨⟩ -
  try dsimp only
  refine zT ?_
  exact zO Tryz.results46 () trivial (zH rfl) (congrArg Value.bool (decide_eq_decide.2 (by unfold Sh.inb Sh.inr;rw [Sh.wi_2];constructor <;> intro k <;> omega))) (ho:=(.n:PickO _ _ _)) (.n:SelR _ _ _)
end Go.Proofs.YtjeahiahjgifgaaGreatDoor.Sp
namespace Go.Proofs.YtjeahiahjgifgaaGreatDoor.Sp
open Go
set_option linter.unusedVariables false
set_option maxRecDepth 100000
set_option maxHeartbeats 8000000
theorem znd {s:Sh.S} {cm:Sh.C} {u:Int} {v:Int} {h:Int} (hfi: -9223372036854775808≤s.fi∧s.fi≤9223372036854775807) (hst: -9223372036854775808≤s.st∧s.st≤9223372036854775807) (hta: -9223372036854775808≤s.ta∧s.ta≤9223372036854775807) (htb: -9223372036854775808≤s.tb∧s.tb≤9223372036854775807) (hxa: -9223372036854775808≤s.xa∧s.xa≤9223372036854775807) (hya: -9223372036854775808≤s.ya∧s.ya≤9223372036854775807) (hza: -9223372036854775808≤s.za∧s.za≤9223372036854775807) (hqa: -9223372036854775808≤s.qa∧s.qa≤9223372036854775807) (hqb: -9223372036854775808≤s.qb∧s.qb≤9223372036854775807) (hqc: -9223372036854775808≤s.qc∧s.qc≤9223372036854775807) (hqd: -9223372036854775808≤s.qd∧s.qd≤9223372036854775807) (hxb: -9223372036854775808≤s.xb∧s.xb≤9223372036854775807) (hyb: -9223372036854775808≤s.yb∧s.yb≤9223372036854775807) (hzb: -9223372036854775808≤s.zb∧s.zb≤9223372036854775807) (hra: -9223372036854775808≤s.ra∧s.ra≤9223372036854775807) (hrb: -9223372036854775808≤s.rb∧s.rb≤9223372036854775807) (hrc: -9223372036854775808≤s.rc∧s.rc≤9223372036854775807) (hrd: -9223372036854775808≤s.rd∧s.rd≤9223372036854775807) (h64fo: -9223372036854775808≤cm.fo∧cm.fo≤9223372036854775807) (h64cx: -9223372036854775808≤cm.cx∧cm.cx≤9223372036854775807) (h64cy: -9223372036854775808≤cm.cy∧cm.cy≤9223372036854775807) (h64u: -9223372036854775808≤u∧u≤9223372036854775807) (h64v: -9223372036854775808≤v∧v≤9223372036854775807) (h64h: -9223372036854775808≤h∧h≤9223372036854775807):Con Tryz.prog 24 [.agg #[.int .i64 (s.fi),.int .i64 (s.st),.int .i64 (s.ta),.int .i64 (s.xa),.int .i64 (s.ya),.int .i64 (s.za),.int .i64 (s.qa),.int .i64 (s.qb),.int .i64 (s.qc),.int .i64 (s.qd),.int .i64 (s.tb),.int .i64 (s.xb),.int .i64 (s.yb),.int .i64 (s.zb),.int .i64 (s.ra),.int .i64 (s.rb),.int .i64 (s.rc),.int .i64 (s.rd)],.agg #[.int .i64 (cm.fo),.int .i64 (cm.cx),.int .i64 (cm.cy)],.agg #[.int .i64 u,.int .i64 v],.int .i64 h] [] [sgF] (Y:=Wd×Wd×Wd×Wd) (fun y=>Sh.Gc s cm u v h≠0→y.1=wz∧y.2.1=wz∧y.2.2.1=wz∧y.2.2.2=wz) (fun y=> .tuple #[.agg #[y.1.b,y.1.l,y.2.1.b,y.2.1.l,y.2.2.1.b,y.2.2.1.l,y.2.2.2.b,y.2.2.2.l],.int .i64 (Sh.Gc s cm u v h)]) (fun y=>[]) (fun y=>[qF (decide (Sh.Gc s cm u v h=0)) y.1 y.2.1 (Sh.Gx s cm u v h),qF (decide (Sh.Gc s cm u v h=0)) y.2.2.1 y.2.2.2 (Sh.Gy s cm u v h)]):=by
 refine zA Tryz.func24 rfl rfl rfl (fun c=> ?_)
 show RunC _ _ _ _ _ [(0,.agg #[.int .i64 (s.fi),.int .i64 (s.st),.int .i64 (s.ta),.int .i64 (s.xa),.int .i64 (s.ya),.int .i64 (s.za),.int .i64 (s.qa),.int .i64 (s.qb),.int .i64 (s.qc),.int .i64 (s.qd),.int .i64 (s.tb),.int .i64 (s.xb),.int .i64 (s.yb),.int .i64 (s.zb),.int .i64 (s.ra),.int .i64 (s.rb),.int .i64 (s.rc),.int .i64 (s.rd)]),(1,.agg #[.int .i64 (cm.fo),.int .i64 (cm.cx),.int .i64 (cm.cy)]),(2,.agg #[.int .i64 u,.int .i64 v]),(3,.int .i64 h)] [] [sgF]
 refine zj<|zc<|zL rfl rfl (zfa rfl rfl) (fun b1=> ?_)
 refine zL rfl rfl (zfa rfl rfl) (fun b2=> ?_)
 refine zL rfl rfl (zfa rfl rfl) (fun b3=> ?_)
 refine zL rfl rfl (zr zr46 rfl) (fun b4=> ?_)
 refine r_pv rfl rfl (zi rfl)<|zm<|zg<|zj<|zj<|zc<|r_u rfl rfl (zf 3 ty29 rfl rfl (.take (.take (.take (.take (.take (.take (.take (.take (.take (.take (.take (.take (.take (.take (.take (.take (.take (.take .nil)))))))))))))))))))<|zY rfl rfl (.c rfl (.c rfl .n)) ce12 (zjc (s:=s) (n:=1) (hfi:=by assumption) (hst:=by assumption) (hta:=by assumption) (htb:=by assumption) (hxa:=by assumption) (hya:=by assumption) (hza:=by assumption) (hqa:=by assumption) (hqb:=by assumption) (hqc:=by assumption) (hqd:=by assumption) (hxb:=by assumption) (hyb:=by assumption) (hzb:=by assumption) (hra:=by assumption) (hrb:=by assumption) (hrc:=by assumption) (hrd:=by assumption)) (.n)<|r_pv rfl rfl (zi rfl)<|zm<|zg<|zj<|zc<|r_pv rfl rfl (zd rfl)<|r_pv rfl rfl (zCb rfl rfl)<|zm<|zg<|zV rfl (fun hc=> ?_) (fun hc=> ?_)
 ·
  refine zj<|zc<|r_pv rfl rfl (zy zr46 rfl Tryz.underlying46 (.c sz44 (.c sz44 .n)) .n .n)<|r_pv rfl rfl (zd rfl)<|zn 0 rfl rfl rfl rfl rfl sz46 rfl (.take (.take (.take (.take (.take (.take (.take (.take .nil)))))))) .z<|r_pv rfl rfl (zi rfl)<|zm<|zg<|zT<|zw<|zdb (qF false wz wz 0) (fun g _=>qF_none g) ?_
  have hg9:Sh.Gc s cm u v h=Sh.chk s 1:=if_neg hc
  have hg8:¬Sh.Gc s cm u v h=0:=by rw [hg9];exact hc
  have hx9:Sh.Gx s cm u v h=0:=if_neg hg8
  have hy9:Sh.Gy s cm u v h=0:=if_neg hg8
  exact zEa Tryz.results24 (wz,wz,wz,wz) (fun _=>⟨rfl,rfl,rfl,rfl⟩) (zv 0 ty46 rfl rfl (.take (.take (.take (.take (.take (.take (.take (.take .nil))))))))) (zH rfl) (by rw [hg9];rfl) (ho:=(.n:PickO _ _ _)) ((.e (j:=0) rfl (by rw [hx9,decide_eq_false hg8]) (.e (j:=0) rfl (by rw [hy9,decide_eq_false hg8]) .n)):SelR _ _ _)
 ·
  have hc0:Sh.chk s 1=0:=Decidable.not_not.1 hc
  obtain ⟨hok,-,hlt,hnd⟩:=Sh.chk_ok hc0
  refine zD<|zg<|zj<|zIa (X:=Unit) (fun x=>True) (fun x=>[(25,.bool (decide ((¬(Sh.cam cm∧Sh.inb h))∨(¬(Sh.inb u∧Sh.inb v∧Sh.inr (Sh.ro v)))))),(9,.int .i64 0),(8,.pointer (some ⟨b4,0,none⟩)),(6,.pointer (some ⟨b3,0,none⟩)),(5,.pointer (some ⟨b2,0,none⟩)),(4,.pointer (some ⟨b1,0,none⟩)),(3,.int .i64 h)]) (fun x=>[boxA b4 46 (cw [wz,wz,wz,wz]),boxA b3 35 [.int .i64 u,.int .i64 v],boxA b2 37 [.int .i64 (cm.fo),.int .i64 (cm.cx),.int .i64 (cm.cy)],boxA b1 29 (cS s)]) (fun x=>[sgF]) ?_ ?_
  ·
   refine zc<|r_u rfl rfl (zf 2 ty37 rfl rfl (.take (.take (.take .nil))))<|r_pv rfl rfl (zd rfl)<|zY rfl rfl (.c rfl (.c rfl .n)) ce45 (zRb (cm:=cm) (h:=h) (h64fo:=by assumption) (h64cx:=by assumption) (h64cy:=by assumption) (h64h:=by assumption)) (.n)<|r_pv rfl rfl (zMa rfl)<|zoa rfl rfl (zd rfl) (fun h5=> ?_) (fun h5=> ?_)
   ·
    refine zl rfl rfl<|zl rfl rfl<|zl rfl rfl<|r_pv rfl rfl (zS rfl rfl)<|zm ?_
    exact zna () (show True from by first|trivial|omega|simp_all) ((.e rfl (congrArg Value.bool (by first|(simp_all;done)|(simp_all;omega)|(simp;omega)|omega)) (.of rfl)):SubM _ _) (ho:=((.of [0,0,0,0] rfl):PickO _ _ _)) ((.c (j:=0) rfl .n):SelR _ _ _)
   ·
    refine r_u rfl rfl (zf 1 ty35 rfl rfl (.take (.take .nil)))<|zY rfl rfl (.c rfl .n) ce46 (zac (u:=u) (v:=v) (h64u:=by assumption) (h64v:=by assumption)) (.n)<|r_pv rfl rfl (zMa rfl)<|r_pv rfl rfl (zS rfl rfl)<|zm ?_
    exact zna () (show True from by first|trivial|omega|simp_all) ((.e rfl (congrArg Value.bool (by first|(simp_all;done)|(simp_all;omega)|(simp;omega)|omega)) (.of rfl)):SubM _ _) (ho:=((.of [0,0,0,0] rfl):PickO _ _ _)) ((.c (j:=0) rfl .n):SelR _ _ _)
  ·
   rintro ⟨⟩ -
   try dsimp only [cw]
   refine zV rfl (fun hcp=> ?_) (fun hcp=> ?_)
   ·
    have hcp2:¬Sh.cp cm u v h:=fun k=>hcp.elim (fun e=>e ⟨k.1,k.2.2.2.1⟩) (fun e=>e ⟨k.2.1,k.2.2.1,k.2.2.2.2⟩)
    refine zj<|zc<|r_pv rfl rfl (zy zr46 rfl Tryz.underlying46 (.c sz44 (.c sz44 .n)) .n .n)<|zn 0 rfl rfl rfl rfl rfl sz46 rfl (.take (.take (.take (.take (.take (.take (.take (.take .nil)))))))) .z<|r_pv rfl rfl (zi rfl)<|zm<|zg<|zT<|zw<|zdb (qF false wz wz 0) (fun g _=>qF_none g) ?_
    have hg9:Sh.Gc s cm u v h=2:=(if_pos hc0).trans (if_neg hcp2)
    have hg8:¬Sh.Gc s cm u v h=0:=by rw [hg9];decide
    have hx9:Sh.Gx s cm u v h=0:=if_neg hg8
    have hy9:Sh.Gy s cm u v h=0:=if_neg hg8
    exact zEa Tryz.results24 (wz,wz,wz,wz) (fun _=>⟨rfl,rfl,rfl,rfl⟩) (zv 0 ty46 rfl rfl (.take (.take (.take (.take (.take (.take (.take (.take .nil))))))))) (zH rfl) (by rw [hg9];rfl) (ho:=(.n:PickO _ _ _)) ((.e (j:=0) rfl (by rw [hx9,decide_eq_false hg8]) (.e (j:=0) rfl (by rw [hy9,decide_eq_false hg8]) .n)):SelR _ _ _)
   ·
    have hca:=Decidable.not_not.1 (fun e=>hcp (Or.inl e))
    have hcb:=Decidable.not_not.1 (fun e=>hcp (Or.inr e))
    have hcp2:Sh.cp cm u v h:=⟨hca.1,hcb.1,hcb.2.1,hca.2,hcb.2.2⟩
    refine zD<|zg<|zj<|zc<|r_u rfl rfl (zf 3 ty29 rfl rfl (.take (.take (.take (.take (.take (.take (.take (.take (.take (.take (.take (.take (.take (.take (.take (.take (.take (.take .nil)))))))))))))))))))<|r_u rfl rfl (zf 2 ty37 rfl rfl (.take (.take (.take .nil))))<|r_u rfl rfl (zf 1 ty35 rfl rfl (.take (.take .nil)))<|r_pv rfl rfl (zd rfl)<|zJ rfl rfl (.c rfl (.c rfl (.c rfl (.c rfl .n)))) ce47 (zgd (s:=s) (cm:=cm) (u:=u) (v:=v) (h:=h) (hok:=by first|rfl|assumption|decide|omega) (hlt:=by first|rfl|assumption|decide|omega) (hc:=by exact hcp2.1) (hu:=by exact hcp2.2.1) (hv:=by exact hcp2.2.2.1) (hh:=by exact hcp2.2.2.2.1) (hr:=by exact hcp2.2.2.2.2)) (.c (j:=0) rfl .n) ?_
    rintro ⟨w16,w27,w38,w49⟩ hph
    dsimp only [List.append_eq,List.nil_append,List.cons_append]
    replace hph:Sh.gc s cm u v h≠0→w16=wz∧w27=wz∧w38=wz∧w49=wz:=hph
    refine r_pv rfl rfl (zG rfl rfl)<|r_pv rfl rfl (zG rfl rfl)<|zn 0 rfl rfl rfl rfl rfl sz46 rfl (.take (.take (.take (.take (.take (.take (.take (.take .nil)))))))) .z<|r_pv rfl rfl (zi rfl)<|zm<|zg<|zT ?_
    have hg9:Sh.Gc s cm u v h=Sh.gc s cm u v h:=(if_pos hc0).trans (if_pos hcp2)
    have hx9:Sh.Gx s cm u v h=Sh.gx s cm u v h:=by by_cases k:Sh.gc s cm u v h=0;rw [show Sh.Gx s cm u v h=Sh.gx s cm u v h from if_pos (hg9.trans k)];(rw [show Sh.Gx s cm u v h=0 from if_neg (fun e=>k (hg9.symm.trans e)),show Sh.gx s cm u v h=0 from if_neg k])
    have hy9:Sh.Gy s cm u v h=Sh.gy s cm u v h:=by by_cases k:Sh.gc s cm u v h=0;rw [show Sh.Gy s cm u v h=Sh.gy s cm u v h from if_pos (hg9.trans k)];(rw [show Sh.Gy s cm u v h=0 from if_neg (fun e=>k (hg9.symm.trans e)),show Sh.gy s cm u v h=0 from if_neg k])
    exact zEa Tryz.results24 (w16,w27,w38,w49) (fun k=>hph (by rw [← hg9];exact k)) (zv 0 ty46 rfl rfl (.take (.take (.take (.take (.take (.take (.take (.take .nil))))))))) (zH rfl) (by rw [hg9]) (ho:=(.n:PickO _ _ _)) ((.e (j:=0) rfl (by rw [hx9,hg9]) (.e (j:=1) rfl (by rw [hy9,hg9]) .n)):SelR _ _ _)
end Go.Proofs.YtjeahiahjgifgaaGreatDoor.Sp
namespace Go.Proofs.YtjeahiahjgifgaaGreatDoor.Sp
open Go
set_option linter.unusedVariables false
set_option maxRecDepth 100000
set_option maxHeartbeats 8000000
theorem zWc {s:Sh.S} {cm:Sh.C} {u:Int} {v:Int} {r:Int} {h:Int} (hfi: -9223372036854775808≤s.fi∧s.fi≤9223372036854775807) (hst: -9223372036854775808≤s.st∧s.st≤9223372036854775807) (hta: -9223372036854775808≤s.ta∧s.ta≤9223372036854775807) (htb: -9223372036854775808≤s.tb∧s.tb≤9223372036854775807) (hxa: -9223372036854775808≤s.xa∧s.xa≤9223372036854775807) (hya: -9223372036854775808≤s.ya∧s.ya≤9223372036854775807) (hza: -9223372036854775808≤s.za∧s.za≤9223372036854775807) (hqa: -9223372036854775808≤s.qa∧s.qa≤9223372036854775807) (hqb: -9223372036854775808≤s.qb∧s.qb≤9223372036854775807) (hqc: -9223372036854775808≤s.qc∧s.qc≤9223372036854775807) (hqd: -9223372036854775808≤s.qd∧s.qd≤9223372036854775807) (hxb: -9223372036854775808≤s.xb∧s.xb≤9223372036854775807) (hyb: -9223372036854775808≤s.yb∧s.yb≤9223372036854775807) (hzb: -9223372036854775808≤s.zb∧s.zb≤9223372036854775807) (hra: -9223372036854775808≤s.ra∧s.ra≤9223372036854775807) (hrb: -9223372036854775808≤s.rb∧s.rb≤9223372036854775807) (hrc: -9223372036854775808≤s.rc∧s.rc≤9223372036854775807) (hrd: -9223372036854775808≤s.rd∧s.rd≤9223372036854775807) (h64fo: -9223372036854775808≤cm.fo∧cm.fo≤9223372036854775807) (h64cx: -9223372036854775808≤cm.cx∧cm.cx≤9223372036854775807) (h64cy: -9223372036854775808≤cm.cy∧cm.cy≤9223372036854775807) (h64u: -9223372036854775808≤u∧u≤9223372036854775807) (h64v: -9223372036854775808≤v∧v≤9223372036854775807) (h64r: -9223372036854775808≤r∧r≤9223372036854775807) (h64h: -9223372036854775808≤h∧h≤9223372036854775807):Con Tryz.prog 14 [.agg #[.int .i64 (s.fi),.int .i64 (s.st),.int .i64 (s.ta),.int .i64 (s.xa),.int .i64 (s.ya),.int .i64 (s.za),.int .i64 (s.qa),.int .i64 (s.qb),.int .i64 (s.qc),.int .i64 (s.qd),.int .i64 (s.tb),.int .i64 (s.xb),.int .i64 (s.yb),.int .i64 (s.zb),.int .i64 (s.ra),.int .i64 (s.rb),.int .i64 (s.rc),.int .i64 (s.rd)],.agg #[.int .i64 (cm.fo),.int .i64 (cm.cx),.int .i64 (cm.cy)],.agg #[.int .i64 u,.int .i64 v],.int .i64 r,.int .i64 h] [] [sgF] (Y:=Wd×Wd×Wd×Wd) (fun y=>Sh.Cc s cm u v r h≠0→y.1=wz∧y.2.1=wz∧y.2.2.1=wz∧y.2.2.2=wz) (fun y=> .tuple #[.agg #[y.1.b,y.1.l,y.2.1.b,y.2.1.l,y.2.2.1.b,y.2.2.1.l,y.2.2.2.b,y.2.2.2.l],.int .i64 (Sh.Cc s cm u v r h)]) (fun y=>[]) (fun y=>[qF (decide (Sh.Cc s cm u v r h=0)) y.1 y.2.1 (Sh.Cx s cm u v r h),qF (decide (Sh.Cc s cm u v r h=0)) y.2.2.1 y.2.2.2 (Sh.Cy s cm u v r h)]):=by
 refine zA Tryz.func14 rfl rfl rfl (fun c=> ?_)
 show RunC _ _ _ _ _ [(0,.agg #[.int .i64 (s.fi),.int .i64 (s.st),.int .i64 (s.ta),.int .i64 (s.xa),.int .i64 (s.ya),.int .i64 (s.za),.int .i64 (s.qa),.int .i64 (s.qb),.int .i64 (s.qc),.int .i64 (s.qd),.int .i64 (s.tb),.int .i64 (s.xb),.int .i64 (s.yb),.int .i64 (s.zb),.int .i64 (s.ra),.int .i64 (s.rb),.int .i64 (s.rc),.int .i64 (s.rd)]),(1,.agg #[.int .i64 (cm.fo),.int .i64 (cm.cx),.int .i64 (cm.cy)]),(2,.agg #[.int .i64 u,.int .i64 v]),(3,.int .i64 r),(4,.int .i64 h)] [] [sgF]
 refine zj<|zc<|zL rfl rfl (zfa rfl rfl) (fun b1=> ?_)
 refine zL rfl rfl (zfa rfl rfl) (fun b2=> ?_)
 refine zL rfl rfl (zfa rfl rfl) (fun b3=> ?_)
 refine zL rfl rfl (zr zr46 rfl) (fun b4=> ?_)
 refine r_pv rfl rfl (zi rfl)<|zm<|zg<|zj<|zj<|zc<|r_u rfl rfl (zf 3 ty29 rfl rfl (.take (.take (.take (.take (.take (.take (.take (.take (.take (.take (.take (.take (.take (.take (.take (.take (.take (.take .nil)))))))))))))))))))<|zY rfl rfl (.c rfl (.c rfl .n)) ce12 (zjc (s:=s) (n:=1) (hfi:=by assumption) (hst:=by assumption) (hta:=by assumption) (htb:=by assumption) (hxa:=by assumption) (hya:=by assumption) (hza:=by assumption) (hqa:=by assumption) (hqb:=by assumption) (hqc:=by assumption) (hqd:=by assumption) (hxb:=by assumption) (hyb:=by assumption) (hzb:=by assumption) (hra:=by assumption) (hrb:=by assumption) (hrc:=by assumption) (hrd:=by assumption)) (.n)<|r_pv rfl rfl (zi rfl)<|zm<|zg<|zj<|zc<|r_pv rfl rfl (zd rfl)<|r_pv rfl rfl (zCb rfl rfl)<|zm<|zg<|zV rfl (fun hc=> ?_) (fun hc=> ?_)
 ·
  refine zj<|zc<|r_pv rfl rfl (zy zr46 rfl Tryz.underlying46 (.c sz44 (.c sz44 .n)) .n .n)<|r_pv rfl rfl (zd rfl)<|zn 0 rfl rfl rfl rfl rfl sz46 rfl (.take (.take (.take (.take (.take (.take (.take (.take .nil)))))))) .z<|r_pv rfl rfl (zi rfl)<|zm<|zg<|zT<|zw<|zdb (qF false wz wz 0) (fun g _=>qF_none g) ?_
  have hg9:Sh.Cc s cm u v r h=Sh.chk s 1:=if_neg hc
  have hg8:¬Sh.Cc s cm u v r h=0:=by rw [hg9];exact hc
  have hx9:Sh.Cx s cm u v r h=0:=if_neg hg8
  have hy9:Sh.Cy s cm u v r h=0:=if_neg hg8
  exact zEa Tryz.results14 (wz,wz,wz,wz) (fun _=>⟨rfl,rfl,rfl,rfl⟩) (zv 0 ty46 rfl rfl (.take (.take (.take (.take (.take (.take (.take (.take .nil))))))))) (zH rfl) (by rw [hg9];rfl) (ho:=(.n:PickO _ _ _)) ((.e (j:=0) rfl (by rw [hx9,decide_eq_false hg8]) (.e (j:=0) rfl (by rw [hy9,decide_eq_false hg8]) .n)):SelR _ _ _)
 ·
  have hc0:Sh.chk s 1=0:=Decidable.not_not.1 hc
  obtain ⟨hok,-,hlt,hnd⟩:=Sh.chk_ok hc0
  refine zD<|zg<|zj<|zIa (X:=Unit) (fun x=>True) (fun x=>[(34,.bool (decide (((¬(0≤r∧r<64))∨(¬(Sh.cam cm∧Sh.inb h)))∨(¬(Sh.inb u∧Sh.inb v∧Sh.inr (Sh.ro v)))))),(11,.int .i64 0),(10,.pointer (some ⟨b4,0,none⟩)),(7,.pointer (some ⟨b3,0,none⟩)),(6,.pointer (some ⟨b2,0,none⟩)),(5,.pointer (some ⟨b1,0,none⟩)),(3,.int .i64 r),(4,.int .i64 h)]) (fun x=>[boxA b4 46 (cw [wz,wz,wz,wz]),boxA b3 35 [.int .i64 u,.int .i64 v],boxA b2 37 [.int .i64 (cm.fo),.int .i64 (cm.cx),.int .i64 (cm.cy)],boxA b1 29 (cS s)]) (fun x=>[sgF]) ?_ ?_
  ·
   refine zc<|r_pv rfl rfl (zd rfl)<|zY rfl rfl (.c rfl .n) ce44 (zfd (r:=r)) (.n)<|r_pv rfl rfl (zMa rfl)<|zoa rfl rfl (zd rfl) (fun h5=> ?_) (fun h5=> ?_)
   ·
    refine zl rfl rfl<|zl rfl rfl<|zl rfl rfl<|zl rfl rfl<|r_pv rfl rfl (zS rfl rfl)<|r_pv rfl rfl (zd rfl)<|zl rfl rfl<|zl rfl rfl<|zl rfl rfl<|r_pv rfl rfl (zS rfl rfl)<|zm ?_
    exact zna () (show True from by first|trivial|omega|simp_all) ((.e rfl (congrArg Value.bool (by first|(simp_all;done)|(simp_all;omega)|(simp;omega)|omega)) (.of rfl)):SubM _ _) (ho:=((.of [0,0,0,0] rfl):PickO _ _ _)) ((.c (j:=0) rfl .n):SelR _ _ _)
   ·
    refine r_u rfl rfl (zf 2 ty37 rfl rfl (.take (.take (.take .nil))))<|r_pv rfl rfl (zd rfl)<|zY rfl rfl (.c rfl (.c rfl .n)) ce45 (zRb (cm:=cm) (h:=h) (h64fo:=by assumption) (h64cx:=by assumption) (h64cy:=by assumption) (h64h:=by assumption)) (.n)<|r_pv rfl rfl (zMa rfl)<|r_pv rfl rfl (zS rfl rfl)<|zoa rfl rfl (zd rfl) (fun h6=> ?_) (fun h6=> ?_)
    ·
     refine zl rfl rfl<|zl rfl rfl<|zl rfl rfl<|r_pv rfl rfl (zS rfl rfl)<|zm ?_
     exact zna () (show True from by first|trivial|omega|simp_all) ((.e rfl (congrArg Value.bool (by first|(simp_all;done)|(simp_all;omega)|(simp;omega)|omega)) (.of rfl)):SubM _ _) (ho:=((.of [0,0,0,0] rfl):PickO _ _ _)) ((.c (j:=0) rfl .n):SelR _ _ _)
    ·
     refine r_u rfl rfl (zf 1 ty35 rfl rfl (.take (.take .nil)))<|zY rfl rfl (.c rfl .n) ce46 (zac (u:=u) (v:=v) (h64u:=by assumption) (h64v:=by assumption)) (.n)<|r_pv rfl rfl (zMa rfl)<|r_pv rfl rfl (zS rfl rfl)<|zm ?_
     exact zna () (show True from by first|trivial|omega|simp_all) ((.e rfl (congrArg Value.bool (by first|(simp_all;done)|(simp_all;omega)|(simp;omega)|omega)) (.of rfl)):SubM _ _) (ho:=((.of [0,0,0,0] rfl):PickO _ _ _)) ((.c (j:=0) rfl .n):SelR _ _ _)
  ·
   rintro ⟨⟩ -
   try dsimp only [cw]
   refine zV rfl (fun hcr=> ?_) (fun hcr=> ?_)
   ·
    have hcr2:¬(Sh.inr r∧Sh.cp cm u v h):=fun k=>hcr.elim (fun e=>e.elim (fun e=>e k.1) (fun e=>e ⟨k.2.1,k.2.2.2.2.1⟩)) (fun e=>e ⟨k.2.2.1,k.2.2.2.1,k.2.2.2.2.2⟩)
    refine zj<|zc<|r_pv rfl rfl (zy zr46 rfl Tryz.underlying46 (.c sz44 (.c sz44 .n)) .n .n)<|zn 0 rfl rfl rfl rfl rfl sz46 rfl (.take (.take (.take (.take (.take (.take (.take (.take .nil)))))))) .z<|r_pv rfl rfl (zi rfl)<|zm<|zg<|zT<|zw<|zdb (qF false wz wz 0) (fun g _=>qF_none g) ?_
    have hg9:Sh.Cc s cm u v r h=2:=(if_pos hc0).trans (if_neg hcr2)
    have hg8:¬Sh.Cc s cm u v r h=0:=by rw [hg9];decide
    have hx9:Sh.Cx s cm u v r h=0:=if_neg hg8
    have hy9:Sh.Cy s cm u v r h=0:=if_neg hg8
    exact zEa Tryz.results14 (wz,wz,wz,wz) (fun _=>⟨rfl,rfl,rfl,rfl⟩) (zv 0 ty46 rfl rfl (.take (.take (.take (.take (.take (.take (.take (.take .nil))))))))) (zH rfl) (by rw [hg9];rfl) (ho:=(.n:PickO _ _ _)) ((.e (j:=0) rfl (by rw [hx9,decide_eq_false hg8]) (.e (j:=0) rfl (by rw [hy9,decide_eq_false hg8]) .n)):SelR _ _ _)
   ·
    have hir2:=Decidable.not_not.1 (fun e=>hcr (Or.inl (Or.inl e)))
    have hca:=Decidable.not_not.1 (fun e=>hcr (Or.inl (Or.inr e)))
    have hcb:=Decidable.not_not.1 (fun e=>hcr (Or.inr e))
    have hcp2:Sh.cp cm u v h:=⟨hca.1,hcb.1,hcb.2.1,hca.2,hcb.2.2⟩
    have hgq:=Sh.gx_hq hok hcp2.1 hcp2.2.1 hcp2.2.2.1 hcp2.2.2.2.2 hcp2.2.2.2.1
    refine zD<|zg<|zj<|zc<|r_u rfl rfl (zf 3 ty29 rfl rfl (.take (.take (.take (.take (.take (.take (.take (.take (.take (.take (.take (.take (.take (.take (.take (.take (.take (.take .nil)))))))))))))))))))<|r_u rfl rfl (zf 2 ty37 rfl rfl (.take (.take (.take .nil))))<|r_u rfl rfl (zf 1 ty35 rfl rfl (.take (.take .nil)))<|r_pv rfl rfl (zd rfl)<|zJ rfl rfl (.c rfl (.c rfl (.c rfl (.c rfl .n)))) ce47 (zgd (s:=s) (cm:=cm) (u:=u) (v:=v) (h:=h) (hok:=by first|rfl|assumption|decide|omega) (hlt:=by first|rfl|assumption|decide|omega) (hc:=by exact hcp2.1) (hu:=by exact hcp2.2.1) (hv:=by exact hcp2.2.2.1) (hh:=by exact hcp2.2.2.2.1) (hr:=by exact hcp2.2.2.2.2)) (.c (j:=0) rfl .n) ?_
    rintro ⟨w17,w28,w39,w410⟩ hy11
    dsimp only [List.append_eq,List.nil_append,List.cons_append]
    replace hy11:Sh.gc s cm u v h≠0→w17=wz∧w28=wz∧w39=wz∧w410=wz:=hy11
    refine r_pv rfl rfl (zd rfl)<|r_pv rfl rfl (zG rfl rfl)<|r_pv rfl rfl (zG rfl rfl)<|zL rfl rfl (zr zr46 rfl) (fun b12=> ?_)
    refine zn 0 rfl rfl rfl rfl rfl sz46 rfl (.take (.take (.take (.take (.take (.take (.take (.take .nil)))))))) .z<|r_pv rfl rfl (zi rfl)<|zm<|zg<|zj<|zj<|zc<|r_pv rfl rfl (zd rfl)<|r_pv rfl rfl (zCb rfl rfl)<|zm<|zg<|zV rfl (fun hgg=> ?_) (fun hgg=> ?_)
    ·
     refine zj<|zc<|r_pv rfl rfl (zy zr46 rfl Tryz.underlying46 (.c sz44 (.c sz44 .n)) .n .n)<|r_pv rfl rfl (zd rfl)<|zn 1 rfl rfl rfl rfl rfl sz46 rfl (.take (.take (.take (.take (.take (.take (.take (.take .nil)))))))) (.s .z)<|r_pv rfl rfl (zi rfl)<|zm<|zg<|zT<|zw<|zdb (qF false wz wz 0) (fun g _=>qF_none g) ?_
     have hg9:Sh.Cc s cm u v r h=Sh.gc s cm u v h:=((if_pos hc0).trans (if_pos ⟨hir2,hcp2⟩)).trans (if_neg hgg)
     have hg8:¬Sh.Cc s cm u v r h=0:=by rw [hg9];exact hgg
     have hx9:Sh.Cx s cm u v r h=0:=if_neg hg8
     have hy9:Sh.Cy s cm u v r h=0:=if_neg hg8
     exact zEa Tryz.results14 (wz,wz,wz,wz) (fun _=>⟨rfl,rfl,rfl,rfl⟩) (zv 1 ty46 rfl rfl (.take (.take (.take (.take (.take (.take (.take (.take .nil))))))))) (zH rfl) (by rw [hg9];rfl) (ho:=(.n:PickO _ _ _)) ((.e (j:=0) rfl (by rw [hx9,decide_eq_false hg8]) (.e (j:=0) rfl (by rw [hy9,decide_eq_false hg8]) .n)):SelR _ _ _)
    ·
     have hgz:=Decidable.not_not.1 hgg
     refine zD<|zg<|zj<|zc<|r_u rfl rfl (zf 4 ty29 rfl rfl (.take (.take (.take (.take (.take (.take (.take (.take (.take (.take (.take (.take (.take (.take (.take (.take (.take (.take .nil)))))))))))))))))))<|r_u rfl rfl (zf 3 ty37 rfl rfl (.take (.take (.take .nil))))<|r_pv rfl rfl (zd rfl)<|r_u rfl rfl (zf 0 ty46 rfl rfl (.take (.take (.take (.take (.take (.take (.take (.take .nil)))))))))<|r_pv rfl rfl (zd rfl)<|zJ rfl rfl (.c rfl (.c rfl (.c rfl (.c rfl (.c rfl .n))))) ce48 (zRe (s:=s) (cm:=cm) (r:=r) (k1:=(decide (Sh.gc s cm u v h=0))) (u1:=w17) (v1:=w28) (ax:=(Sh.gx s cm u v h)) (k2:=(decide (Sh.gc s cm u v h=0))) (u2:=w39) (v2:=w410) (ay:=(Sh.gy s cm u v h)) (h:=h) (hok:=by first|rfl|assumption|decide|omega) (hlt:=by first|rfl|assumption|decide|omega) (hc:=by exact hcp2.1) (hr:=by exact hir2) (hqx:=by exact hgq.1) (hqy:=by exact hgq.2) (hh:=by exact hcp2.2.2.2.1)) (.c (j:=2) rfl (.c (j:=0) rfl (.c (j:=1) rfl .n))) ?_
     rintro ⟨w113,w214,w315,w416⟩ hph
     dsimp only [List.append_eq,List.nil_append,List.cons_append]
     replace hph:Sh.ic s r (Sh.gx s cm u v h) (Sh.gy s cm u v h) h≠0→w113=wz∧w214=wz∧w315=wz∧w416=wz:=hph
     refine r_pv rfl rfl (zG rfl rfl)<|r_pv rfl rfl (zG rfl rfl)<|zn 1 rfl rfl rfl rfl rfl sz46 rfl (.take (.take (.take (.take (.take (.take (.take (.take .nil)))))))) (.s .z)<|r_pv rfl rfl (zi rfl)<|zm<|zg<|zT ?_
     have hg9:Sh.Cc s cm u v r h=Sh.ic s r (Sh.gx s cm u v h) (Sh.gy s cm u v h) h:=((if_pos hc0).trans (if_pos ⟨hir2,hcp2⟩)).trans (if_pos hgz)
     have hx9:Sh.Cx s cm u v r h=Sh.ix s cm r (Sh.gx s cm u v h) (Sh.gy s cm u v h) h:=by by_cases k:Sh.ic s r (Sh.gx s cm u v h) (Sh.gy s cm u v h) h=0;rw [show Sh.Cx s cm u v r h=Sh.ix s cm r (Sh.gx s cm u v h) (Sh.gy s cm u v h) h from if_pos (hg9.trans k)];(rw [show Sh.Cx s cm u v r h=0 from if_neg (fun e=>k (hg9.symm.trans e)),show Sh.ix s cm r (Sh.gx s cm u v h) (Sh.gy s cm u v h) h=0 from if_neg k])
     have hy9:Sh.Cy s cm u v r h=Sh.iy s cm r (Sh.gx s cm u v h) (Sh.gy s cm u v h) h:=by by_cases k:Sh.ic s r (Sh.gx s cm u v h) (Sh.gy s cm u v h) h=0;rw [show Sh.Cy s cm u v r h=Sh.iy s cm r (Sh.gx s cm u v h) (Sh.gy s cm u v h) h from if_pos (hg9.trans k)];(rw [show Sh.Cy s cm u v r h=0 from if_neg (fun e=>k (hg9.symm.trans e)),show Sh.iy s cm r (Sh.gx s cm u v h) (Sh.gy s cm u v h) h=0 from if_neg k])
     exact zEa Tryz.results14 (w113,w214,w315,w416) (fun k=>hph (by rw [← hg9];exact k)) (zv 1 ty46 rfl rfl (.take (.take (.take (.take (.take (.take (.take (.take .nil))))))))) (zH rfl) (by rw [hg9]) (ho:=(.n:PickO _ _ _)) ((.e (j:=0) rfl (by rw [hx9,hg9]) (.e (j:=1) rfl (by rw [hy9,hg9]) .n)):SelR _ _ _)
end Go.Proofs.YtjeahiahjgifgaaGreatDoor.Sp
namespace Go.Proofs.YtjeahiahjgifgaaGreatDoor.Sh
open Go.Proofs.YtjeahiahjgifgaaGreatDoor.Big
theorem k0:((0:Int):Rat)=0:=rfl
theorem k1:((1:Int):Rat)=1:=rfl
theorem k2:((2:Int):Rat)=2:=rfl
def mm (x y:Int):Rat:=((x:Int):Rat)*((y:Int):Rat)
def nn (q:Q4):Rat:=((((q.1:Int):Rat)*((q.1:Int):Rat)+((q.2.1:Int):Rat)*((q.2.1:Int):Rat))+((q.2.2.1:Int):Rat)*((q.2.2.1:Int):Rat))+((q.2.2.2:Int):Rat)*((q.2.2.2:Int):Rat)
theorem e4 (a b c d:Rat):s4 a b c d=a+b+c+d:=by unfold s4;rw [k0];grind
theorem e2 (a b:Rat):s2 a b=a+b:=by unfold s2;rw [k0];grind
end Go.Proofs.YtjeahiahjgifgaaGreatDoor.Sh
namespace Go.Proofs.YtjeahiahjgifgaaGreatDoor.Sh
open Go.Proofs.YtjeahiahjgifgaaGreatDoor.Big
def Pc (s:S) (r:Int):Int:=if chk s 1=0 then (if inr r then (if z4 (rot s r) then 13 else 0) else 2) else chk s 1
def seen (s:S) (c:C) (x y:Rat) (h r:Int):Prop:=(ic s r x y h=0∧0≤sgq (iy s c r x y h - ((64*r:Int):Rat)))∧sgq (iy s c r x y h - ((64*r+64:Int):Rat))<0
instance (s:S) (c:C) (x y:Rat) (h r:Int):Decidable (seen s c x y h r):=by unfold seen;infer_instance
def rc (c:C) (h:Int):Prop:=cam c∧inb h
instance (c:C) (h:Int):Decidable (rc c h):=by unfold rc;infer_instance
theorem gl_take {l:List Int} {i:Nat} (h:i<l.length):gl (l.take (i+1))=Nat.gcd (gl (l.take i)) (l.getD i 0).natAbs:=by
  unfold gl
  rw [List.take_add_one,List.getElem?_eq_getElem h,Option.toList_some,List.foldl_append,List.getD_eq_getElem?_getD,List.getElem?_eq_getElem h];rfl
def lcam (c:C) (lr ll:List Int):Prop:=(∀r∈lr,0≤r∧r<64)∧cam c∧wi 1048576 ll
instance (c:C) (lr ll:List Int):Decidable (lcam c lr ll):=by unfold lcam;infer_instance
def exS:S:=⟨0,10,0,0,0,1000,0,1,0,0,100,100,0,1000,0,1,0,0⟩
def exC:C:=⟨640,0,0⟩
theorem ex_chk:chk exS 64=0:=by decide +kernel
theorem ex_gc:Gc exS exC 64 128 0=0:=by decide +kernel
theorem ex_gx:Gx exS exC 64 128 0=((120:Int):Rat):=by decide +kernel
theorem ex_gy:Gy exS exC 64 128 0=((-200:Int):Rat):=by decide +kernel
theorem ex_cc:Cc exS exC 64 128 0 0=0:=by decide +kernel
theorem ex_cx:Cx exS exC 64 128 0 0=Rat.divInt 384 5:=by decide +kernel
theorem ex_cy:Cy exS exC 64 128 0 0=((128:Int):Rat):=by decide +kernel
end Go.Proofs.YtjeahiahjgifgaaGreatDoor.Sh
namespace Go.Proofs.YtjeahiahjgifgaaGreatDoor.Sp
open Go
set_option linter.unusedVariables false
set_option maxRecDepth 100000
set_option maxHeartbeats 8000000
theorem zMf {p:Option Addr} {n:Nat} {cap:Nat} {l:List Int} (hn:l.length=n) (hl:∀i,i<n→ -4611686018427387904≤l.getD i 0∧l.getD i 0≤4611686018427387904):Con Tryz.prog 69 [.slice p n cap] [] [slF (rI .i64) p cap l] (Y:=Unit) (fun y=>True) (fun y=> .int .i64 (((Sh.gl l):Nat):Int)) (fun y=>[]) (fun y=>[]):=by
 refine zA Tryz.func69 rfl rfl rfl (fun c=> ?_)
 show RunC _ _ _ _ _ [(0,.slice p n cap)] [] [slF (rI .i64) p cap l]
 refine zta 0 rfl (fun hL0=> ?_)
 refine zj<|zc<|r_pv rfl rfl (zi rfl)<|zm<|zg<|zj<|zc<|r_pv rfl rfl (zi rfl)<|zm<|zg<|zj<|zj<|zc<|r_pv rfl rfl (zd rfl)<|r_pv rfl rfl (zha Tryz.underlying51 rfl)<|r_pv rfl rfl (zd rfl)<|zm<|zg<|zx<|zAa (X:=Nat×Nat) (fun x:Nat×Nat=>x.1≤n∧x.2=Sh.gl (l.take x.1)) (fun x=>[(3,.int .i64 ((x.2:Nat):Int)),(8,.int .i64 ((x.1:Nat):Int)),(7,.int .i64 ((n:Nat):Int)),(6,.slice p n cap),(2,.int .i64 0)]) (fun x=>[]) (fun x=>[slF (rI .i64) p cap l]) (fun x:Nat×Nat=>n - x.1) (0,0) (show 0≤n∧0=Sh.gl (l.take 0) from by exact ⟨Nat.zero_le _,rfl⟩) ((.e rfl (by first|rfl|(congr 1;omega)|simp_all) (.e rfl (by first|rfl|(congr 1;omega)|simp_all) (.of rfl))):SubM _ _) (ho:=(.n:PickO _ _ _)) ((.c (j:=0) rfl .n):SelR _ _ _) ?_
 rintro ⟨i,g⟩ hI
 replace hI:i≤n∧g=Sh.gl (l.take i):=hI
 try dsimp only
 obtain ⟨hi,hgl⟩:=hI
 refine zj<|zc<|r_pv rfl rfl (zX rfl rfl)<|zm<|zg<|zj<|zV rfl (fun h1=> ?_) (fun h1=> ?_)
 ·
  have hli:=hl i (by omega)
  refine zD<|zg<|zj<|zx<|zj<|zc<|zR (x0:=(l.getD i 0)) 0 i rfl Tryz.underlying51 sz3 rfl rfl rfl (by first|rfl|assumption|(simp_all;done)|omega) rfl rfl (gD (d:=0) (by omega)) (fun b2 o3 hok4=> ?_)
  replace hok4:=zu.1 hok4
  refine r_u rfl rfl (zB (j:=0) 0 ty3 rfl rfl rfl rfl)<|r_pv rfl rfl (zi rfl)<|zm<|zg<|zj<|zc<|r_pv rfl rfl (zd rfl)<|r_pv rfl rfl (zd rfl)<|r_pv rfl rfl (zXb (z:=(-(l.getD i 0))) rfl (w64 (by omega)))<|r_pv rfl rfl (zad rfl rfl)<|r_pv rfl rfl (zi rfl)<|zm<|zg<|zx ?_
  have e5:((max (l.getD i 0) (-(l.getD i 0))):Int)=(((l.getD i 0).natAbs:Nat):Int):=by omega
  rw [e5]
  obtain ⟨gg,hgg⟩:∃z:Nat,z=Nat.gcd g (l.getD i 0).natAbs:=⟨_,rfl⟩
  refine zAa (X:=Nat×Nat) (fun x:Nat×Nat=>Nat.gcd x.1 x.2=gg) (fun x=>[(5,.int .i64 ((x.2:Nat):Int)),(3,.int .i64 ((x.1:Nat):Int)),(8,.int .i64 ((i:Nat):Int)),(7,.int .i64 ((n:Nat):Int)),(6,.slice p n cap),(2,.int .i64 0)]) (fun x=>[]) (fun x=>[atF b2 o3 [.int .i64 (l.getD i 0)],slF (rI .i64) p cap l]) (fun x:Nat×Nat=>x.2) (g,(l.getD i 0).natAbs) (show Nat.gcd g ((l.getD i 0).natAbs)=gg from by exact hgg.symm) ((.of rfl):SubM _ _) (ho:=(.n:PickO _ _ _)) ((.of [0,1] rfl):SelR _ _ _) ?_
  rintro ⟨x,y⟩ hG
  replace hG:Nat.gcd x y=gg:=hG
  try dsimp only
  refine zj<|zj<|zc<|r_pv rfl rfl (zd rfl)<|r_pv rfl rfl (zCb rfl rfl)<|zm<|zg<|zV rfl (fun hy0=> ?_) (fun hy0=> ?_)
  ·
   refine zD<|zg<|zx<|zW (OW:=[]) (O:=[]) 100000 mixed (.block (.then (.block (.block (.then (.then (.block (.then .ret)))))))) (by kernel_rfl)<|d_pv 0 rfl rfl (by kernel_rfl) (by kernel_rfl) rfl rfl (zd rfl)<|d_pv 1 rfl rfl (by kernel_rfl) (by kernel_rfl) rfl rfl (zd rfl)<|d_pv 2 rfl rfl (by kernel_rfl) (by kernel_rfl) rfl rfl (zd rfl)<|d_pv 3 rfl rfl (by kernel_rfl) (by kernel_rfl) rfl rfl (zbb (z:=(((x%y):Nat):Int)) rfl rfl (by omega) (remN (by omega) (by omega)))<|d_pv 4 rfl rfl (by kernel_rfl) (by kernel_rfl) rfl rfl (zi rfl)<|d_pv 5 rfl rfl (by kernel_rfl) (by kernel_rfl) rfl rfl (zi rfl)<|zU (by kernel_rfl)<|zN<|zva (y,(x%y)) (show Nat.gcd y (x%y)=gg from by exact Sh.gcd_step hG) (by show x%y<y;exact Nat.mod_lt _ (by omega)) ((.of rfl):SubM _ _) (ho:=(.n:PickO _ _ _)) ((.of [0,1] rfl):SelR _ _ _)
  ·
   refine zpa<|zp<|zp<|zE<|zN<|zg<|zc<|r_pv rfl rfl (zK (z:=(((i+1):Nat):Int)) rfl rfl (w64 (by omega)))<|r_pv rfl rfl (zd rfl)<|zm<|zva ((i+1),x) (show (i+1)≤n∧x=Sh.gl (l.take (i+1)) from by exact ⟨by omega,by rw [Sh.gl_take (by omega),←hgl,←hgg,←hG,show y=0 by omega,Nat.gcd_zero_right]⟩) (by show n - (i+1)<n - i;omega) ((.of rfl):SubM _ _) (ho:=(.n:PickO _ _ _)) ((.c (j:=1) rfl .n):SelR _ _ _)
 ·
  refine zpa<|zp<|zp<|zE<|zg<|zj<|zc<|r_pv rfl rfl (zd rfl)<|r_pv rfl rfl (zi rfl)<|zm<|zg<|zT ?_
  exact zO Tryz.results69 () trivial (zH rfl) (by rw [hgl,List.take_of_length_le (by omega)]) (ho:=(.n:PickO _ _ _)) (.n:SelR _ _ _)
theorem zwf {s:Sh.S} {r:Int} (hok:Sh.Ok s) (hr:0≤r∧r≤64):Con Tryz.prog 33 [.agg #[.int .i64 (s.fi),.int .i64 (s.st),.int .i64 (s.ta),.int .i64 (s.xa),.int .i64 (s.ya),.int .i64 (s.za),.int .i64 (s.qa),.int .i64 (s.qb),.int .i64 (s.qc),.int .i64 (s.qd),.int .i64 (s.tb),.int .i64 (s.xb),.int .i64 (s.yb),.int .i64 (s.zb),.int .i64 (s.ra),.int .i64 (s.rb),.int .i64 (s.rc),.int .i64 (s.rd)],.int .i64 r] [] [] (Y:=Unit) (fun y=>True) (fun y=> .agg #[.int .i64 ((Sh.rot s r).1),.int .i64 ((Sh.rot s r).2.1),.int .i64 ((Sh.rot s r).2.2.1),.int .i64 ((Sh.rot s r).2.2.2)]) (fun y=>[]) (fun y=>[]):=by
 refine zA Tryz.func33 rfl rfl rfl (fun c=> ?_)
 show RunC _ _ _ _ _ [(0,.agg #[.int .i64 (s.fi),.int .i64 (s.st),.int .i64 (s.ta),.int .i64 (s.xa),.int .i64 (s.ya),.int .i64 (s.za),.int .i64 (s.qa),.int .i64 (s.qb),.int .i64 (s.qc),.int .i64 (s.qd),.int .i64 (s.tb),.int .i64 (s.xb),.int .i64 (s.yb),.int .i64 (s.zb),.int .i64 (s.ra),.int .i64 (s.rb),.int .i64 (s.rc),.int .i64 (s.rd)]),(1,.int .i64 r)] [] []
 have hn:=hok.n
 have hpa:=hok.pa
 have hpb:=hok.pb
 have hqa:=hok.qa
 have hqb:=hok.qb
 have htm:=Sh.tm_b hok hr
 have hrs: -(64*1073741824)≤r*s.st∧r*s.st≤64*1073741824:=by have h8:=htm;unfold Sh.tm at h8;have h9:=Sh.mul_b (x:=r) (y:=s.st) (m:=64) (n:=1073741824) (by omega) (by omega);omega
 have hm0:=Sh.mix_b hok hr hok.qa.1 hok.qb.1
 have hm1:=Sh.mix_b hok hr hok.qa.2.1 hok.qb.2.1
 have hm2:=Sh.mix_b hok hr hok.qa.2.2.1 hok.qb.2.2.1
 have hm3:=Sh.mix_b hok hr hok.qa.2.2.2 hok.qb.2.2.2
 have hrw:=Sh.raw_b hok hr
 refine zj<|zc<|zL rfl rfl (zfa rfl rfl) (fun b1=> ?_)
 refine zL rfl rfl (zr zr25 rfl) (fun b2=> ?_)
 refine zm<|zg<|zj<|zc<|r_pv rfl rfl (zh Tryz.underlying29 rfl sz3 rfl rfl)<|r_u rfl rfl (ze 1 ty3 rfl rfl rfl)<|r_pv rfl rfl (zd rfl)<|r_pv rfl rfl (zh Tryz.underlying29 rfl sz3 rfl rfl)<|r_u rfl rfl (ze 1 ty3 rfl rfl rfl)<|r_pv rfl rfl (zGa (z:=(r*s.st)) rfl rfl (w64 (by omega)))<|r_pv rfl rfl (zK (z:=(s.fi+(r*s.st))) rfl rfl (w64 (by omega)))<|r_pv rfl rfl (zi rfl)<|zm<|zg<|zj ?_
 have e3:s.fi+(r*s.st)=Sh.tm s r:=by rfl
 rw [e3]
 refine zW (OW:=[]) (O:=[boxA b2 25 [.int .i64 0,.int .i64 0,.int .i64 0,.int .i64 0],boxA b1 29 (cS s)]) 100000 mixed (.then .ret) (by kernel_rfl)<|d_pv 0 rfl rfl (by kernel_rfl) (by kernel_rfl) rfl rfl (zh Tryz.underlying29 rfl sz27 rfl rfl)<|d_pv 1 rfl rfl (by kernel_rfl) (by kernel_rfl) rfl rfl (zh Tryz.underlying27 rfl sz3 rfl rfl)<|d_u 2 rfl rfl (by kernel_rfl) (by kernel_rfl) rfl rfl (ze 1 ty3 rfl rfl rfl)<|d_pv 3 rfl rfl (by kernel_rfl) (by kernel_rfl) rfl rfl (zd rfl)<|d_pv 4 rfl rfl (by kernel_rfl) (by kernel_rfl) rfl rfl (zqa (z:=(s.tb - (Sh.tm s r))) rfl rfl (w64 (by omega)))<|d_pv 5 rfl rfl (by kernel_rfl) (by kernel_rfl) rfl rfl (zd rfl)<|d_pv 6 rfl rfl (by kernel_rfl) (by kernel_rfl) rfl rfl (zh Tryz.underlying29 rfl sz27 rfl rfl)<|d_pv 7 rfl rfl (by kernel_rfl) (by kernel_rfl) rfl rfl (zh Tryz.underlying27 rfl sz3 rfl rfl)<|d_u 8 rfl rfl (by kernel_rfl) (by kernel_rfl) rfl rfl (ze 1 ty3 rfl rfl rfl)<|d_pv 9 rfl rfl (by kernel_rfl) (by kernel_rfl) rfl rfl (zqa (z:=((Sh.tm s r) - s.ta)) rfl rfl (w64 (by omega)))<|d_pv 10 rfl rfl (by kernel_rfl) (by kernel_rfl) rfl rfl (zi rfl)<|d_pv 11 rfl rfl (by kernel_rfl) (by kernel_rfl) rfl rfl (zi rfl)<|zU (by kernel_rfl)<|zg<|zj<|zW (OW:=[]) (O:=[boxA b2 25 [.int .i64 0,.int .i64 0,.int .i64 0,.int .i64 0],boxA b1 29 (cS s)]) 8 mixed (.then .ret) (by kernel_rfl)<|d_pv 0 rfl rfl (by kernel_rfl) (by kernel_rfl) rfl rfl (zh Tryz.underlying29 rfl sz27 rfl rfl)<|d_pv 1 rfl rfl (by kernel_rfl) (by kernel_rfl) rfl rfl (zh Tryz.underlying27 rfl sz25 rfl rfl)<|d_u 2 rfl rfl (by kernel_rfl) (by kernel_rfl) rfl rfl (zf 1 ty25 rfl rfl (.skip (.skip (.skip (.skip (.skip (.skip (.take (.take (.take (.take .nil)))))))))))<|d_pv 3 rfl rfl (by kernel_rfl) (by kernel_rfl) rfl rfl (zh Tryz.underlying29 rfl sz27 rfl rfl)<|d_pv 4 rfl rfl (by kernel_rfl) (by kernel_rfl) rfl rfl (zh Tryz.underlying27 rfl sz25 rfl rfl)<|d_u 5 rfl rfl (by kernel_rfl) (by kernel_rfl) rfl rfl (zf 1 ty25 rfl rfl (.skip (.skip (.skip (.skip (.skip (.skip (.skip (.skip (.skip (.skip (.skip (.skip (.skip (.skip (.take (.take (.take (.take .nil)))))))))))))))))))<|zhc (m':=[(34,.agg #[.int .i64 (s.ra),.int .i64 (s.rb),.int .i64 (s.rc),.int .i64 (s.rd)]),(31,.agg #[.int .i64 (s.qa),.int .i64 (s.qb),.int .i64 (s.qc),.int .i64 (s.qd)]),(7,.int .i64 ((Sh.tm s r) - s.ta)),(6,.int .i64 (s.tb - (Sh.tm s r))),(4,.pointer (some ⟨b2,0,none⟩))]) (R':=[]) ((.of rfl):SubM _ _) (List.Perm.refl _) (List.Perm.refl _) (.n:SelR _ _ _)<|zja (X:=Nat×Nat) (k':=0) (L':=(lb 10 1023)) (fun (u6_1,u7_1)=>([(9,.pointer (some ⟨u7_1,0,none⟩)),(8,.pointer (some ⟨u6_1,0,none⟩)),(7,.int .i64 ((Sh.tm s r) - s.ta)),(6,.int .i64 (s.tb - (Sh.tm s r))),(4,.pointer (some ⟨b2,0,none⟩))],[boxA u7_1 25 [.int .i64 (s.ra),.int .i64 (s.rb),.int .i64 (s.rc),.int .i64 (s.rd)],boxA u6_1 25 [.int .i64 (s.qa),.int .i64 (s.qb),.int .i64 (s.qc),.int .i64 (s.qd)]],[boxA b2 25 [.int .i64 0,.int .i64 0,.int .i64 0,.int .i64 0],boxA b1 29 (cS s)],[])) ?_ (fun hD0=> ?_)
 ·
  rintro ⟨u6_1,u7_1⟩
  dsimp only [cw,cS]
  refine zU (by kernel_rfl)<|zg<|zj<|zc<|r_pv rfl rfl (zd rfl)<|r_pv rfl rfl (zh Tryz.underlying25 rfl sz3 rfl rfl)<|r_u rfl rfl (ze 1 ty3 rfl rfl rfl)<|r_pv rfl rfl (zGa (z:=((s.tb - (Sh.tm s r))*s.qa)) rfl rfl (w64 (by omega)))<|r_pv rfl rfl (zd rfl)<|r_pv rfl rfl (zh Tryz.underlying25 rfl sz3 rfl rfl)<|r_u rfl rfl (ze 0 ty3 rfl rfl rfl)<|r_pv rfl rfl (zGa (z:=(((Sh.tm s r) - s.ta)*s.ra)) rfl rfl (w64 (by omega)))<|r_pv rfl rfl (zK (z:=(((s.tb - (Sh.tm s r))*s.qa)+(((Sh.tm s r) - s.ta)*s.ra))) rfl rfl (w64 (by omega)))<|r_pv rfl rfl (zd rfl)<|r_pv rfl rfl (zh Tryz.underlying25 rfl sz3 rfl rfl)<|r_u rfl rfl (ze 1 ty3 rfl rfl rfl)<|r_pv rfl rfl (zGa (z:=((s.tb - (Sh.tm s r))*s.qb)) rfl rfl (w64 (by omega)))<|r_pv rfl rfl (zd rfl)<|r_pv rfl rfl (zh Tryz.underlying25 rfl sz3 rfl rfl)<|r_u rfl rfl (ze 0 ty3 rfl rfl rfl)<|r_pv rfl rfl (zGa (z:=(((Sh.tm s r) - s.ta)*s.rb)) rfl rfl (w64 (by omega)))<|r_pv rfl rfl (zK (z:=(((s.tb - (Sh.tm s r))*s.qb)+(((Sh.tm s r) - s.ta)*s.rb))) rfl rfl (w64 (by omega)))<|r_pv rfl rfl (zd rfl)<|r_pv rfl rfl (zh Tryz.underlying25 rfl sz3 rfl rfl)<|r_u rfl rfl (ze 1 ty3 rfl rfl rfl)<|r_pv rfl rfl (zGa (z:=((s.tb - (Sh.tm s r))*s.qc)) rfl rfl (w64 (by omega)))<|r_pv rfl rfl (zd rfl)<|r_pv rfl rfl (zh Tryz.underlying25 rfl sz3 rfl rfl)<|r_u rfl rfl (ze 0 ty3 rfl rfl rfl)<|r_pv rfl rfl (zGa (z:=(((Sh.tm s r) - s.ta)*s.rc)) rfl rfl (w64 (by omega)))<|r_pv rfl rfl (zK (z:=(((s.tb - (Sh.tm s r))*s.qc)+(((Sh.tm s r) - s.ta)*s.rc))) rfl rfl (w64 (by omega)))<|r_pv rfl rfl (zd rfl)<|r_pv rfl rfl (zh Tryz.underlying25 rfl sz3 rfl rfl)<|r_u rfl rfl (ze 1 ty3 rfl rfl rfl)<|r_pv rfl rfl (zGa (z:=((s.tb - (Sh.tm s r))*s.qd)) rfl rfl (w64 (by omega)))<|r_pv rfl rfl (zd rfl)<|r_pv rfl rfl (zh Tryz.underlying25 rfl sz3 rfl rfl)<|r_u rfl rfl (ze 0 ty3 rfl rfl rfl)<|r_pv rfl rfl (zGa (z:=(((Sh.tm s r) - s.ta)*s.rd)) rfl rfl (w64 (by omega)))<|r_pv rfl rfl (zK (z:=(((s.tb - (Sh.tm s r))*s.qd)+(((Sh.tm s r) - s.ta)*s.rd))) rfl rfl (w64 (by omega)))<|r_pv rfl rfl (zy zr25 rfl Tryz.underlying25 (.c sz3 (.c sz3 (.c sz3 (.c sz3 .n)))) (.c rfl (.c rfl (.c rfl (.c rfl .n)))) (.c rfl rfl rfl (.take .nil) (.c rfl rfl rfl (.skip (.take .nil)) (.c rfl rfl rfl (.skip (.skip (.take .nil))) (.c rfl rfl rfl (.skip (.skip (.skip (.take .nil)))) .n)))))<|zL rfl rfl (zr zr25 rfl) (fun b4=> ?_)
  refine zn 0 rfl rfl rfl rfl rfl sz25 rfl (.take (.take (.take (.take .nil)))) .z<|zm<|zg<|zj<|zj ?_
  have e5:((s.tb - (Sh.tm s r))*s.qa)+(((Sh.tm s r) - s.ta)*s.ra)=(Sh.raw s r).1:=by rfl
  rw [e5]
  have e6:((s.tb - (Sh.tm s r))*s.qb)+(((Sh.tm s r) - s.ta)*s.rb)=(Sh.raw s r).2.1:=by rfl
  rw [e6]
  have e7:((s.tb - (Sh.tm s r))*s.qc)+(((Sh.tm s r) - s.ta)*s.rc)=(Sh.raw s r).2.2.1:=by rfl
  rw [e7]
  have e8:((s.tb - (Sh.tm s r))*s.qd)+(((Sh.tm s r) - s.ta)*s.rd)=(Sh.raw s r).2.2.2:=by rfl
  rw [e8]
  refine zc<|r_pv rfl rfl (zh Tryz.underlying25 rfl sz3 rfl rfl)<|r_u rfl rfl (ze 0 ty3 rfl rfl rfl)<|r_pv rfl rfl (zh Tryz.underlying25 rfl sz3 rfl rfl)<|r_u rfl rfl (ze 0 ty3 rfl rfl rfl)<|r_pv rfl rfl (zh Tryz.underlying25 rfl sz3 rfl rfl)<|r_u rfl rfl (ze 0 ty3 rfl rfl rfl)<|r_pv rfl rfl (zh Tryz.underlying25 rfl sz3 rfl rfl)<|r_u rfl rfl (ze 0 ty3 rfl rfl rfl)<|zJa rfl rfl (zQ (enc:=fun z:Int=>[.int .i64 z]) (ok:=InK .i64) (h1:=fun _=>rfl) (h2:=fun _=>rfl) (k:=4) Tryz.underlying51 inf3 rfl (by decide) (by decide) (by decide) (.c (x:=((Sh.raw s r).1)) rfl rfl (fun _ _=>by exact zu.2 (by omega)) (.c (x:=((Sh.raw s r).2.1)) rfl rfl (fun _ _=>by exact zu.2 (by omega)) (.c (x:=((Sh.raw s r).2.2.1)) rfl rfl (fun _ _=>by exact zu.2 (by omega)) (.c (x:=((Sh.raw s r).2.2.2)) rfl rfl (fun _ _=>by exact zu.2 (by omega)) .n))))) (fun b9 _=> ?_)
  refine zla 0 rfl .z<|zY rfl rfl (.c rfl .n) ce69 (zMf (p:=some ⟨b9,0,none⟩) (n:=4) (cap:=4) (l:=[((Sh.raw s r).1),((Sh.raw s r).2.1),((Sh.raw s r).2.2.1),((Sh.raw s r).2.2.2)]) (hn:=by rfl) (hl:=by intro i hi;match i,hi with|0,_=>exact ⟨by show _≤(Sh.raw s r).1;omega,by show (Sh.raw s r).1≤_;omega⟩|1,_=>exact ⟨by show _≤(Sh.raw s r).2.1;omega,by show (Sh.raw s r).2.1≤_;omega⟩|2,_=>exact ⟨by show _≤(Sh.raw s r).2.2.1;omega,by show (Sh.raw s r).2.2.1≤_;omega⟩|3,_=>exact ⟨by show _≤(Sh.raw s r).2.2.2;omega,by show (Sh.raw s r).2.2.2≤_;omega⟩)) (.c (j:=0) rfl .n)<|r_pv rfl rfl (zi rfl)<|zm<|zg<|zj ?_
  have e10:((((Sh.gl ([((Sh.raw s r).1),((Sh.raw s r).2.1),((Sh.raw s r).2.2.1),((Sh.raw s r).2.2.2)])):Nat):Int):Int)=(((Sh.g4 (Sh.raw s r)):Nat):Int):=by rfl
  rw [e10]
  refine zc<|r_pv rfl rfl (zd rfl)<|r_pv rfl rfl (zUa rfl rfl)<|zm<|zg<|zV rfl (fun hg0=> ?_) (fun hg0=> ?_)
  ·
   have hg9:Sh.g4 (Sh.raw s r)≠0:=by omega
   have hd0:=Sh.tdiv_b (g:=Sh.g4 (Sh.raw s r)) hrw.1
   have hd1:=Sh.tdiv_b (g:=Sh.g4 (Sh.raw s r)) hrw.2.1
   have hd2:=Sh.tdiv_b (g:=Sh.g4 (Sh.raw s r)) hrw.2.2.1
   have hd3:=Sh.tdiv_b (g:=Sh.g4 (Sh.raw s r)) hrw.2.2.2
   refine zea (.c (i:=1) rfl (.c (i:=0) rfl (.c (i:=0) rfl (.c (i:=0) rfl (.c (i:=0) rfl (.c (i:=0) rfl .n))))))<|zW (OW:=[boxA b4 25 [.int .i64 ((Sh.raw s r).1),.int .i64 ((Sh.raw s r).2.1),.int .i64 ((Sh.raw s r).2.2.1),.int .i64 ((Sh.raw s r).2.2.2)]]) (O:=[emA,boxA u7_1 25 [.int .i64 (s.ra),.int .i64 (s.rb),.int .i64 (s.rc),.int .i64 (s.rd)],boxA u6_1 25 [.int .i64 (s.qa),.int .i64 (s.qb),.int .i64 (s.qc),.int .i64 (s.qd)],boxA b2 25 [.int .i64 0,.int .i64 0,.int .i64 0,.int .i64 0],boxA b1 29 (cS s)]) 17 mixed (.then .ret) (by kernel_rfl)<|d_pv 0 rfl rfl (by kernel_rfl) (by kernel_rfl) rfl rfl (zh Tryz.underlying25 rfl sz3 rfl rfl)<|d_uw 1 rfl rfl (by kernel_rfl) (by kernel_rfl) (by kernel_rfl) rfl rfl (ze 0 ty3 rfl rfl rfl)<|d_pv 2 rfl rfl (by kernel_rfl) (by kernel_rfl) rfl rfl (zd rfl)<|d_pv 3 rfl rfl (by kernel_rfl) (by kernel_rfl) rfl rfl (zRa (z:=((Sh.raw s r).1).tdiv (((Sh.g4 (Sh.raw s r)):Nat):Int)) rfl rfl (by omega) (w64 (by omega)))<|d_pv 4 rfl rfl (by kernel_rfl) (by kernel_rfl) rfl rfl (zh Tryz.underlying25 rfl sz3 rfl rfl)<|d_uw 5 rfl rfl (by kernel_rfl) (by kernel_rfl) (by kernel_rfl) rfl rfl (ze 0 ty3 rfl rfl rfl)<|d_pv 6 rfl rfl (by kernel_rfl) (by kernel_rfl) rfl rfl (zd rfl)<|d_pv 7 rfl rfl (by kernel_rfl) (by kernel_rfl) rfl rfl (zRa (z:=((Sh.raw s r).2.1).tdiv (((Sh.g4 (Sh.raw s r)):Nat):Int)) rfl rfl (by omega) (w64 (by omega)))<|d_pv 8 rfl rfl (by kernel_rfl) (by kernel_rfl) rfl rfl (zh Tryz.underlying25 rfl sz3 rfl rfl)<|d_uw 9 rfl rfl (by kernel_rfl) (by kernel_rfl) (by kernel_rfl) rfl rfl (ze 0 ty3 rfl rfl rfl)<|d_pv 10 rfl rfl (by kernel_rfl) (by kernel_rfl) rfl rfl (zd rfl)<|d_pv 11 rfl rfl (by kernel_rfl) (by kernel_rfl) rfl rfl (zRa (z:=((Sh.raw s r).2.2.1).tdiv (((Sh.g4 (Sh.raw s r)):Nat):Int)) rfl rfl (by omega) (w64 (by omega)))<|d_pv 12 rfl rfl (by kernel_rfl) (by kernel_rfl) rfl rfl (zh Tryz.underlying25 rfl sz3 rfl rfl)<|d_uw 13 rfl rfl (by kernel_rfl) (by kernel_rfl) (by kernel_rfl) rfl rfl (ze 0 ty3 rfl rfl rfl)<|d_pv 14 rfl rfl (by kernel_rfl) (by kernel_rfl) rfl rfl (zd rfl)<|d_pv 15 rfl rfl (by kernel_rfl) (by kernel_rfl) rfl rfl (zRa (z:=((Sh.raw s r).2.2.2).tdiv (((Sh.g4 (Sh.raw s r)):Nat):Int)) rfl rfl (by omega) (w64 (by omega)))<|d_pv 16 rfl rfl (by kernel_rfl) (by kernel_rfl) rfl rfl (zy zr25 rfl Tryz.underlying25 (.c sz3 (.c sz3 (.c sz3 (.c sz3 .n)))) (.c rfl (.c rfl (.c rfl (.c rfl .n)))) (.c rfl rfl rfl (.take .nil) (.c rfl rfl rfl (.skip (.take .nil)) (.c rfl rfl rfl (.skip (.skip (.take .nil))) (.c rfl rfl rfl (.skip (.skip (.skip (.take .nil)))) .n)))))<|zt 17 (by kernel_rfl) (zq (by kernel_rfl) rfl rfl rfl rfl rfl sz25 rfl (.take (.take (.take (.take .nil)))) ?_)
   refine zU (by kernel_rfl)<|zg<|zj<|zc<|r_u rfl rfl (zf 0 ty25 rfl rfl (.take (.take (.take (.take .nil)))))<|zn 4 rfl rfl rfl rfl rfl sz25 rfl (.take (.take (.take (.take .nil)))) (.s (.s (.s (.s .z))))<|zm<|zg<|zT ?_
   exact zO Tryz.results33 () trivial (zv 4 ty25 rfl rfl (.take (.take (.take (.take .nil))))) rfl (ho:=(.n:PickO _ _ _)) (.n:SelR _ _ _)
  ·
   refine zD<|zg<|zj<|zc<|r_u rfl rfl (zf 1 ty25 rfl rfl (.take (.take (.take (.take .nil)))))<|zn 4 rfl rfl rfl rfl rfl sz25 rfl (.take (.take (.take (.take .nil)))) (.s (.s (.s (.s .z))))<|zm<|zg<|zT ?_
   exact zO Tryz.results33 () trivial (zv 4 ty25 rfl rfl (.take (.take (.take (.take .nil))))) (by rw [show Sh.rot s r=Sh.raw s r from Sh.red_raw (by omega)]) (ho:=(.n:PickO _ _ _)) (.n:SelR _ _ _)
 refine zja (X:=Nat×Nat) (k':=1) (L':=(lb 10 511)) (fun (u6_1,u7_1)=>([(9,.pointer (some ⟨u7_1,0,none⟩)),(8,.pointer (some ⟨u6_1,0,none⟩)),(34,.agg #[.int .i64 (s.ra),.int .i64 (s.rb),.int .i64 (s.rc),.int .i64 (s.rd)]),(7,.int .i64 ((Sh.tm s r) - s.ta)),(6,.int .i64 (s.tb - (Sh.tm s r))),(4,.pointer (some ⟨b2,0,none⟩))],[boxA u6_1 25 [.int .i64 (s.qa),.int .i64 (s.qb),.int .i64 (s.qc),.int .i64 (s.qd)],boxA u7_1 25 [.int .i64 0,.int .i64 0,.int .i64 0,.int .i64 0]],[boxA b2 25 [.int .i64 0,.int .i64 0,.int .i64 0,.int .i64 0],boxA b1 29 (cS s)],[])) ?_ (fun hD1=> ?_)
 ·
  rintro ⟨u6_1,u7_1⟩
  dsimp only [cw,cS]
  refine zt 9 (by kernel_rfl) ?_
  ·
   refine zqd (zsa (i:=1) rfl)<|zq (by kernel_rfl) rfl rfl rfl rfl rfl sz25 rfl (.take (.take (.take (.take .nil)))) ?_
   exact zP (hD0 (u6_1,u7_1)) (by kernel_rfl) ((.of rfl):SubM _ _) .rfl .rfl (.n:SelR _ _ _)
 refine zja (X:=Nat×Nat) (k':=2) (L':=(lb 10 255)) (fun (u6_1,u7_1)=>([(9,.pointer (some ⟨u7_1,0,none⟩)),(8,.pointer (some ⟨u6_1,0,none⟩)),(34,.agg #[.int .i64 (s.ra),.int .i64 (s.rb),.int .i64 (s.rc),.int .i64 (s.rd)]),(31,.agg #[.int .i64 (s.qa),.int .i64 (s.qb),.int .i64 (s.qc),.int .i64 (s.qd)]),(7,.int .i64 ((Sh.tm s r) - s.ta)),(6,.int .i64 (s.tb - (Sh.tm s r))),(4,.pointer (some ⟨b2,0,none⟩))],[boxA u7_1 25 [.int .i64 0,.int .i64 0,.int .i64 0,.int .i64 0],boxA u6_1 25 [.int .i64 0,.int .i64 0,.int .i64 0,.int .i64 0]],[boxA b2 25 [.int .i64 0,.int .i64 0,.int .i64 0,.int .i64 0],boxA b1 29 (cS s)],[])) ?_ (fun hD2=> ?_)
 ·
  rintro ⟨u6_1,u7_1⟩
  dsimp only [cw,cS]
  refine zt 8 (by kernel_rfl) ?_
  ·
   refine zqd (zsa (i:=1) rfl)<|zq (by kernel_rfl) rfl rfl rfl rfl rfl sz25 rfl (.take (.take (.take (.take .nil)))) ?_
   exact zP (hD1 (u6_1,u7_1)) (by kernel_rfl) ((.of rfl):SubM _ _) .rfl .rfl (.n:SelR _ _ _)
 refine zja (X:=Nat) (k':=3) (L':=(lb 10 127)) (fun u6_1=>([(8,.pointer (some ⟨u6_1,0,none⟩)),(34,.agg #[.int .i64 (s.ra),.int .i64 (s.rb),.int .i64 (s.rc),.int .i64 (s.rd)]),(31,.agg #[.int .i64 (s.qa),.int .i64 (s.qb),.int .i64 (s.qc),.int .i64 (s.qd)]),(7,.int .i64 ((Sh.tm s r) - s.ta)),(6,.int .i64 (s.tb - (Sh.tm s r))),(4,.pointer (some ⟨b2,0,none⟩))],[boxA u6_1 25 [.int .i64 0,.int .i64 0,.int .i64 0,.int .i64 0]],[boxA b2 25 [.int .i64 0,.int .i64 0,.int .i64 0,.int .i64 0],boxA b1 29 (cS s)],[])) ?_ (fun hD3=> ?_)
 ·
  rintro u6_1
  dsimp only [cw,cS]
  refine zt 7 (by kernel_rfl) ?_
  ·
   refine zwa rfl rfl rfl rfl (zr zr25 rfl) (fun u7_1 _=> ?_)
   exact zP (hD2 (u6_1,u7_1)) (by kernel_rfl) ((.of rfl):SubM _ _) .rfl .rfl (.n:SelR _ _ _)
 refine zja (X:=Nat) (k':=3) (L':=(lb 10 191)) (fun u7_1=>([(9,.pointer (some ⟨u7_1,0,none⟩)),(34,.agg #[.int .i64 (s.ra),.int .i64 (s.rb),.int .i64 (s.rc),.int .i64 (s.rd)]),(31,.agg #[.int .i64 (s.qa),.int .i64 (s.qb),.int .i64 (s.qc),.int .i64 (s.qd)]),(7,.int .i64 ((Sh.tm s r) - s.ta)),(6,.int .i64 (s.tb - (Sh.tm s r))),(4,.pointer (some ⟨b2,0,none⟩))],[boxA u7_1 25 [.int .i64 0,.int .i64 0,.int .i64 0,.int .i64 0]],[boxA b2 25 [.int .i64 0,.int .i64 0,.int .i64 0,.int .i64 0],boxA b1 29 (cS s)],[])) ?_ (fun hD4=> ?_)
 ·
  rintro u7_1
  dsimp only [cw,cS]
  refine zt 6 (by kernel_rfl) ?_
  ·
   refine zwa rfl rfl rfl rfl (zr zr25 rfl) (fun u6_1 _=> ?_)
   exact zP (hD2 (u6_1,u7_1)) (by kernel_rfl) ((.of rfl):SubM _ _) (zCc 1 rfl (zCc 0 rfl .nil)) .rfl (.n:SelR _ _ _)
 refine zqb 6 7 (by kernel_rfl) ?_ ?_
 ·
  refine zwa rfl rfl rfl rfl (zr zr25 rfl) (fun u6_1 _=> ?_)
  exact zP (hD3 u6_1) (by kernel_rfl) ((.of rfl):SubM _ _) .rfl .rfl (.n:SelR _ _ _)
 ·
  refine zwa rfl rfl rfl rfl (zr zr25 rfl) (fun u7_1 _=> ?_)
  exact zP (hD4 u7_1) (by kernel_rfl) ((.of rfl):SubM _ _) .rfl .rfl (.n:SelR _ _ _)
end Go.Proofs.YtjeahiahjgifgaaGreatDoor.Sp
namespace Go.Proofs.YtjeahiahjgifgaaGreatDoor.Sp
open Go
set_option linter.unusedVariables false
set_option maxRecDepth 100000
set_option maxHeartbeats 8000000
theorem zze {s:Sh.S} {n:Int} (hfi: -9223372036854775808≤s.fi∧s.fi≤9223372036854775807) (hst: -9223372036854775808≤s.st∧s.st≤9223372036854775807) (hta: -9223372036854775808≤s.ta∧s.ta≤9223372036854775807) (htb: -9223372036854775808≤s.tb∧s.tb≤9223372036854775807) (hxa: -9223372036854775808≤s.xa∧s.xa≤9223372036854775807) (hya: -9223372036854775808≤s.ya∧s.ya≤9223372036854775807) (hza: -9223372036854775808≤s.za∧s.za≤9223372036854775807) (hqa: -9223372036854775808≤s.qa∧s.qa≤9223372036854775807) (hqb: -9223372036854775808≤s.qb∧s.qb≤9223372036854775807) (hqc: -9223372036854775808≤s.qc∧s.qc≤9223372036854775807) (hqd: -9223372036854775808≤s.qd∧s.qd≤9223372036854775807) (hxb: -9223372036854775808≤s.xb∧s.xb≤9223372036854775807) (hyb: -9223372036854775808≤s.yb∧s.yb≤9223372036854775807) (hzb: -9223372036854775808≤s.zb∧s.zb≤9223372036854775807) (hra: -9223372036854775808≤s.ra∧s.ra≤9223372036854775807) (hrb: -9223372036854775808≤s.rb∧s.rb≤9223372036854775807) (hrc: -9223372036854775808≤s.rc∧s.rc≤9223372036854775807) (hrd: -9223372036854775808≤s.rd∧s.rd≤9223372036854775807):Con Tryz.prog 13 [.agg #[.int .i64 (s.fi),.int .i64 (s.st),.int .i64 (s.ta),.int .i64 (s.xa),.int .i64 (s.ya),.int .i64 (s.za),.int .i64 (s.qa),.int .i64 (s.qb),.int .i64 (s.qc),.int .i64 (s.qd),.int .i64 (s.tb),.int .i64 (s.xb),.int .i64 (s.yb),.int .i64 (s.zb),.int .i64 (s.ra),.int .i64 (s.rb),.int .i64 (s.rc),.int .i64 (s.rd)],.int .i64 n] [] [] (Y:=Unit) (fun y=>True) (fun y=> .int .i64 (Sh.chk s n)) (fun y=>[]) (fun y=>[]):=by
 refine zA Tryz.func13 rfl rfl rfl (fun c=> ?_)
 show RunC _ _ _ _ _ [(0,.agg #[.int .i64 (s.fi),.int .i64 (s.st),.int .i64 (s.ta),.int .i64 (s.xa),.int .i64 (s.ya),.int .i64 (s.za),.int .i64 (s.qa),.int .i64 (s.qb),.int .i64 (s.qc),.int .i64 (s.qd),.int .i64 (s.tb),.int .i64 (s.xb),.int .i64 (s.yb),.int .i64 (s.zb),.int .i64 (s.ra),.int .i64 (s.rb),.int .i64 (s.rc),.int .i64 (s.rd)]),(1,.int .i64 n)] [] []
 refine zj<|zc<|zL rfl rfl (zfa rfl rfl) (fun b1=> ?_)
 refine r_pv rfl rfl (zi rfl)<|zm<|zg<|zj<|zIa (X:=Unit) (fun x=>True) (fun x=>[(28,.bool (decide (n<1∨64<n∨¬Sh.okN s))),(4,.int .i64 0),(2,.pointer (some ⟨b1,0,none⟩)),(1,.int .i64 n)]) (fun x=>[boxA b1 29 (cS s)]) (fun x=>[]) ?_ ?_
 ·
  refine zc<|r_pv rfl rfl (zd rfl)<|r_pv rfl rfl (zX rfl rfl)<|zoa rfl rfl (zd rfl) (fun g1=> ?_) (fun g1=> ?_)
  ·
   refine zl rfl rfl<|zl rfl rfl<|r_pv rfl rfl (zS rfl rfl)<|r_pv rfl rfl (zd rfl)<|zl rfl rfl<|zl rfl rfl<|zl rfl rfl<|zl rfl rfl<|zl rfl rfl<|zl rfl rfl<|zl rfl rfl<|zl rfl rfl<|zl rfl rfl<|zl rfl rfl<|zl rfl rfl<|zl rfl rfl<|zl rfl rfl<|r_pv rfl rfl (zS rfl rfl)<|zm ?_
   exact zna () (show True from by first|trivial|omega|simp_all) ((.e rfl (congrArg Value.bool (by first|exact (decide_eq_true (Or.inl g1)).symm|exact (decide_eq_true (Or.inr (Or.inl g2))).symm|exact decide_eq_decide.2 ⟨fun k=>Or.inr (Or.inr k),fun k=>k.elim (fun e=>absurd e g1) (fun k=>k.elim (fun e=>absurd e g2) _root_.id)⟩)) (.of rfl)):SubM _ _) (ho:=((.c (i:=0) rfl .n):PickO _ _ _)) (.n:SelR _ _ _)
  ·
   refine r_pv rfl rfl (zd rfl)<|r_pv rfl rfl (zUa rfl rfl)<|r_pv rfl rfl (zS rfl rfl)<|zoa rfl rfl (zd rfl) (fun g2=> ?_) (fun g2=> ?_)
   ·
    refine zl rfl rfl<|zl rfl rfl<|zl rfl rfl<|zl rfl rfl<|zl rfl rfl<|zl rfl rfl<|zl rfl rfl<|zl rfl rfl<|zl rfl rfl<|zl rfl rfl<|zl rfl rfl<|zl rfl rfl<|zl rfl rfl<|r_pv rfl rfl (zS rfl rfl)<|zm ?_
    exact zna () (show True from by first|trivial|omega|simp_all) ((.e rfl (congrArg Value.bool (by first|exact (decide_eq_true (Or.inl g1)).symm|exact (decide_eq_true (Or.inr (Or.inl g2))).symm|exact decide_eq_decide.2 ⟨fun k=>Or.inr (Or.inr k),fun k=>k.elim (fun e=>absurd e g1) (fun k=>k.elim (fun e=>absurd e g2) _root_.id)⟩)) (.of rfl)):SubM _ _) (ho:=((.c (i:=0) rfl .n):PickO _ _ _)) (.n:SelR _ _ _)
   ·
    refine r_pv rfl rfl (zh Tryz.underlying29 rfl sz3 rfl rfl)<|r_u rfl rfl (ze 0 ty3 rfl rfl rfl)<|r_pv rfl rfl (zh Tryz.underlying29 rfl sz3 rfl rfl)<|r_u rfl rfl (ze 0 ty3 rfl rfl rfl)<|r_pv rfl rfl (zh Tryz.underlying29 rfl sz27 rfl rfl)<|r_pv rfl rfl (zh Tryz.underlying27 rfl sz3 rfl rfl)<|r_u rfl rfl (ze 0 ty3 rfl rfl rfl)<|r_pv rfl rfl (zh Tryz.underlying29 rfl sz27 rfl rfl)<|r_pv rfl rfl (zh Tryz.underlying27 rfl sz3 rfl rfl)<|r_u rfl rfl (ze 0 ty3 rfl rfl rfl)<|zJa rfl rfl (zQ (enc:=fun z:Int=>[.int .i64 z]) (ok:=InK .i64) (h1:=fun _=>rfl) (h2:=fun _=>rfl) (k:=4) Tryz.underlying51 inf3 rfl (by decide) (by decide) (by decide) (.c (x:=s.fi) rfl rfl (fun _ _=>by exact zu.2 (by omega)) (.c (x:=s.st) rfl rfl (fun _ _=>by exact zu.2 (by omega)) (.c (x:=s.ta) rfl rfl (fun _ _=>by exact zu.2 (by omega)) (.c (x:=s.tb) rfl rfl (fun _ _=>by exact zu.2 (by omega)) .n))))) (fun b2 _=> ?_)
    refine zla 0 rfl .z<|zY rfl rfl (.c rfl (.c rfl .n)) ce23 (zxb (p:=some ⟨b2,0,none⟩) (n:=4) (cap:=4) (l:=[s.fi,s.st,s.ta,s.tb]) (m:=1073741824) (hn:=by first|rfl|assumption|decide|omega) (hm:=by first|rfl|assumption|decide|omega)) (.c (j:=0) rfl .n)<|r_pv rfl rfl (zMa rfl)<|r_pv rfl rfl (zS rfl rfl)<|zm ?_
    exact zna () (show True from by first|trivial|omega|simp_all) ((.e rfl (congrArg Value.bool (by first|exact (decide_eq_true (Or.inl g1)).symm|exact (decide_eq_true (Or.inr (Or.inl g2))).symm|exact decide_eq_decide.2 ⟨fun k=>Or.inr (Or.inr k),fun k=>k.elim (fun e=>absurd e g1) (fun k=>k.elim (fun e=>absurd e g2) _root_.id)⟩)) (.of rfl)):SubM _ _) (ho:=((.c (i:=1) rfl .n):PickO _ _ _)) (.n:SelR _ _ _)
 ·
  rintro ⟨⟩ -
  try dsimp only
  refine zV rfl (fun h1=> ?_) (fun h1=> ?_)
  ·
   refine zj<|zc<|r_pv rfl rfl (zi rfl)<|zm<|zg<|zT<|zw ?_
   exact zO Tryz.results13 () trivial (zH rfl) (by rw [Sh.chk_1 h1]) (ho:=(.n:PickO _ _ _)) (.n:SelR _ _ _)
  ·
   refine zD<|zg<|zj<|zj<|zc<|r_pv rfl rfl (zh Tryz.underlying29 rfl sz27 rfl rfl)<|r_u rfl rfl (zf 0 ty27 rfl rfl (.skip (.skip (.take (.take (.take (.take (.take (.take (.take (.take .nil)))))))))))<|r_pv rfl rfl (zh Tryz.underlying29 rfl sz27 rfl rfl)<|r_u rfl rfl (zf 0 ty27 rfl rfl (.skip (.skip (.skip (.skip (.skip (.skip (.skip (.skip (.skip (.skip (.take (.take (.take (.take (.take (.take (.take (.take .nil)))))))))))))))))))<|zJa rfl rfl (zQ (enc:=fun z:Ep=>[.int .i64 z.tm,.int .i64 z.x,.int .i64 z.y,.int .i64 z.z,.int .i64 z.a,.int .i64 z.b,.int .i64 z.c,.int .i64 z.d]) (ok:=okEp .i64) (h1:=fun _=>rfl) (h2:=fun _=>rfl) (k:=2) Tryz.underlying92 inf27 rfl (by decide) (by decide) (by decide) (.c (x:=(⟨s.ta,s.xa,s.ya,s.za,s.qa,s.qb,s.qc,s.qd⟩:Ep)) rfl rfl (fun _ _=>by exact ⟨zu.2 (by first|omega|decide|(dsimp only;omega)),zu.2 (by first|omega|decide|(dsimp only;omega)),zu.2 (by first|omega|decide|(dsimp only;omega)),zu.2 (by first|omega|decide|(dsimp only;omega)),zu.2 (by first|omega|decide|(dsimp only;omega)),zu.2 (by first|omega|decide|(dsimp only;omega)),zu.2 (by first|omega|decide|(dsimp only;omega)),zu.2 (by first|omega|decide|(dsimp only;omega))⟩) (.c (x:=(⟨s.tb,s.xb,s.yb,s.zb,s.ra,s.rb,s.rc,s.rd⟩:Ep)) rfl rfl (fun _ _=>by exact ⟨zu.2 (by first|omega|decide|(dsimp only;omega)),zu.2 (by first|omega|decide|(dsimp only;omega)),zu.2 (by first|omega|decide|(dsimp only;omega)),zu.2 (by first|omega|decide|(dsimp only;omega)),zu.2 (by first|omega|decide|(dsimp only;omega)),zu.2 (by first|omega|decide|(dsimp only;omega)),zu.2 (by first|omega|decide|(dsimp only;omega)),zu.2 (by first|omega|decide|(dsimp only;omega))⟩) .n))) (fun b3 _=> ?_)
   refine r_pv rfl rfl (zha Tryz.underlying92 rfl)<|r_pv rfl rfl (zd rfl)<|zm<|zg<|zx<|zQa<|zca<|zj<|zc<|r_pv rfl rfl (zX rfl rfl)<|zm<|zg<|zj<|zda rfl rfl<|zD<|zg<|zj<|zx<|zj<|zc<|r_pv rfl rfl (zra (j:=0) Tryz.underlying92 sz27 rfl rfl rfl (by first|omega|(simp;done)))<|r_vl rfl rfl (zob 0 0 rfl ty27 rfl rfl (gD (d:=ep0) (by first|omega|(simp;done)))) (fun _ hok4=> ?_)
   obtain ⟨hok40,hok41,hok42,hok43,hok44,hok45,hok46,hok47⟩:=hok4
   replace hok40:=zu.1 hok40
   replace hok41:=zu.1 hok41
   replace hok42:=zu.1 hok42
   replace hok43:=zu.1 hok43
   replace hok44:=zu.1 hok44
   replace hok45:=zu.1 hok45
   replace hok46:=zu.1 hok46
   replace hok47:=zu.1 hok47
   refine zL rfl rfl (zr zr27 rfl) (fun b5=> ?_)
   refine zn 0 rfl rfl rfl rfl rfl sz27 rfl (.take (.take (.take (.take (.take (.take (.take (.take .nil)))))))) .z<|zm<|zg ?_
   have e6:((([(⟨s.ta,s.xa,s.ya,s.za,s.qa,s.qb,s.qc,s.qd⟩:Ep),(⟨s.tb,s.xb,s.yb,s.zb,s.ra,s.rb,s.rc,s.rd⟩:Ep)]).getD 0 ep0).tm:Int)=s.ta:=by rfl
   rw [e6]
   have e7:((([(⟨s.ta,s.xa,s.ya,s.za,s.qa,s.qb,s.qc,s.qd⟩:Ep),(⟨s.tb,s.xb,s.yb,s.zb,s.ra,s.rb,s.rc,s.rd⟩:Ep)]).getD 0 ep0).x:Int)=s.xa:=by rfl
   rw [e7]
   have e8:((([(⟨s.ta,s.xa,s.ya,s.za,s.qa,s.qb,s.qc,s.qd⟩:Ep),(⟨s.tb,s.xb,s.yb,s.zb,s.ra,s.rb,s.rc,s.rd⟩:Ep)]).getD 0 ep0).y:Int)=s.ya:=by rfl
   rw [e8]
   have e9:((([(⟨s.ta,s.xa,s.ya,s.za,s.qa,s.qb,s.qc,s.qd⟩:Ep),(⟨s.tb,s.xb,s.yb,s.zb,s.ra,s.rb,s.rc,s.rd⟩:Ep)]).getD 0 ep0).z:Int)=s.za:=by rfl
   rw [e9]
   have e10:((([(⟨s.ta,s.xa,s.ya,s.za,s.qa,s.qb,s.qc,s.qd⟩:Ep),(⟨s.tb,s.xb,s.yb,s.zb,s.ra,s.rb,s.rc,s.rd⟩:Ep)]).getD 0 ep0).a:Int)=s.qa:=by rfl
   rw [e10]
   have e11:((([(⟨s.ta,s.xa,s.ya,s.za,s.qa,s.qb,s.qc,s.qd⟩:Ep),(⟨s.tb,s.xb,s.yb,s.zb,s.ra,s.rb,s.rc,s.rd⟩:Ep)]).getD 0 ep0).b:Int)=s.qb:=by rfl
   rw [e11]
   have e12:((([(⟨s.ta,s.xa,s.ya,s.za,s.qa,s.qb,s.qc,s.qd⟩:Ep),(⟨s.tb,s.xb,s.yb,s.zb,s.ra,s.rb,s.rc,s.rd⟩:Ep)]).getD 0 ep0).c:Int)=s.qc:=by rfl
   rw [e12]
   have e13:((([(⟨s.ta,s.xa,s.ya,s.za,s.qa,s.qb,s.qc,s.qd⟩:Ep),(⟨s.tb,s.xb,s.yb,s.zb,s.ra,s.rb,s.rc,s.rd⟩:Ep)]).getD 0 ep0).d:Int)=s.qd:=by rfl
   rw [e13]
   refine zIa (X:=Unit) (fun x=>True) (fun x=>[(67,.bool (decide ((¬(Sh.wi 1048576 ([s.xa,s.ya,s.za])))∨(¬(Sh.wi 32768 ([s.qa,s.qb,s.qc,s.qd])))))),(6,.pointer (some ⟨b5,0,none⟩)),(38,.agg #[.int .i64 (s.ta),.int .i64 (s.xa),.int .i64 (s.ya),.int .i64 (s.za),.int .i64 (s.qa),.int .i64 (s.qb),.int .i64 (s.qc),.int .i64 (s.qd)]),(37,rowPtr (some ⟨b3,0,none⟩) (0*8)),(36,.bool true),(35,.int .i64 0),(34,.int .i64 2),(33,.slice (some ⟨b3,0,none⟩) 2 2),(4,.int .i64 0),(2,.pointer (some ⟨b1,0,none⟩)),(1,.int .i64 n)]) (fun x=>[boxA b5 27 [.int .i64 (s.ta),.int .i64 (s.xa),.int .i64 (s.ya),.int .i64 (s.za),.int .i64 (s.qa),.int .i64 (s.qb),.int .i64 (s.qc),.int .i64 (s.qd)],rowA 27 (rI8 .i64) (some ⟨b3,0,none⟩) 2 ([(⟨s.ta,s.xa,s.ya,s.za,s.qa,s.qb,s.qc,s.qd⟩:Ep),(⟨s.tb,s.xb,s.yb,s.zb,s.ra,s.rb,s.rc,s.rd⟩:Ep)]),boxA b1 29 (cS s)]) (fun x=>[]) ?_ ?_
   ·
    refine zc<|r_pv rfl rfl (zh Tryz.underlying27 rfl sz23 rfl rfl)<|r_pv rfl rfl (zh Tryz.underlying23 rfl sz3 rfl rfl)<|r_u rfl rfl (ze 0 ty3 rfl rfl rfl)<|r_pv rfl rfl (zh Tryz.underlying27 rfl sz23 rfl rfl)<|r_pv rfl rfl (zh Tryz.underlying23 rfl sz3 rfl rfl)<|r_u rfl rfl (ze 0 ty3 rfl rfl rfl)<|r_pv rfl rfl (zh Tryz.underlying27 rfl sz23 rfl rfl)<|r_pv rfl rfl (zh Tryz.underlying23 rfl sz3 rfl rfl)<|r_u rfl rfl (ze 0 ty3 rfl rfl rfl)<|zJa rfl rfl (zQ (enc:=fun z:Int=>[.int .i64 z]) (ok:=InK .i64) (h1:=fun _=>rfl) (h2:=fun _=>rfl) (k:=3) Tryz.underlying51 inf3 rfl (by decide) (by decide) (by decide) (.c (x:=s.xa) rfl rfl (fun _ _=>by exact zu.2 (by omega)) (.c (x:=s.ya) rfl rfl (fun _ _=>by exact zu.2 (by omega)) (.c (x:=s.za) rfl rfl (fun _ _=>by exact zu.2 (by omega)) .n)))) (fun b14 _=> ?_)
    refine zla 0 rfl .z<|zY rfl rfl (.c rfl (.c rfl .n)) ce23 (zxb (p:=some ⟨b14,0,none⟩) (n:=3) (cap:=3) (l:=[s.xa,s.ya,s.za]) (m:=1048576) (hn:=by first|rfl|assumption|decide|omega) (hm:=by first|rfl|assumption|decide|omega)) (.c (j:=0) rfl .n)<|r_pv rfl rfl (zMa rfl)<|zoa rfl rfl (zd rfl) (fun h15=> ?_) (fun h15=> ?_)
    ·
     refine zl rfl rfl<|zl rfl rfl<|zl rfl rfl<|zl rfl rfl<|zl rfl rfl<|zl rfl rfl<|zl rfl rfl<|zl rfl rfl<|zl rfl rfl<|zl rfl rfl<|zl rfl rfl<|zl rfl rfl<|zl rfl rfl<|zl rfl rfl<|zl rfl rfl<|r_pv rfl rfl (zS rfl rfl)<|zm ?_
     exact zna () (show True from by first|trivial|omega|simp_all) ((.e rfl (congrArg Value.bool (by first|(simp_all;done)|(simp_all;omega)|(simp;omega)|omega)) (.of rfl)):SubM _ _) (ho:=((.of [1,1,1] rfl):PickO _ _ _)) (.n:SelR _ _ _)
    ·
     refine r_pv rfl rfl (zh Tryz.underlying27 rfl sz25 rfl rfl)<|r_pv rfl rfl (zh Tryz.underlying25 rfl sz3 rfl rfl)<|r_u rfl rfl (ze 1 ty3 rfl rfl rfl)<|r_pv rfl rfl (zh Tryz.underlying27 rfl sz25 rfl rfl)<|r_pv rfl rfl (zh Tryz.underlying25 rfl sz3 rfl rfl)<|r_u rfl rfl (ze 1 ty3 rfl rfl rfl)<|r_pv rfl rfl (zh Tryz.underlying27 rfl sz25 rfl rfl)<|r_pv rfl rfl (zh Tryz.underlying25 rfl sz3 rfl rfl)<|r_u rfl rfl (ze 1 ty3 rfl rfl rfl)<|r_pv rfl rfl (zh Tryz.underlying27 rfl sz25 rfl rfl)<|r_pv rfl rfl (zh Tryz.underlying25 rfl sz3 rfl rfl)<|r_u rfl rfl (ze 1 ty3 rfl rfl rfl)<|zJa rfl rfl (zQ (enc:=fun z:Int=>[.int .i64 z]) (ok:=InK .i64) (h1:=fun _=>rfl) (h2:=fun _=>rfl) (k:=4) Tryz.underlying51 inf3 rfl (by decide) (by decide) (by decide) (.c (x:=s.qa) rfl rfl (fun _ _=>by exact zu.2 (by omega)) (.c (x:=s.qb) rfl rfl (fun _ _=>by exact zu.2 (by omega)) (.c (x:=s.qc) rfl rfl (fun _ _=>by exact zu.2 (by omega)) (.c (x:=s.qd) rfl rfl (fun _ _=>by exact zu.2 (by omega)) .n))))) (fun b16 _=> ?_)
     refine zla 0 rfl .z<|zY rfl rfl (.c rfl (.c rfl .n)) ce23 (zxb (p:=some ⟨b16,0,none⟩) (n:=4) (cap:=4) (l:=[s.qa,s.qb,s.qc,s.qd]) (m:=32768) (hn:=by first|rfl|assumption|decide|omega) (hm:=by first|rfl|assumption|decide|omega)) (.c (j:=0) rfl .n)<|r_pv rfl rfl (zMa rfl)<|r_pv rfl rfl (zS rfl rfl)<|zm ?_
     exact zna () (show True from by first|trivial|omega|simp_all) ((.e rfl (congrArg Value.bool (by first|(simp_all;done)|(simp_all;omega)|(simp;omega)|omega)) (.of rfl)):SubM _ _) (ho:=((.of [2,2,2] rfl):PickO _ _ _)) (.n:SelR _ _ _)
   ·
    rintro ⟨⟩ -
    try dsimp only
    refine zV rfl (fun hA=> ?_) (fun hA=> ?_)
    ·
     have hbad:¬Sh.okA s:=fun k=>hA.elim (fun e=>e k.1) (fun e=>e k.2)
     refine zj<|zc<|r_pv rfl rfl (zi rfl)<|zm<|zg<|zT<|zga<|zw<|zw<|zga<|zw ?_
     exact zO Tryz.results13 () trivial (zH rfl) (by rw [Sh.chk_2 h1 hbad]) (ho:=(.n:PickO _ _ _)) (.n:SelR _ _ _)
    ·
     have hokA:Sh.okA s:=⟨Decidable.not_not.1 (fun e=>hA (Or.inl e)),Decidable.not_not.1 (fun e=>hA (Or.inr e))⟩
     refine zD<|zN<|zg<|zc<|r_pv rfl rfl (zK (z:=1) rfl rfl (w64 (by decide)))<|r_pv rfl rfl (zd rfl)<|zm<|zia<|zca<|zj<|zc<|r_pv rfl rfl (zX rfl rfl)<|zm<|zg<|zj<|zda rfl rfl<|zD<|zg<|zj<|zx<|zj<|zc<|r_pv rfl rfl (zra (j:=1) Tryz.underlying92 sz27 rfl rfl rfl (by first|omega|(simp;done)))<|r_vl rfl rfl (zob 1 1 rfl ty27 rfl rfl (gD (d:=ep0) (by first|omega|(simp;done)))) (fun _ hok17=> ?_)
     obtain ⟨hok170,hok171,hok172,hok173,hok174,hok175,hok176,hok177⟩:=hok17
     replace hok170:=zu.1 hok170
     replace hok171:=zu.1 hok171
     replace hok172:=zu.1 hok172
     replace hok173:=zu.1 hok173
     replace hok174:=zu.1 hok174
     replace hok175:=zu.1 hok175
     replace hok176:=zu.1 hok176
     replace hok177:=zu.1 hok177
     refine zL rfl rfl (zr zr27 rfl) (fun b18=> ?_)
     refine zn 0 rfl rfl rfl rfl rfl sz27 rfl (.take (.take (.take (.take (.take (.take (.take (.take .nil)))))))) .z<|zm<|zg ?_
     have e19:((([(⟨s.ta,s.xa,s.ya,s.za,s.qa,s.qb,s.qc,s.qd⟩:Ep),(⟨s.tb,s.xb,s.yb,s.zb,s.ra,s.rb,s.rc,s.rd⟩:Ep)]).getD 1 ep0).tm:Int)=s.tb:=by rfl
     rw [e19]
     have e20:((([(⟨s.ta,s.xa,s.ya,s.za,s.qa,s.qb,s.qc,s.qd⟩:Ep),(⟨s.tb,s.xb,s.yb,s.zb,s.ra,s.rb,s.rc,s.rd⟩:Ep)]).getD 1 ep0).x:Int)=s.xb:=by rfl
     rw [e20]
     have e21:((([(⟨s.ta,s.xa,s.ya,s.za,s.qa,s.qb,s.qc,s.qd⟩:Ep),(⟨s.tb,s.xb,s.yb,s.zb,s.ra,s.rb,s.rc,s.rd⟩:Ep)]).getD 1 ep0).y:Int)=s.yb:=by rfl
     rw [e21]
     have e22:((([(⟨s.ta,s.xa,s.ya,s.za,s.qa,s.qb,s.qc,s.qd⟩:Ep),(⟨s.tb,s.xb,s.yb,s.zb,s.ra,s.rb,s.rc,s.rd⟩:Ep)]).getD 1 ep0).z:Int)=s.zb:=by rfl
     rw [e22]
     have e23:((([(⟨s.ta,s.xa,s.ya,s.za,s.qa,s.qb,s.qc,s.qd⟩:Ep),(⟨s.tb,s.xb,s.yb,s.zb,s.ra,s.rb,s.rc,s.rd⟩:Ep)]).getD 1 ep0).a:Int)=s.ra:=by rfl
     rw [e23]
     have e24:((([(⟨s.ta,s.xa,s.ya,s.za,s.qa,s.qb,s.qc,s.qd⟩:Ep),(⟨s.tb,s.xb,s.yb,s.zb,s.ra,s.rb,s.rc,s.rd⟩:Ep)]).getD 1 ep0).b:Int)=s.rb:=by rfl
     rw [e24]
     have e25:((([(⟨s.ta,s.xa,s.ya,s.za,s.qa,s.qb,s.qc,s.qd⟩:Ep),(⟨s.tb,s.xb,s.yb,s.zb,s.ra,s.rb,s.rc,s.rd⟩:Ep)]).getD 1 ep0).c:Int)=s.rc:=by rfl
     rw [e25]
     have e26:((([(⟨s.ta,s.xa,s.ya,s.za,s.qa,s.qb,s.qc,s.qd⟩:Ep),(⟨s.tb,s.xb,s.yb,s.zb,s.ra,s.rb,s.rc,s.rd⟩:Ep)]).getD 1 ep0).d:Int)=s.rd:=by rfl
     rw [e26]
     refine zIa (X:=Unit) (fun x=>True) (fun x=>[(67,.bool (decide ((¬(Sh.wi 1048576 ([s.xb,s.yb,s.zb])))∨(¬(Sh.wi 32768 ([s.ra,s.rb,s.rc,s.rd])))))),(6,.pointer (some ⟨b18,0,none⟩)),(38,.agg #[.int .i64 (s.tb),.int .i64 (s.xb),.int .i64 (s.yb),.int .i64 (s.zb),.int .i64 (s.ra),.int .i64 (s.rb),.int .i64 (s.rc),.int .i64 (s.rd)]),(37,rowPtr (some ⟨b3,0,none⟩) (1*8)),(36,.bool true),(35,.int .i64 1),(68,.int .i64 1),(34,.int .i64 2),(33,.slice (some ⟨b3,0,none⟩) 2 2),(4,.int .i64 0),(2,.pointer (some ⟨b1,0,none⟩)),(1,.int .i64 n)]) (fun x=>[boxA b18 27 [.int .i64 (s.tb),.int .i64 (s.xb),.int .i64 (s.yb),.int .i64 (s.zb),.int .i64 (s.ra),.int .i64 (s.rb),.int .i64 (s.rc),.int .i64 (s.rd)],boxA b5 27 [.int .i64 (s.ta),.int .i64 (s.xa),.int .i64 (s.ya),.int .i64 (s.za),.int .i64 (s.qa),.int .i64 (s.qb),.int .i64 (s.qc),.int .i64 (s.qd)],rowA 27 (rI8 .i64) (some ⟨b3,0,none⟩) 2 ([(⟨s.ta,s.xa,s.ya,s.za,s.qa,s.qb,s.qc,s.qd⟩:Ep),(⟨s.tb,s.xb,s.yb,s.zb,s.ra,s.rb,s.rc,s.rd⟩:Ep)]),boxA b1 29 (cS s)]) (fun x=>[]) ?_ ?_
     ·
      refine zc<|r_pv rfl rfl (zh Tryz.underlying27 rfl sz23 rfl rfl)<|r_pv rfl rfl (zh Tryz.underlying23 rfl sz3 rfl rfl)<|r_u rfl rfl (ze 0 ty3 rfl rfl rfl)<|r_pv rfl rfl (zh Tryz.underlying27 rfl sz23 rfl rfl)<|r_pv rfl rfl (zh Tryz.underlying23 rfl sz3 rfl rfl)<|r_u rfl rfl (ze 0 ty3 rfl rfl rfl)<|r_pv rfl rfl (zh Tryz.underlying27 rfl sz23 rfl rfl)<|r_pv rfl rfl (zh Tryz.underlying23 rfl sz3 rfl rfl)<|r_u rfl rfl (ze 0 ty3 rfl rfl rfl)<|zJa rfl rfl (zQ (enc:=fun z:Int=>[.int .i64 z]) (ok:=InK .i64) (h1:=fun _=>rfl) (h2:=fun _=>rfl) (k:=3) Tryz.underlying51 inf3 rfl (by decide) (by decide) (by decide) (.c (x:=s.xb) rfl rfl (fun _ _=>by exact zu.2 (by omega)) (.c (x:=s.yb) rfl rfl (fun _ _=>by exact zu.2 (by omega)) (.c (x:=s.zb) rfl rfl (fun _ _=>by exact zu.2 (by omega)) .n)))) (fun b27 _=> ?_)
      refine zla 0 rfl .z<|zY rfl rfl (.c rfl (.c rfl .n)) ce23 (zxb (p:=some ⟨b27,0,none⟩) (n:=3) (cap:=3) (l:=[s.xb,s.yb,s.zb]) (m:=1048576) (hn:=by first|rfl|assumption|decide|omega) (hm:=by first|rfl|assumption|decide|omega)) (.c (j:=0) rfl .n)<|r_pv rfl rfl (zMa rfl)<|zoa rfl rfl (zd rfl) (fun h28=> ?_) (fun h28=> ?_)
      ·
       refine zl rfl rfl<|zl rfl rfl<|zl rfl rfl<|zl rfl rfl<|zl rfl rfl<|zl rfl rfl<|zl rfl rfl<|zl rfl rfl<|zl rfl rfl<|zl rfl rfl<|zl rfl rfl<|zl rfl rfl<|zl rfl rfl<|zl rfl rfl<|zl rfl rfl<|r_pv rfl rfl (zS rfl rfl)<|zm ?_
       exact zna () (show True from by first|trivial|omega|simp_all) ((.e rfl (congrArg Value.bool (by first|(simp_all;done)|(simp_all;omega)|(simp;omega)|omega)) (.of rfl)):SubM _ _) (ho:=((.of [1,1,1,1] rfl):PickO _ _ _)) (.n:SelR _ _ _)
      ·
       refine r_pv rfl rfl (zh Tryz.underlying27 rfl sz25 rfl rfl)<|r_pv rfl rfl (zh Tryz.underlying25 rfl sz3 rfl rfl)<|r_u rfl rfl (ze 1 ty3 rfl rfl rfl)<|r_pv rfl rfl (zh Tryz.underlying27 rfl sz25 rfl rfl)<|r_pv rfl rfl (zh Tryz.underlying25 rfl sz3 rfl rfl)<|r_u rfl rfl (ze 1 ty3 rfl rfl rfl)<|r_pv rfl rfl (zh Tryz.underlying27 rfl sz25 rfl rfl)<|r_pv rfl rfl (zh Tryz.underlying25 rfl sz3 rfl rfl)<|r_u rfl rfl (ze 1 ty3 rfl rfl rfl)<|r_pv rfl rfl (zh Tryz.underlying27 rfl sz25 rfl rfl)<|r_pv rfl rfl (zh Tryz.underlying25 rfl sz3 rfl rfl)<|r_u rfl rfl (ze 1 ty3 rfl rfl rfl)<|zJa rfl rfl (zQ (enc:=fun z:Int=>[.int .i64 z]) (ok:=InK .i64) (h1:=fun _=>rfl) (h2:=fun _=>rfl) (k:=4) Tryz.underlying51 inf3 rfl (by decide) (by decide) (by decide) (.c (x:=s.ra) rfl rfl (fun _ _=>by exact zu.2 (by omega)) (.c (x:=s.rb) rfl rfl (fun _ _=>by exact zu.2 (by omega)) (.c (x:=s.rc) rfl rfl (fun _ _=>by exact zu.2 (by omega)) (.c (x:=s.rd) rfl rfl (fun _ _=>by exact zu.2 (by omega)) .n))))) (fun b29 _=> ?_)
       refine zla 0 rfl .z<|zY rfl rfl (.c rfl (.c rfl .n)) ce23 (zxb (p:=some ⟨b29,0,none⟩) (n:=4) (cap:=4) (l:=[s.ra,s.rb,s.rc,s.rd]) (m:=32768) (hn:=by first|rfl|assumption|decide|omega) (hm:=by first|rfl|assumption|decide|omega)) (.c (j:=0) rfl .n)<|r_pv rfl rfl (zMa rfl)<|r_pv rfl rfl (zS rfl rfl)<|zm ?_
       exact zna () (show True from by first|trivial|omega|simp_all) ((.e rfl (congrArg Value.bool (by first|(simp_all;done)|(simp_all;omega)|(simp;omega)|omega)) (.of rfl)):SubM _ _) (ho:=((.of [2,2,2,2] rfl):PickO _ _ _)) (.n:SelR _ _ _)
     ·
      rintro ⟨⟩ -
      try dsimp only
      refine zV rfl (fun hA=> ?_) (fun hA=> ?_)
      ·
       have hbad:¬Sh.okB s:=fun k=>hA.elim (fun e=>e k.1) (fun e=>e k.2)
       refine zj<|zc<|r_pv rfl rfl (zi rfl)<|zm<|zg<|zT<|zga<|zw<|zw<|zga<|zw ?_
       exact zO Tryz.results13 () trivial (zH rfl) (by rw [Sh.chk_3 h1 hokA hbad]) (ho:=(.n:PickO _ _ _)) (.n:SelR _ _ _)
      ·
       have hokB:Sh.okB s:=⟨Decidable.not_not.1 (fun e=>hA (Or.inl e)),Decidable.not_not.1 (fun e=>hA (Or.inr e))⟩
       refine zD<|zN<|zg<|zc<|r_pv rfl rfl (zK (z:=2) rfl rfl (w64 (by decide)))<|r_pv rfl rfl (zd rfl)<|zm<|zia<|zca<|zj<|zc<|r_pv rfl rfl (zX rfl rfl)<|zm<|zg<|zj<|zua rfl rfl<|zpa<|zp<|zp<|zE<|zg<|zj<|zIa (X:=Unit) (fun x=>True) (fun x=>[(89,.bool (decide (((s.qa=0∧s.qb=0∧s.qc=0∧s.qd=0)∨(s.ra=0∧s.rb=0∧s.rc=0∧s.rd=0))∨(s.tb≤s.ta)))),(4,.int .i64 0),(2,.pointer (some ⟨b1,0,none⟩)),(1,.int .i64 n)]) (fun x=>[boxA b18 27 [.int .i64 (s.tb),.int .i64 (s.xb),.int .i64 (s.yb),.int .i64 (s.zb),.int .i64 (s.ra),.int .i64 (s.rb),.int .i64 (s.rc),.int .i64 (s.rd)],boxA b5 27 [.int .i64 (s.ta),.int .i64 (s.xa),.int .i64 (s.ya),.int .i64 (s.za),.int .i64 (s.qa),.int .i64 (s.qb),.int .i64 (s.qc),.int .i64 (s.qd)],rowA 27 (rI8 .i64) (some ⟨b3,0,none⟩) 2 ([(⟨s.ta,s.xa,s.ya,s.za,s.qa,s.qb,s.qc,s.qd⟩:Ep),(⟨s.tb,s.xb,s.yb,s.zb,s.ra,s.rb,s.rc,s.rd⟩:Ep)]),boxA b1 29 (cS s)]) (fun x=>[]) ?_ ?_
       ·
        refine zc<|r_pv rfl rfl (zh Tryz.underlying29 rfl sz27 rfl rfl)<|r_pv rfl rfl (zh Tryz.underlying27 rfl sz25 rfl rfl)<|r_u rfl rfl (zf 3 ty25 rfl rfl (.skip (.skip (.skip (.skip (.skip (.skip (.take (.take (.take (.take .nil)))))))))))<|r_pv rfl rfl (zy zr25 rfl Tryz.underlying25 (.c sz3 (.c sz3 (.c sz3 (.c sz3 .n)))) .n .n)<|r_pv rfl rfl (zkb (p:=s.qa=0∧s.qb=0∧s.qc=0∧s.qd=0) (by kernel_rfl) rfl rfl (zjb Tryz.underlying25 (by kernel_rfl) (zya (by decide) ty3 rfl rfl (zxa Tryz.underlying3) (zya (by decide) ty3 rfl rfl (zxa Tryz.underlying3) (zya (by decide) ty3 rfl rfl (zxa Tryz.underlying3) (zya (by decide) ty3 rfl rfl (zxa Tryz.underlying3) zOb))))) (by simp [Bool.decide_and]))<|zoa rfl rfl (zd rfl) (fun h30=> ?_) (fun h30=> ?_)
        ·
         refine zl rfl rfl<|zl rfl rfl<|zl rfl rfl<|zl rfl rfl<|zl rfl rfl<|r_pv rfl rfl (zS rfl rfl)<|r_pv rfl rfl (zd rfl)<|zl rfl rfl<|zl rfl rfl<|zl rfl rfl<|zl rfl rfl<|zl rfl rfl<|zl rfl rfl<|zl rfl rfl<|r_pv rfl rfl (zS rfl rfl)<|zm ?_
         exact zna () (show True from by first|trivial|omega|simp_all) ((.e rfl (congrArg Value.bool (by first|(simp_all;done)|(simp_all;omega)|(simp;omega)|omega)) (.of rfl)):SubM _ _) (ho:=((.of [0,0,0,0] rfl):PickO _ _ _)) (.n:SelR _ _ _)
        ·
         refine r_pv rfl rfl (zh Tryz.underlying29 rfl sz27 rfl rfl)<|r_pv rfl rfl (zh Tryz.underlying27 rfl sz25 rfl rfl)<|r_u rfl rfl (zf 3 ty25 rfl rfl (.skip (.skip (.skip (.skip (.skip (.skip (.skip (.skip (.skip (.skip (.skip (.skip (.skip (.skip (.take (.take (.take (.take .nil)))))))))))))))))))<|r_pv rfl rfl (zy zr25 rfl Tryz.underlying25 (.c sz3 (.c sz3 (.c sz3 (.c sz3 .n)))) .n .n)<|r_pv rfl rfl (zkb (p:=s.ra=0∧s.rb=0∧s.rc=0∧s.rd=0) (by kernel_rfl) rfl rfl (zjb Tryz.underlying25 (by kernel_rfl) (zya (by decide) ty3 rfl rfl (zxa Tryz.underlying3) (zya (by decide) ty3 rfl rfl (zxa Tryz.underlying3) (zya (by decide) ty3 rfl rfl (zxa Tryz.underlying3) (zya (by decide) ty3 rfl rfl (zxa Tryz.underlying3) zOb))))) (by simp [Bool.decide_and]))<|r_pv rfl rfl (zS rfl rfl)<|zoa rfl rfl (zd rfl) (fun h31=> ?_) (fun h31=> ?_)
         ·
          refine zl rfl rfl<|zl rfl rfl<|zl rfl rfl<|zl rfl rfl<|zl rfl rfl<|zl rfl rfl<|zl rfl rfl<|r_pv rfl rfl (zS rfl rfl)<|zm ?_
          exact zna () (show True from by first|trivial|omega|simp_all) ((.e rfl (congrArg Value.bool (by first|(simp_all;done)|(simp_all;omega)|(simp;omega)|omega)) (.of rfl)):SubM _ _) (ho:=((.of [0,0,0,0] rfl):PickO _ _ _)) (.n:SelR _ _ _)
         ·
          refine r_pv rfl rfl (zh Tryz.underlying29 rfl sz27 rfl rfl)<|r_pv rfl rfl (zh Tryz.underlying27 rfl sz3 rfl rfl)<|r_u rfl rfl (ze 3 ty3 rfl rfl rfl)<|r_pv rfl rfl (zh Tryz.underlying29 rfl sz27 rfl rfl)<|r_pv rfl rfl (zh Tryz.underlying27 rfl sz3 rfl rfl)<|r_u rfl rfl (ze 3 ty3 rfl rfl rfl)<|r_pv rfl rfl (zyc rfl rfl)<|r_pv rfl rfl (zS rfl rfl)<|zm ?_
          exact zna () (show True from by first|trivial|omega|simp_all) ((.e rfl (congrArg Value.bool (by first|(simp_all;done)|(simp_all;omega)|(simp;omega)|omega)) (.of rfl)):SubM _ _) (ho:=((.of [0,0,0,0] rfl):PickO _ _ _)) (.n:SelR _ _ _)
       ·
        rintro ⟨⟩ -
        try dsimp only
        refine zV rfl (fun h4=> ?_) (fun h4=> ?_)
        ·
         refine zj<|zc<|r_pv rfl rfl (zi rfl)<|zm<|zg<|zT<|zw ?_
         exact zO Tryz.results13 () trivial (zH rfl) (by rw [Sh.chk_4 h1 hokA hokB (or_assoc.1 h4)]) (ho:=(.n:PickO _ _ _)) (.n:SelR _ _ _)
        ·
         have hok:Sh.Ok s:=Sh.ok_of (Decidable.not_not.1 fun e=>h1 (Or.inr (Or.inr e))) hokA hokB
         refine zD<|zg<|zj<|zj<|zc<|r_pv rfl rfl (zd rfl)<|r_pv rfl rfl (zd rfl)<|zm<|zg<|zx<|zAa (X:=Nat) (fun x:Nat=>x≤n.toNat∧∀j:Nat,j<x→¬Sh.z4 (Sh.rot s (j:Int))) (fun x=>[(91,.int .i64 ((x:Nat):Int)),(90,.int .i64 n),(2,.pointer (some ⟨b1,0,none⟩))]) (fun x=>[boxA b18 27 [.int .i64 (s.tb),.int .i64 (s.xb),.int .i64 (s.yb),.int .i64 (s.zb),.int .i64 (s.ra),.int .i64 (s.rb),.int .i64 (s.rc),.int .i64 (s.rd)],boxA b5 27 [.int .i64 (s.ta),.int .i64 (s.xa),.int .i64 (s.ya),.int .i64 (s.za),.int .i64 (s.qa),.int .i64 (s.qb),.int .i64 (s.qc),.int .i64 (s.qd)],rowA 27 (rI8 .i64) (some ⟨b3,0,none⟩) 2 ([(⟨s.ta,s.xa,s.ya,s.za,s.qa,s.qb,s.qc,s.qd⟩:Ep),(⟨s.tb,s.xb,s.yb,s.zb,s.ra,s.rb,s.rc,s.rd⟩:Ep)]),boxA b1 29 (cS s)]) (fun x=>[]) (fun x:Nat=>n.toNat - x) 0 (show 0≤n.toNat∧∀j:Nat,j<0→¬Sh.z4 (Sh.rot s (j:Int)) from by exact ⟨Nat.zero_le _,fun j h=>by omega⟩) ((.e rfl (by first|rfl|(congr 1;omega)|simp_all) (.c rfl (.c rfl .n))):SubM _ _) (ho:=((.of [0,0,0,0] rfl):PickO _ _ _)) (.n:SelR _ _ _) ?_
         rintro r hI
         replace hI:r≤n.toNat∧∀j:Nat,j<r→¬Sh.z4 (Sh.rot s (j:Int)):=hI
         try dsimp only
         obtain ⟨hr,hall⟩:=hI
         refine zj<|zc<|r_pv rfl rfl (zX rfl rfl)<|zm<|zg<|zj<|zV rfl (fun h32=> ?_) (fun h32=> ?_)
         ·
          refine zD<|zg<|zj<|zx<|zj<|zc<|r_pv rfl rfl (zd rfl)<|r_pv rfl rfl (zi rfl)<|zm<|zg<|zj<|zc<|r_u rfl rfl (zf 3 ty29 rfl rfl (.take (.take (.take (.take (.take (.take (.take (.take (.take (.take (.take (.take (.take (.take (.take (.take (.take (.take .nil)))))))))))))))))))<|r_pv rfl rfl (zd rfl)<|zY rfl rfl (.c rfl (.c rfl .n)) ce33 (zwf (s:=s) (r:=((r:Nat):Int)) (hok:=by first|rfl|assumption|decide|omega) (hr:=by first|rfl|assumption|decide|omega)) (.n)<|r_pv rfl rfl (zy zr25 rfl Tryz.underlying25 (.c sz3 (.c sz3 (.c sz3 (.c sz3 .n)))) .n .n)<|r_pv rfl rfl (zkb (p:=(Sh.rot s ((r:Nat):Int)).1=0∧(Sh.rot s ((r:Nat):Int)).2.1=0∧(Sh.rot s ((r:Nat):Int)).2.2.1=0∧(Sh.rot s ((r:Nat):Int)).2.2.2=0) (by kernel_rfl) rfl rfl (zjb Tryz.underlying25 (by kernel_rfl) (zya (by decide) ty3 rfl rfl (zxa Tryz.underlying3) (zya (by decide) ty3 rfl rfl (zxa Tryz.underlying3) (zya (by decide) ty3 rfl rfl (zxa Tryz.underlying3) (zya (by decide) ty3 rfl rfl (zxa Tryz.underlying3) zOb))))) (by simp [Bool.decide_and]))<|zm<|zg<|zV rfl (fun hz4=> ?_) (fun hz4=> ?_)
          ·
           refine zj<|zc<|r_pv rfl rfl (zi rfl)<|zm<|zg<|zT<|zga<|zw<|zw<|zga<|zw ?_
           exact zO Tryz.results13 () trivial (zH rfl) (by rw [Sh.chk_5 h1 hokA hokB (fun k=>h4 (or_assoc.2 k)) ⟨r,by omega,hz4⟩]) (ho:=(.n:PickO _ _ _)) (.n:SelR _ _ _)
          ·
           refine zD<|zN<|zg<|zc<|r_pv rfl rfl (zK (z:=(((r+1):Nat):Int)) rfl rfl (w64 (by omega)))<|r_pv rfl rfl (zd rfl)<|zm<|zva (r+1) (show (r+1)≤n.toNat∧∀j:Nat,j<(r+1)→¬Sh.z4 (Sh.rot s (j:Int)) from by refine ⟨by omega,fun j hj=> ?_⟩;by_cases e:j=r;(subst e;exact hz4);exact hall j (by omega)) (by show n.toNat - (r+1)<n.toNat - r;omega) ((.of rfl):SubM _ _) (ho:=((.of [0,0,0,0] rfl):PickO _ _ _)) (.n:SelR _ _ _)
         ·
          refine zpa<|zp<|zp<|zE<|zg<|zj<|zc<|r_pv rfl rfl (zi rfl)<|zm<|zg<|zT ?_
          exact zO Tryz.results13 () trivial (zH rfl) (by rw [Sh.chk_6 h1 hokA hokB (fun k=>h4 (or_assoc.2 k)) (fun ⟨j,hj,k⟩=>hall j (by omega) k)]) (ho:=(.n:PickO _ _ _)) (.n:SelR _ _ _)
end Go.Proofs.YtjeahiahjgifgaaGreatDoor.Sp
namespace Go.Proofs.YtjeahiahjgifgaaGreatDoor.Sp
open Go
set_option linter.unusedVariables false
set_option maxRecDepth 100000
set_option maxHeartbeats 8000000
theorem zrc {u1:Wd} {v1:Wd} {q1:Rat} {u2:Wd} {v2:Wd} {q2:Rat} {u3:Wd} {v3:Wd} {q3:Rat} {u4:Wd} {v4:Wd} {q4:Rat} (hl1:Big.hq q1+Big.hq q3+1≤1048576) (hl2:Big.hq q2+Big.hq q4+1≤1048576):Con Tryz.prog 21 [.agg #[u1.b,u1.l,v1.b,v1.l,u2.b,u2.l,v2.b,v2.l],.agg #[u3.b,u3.l,v3.b,v3.l,u4.b,u4.l,v4.b,v4.l]] [] [qF true u1 v1 q1,qF true u2 v2 q2,qF true u3 v3 q3,qF true u4 v4 q4] (Y:=Unit) (fun y=>True) (fun y=> .bool (decide (q1=q3∧q2=q4))) (fun y=>[]) (fun y=>[]):=by
 refine zA Tryz.func21 rfl rfl rfl (fun c=> ?_)
 show RunC _ _ _ _ _ [(0,.agg #[u1.b,u1.l,v1.b,v1.l,u2.b,u2.l,v2.b,v2.l]),(1,.agg #[u3.b,u3.l,v3.b,v3.l,u4.b,u4.l,v4.b,v4.l])] [] [qF true u1 v1 q1,qF true u2 v2 q2,qF true u3 v3 q3,qF true u4 v4 q4]
 refine zj<|zc<|zL rfl rfl (zfa rfl rfl) (fun b1=> ?_)
 refine zL rfl rfl (zfa rfl rfl) (fun b2=> ?_)
 refine r_pv rfl rfl (zi rfl)<|zm<|zg<|zIa (X:=Unit) (fun x=>True) (fun x=>[(4,.bool (decide ((q1=q3)∧(q2=q4))))]) (fun x=>[boxA b2 46 (cw [u3,v3,u4,v4]),boxA b1 46 (cw [u1,v1,u2,v2])]) (fun x=>[qF true u1 v1 q1,qF true u2 v2 q2,qF true u3 v3 q3,qF true u4 v4 q4]) ?_ ?_
 ·
  refine zc<|r_pv rfl rfl (zh Tryz.underlying46 rfl sz44 rfl rfl)<|r_u rfl rfl (zf 1 ty44 rfl rfl (.take (.take (.take (.take .nil)))))<|r_pv rfl rfl (zh Tryz.underlying46 rfl sz44 rfl rfl)<|r_u rfl rfl (zf 0 ty44 rfl rfl (.take (.take (.take (.take .nil)))))<|zY rfl rfl (.c rfl (.c rfl .n)) ce27 (zmd (u1:=u1) (v1:=v1) (q1:=q1) (u2:=u3) (v2:=v3) (q2:=q3) (hl:=by assumption)) (.c (j:=0) rfl (.c (j:=2) rfl .n))<|zoa rfl rfl (zd rfl) (fun h3=> ?_) (fun h3=> ?_)
  ·
   refine r_pv rfl rfl (zh Tryz.underlying46 rfl sz44 rfl rfl)<|r_u rfl rfl (zf 1 ty44 rfl rfl (.skip (.skip (.skip (.skip (.take (.take (.take (.take .nil)))))))))<|r_pv rfl rfl (zh Tryz.underlying46 rfl sz44 rfl rfl)<|r_u rfl rfl (zf 0 ty44 rfl rfl (.skip (.skip (.skip (.skip (.take (.take (.take (.take .nil)))))))))<|zY rfl rfl (.c rfl (.c rfl .n)) ce27 (zmd (u1:=u2) (v1:=v2) (q1:=q2) (u2:=u4) (v2:=v4) (q2:=q4) (hl:=by assumption)) (.c (j:=1) rfl (.c (j:=3) rfl .n))<|r_pv rfl rfl (zS rfl rfl)<|r_pv rfl rfl (zi rfl)<|zm ?_
   exact zna () (show True from by first|trivial|omega|simp_all) ((.e rfl (congrArg Value.bool (by first|(simp_all;done)|(simp_all;omega)|(simp;omega)|omega)) .n):SubM _ _) (ho:=((.of [0,0] rfl):PickO _ _ _)) ((.of [0,1,2,3] rfl):SelR _ _ _)
  ·
   refine zl rfl rfl<|zl rfl rfl<|zl rfl rfl<|zl rfl rfl<|zl rfl rfl<|r_pv rfl rfl (zS rfl rfl)<|r_pv rfl rfl (zi rfl)<|zm ?_
   exact zna () (show True from by first|trivial|omega|simp_all) ((.e rfl (congrArg Value.bool (by first|(simp_all;done)|(simp_all;omega)|(simp;omega)|omega)) .n):SubM _ _) (ho:=((.of [0,0] rfl):PickO _ _ _)) ((.of [0,1,2,3] rfl):SelR _ _ _)
 ·
  rintro ⟨⟩ -
  try dsimp only [cw]
  refine zT ?_
  exact zO Tryz.results21 () trivial (zH rfl) rfl (ho:=(.n:PickO _ _ _)) (.n:SelR _ _ _)
theorem zyb:Con Tryz.prog 40 [] [] [] (Y:=Unit) (fun y=>True) (fun y=> .agg #[.int .i64 0,.int .i64 10,.int .i64 0,.int .i64 0,.int .i64 0,.int .i64 1000,.int .i64 0,.int .i64 1,.int .i64 0,.int .i64 0,.int .i64 100,.int .i64 100,.int .i64 0,.int .i64 1000,.int .i64 0,.int .i64 1,.int .i64 0,.int .i64 0]) (fun y=>[]) (fun y=>[]):=by
 refine zA Tryz.func40 rfl rfl rfl (fun c=> ?_)
 show RunC _ _ _ _ _ [] [] []
 refine zj<|zc<|zL rfl rfl (zr zr29 rfl) (fun b1=> ?_)
 refine zm<|zg<|zj<|zc<|r_pv rfl rfl (zy zr25 rfl Tryz.underlying25 (.c sz3 (.c sz3 (.c sz3 (.c sz3 .n)))) (.c rfl .n) (.c rfl rfl rfl (.skip (.take .nil)) .n))<|zL rfl rfl (zr zr25 rfl) (fun b2=> ?_)
 refine zn 0 rfl rfl rfl rfl rfl sz25 rfl (.take (.take (.take (.take .nil)))) .z<|zm<|zg<|zj<|zc<|r_pv rfl rfl (zy zr23 rfl Tryz.underlying23 (.c sz3 (.c sz3 (.c sz3 .n))) (.c rfl .n) (.c rfl rfl rfl (.skip (.skip (.take .nil))) .n))<|r_u rfl rfl (zf 0 ty25 rfl rfl (.take (.take (.take (.take .nil)))))<|r_pv rfl rfl (zy zr27 rfl Tryz.underlying27 (.c sz3 (.c sz23 (.c sz25 .n))) (.c rfl (.c rfl .n)) (.c rfl rfl rfl (.skip (.take (.take (.take .nil)))) (.c rfl rfl rfl (.skip (.skip (.skip (.skip (.take (.take (.take (.take .nil)))))))) .n)))<|r_pv rfl rfl (zy zr23 rfl Tryz.underlying23 (.c sz3 (.c sz3 (.c sz3 .n))) (.c rfl (.c rfl .n)) (.c rfl rfl rfl (.take .nil) (.c rfl rfl rfl (.skip (.skip (.take .nil))) .n)))<|r_u rfl rfl (zf 0 ty25 rfl rfl (.take (.take (.take (.take .nil)))))<|r_pv rfl rfl (zy zr27 rfl Tryz.underlying27 (.c sz3 (.c sz23 (.c sz25 .n))) (.c rfl (.c rfl (.c rfl .n))) (.c rfl rfl rfl (.take .nil) (.c rfl rfl rfl (.skip (.take (.take (.take .nil)))) (.c rfl rfl rfl (.skip (.skip (.skip (.skip (.take (.take (.take (.take .nil)))))))) .n))))<|r_pv rfl rfl (zy zr29 rfl Tryz.underlying29 (.c sz3 (.c sz3 (.c sz27 (.c sz27 .n)))) (.c rfl (.c rfl (.c rfl .n))) (.c rfl rfl rfl (.skip (.take .nil)) (.c rfl rfl rfl (.skip (.skip (.take (.take (.take (.take (.take (.take (.take (.take .nil)))))))))) (.c rfl rfl rfl (.skip (.skip (.skip (.skip (.skip (.skip (.skip (.skip (.skip (.skip (.take (.take (.take (.take (.take (.take (.take (.take .nil)))))))))))))))))) .n))))<|zn 1 rfl rfl rfl rfl rfl sz29 rfl (.take (.take (.take (.take (.take (.take (.take (.take (.take (.take (.take (.take (.take (.take (.take (.take (.take (.take .nil)))))))))))))))))) (.s .z)<|zm<|zg<|zT ?_
 exact zO Tryz.results40 () trivial (zv 1 ty29 rfl rfl (.take (.take (.take (.take (.take (.take (.take (.take (.take (.take (.take (.take (.take (.take (.take (.take (.take (.take .nil))))))))))))))))))) rfl (ho:=(.n:PickO _ _ _)) (.n:SelR _ _ _)
end Go.Proofs.YtjeahiahjgifgaaGreatDoor.Sp
namespace Go.Proofs.YtjeahiahjgifgaaGreatDoor.Sp
open Go
set_option linter.unusedVariables false
set_option maxRecDepth 100000
set_option maxHeartbeats 8000000
theorem zcf:Con Tryz.prog 11 [] [] [sgF] (Y:=Unit) (fun y=>True) (fun y=> .bool true) (fun y=>[]) (fun y=>[]):=by
 refine zA Tryz.func11 rfl rfl rfl (fun c=> ?_)
 show RunC _ _ _ _ _ [] [] [sgF]
 refine zj<|zc<|r_pv rfl rfl (zi rfl)<|zm<|zg<|zj<|zc<|r_pv rfl rfl (zy zr37 rfl Tryz.underlying37 (.c sz3 (.c sz35 .n)) (.c rfl .n) (.c rfl rfl rfl (.take .nil) .n))<|zL rfl rfl (zr zr37 rfl) (fun b1=> ?_)
 refine zn 0 rfl rfl rfl rfl rfl sz37 rfl (.take (.take (.take .nil))) .z<|zm<|zg<|zj<|zW (OW:=[]) (O:=[boxA b1 37 [.int .i64 640,.int .i64 0,.int .i64 0]]) 8 mixed (.then .ret) (by kernel_rfl)<|d_u 1 rfl rfl (by kernel_rfl) (by kernel_rfl) rfl rfl (zf 0 ty37 rfl rfl (.take (.take (.take .nil))))<|d_pv 2 rfl rfl (by kernel_rfl) (by kernel_rfl) rfl rfl (zy zr35 rfl Tryz.underlying35 (.c sz3 (.c sz3 .n)) (.c rfl (.c rfl .n)) (.c rfl rfl rfl (.take .nil) (.c rfl rfl rfl (.skip (.take .nil)) .n)))<|zhc (m':=[(12,.agg #[.int .i64 64,.int .i64 128]),(11,.agg #[.int .i64 640,.int .i64 0,.int .i64 0]),(1,.pointer (some ⟨b1,0,none⟩))]) (R':=[sgF]) ((.of rfl):SubM _ _) (List.Perm.refl _) (List.Perm.refl _) ((.c (j:=0) rfl .n):SelR _ _ _)<|zja (X:=Wd×Wd×Wd×Wd×Nat) (k':=0) (L':=(lb 10 1023)) (fun (u3_1,u3_2,u3_3,u3_4,u7_1)=>([(3,.int .i64 (Sh.Gc Sh.exS Sh.exC 64 128 0)),(2,.pointer (some ⟨u7_1,0,none⟩)),(1,.pointer (some ⟨b1,0,none⟩))],[boxA u7_1 46 (cw [u3_1,u3_2,u3_3,u3_4])],[boxA b1 37 [.int .i64 640,.int .i64 0,.int .i64 0]],[qF (decide (Sh.Gc Sh.exS Sh.exC 64 128 0=0)) u3_1 u3_2 (Sh.Gx Sh.exS Sh.exC 64 128 0),qF (decide (Sh.Gc Sh.exS Sh.exC 64 128 0=0)) u3_3 u3_4 (Sh.Gy Sh.exS Sh.exC 64 128 0),sgF])) ?_ (fun hD0=> ?_)
 ·
  rintro ⟨u3_1,u3_2,u3_3,u3_4,u7_1⟩
  dsimp only [cw,cS]
  refine zU (by kernel_rfl)<|zg<|zj ?_
  have e2:(decide (Sh.Gc Sh.exS Sh.exC 64 128 0=0))=true:=by exact decide_eq_true Sh.ex_gc
  rw [e2]
  have e3:(Sh.Gx Sh.exS Sh.exC 64 128 0:Rat)=((120:Int):Rat):=by exact Sh.ex_gx
  rw [e3]
  have e4:(Sh.Gy Sh.exS Sh.exC 64 128 0:Rat)=((-200:Int):Rat):=by exact Sh.ex_gy
  rw [e4]
  have e5:(Sh.Gc Sh.exS Sh.exC 64 128 0:Int)=0:=by exact Sh.ex_gc
  rw [e5]
  refine zW (OW:=[]) (O:=[boxA u7_1 46 (cw [u3_1,u3_2,u3_3,u3_4]),boxA b1 37 [.int .i64 640,.int .i64 0,.int .i64 0]]) 8 mixed (.then .ret) (by kernel_rfl)<|d_u 1 rfl rfl (by kernel_rfl) (by kernel_rfl) rfl rfl (zf 1 ty37 rfl rfl (.take (.take (.take .nil))))<|d_pv 2 rfl rfl (by kernel_rfl) (by kernel_rfl) rfl rfl (zy zr35 rfl Tryz.underlying35 (.c sz3 (.c sz3 .n)) (.c rfl (.c rfl .n)) (.c rfl rfl rfl (.take .nil) (.c rfl rfl rfl (.skip (.take .nil)) .n)))<|zhc (m':=[(19,.agg #[.int .i64 64,.int .i64 128]),(18,.agg #[.int .i64 640,.int .i64 0,.int .i64 0]),(3,.int .i64 0),(2,.pointer (some ⟨u7_1,0,none⟩))]) (R':=[qF true u3_1 u3_2 ((120:Int):Rat),qF true u3_3 u3_4 ((-200:Int):Rat),sgF]) ((.of rfl):SubM _ _) (List.Perm.refl _) (List.Perm.refl _) ((.of [0,1,2] rfl):SelR _ _ _)<|zja (X:=Wd×Wd×Wd×Wd×Nat) (k':=0) (L':=(lb 10 1023)) (fun (u3_1r2,u3_2r2,u3_3r2,u3_4r2,u7_1r2)=>([(5,.int .i64 (Sh.Cc Sh.exS Sh.exC 64 128 0 0)),(4,.pointer (some ⟨u7_1r2,0,none⟩)),(3,.int .i64 0),(2,.pointer (some ⟨u7_1,0,none⟩))],[boxA u7_1r2 46 (cw [u3_1r2,u3_2r2,u3_3r2,u3_4r2])],[boxA u7_1 46 (cw [u3_1,u3_2,u3_3,u3_4]),boxA b1 37 [.int .i64 640,.int .i64 0,.int .i64 0]],[qF (decide (Sh.Cc Sh.exS Sh.exC 64 128 0 0=0)) u3_1r2 u3_2r2 (Sh.Cx Sh.exS Sh.exC 64 128 0 0),qF (decide (Sh.Cc Sh.exS Sh.exC 64 128 0 0=0)) u3_3r2 u3_4r2 (Sh.Cy Sh.exS Sh.exC 64 128 0 0),qF true u3_1 u3_2 ((120:Int):Rat),qF true u3_3 u3_4 ((-200:Int):Rat),sgF])) ?_ (fun hD0=> ?_)
  ·
   rintro ⟨u3_1r2,u3_2r2,u3_3r2,u3_4r2,u7_1r2⟩
   dsimp only [cw,cS]
   refine zU (by kernel_rfl)<|zg<|zj ?_
   have e6:(decide (Sh.Cc Sh.exS Sh.exC 64 128 0 0=0))=true:=by exact decide_eq_true Sh.ex_cc
   rw [e6]
   have e7:(Sh.Cx Sh.exS Sh.exC 64 128 0 0:Rat)=Rat.divInt 384 5:=by exact Sh.ex_cx
   rw [e7]
   have e8:(Sh.Cy Sh.exS Sh.exC 64 128 0 0:Rat)=((128:Int):Rat):=by exact Sh.ex_cy
   rw [e8]
   have e9:(Sh.Cc Sh.exS Sh.exC 64 128 0 0:Int)=0:=by exact Sh.ex_cc
   rw [e9]
   refine zc<|zJ rfl rfl (.c rfl (.c rfl .n)) ce41 (zxe (z1:=384) (z2:=5) (hz1:=by first|rfl|assumption|decide|omega|exact Sh.hqX) (hz2:=by first|rfl|assumption|decide|omega|exact Sh.hqX) (hy:=by first|rfl|assumption|decide|omega|exact Sh.hqX)) (.n) ?_
   rintro ⟨w310,w411⟩ -
   dsimp only [List.append_eq,List.nil_append,List.cons_append]
   refine r_pv rfl rfl (zd rfl)<|r_pv rfl rfl (zG rfl rfl)<|r_pv rfl rfl (zG rfl rfl)<|zL rfl rfl (zr zr44 rfl) (fun b12=> ?_)
   refine zn 0 rfl rfl rfl rfl rfl sz44 rfl (.take (.take (.take (.take .nil)))) .z<|r_pv rfl rfl (zi rfl)<|zm<|zg<|zj<|zW (OW:=[]) (O:=[boxA b12 44 (cw [w310,w411]),boxA u7_1r2 46 (cw [u3_1r2,u3_2r2,u3_3r2,u3_4r2]),boxA u7_1 46 (cw [u3_1,u3_2,u3_3,u3_4]),boxA b1 37 [.int .i64 640,.int .i64 0,.int .i64 0]]) 100000 mixed (.then .ret) (by kernel_rfl)<|d_pv 0 rfl rfl (by kernel_rfl) (by kernel_rfl) rfl rfl (zd rfl)<|d_pv 1 rfl rfl (by kernel_rfl) (by kernel_rfl) rfl rfl (zNa rfl rfl)<|d_pv 2 rfl rfl (by kernel_rfl) (by kernel_rfl) rfl rfl (zd rfl)<|d_pv 3 rfl rfl (by kernel_rfl) (by kernel_rfl) rfl rfl (zd rfl)<|d_pv 4 rfl rfl (by kernel_rfl) (by kernel_rfl) rfl rfl (zNa rfl rfl)<|d_pv 5 rfl rfl (by kernel_rfl) (by kernel_rfl) rfl rfl (zS rfl rfl)<|d_pv 6 rfl rfl (by kernel_rfl) (by kernel_rfl) rfl rfl (zd rfl)<|d_u 7 rfl rfl (by kernel_rfl) (by kernel_rfl) rfl rfl (zf 2 ty46 rfl rfl (.take (.take (.take (.take (.take (.take (.take (.take .nil)))))))))<|zt 8 (by kernel_rfl) (zo rfl rfl rfl rfl (.c rfl .n) ce22 (zWb (z:=120) (hz:=by first|rfl|assumption|decide|omega|exact Sh.hqX)) (.n) ?_)
   rintro ⟨w313,w414⟩ -
   dsimp only [List.append_eq,List.nil_append,List.cons_append]
   refine zt 9 (by kernel_rfl) (zo rfl rfl rfl rfl (.c rfl .n) ce22 (zWb (z:=(-200)) (hz:=by first|rfl|assumption|decide|omega|exact Sh.hqX)) (.n) ?_)
   rintro ⟨w315,w416⟩ -
   dsimp only [List.append_eq,List.nil_append,List.cons_append]
   refine d_pv 10 rfl rfl (by kernel_rfl) (by kernel_rfl) rfl rfl (zy zr46 rfl Tryz.underlying46 (.c sz44 (.c sz44 .n)) (.c rfl (.c rfl .n)) (.c rfl rfl rfl (.take (.take (.take (.take .nil)))) (.c rfl rfl rfl (.skip (.skip (.skip (.skip (.take (.take (.take (.take .nil)))))))) .n)))<|zt 11 (by kernel_rfl) (zKa rfl rfl rfl rfl (.c rfl (.c rfl .n)) ce21 (zrc (u1:=u3_1) (v1:=u3_2) (q1:=((120:Int):Rat)) (u2:=u3_3) (v2:=u3_4) (q2:=((-200:Int):Rat)) (u3:=w313) (v3:=w414) (q3:=((120:Int):Rat)) (u4:=w315) (v4:=w416) (q4:=(((-200):Int):Rat)) (hl1:=by first|rfl|assumption|decide|omega|exact Sh.hqX) (hl2:=by first|rfl|assumption|decide|omega|exact Sh.hqX)) (.c (j:=5) rfl (.c (j:=6) rfl (.c (j:=1) rfl (.c (j:=0) rfl .n)))) ?_)
   rw [show (decide (((120:Int):Rat)=((120:Int):Rat)∧((-200:Int):Rat)=(((-200):Int):Rat)))=true from by exact decide_eq_true ⟨rfl,rfl⟩]
   refine d_pv 12 rfl rfl (by kernel_rfl) (by kernel_rfl) rfl rfl (zS rfl rfl)<|d_pv 13 rfl rfl (by kernel_rfl) (by kernel_rfl) rfl rfl (zd rfl)<|d_u 14 rfl rfl (by kernel_rfl) (by kernel_rfl) rfl rfl (zf 1 ty46 rfl rfl (.take (.take (.take (.take (.take (.take (.take (.take .nil)))))))))<|d_u 15 rfl rfl (by kernel_rfl) (by kernel_rfl) rfl rfl (zf 0 ty44 rfl rfl (.take (.take (.take (.take .nil)))))<|zt 16 (by kernel_rfl) (zo rfl rfl rfl rfl (.c rfl .n) ce22 (zWb (z:=128) (hz:=by first|rfl|assumption|decide|omega|exact Sh.hqX)) (.n) ?_)
   rintro ⟨w317,w418⟩ -
   dsimp only [List.append_eq,List.nil_append,List.cons_append]
   refine d_pv 17 rfl rfl (by kernel_rfl) (by kernel_rfl) rfl rfl (zy zr46 rfl Tryz.underlying46 (.c sz44 (.c sz44 .n)) (.c rfl (.c rfl .n)) (.c rfl rfl rfl (.take (.take (.take (.take .nil)))) (.c rfl rfl rfl (.skip (.skip (.skip (.skip (.take (.take (.take (.take .nil)))))))) .n)))<|zt 18 (by kernel_rfl) (zKa rfl rfl rfl rfl (.c rfl (.c rfl .n)) ce21 (zrc (u1:=u3_1r2) (v1:=u3_2r2) (q1:=(Rat.divInt 384 5)) (u2:=u3_3r2) (v2:=u3_4r2) (q2:=((128:Int):Rat)) (u3:=w310) (v3:=w411) (q3:=Rat.divInt 384 5) (u4:=w317) (v4:=w418) (q4:=((128:Int):Rat)) (hl1:=by first|rfl|assumption|decide|omega|exact Sh.hqX) (hl2:=by first|rfl|assumption|decide|omega|exact Sh.hqX)) (.c (j:=4) rfl (.c (j:=5) rfl (.c (j:=3) rfl (.c (j:=0) rfl .n)))) ?_)
   rw [show (decide ((Rat.divInt 384 5)=(Rat.divInt 384 5)∧((128:Int):Rat)=((128:Int):Rat)))=true from by exact decide_eq_true ⟨rfl,rfl⟩]
   refine d_pv 19 rfl rfl (by kernel_rfl) (by kernel_rfl) rfl rfl (zS rfl rfl)<|d_pv 20 rfl rfl (by kernel_rfl) (by kernel_rfl) rfl rfl (zd rfl)<|zt 21 (by kernel_rfl) (zKa rfl rfl rfl rfl (.n) ce40 (zyb) (.n) ?_)
   refine zt 22 (by kernel_rfl) (zKa rfl rfl rfl rfl (.c rfl (.c rfl .n)) ce12 (zjc (s:=Sh.exS) (n:=64) (hfi:=by first|rfl|assumption|decide|omega|exact Sh.hqX) (hst:=by first|rfl|assumption|decide|omega|exact Sh.hqX) (hta:=by first|rfl|assumption|decide|omega|exact Sh.hqX) (htb:=by first|rfl|assumption|decide|omega|exact Sh.hqX) (hxa:=by first|rfl|assumption|decide|omega|exact Sh.hqX) (hya:=by first|rfl|assumption|decide|omega|exact Sh.hqX) (hza:=by first|rfl|assumption|decide|omega|exact Sh.hqX) (hqa:=by first|rfl|assumption|decide|omega|exact Sh.hqX) (hqb:=by first|rfl|assumption|decide|omega|exact Sh.hqX) (hqc:=by first|rfl|assumption|decide|omega|exact Sh.hqX) (hqd:=by first|rfl|assumption|decide|omega|exact Sh.hqX) (hxb:=by first|rfl|assumption|decide|omega|exact Sh.hqX) (hyb:=by first|rfl|assumption|decide|omega|exact Sh.hqX) (hzb:=by first|rfl|assumption|decide|omega|exact Sh.hqX) (hra:=by first|rfl|assumption|decide|omega|exact Sh.hqX) (hrb:=by first|rfl|assumption|decide|omega|exact Sh.hqX) (hrc:=by first|rfl|assumption|decide|omega|exact Sh.hqX) (hrd:=by first|rfl|assumption|decide|omega|exact Sh.hqX)) (.n) ?_)
   refine d_pv 23 rfl rfl (by kernel_rfl) (by kernel_rfl) rfl rfl (zNa rfl rfl) ?_
   rw [show (decide (Sh.chk Sh.exS 64=0))=true from by exact decide_eq_true Sh.ex_chk]
   refine d_pv 24 rfl rfl (by kernel_rfl) (by kernel_rfl) rfl rfl (zS rfl rfl)<|d_pv 25 rfl rfl (by kernel_rfl) (by kernel_rfl) rfl rfl (zi rfl)<|zU (by kernel_rfl)<|zg<|zT ?_
   exact zO Tryz.results11 () trivial (zH rfl) rfl (ho:=(.n:PickO _ _ _)) (.n:SelR _ _ _)
  refine zja (X:=Wd×Wd×Wd×Wd×Nat) (k':=2) (L':=(lb 10 255)) (fun (u3_1r2,u3_2r2,u3_3r2,u3_4r2,u7_1r2)=>([(4,.pointer (some ⟨u7_1r2,0,none⟩)),(22,.int .i64 (Sh.Cc Sh.exS Sh.exC 64 128 0 0)),(21,.agg (cw [u3_1r2,u3_2r2,u3_3r2,u3_4r2]).toArray),(3,.int .i64 0),(2,.pointer (some ⟨u7_1,0,none⟩))],[boxA u7_1r2 46 (cw [wz,wz,wz,wz])],[boxA u7_1 46 (cw [u3_1,u3_2,u3_3,u3_4]),boxA b1 37 [.int .i64 640,.int .i64 0,.int .i64 0]],[qF (decide (Sh.Cc Sh.exS Sh.exC 64 128 0 0=0)) u3_1r2 u3_2r2 (Sh.Cx Sh.exS Sh.exC 64 128 0 0),qF (decide (Sh.Cc Sh.exS Sh.exC 64 128 0 0=0)) u3_3r2 u3_4r2 (Sh.Cy Sh.exS Sh.exC 64 128 0 0),qF true u3_1 u3_2 ((120:Int):Rat),qF true u3_3 u3_4 ((-200:Int):Rat),sgF])) ?_ (fun hD1=> ?_)
  ·
   rintro ⟨u3_1r2,u3_2r2,u3_3r2,u3_4r2,u7_1r2⟩
   dsimp only [cw,cS]
   refine zt 8 (by kernel_rfl) ?_
   ·
    refine zq (by kernel_rfl) rfl rfl rfl rfl rfl sz46 rfl (.take (.take (.take (.take (.take (.take (.take (.take .nil))))))))<|d_pv 9 rfl rfl (by kernel_rfl) (by kernel_rfl) rfl rfl (zi rfl) ?_
    exact zP (hD0 (u3_1r2,u3_2r2,u3_3r2,u3_4r2,u7_1r2)) (by kernel_rfl) ((.of rfl):SubM _ _) .rfl .rfl ((.of [0,1,2,3,4] rfl):SelR _ _ _)
  refine zja (X:=Wd×Wd×Wd×Wd) (k':=3) (L':=(lb 10 127)) (fun (u3_1r2,u3_2r2,u3_3r2,u3_4r2)=>([(22,.int .i64 (Sh.Cc Sh.exS Sh.exC 64 128 0 0)),(21,.agg (cw [u3_1r2,u3_2r2,u3_3r2,u3_4r2]).toArray),(3,.int .i64 0),(2,.pointer (some ⟨u7_1,0,none⟩))],[],[boxA u7_1 46 (cw [u3_1,u3_2,u3_3,u3_4]),boxA b1 37 [.int .i64 640,.int .i64 0,.int .i64 0]],[qF (decide (Sh.Cc Sh.exS Sh.exC 64 128 0 0=0)) u3_1r2 u3_2r2 (Sh.Cx Sh.exS Sh.exC 64 128 0 0),qF (decide (Sh.Cc Sh.exS Sh.exC 64 128 0 0=0)) u3_3r2 u3_4r2 (Sh.Cy Sh.exS Sh.exC 64 128 0 0),qF true u3_1 u3_2 ((120:Int):Rat),qF true u3_3 u3_4 ((-200:Int):Rat),sgF])) ?_ (fun hD2=> ?_)
  ·
   rintro ⟨u3_1r2,u3_2r2,u3_3r2,u3_4r2⟩
   dsimp only [cw,cS]
   refine zt 7 (by kernel_rfl) ?_
   ·
    refine zwa rfl rfl rfl rfl (zr zr46 rfl) (fun u7_1r2 _=> ?_)
    exact zP (hD1 (u3_1r2,u3_2r2,u3_3r2,u3_4r2,u7_1r2)) (by kernel_rfl) ((.of rfl):SubM _ _) .rfl .rfl ((.of [0,1,2,3,4] rfl):SelR _ _ _)
  refine zja (X:=Nat) (k':=6) (L':=(lb 10 135)) (fun u7_1r2=>([(4,.pointer (some ⟨u7_1r2,0,none⟩)),(17,.agg #[.int .i64 0,.int .i64 10,.int .i64 0,.int .i64 0,.int .i64 0,.int .i64 1000,.int .i64 0,.int .i64 1,.int .i64 0,.int .i64 0,.int .i64 100,.int .i64 100,.int .i64 0,.int .i64 1000,.int .i64 0,.int .i64 1,.int .i64 0,.int .i64 0]),(19,.agg #[.int .i64 64,.int .i64 128]),(18,.agg #[.int .i64 640,.int .i64 0,.int .i64 0]),(3,.int .i64 0),(2,.pointer (some ⟨u7_1,0,none⟩))],[boxA u7_1r2 46 (cw [wz,wz,wz,wz])],[boxA u7_1 46 (cw [u3_1,u3_2,u3_3,u3_4]),boxA b1 37 [.int .i64 640,.int .i64 0,.int .i64 0]],[qF true u3_1 u3_2 ((120:Int):Rat),qF true u3_3 u3_4 ((-200:Int):Rat),sgF])) ?_ (fun hD3=> ?_)
  ·
   rintro u7_1r2
   dsimp only [cw,cS]
   refine zt 3 (by kernel_rfl) ?_
   ·
    refine zo rfl rfl rfl rfl (.c rfl (.c rfl (.c rfl (.c rfl (.c rfl .n))))) ce14 (zWc (s:=Sh.exS) (cm:=Sh.exC) (u:=64) (v:=128) (r:=0) (h:=0) (hfi:=by first|rfl|assumption|decide|omega|exact Sh.hqX) (hst:=by first|rfl|assumption|decide|omega|exact Sh.hqX) (hta:=by first|rfl|assumption|decide|omega|exact Sh.hqX) (htb:=by first|rfl|assumption|decide|omega|exact Sh.hqX) (hxa:=by first|rfl|assumption|decide|omega|exact Sh.hqX) (hya:=by first|rfl|assumption|decide|omega|exact Sh.hqX) (hza:=by first|rfl|assumption|decide|omega|exact Sh.hqX) (hqa:=by first|rfl|assumption|decide|omega|exact Sh.hqX) (hqb:=by first|rfl|assumption|decide|omega|exact Sh.hqX) (hqc:=by first|rfl|assumption|decide|omega|exact Sh.hqX) (hqd:=by first|rfl|assumption|decide|omega|exact Sh.hqX) (hxb:=by first|rfl|assumption|decide|omega|exact Sh.hqX) (hyb:=by first|rfl|assumption|decide|omega|exact Sh.hqX) (hzb:=by first|rfl|assumption|decide|omega|exact Sh.hqX) (hra:=by first|rfl|assumption|decide|omega|exact Sh.hqX) (hrb:=by first|rfl|assumption|decide|omega|exact Sh.hqX) (hrc:=by first|rfl|assumption|decide|omega|exact Sh.hqX) (hrd:=by first|rfl|assumption|decide|omega|exact Sh.hqX) (h64fo:=by first|rfl|assumption|decide|omega|exact Sh.hqX) (h64cx:=by first|rfl|assumption|decide|omega|exact Sh.hqX) (h64cy:=by first|rfl|assumption|decide|omega|exact Sh.hqX) (h64u:=by first|rfl|assumption|decide|omega|exact Sh.hqX) (h64v:=by first|rfl|assumption|decide|omega|exact Sh.hqX) (h64r:=by first|rfl|assumption|decide|omega|exact Sh.hqX) (h64h:=by first|rfl|assumption|decide|omega|exact Sh.hqX)) (.c (j:=2) rfl .n) ?_
    rintro ⟨u3_1r2,u3_2r2,u3_3r2,u3_4r2⟩ hph2
    dsimp only [List.append_eq,List.nil_append,List.cons_append]
    replace hph2:Sh.Cc Sh.exS Sh.exC 64 128 0 0≠0→u3_1r2=wz∧u3_2r2=wz∧u3_3r2=wz∧u3_4r2=wz:=hph2
    refine d_pv 4 rfl rfl (by kernel_rfl) (by kernel_rfl) rfl rfl (zd rfl)<|d_pv 5 rfl rfl (by kernel_rfl) (by kernel_rfl) rfl rfl (zG rfl rfl)<|d_pv 6 rfl rfl (by kernel_rfl) (by kernel_rfl) rfl rfl (zG rfl rfl) ?_
    exact zP (hD1 (u3_1r2,u3_2r2,u3_3r2,u3_4r2,u7_1r2)) (by kernel_rfl) ((.of rfl):SubM _ _) .rfl .rfl ((.of [0,1,2,3,4] rfl):SelR _ _ _)
  refine zja (X:=Unit) (k':=7) (L':=(lb 10 7)) (fun _=>([(17,.agg #[.int .i64 0,.int .i64 10,.int .i64 0,.int .i64 0,.int .i64 0,.int .i64 1000,.int .i64 0,.int .i64 1,.int .i64 0,.int .i64 0,.int .i64 100,.int .i64 100,.int .i64 0,.int .i64 1000,.int .i64 0,.int .i64 1,.int .i64 0,.int .i64 0]),(19,.agg #[.int .i64 64,.int .i64 128]),(18,.agg #[.int .i64 640,.int .i64 0,.int .i64 0]),(3,.int .i64 0),(2,.pointer (some ⟨u7_1,0,none⟩))],[],[boxA u7_1 46 (cw [u3_1,u3_2,u3_3,u3_4]),boxA b1 37 [.int .i64 640,.int .i64 0,.int .i64 0]],[qF true u3_1 u3_2 ((120:Int):Rat),qF true u3_3 u3_4 ((-200:Int):Rat),sgF])) ?_ (fun hD4=> ?_)
  ·
   rintro ⟨⟩
   dsimp only [cw,cS]
   refine zqb 3 7 (by kernel_rfl) ?_ ?_
   ·
    refine zo rfl rfl rfl rfl (.c rfl (.c rfl (.c rfl (.c rfl (.c rfl .n))))) ce14 (zWc (s:=Sh.exS) (cm:=Sh.exC) (u:=64) (v:=128) (r:=0) (h:=0) (hfi:=by first|rfl|assumption|decide|omega|exact Sh.hqX) (hst:=by first|rfl|assumption|decide|omega|exact Sh.hqX) (hta:=by first|rfl|assumption|decide|omega|exact Sh.hqX) (htb:=by first|rfl|assumption|decide|omega|exact Sh.hqX) (hxa:=by first|rfl|assumption|decide|omega|exact Sh.hqX) (hya:=by first|rfl|assumption|decide|omega|exact Sh.hqX) (hza:=by first|rfl|assumption|decide|omega|exact Sh.hqX) (hqa:=by first|rfl|assumption|decide|omega|exact Sh.hqX) (hqb:=by first|rfl|assumption|decide|omega|exact Sh.hqX) (hqc:=by first|rfl|assumption|decide|omega|exact Sh.hqX) (hqd:=by first|rfl|assumption|decide|omega|exact Sh.hqX) (hxb:=by first|rfl|assumption|decide|omega|exact Sh.hqX) (hyb:=by first|rfl|assumption|decide|omega|exact Sh.hqX) (hzb:=by first|rfl|assumption|decide|omega|exact Sh.hqX) (hra:=by first|rfl|assumption|decide|omega|exact Sh.hqX) (hrb:=by first|rfl|assumption|decide|omega|exact Sh.hqX) (hrc:=by first|rfl|assumption|decide|omega|exact Sh.hqX) (hrd:=by first|rfl|assumption|decide|omega|exact Sh.hqX) (h64fo:=by first|rfl|assumption|decide|omega|exact Sh.hqX) (h64cx:=by first|rfl|assumption|decide|omega|exact Sh.hqX) (h64cy:=by first|rfl|assumption|decide|omega|exact Sh.hqX) (h64u:=by first|rfl|assumption|decide|omega|exact Sh.hqX) (h64v:=by first|rfl|assumption|decide|omega|exact Sh.hqX) (h64r:=by first|rfl|assumption|decide|omega|exact Sh.hqX) (h64h:=by first|rfl|assumption|decide|omega|exact Sh.hqX)) (.c (j:=2) rfl .n) ?_
    rintro ⟨u3_1r2,u3_2r2,u3_3r2,u3_4r2⟩ hph2
    dsimp only [List.append_eq,List.nil_append,List.cons_append]
    replace hph2:Sh.Cc Sh.exS Sh.exC 64 128 0 0≠0→u3_1r2=wz∧u3_2r2=wz∧u3_3r2=wz∧u3_4r2=wz:=hph2
    refine d_pv 4 rfl rfl (by kernel_rfl) (by kernel_rfl) rfl rfl (zd rfl)<|d_pv 5 rfl rfl (by kernel_rfl) (by kernel_rfl) rfl rfl (zG rfl rfl)<|d_pv 6 rfl rfl (by kernel_rfl) (by kernel_rfl) rfl rfl (zG rfl rfl) ?_
    exact zP (hD2 (u3_1r2,u3_2r2,u3_3r2,u3_4r2)) (by kernel_rfl) ((.of rfl):SubM _ _) .rfl .rfl ((.of [0,1,2,3,4] rfl):SelR _ _ _)
   ·
    refine zwa rfl rfl rfl rfl (zr zr46 rfl) (fun u7_1r2 _=> ?_)
    exact zP (hD3 u7_1r2) (by kernel_rfl) ((.of rfl):SubM _ _) .rfl .rfl ((.of [0,1,2] rfl):SelR _ _ _)
  refine zja (X:=Nat) (k':=7) (L':=(lb 10 134)) (fun u7_1r2=>([(4,.pointer (some ⟨u7_1r2,0,none⟩)),(19,.agg #[.int .i64 64,.int .i64 128]),(18,.agg #[.int .i64 640,.int .i64 0,.int .i64 0]),(3,.int .i64 0),(2,.pointer (some ⟨u7_1,0,none⟩))],[boxA u7_1r2 46 (cw [wz,wz,wz,wz])],[boxA u7_1 46 (cw [u3_1,u3_2,u3_3,u3_4]),boxA b1 37 [.int .i64 640,.int .i64 0,.int .i64 0]],[qF true u3_1 u3_2 ((120:Int):Rat),qF true u3_3 u3_4 ((-200:Int):Rat),sgF])) ?_ (fun hD5=> ?_)
  ·
   rintro u7_1r2
   dsimp only [cw,cS]
   refine zt 0 (by kernel_rfl) ?_
   ·
    refine zKa rfl rfl rfl rfl (.n) ce40 (zyb) (.n) ?_
    exact zP (hD3 u7_1r2) (by kernel_rfl) ((.of rfl):SubM _ _) .rfl .rfl ((.of [0,1,2] rfl):SelR _ _ _)
  refine zqb 0 7 (by kernel_rfl) ?_ ?_
  ·
   refine zKa rfl rfl rfl rfl (.n) ce40 (zyb) (.n) ?_
   exact zP (hD4 ()) (by kernel_rfl) ((.of rfl):SubM _ _) .rfl .rfl ((.of [0,1,2] rfl):SelR _ _ _)
  ·
   refine zwa rfl rfl rfl rfl (zr zr46 rfl) (fun u7_1r2 _=> ?_)
   exact zP (hD5 u7_1r2) (by kernel_rfl) ((.of rfl):SubM _ _) .rfl .rfl ((.of [0,1,2] rfl):SelR _ _ _)
 refine zja (X:=Wd×Wd×Wd×Wd×Nat) (k':=2) (L':=(lb 10 255)) (fun (u3_1,u3_2,u3_3,u3_4,u7_1)=>([(2,.pointer (some ⟨u7_1,0,none⟩)),(15,.int .i64 (Sh.Gc Sh.exS Sh.exC 64 128 0)),(14,.agg (cw [u3_1,u3_2,u3_3,u3_4]).toArray),(1,.pointer (some ⟨b1,0,none⟩))],[boxA u7_1 46 (cw [wz,wz,wz,wz])],[boxA b1 37 [.int .i64 640,.int .i64 0,.int .i64 0]],[qF (decide (Sh.Gc Sh.exS Sh.exC 64 128 0=0)) u3_1 u3_2 (Sh.Gx Sh.exS Sh.exC 64 128 0),qF (decide (Sh.Gc Sh.exS Sh.exC 64 128 0=0)) u3_3 u3_4 (Sh.Gy Sh.exS Sh.exC 64 128 0),sgF])) ?_ (fun hD1=> ?_)
 ·
  rintro ⟨u3_1,u3_2,u3_3,u3_4,u7_1⟩
  dsimp only [cw,cS]
  refine zt 8 (by kernel_rfl) ?_
  ·
   refine zq (by kernel_rfl) rfl rfl rfl rfl rfl sz46 rfl (.take (.take (.take (.take (.take (.take (.take (.take .nil))))))))<|d_pv 9 rfl rfl (by kernel_rfl) (by kernel_rfl) rfl rfl (zi rfl) ?_
   exact zP (hD0 (u3_1,u3_2,u3_3,u3_4,u7_1)) (by kernel_rfl) ((.of rfl):SubM _ _) .rfl .rfl ((.of [0,1,2] rfl):SelR _ _ _)
 refine zja (X:=Wd×Wd×Wd×Wd) (k':=3) (L':=(lb 10 127)) (fun (u3_1,u3_2,u3_3,u3_4)=>([(15,.int .i64 (Sh.Gc Sh.exS Sh.exC 64 128 0)),(14,.agg (cw [u3_1,u3_2,u3_3,u3_4]).toArray),(1,.pointer (some ⟨b1,0,none⟩))],[],[boxA b1 37 [.int .i64 640,.int .i64 0,.int .i64 0]],[qF (decide (Sh.Gc Sh.exS Sh.exC 64 128 0=0)) u3_1 u3_2 (Sh.Gx Sh.exS Sh.exC 64 128 0),qF (decide (Sh.Gc Sh.exS Sh.exC 64 128 0=0)) u3_3 u3_4 (Sh.Gy Sh.exS Sh.exC 64 128 0),sgF])) ?_ (fun hD2=> ?_)
 ·
  rintro ⟨u3_1,u3_2,u3_3,u3_4⟩
  dsimp only [cw,cS]
  refine zt 7 (by kernel_rfl) ?_
  ·
   refine zwa rfl rfl rfl rfl (zr zr46 rfl) (fun u7_1 _=> ?_)
   exact zP (hD1 (u3_1,u3_2,u3_3,u3_4,u7_1)) (by kernel_rfl) ((.of rfl):SubM _ _) .rfl .rfl ((.of [0,1,2] rfl):SelR _ _ _)
 refine zja (X:=Nat) (k':=6) (L':=(lb 10 135)) (fun u7_1=>([(2,.pointer (some ⟨u7_1,0,none⟩)),(10,.agg #[.int .i64 0,.int .i64 10,.int .i64 0,.int .i64 0,.int .i64 0,.int .i64 1000,.int .i64 0,.int .i64 1,.int .i64 0,.int .i64 0,.int .i64 100,.int .i64 100,.int .i64 0,.int .i64 1000,.int .i64 0,.int .i64 1,.int .i64 0,.int .i64 0]),(12,.agg #[.int .i64 64,.int .i64 128]),(11,.agg #[.int .i64 640,.int .i64 0,.int .i64 0]),(1,.pointer (some ⟨b1,0,none⟩))],[boxA u7_1 46 (cw [wz,wz,wz,wz])],[boxA b1 37 [.int .i64 640,.int .i64 0,.int .i64 0]],[sgF])) ?_ (fun hD3=> ?_)
 ·
  rintro u7_1
  dsimp only [cw,cS]
  refine zt 3 (by kernel_rfl) ?_
  ·
   refine zo rfl rfl rfl rfl (.c rfl (.c rfl (.c rfl (.c rfl .n)))) ce24 (znd (s:=Sh.exS) (cm:=Sh.exC) (u:=64) (v:=128) (h:=0) (hfi:=by first|rfl|assumption|decide|omega|exact Sh.hqX) (hst:=by first|rfl|assumption|decide|omega|exact Sh.hqX) (hta:=by first|rfl|assumption|decide|omega|exact Sh.hqX) (htb:=by first|rfl|assumption|decide|omega|exact Sh.hqX) (hxa:=by first|rfl|assumption|decide|omega|exact Sh.hqX) (hya:=by first|rfl|assumption|decide|omega|exact Sh.hqX) (hza:=by first|rfl|assumption|decide|omega|exact Sh.hqX) (hqa:=by first|rfl|assumption|decide|omega|exact Sh.hqX) (hqb:=by first|rfl|assumption|decide|omega|exact Sh.hqX) (hqc:=by first|rfl|assumption|decide|omega|exact Sh.hqX) (hqd:=by first|rfl|assumption|decide|omega|exact Sh.hqX) (hxb:=by first|rfl|assumption|decide|omega|exact Sh.hqX) (hyb:=by first|rfl|assumption|decide|omega|exact Sh.hqX) (hzb:=by first|rfl|assumption|decide|omega|exact Sh.hqX) (hra:=by first|rfl|assumption|decide|omega|exact Sh.hqX) (hrb:=by first|rfl|assumption|decide|omega|exact Sh.hqX) (hrc:=by first|rfl|assumption|decide|omega|exact Sh.hqX) (hrd:=by first|rfl|assumption|decide|omega|exact Sh.hqX) (h64fo:=by first|rfl|assumption|decide|omega|exact Sh.hqX) (h64cx:=by first|rfl|assumption|decide|omega|exact Sh.hqX) (h64cy:=by first|rfl|assumption|decide|omega|exact Sh.hqX) (h64u:=by first|rfl|assumption|decide|omega|exact Sh.hqX) (h64v:=by first|rfl|assumption|decide|omega|exact Sh.hqX) (h64h:=by first|rfl|assumption|decide|omega|exact Sh.hqX)) (.c (j:=0) rfl .n) ?_
   rintro ⟨u3_1,u3_2,u3_3,u3_4⟩ hph1
   dsimp only [List.append_eq,List.nil_append,List.cons_append]
   replace hph1:Sh.Gc Sh.exS Sh.exC 64 128 0≠0→u3_1=wz∧u3_2=wz∧u3_3=wz∧u3_4=wz:=hph1
   refine d_pv 4 rfl rfl (by kernel_rfl) (by kernel_rfl) rfl rfl (zd rfl)<|d_pv 5 rfl rfl (by kernel_rfl) (by kernel_rfl) rfl rfl (zG rfl rfl)<|d_pv 6 rfl rfl (by kernel_rfl) (by kernel_rfl) rfl rfl (zG rfl rfl) ?_
   exact zP (hD1 (u3_1,u3_2,u3_3,u3_4,u7_1)) (by kernel_rfl) ((.of rfl):SubM _ _) .rfl .rfl ((.of [0,1,2] rfl):SelR _ _ _)
 refine zja (X:=Unit) (k':=7) (L':=(lb 10 7)) (fun _=>([(10,.agg #[.int .i64 0,.int .i64 10,.int .i64 0,.int .i64 0,.int .i64 0,.int .i64 1000,.int .i64 0,.int .i64 1,.int .i64 0,.int .i64 0,.int .i64 100,.int .i64 100,.int .i64 0,.int .i64 1000,.int .i64 0,.int .i64 1,.int .i64 0,.int .i64 0]),(12,.agg #[.int .i64 64,.int .i64 128]),(11,.agg #[.int .i64 640,.int .i64 0,.int .i64 0]),(1,.pointer (some ⟨b1,0,none⟩))],[],[boxA b1 37 [.int .i64 640,.int .i64 0,.int .i64 0]],[sgF])) ?_ (fun hD4=> ?_)
 ·
  rintro ⟨⟩
  dsimp only
  refine zqb 3 7 (by kernel_rfl) ?_ ?_
  ·
   refine zo rfl rfl rfl rfl (.c rfl (.c rfl (.c rfl (.c rfl .n)))) ce24 (znd (s:=Sh.exS) (cm:=Sh.exC) (u:=64) (v:=128) (h:=0) (hfi:=by first|rfl|assumption|decide|omega|exact Sh.hqX) (hst:=by first|rfl|assumption|decide|omega|exact Sh.hqX) (hta:=by first|rfl|assumption|decide|omega|exact Sh.hqX) (htb:=by first|rfl|assumption|decide|omega|exact Sh.hqX) (hxa:=by first|rfl|assumption|decide|omega|exact Sh.hqX) (hya:=by first|rfl|assumption|decide|omega|exact Sh.hqX) (hza:=by first|rfl|assumption|decide|omega|exact Sh.hqX) (hqa:=by first|rfl|assumption|decide|omega|exact Sh.hqX) (hqb:=by first|rfl|assumption|decide|omega|exact Sh.hqX) (hqc:=by first|rfl|assumption|decide|omega|exact Sh.hqX) (hqd:=by first|rfl|assumption|decide|omega|exact Sh.hqX) (hxb:=by first|rfl|assumption|decide|omega|exact Sh.hqX) (hyb:=by first|rfl|assumption|decide|omega|exact Sh.hqX) (hzb:=by first|rfl|assumption|decide|omega|exact Sh.hqX) (hra:=by first|rfl|assumption|decide|omega|exact Sh.hqX) (hrb:=by first|rfl|assumption|decide|omega|exact Sh.hqX) (hrc:=by first|rfl|assumption|decide|omega|exact Sh.hqX) (hrd:=by first|rfl|assumption|decide|omega|exact Sh.hqX) (h64fo:=by first|rfl|assumption|decide|omega|exact Sh.hqX) (h64cx:=by first|rfl|assumption|decide|omega|exact Sh.hqX) (h64cy:=by first|rfl|assumption|decide|omega|exact Sh.hqX) (h64u:=by first|rfl|assumption|decide|omega|exact Sh.hqX) (h64v:=by first|rfl|assumption|decide|omega|exact Sh.hqX) (h64h:=by first|rfl|assumption|decide|omega|exact Sh.hqX)) (.c (j:=0) rfl .n) ?_
   rintro ⟨u3_1,u3_2,u3_3,u3_4⟩ hph1
   dsimp only [List.append_eq,List.nil_append,List.cons_append]
   replace hph1:Sh.Gc Sh.exS Sh.exC 64 128 0≠0→u3_1=wz∧u3_2=wz∧u3_3=wz∧u3_4=wz:=hph1
   refine d_pv 4 rfl rfl (by kernel_rfl) (by kernel_rfl) rfl rfl (zd rfl)<|d_pv 5 rfl rfl (by kernel_rfl) (by kernel_rfl) rfl rfl (zG rfl rfl)<|d_pv 6 rfl rfl (by kernel_rfl) (by kernel_rfl) rfl rfl (zG rfl rfl) ?_
   exact zP (hD2 (u3_1,u3_2,u3_3,u3_4)) (by kernel_rfl) ((.of rfl):SubM _ _) .rfl .rfl ((.of [0,1,2] rfl):SelR _ _ _)
  ·
   refine zwa rfl rfl rfl rfl (zr zr46 rfl) (fun u7_1 _=> ?_)
   exact zP (hD3 u7_1) (by kernel_rfl) ((.of rfl):SubM _ _) .rfl .rfl ((.c (j:=0) rfl .n):SelR _ _ _)
 refine zja (X:=Nat) (k':=7) (L':=(lb 10 134)) (fun u7_1=>([(2,.pointer (some ⟨u7_1,0,none⟩)),(12,.agg #[.int .i64 64,.int .i64 128]),(11,.agg #[.int .i64 640,.int .i64 0,.int .i64 0]),(1,.pointer (some ⟨b1,0,none⟩))],[boxA u7_1 46 (cw [wz,wz,wz,wz])],[boxA b1 37 [.int .i64 640,.int .i64 0,.int .i64 0]],[sgF])) ?_ (fun hD5=> ?_)
 ·
  rintro u7_1
  dsimp only [cw,cS]
  refine zt 0 (by kernel_rfl) ?_
  ·
   refine zKa rfl rfl rfl rfl (.n) ce40 (zyb) (.n) ?_
   exact zP (hD3 u7_1) (by kernel_rfl) ((.of rfl):SubM _ _) .rfl .rfl ((.c (j:=0) rfl .n):SelR _ _ _)
 refine zqb 0 7 (by kernel_rfl) ?_ ?_
 ·
  refine zKa rfl rfl rfl rfl (.n) ce40 (zyb) (.n) ?_
  exact zP (hD4 ()) (by kernel_rfl) ((.of rfl):SubM _ _) .rfl .rfl ((.c (j:=0) rfl .n):SelR _ _ _)
 ·
  refine zwa rfl rfl rfl rfl (zr zr46 rfl) (fun u7_1 _=> ?_)
  exact zP (hD5 u7_1) (by kernel_rfl) ((.of rfl):SubM _ _) .rfl .rfl ((.c (j:=0) rfl .n):SelR _ _ _)
end Go.Proofs.YtjeahiahjgifgaaGreatDoor.Sp
namespace Go.Proofs.YtjeahiahjgifgaaGreatDoor.Sp
open Go
set_option linter.unusedVariables false
set_option maxRecDepth 100000
set_option maxHeartbeats 8000000
theorem zwc {s:Sh.S} {n:Int} (hfi: -9223372036854775808≤s.fi∧s.fi≤9223372036854775807) (hst: -9223372036854775808≤s.st∧s.st≤9223372036854775807) (hta: -9223372036854775808≤s.ta∧s.ta≤9223372036854775807) (htb: -9223372036854775808≤s.tb∧s.tb≤9223372036854775807) (hxa: -9223372036854775808≤s.xa∧s.xa≤9223372036854775807) (hya: -9223372036854775808≤s.ya∧s.ya≤9223372036854775807) (hza: -9223372036854775808≤s.za∧s.za≤9223372036854775807) (hqa: -9223372036854775808≤s.qa∧s.qa≤9223372036854775807) (hqb: -9223372036854775808≤s.qb∧s.qb≤9223372036854775807) (hqc: -9223372036854775808≤s.qc∧s.qc≤9223372036854775807) (hqd: -9223372036854775808≤s.qd∧s.qd≤9223372036854775807) (hxb: -9223372036854775808≤s.xb∧s.xb≤9223372036854775807) (hyb: -9223372036854775808≤s.yb∧s.yb≤9223372036854775807) (hzb: -9223372036854775808≤s.zb∧s.zb≤9223372036854775807) (hra: -9223372036854775808≤s.ra∧s.ra≤9223372036854775807) (hrb: -9223372036854775808≤s.rb∧s.rb≤9223372036854775807) (hrc: -9223372036854775808≤s.rc∧s.rc≤9223372036854775807) (hrd: -9223372036854775808≤s.rd∧s.rd≤9223372036854775807) (h64n: -9223372036854775808≤n∧n≤9223372036854775807):Con Tryz.prog 3 [.agg #[.int .i64 (s.fi),.int .i64 (s.st),.int .i64 (s.ta),.int .i64 (s.xa),.int .i64 (s.ya),.int .i64 (s.za),.int .i64 (s.qa),.int .i64 (s.qb),.int .i64 (s.qc),.int .i64 (s.qd),.int .i64 (s.tb),.int .i64 (s.xb),.int .i64 (s.yb),.int .i64 (s.zb),.int .i64 (s.ra),.int .i64 (s.rb),.int .i64 (s.rc),.int .i64 (s.rd)],.int .i64 n] [] [sgF] (Y:=Unit) (fun y=>True) (fun y=> .bool true) (fun y=>[]) (fun y=>[]):=by
 refine zA Tryz.func3 rfl rfl rfl (fun c=> ?_)
 show RunC _ _ _ _ _ [(0,.agg #[.int .i64 (s.fi),.int .i64 (s.st),.int .i64 (s.ta),.int .i64 (s.xa),.int .i64 (s.ya),.int .i64 (s.za),.int .i64 (s.qa),.int .i64 (s.qb),.int .i64 (s.qc),.int .i64 (s.qd),.int .i64 (s.tb),.int .i64 (s.xb),.int .i64 (s.yb),.int .i64 (s.zb),.int .i64 (s.ra),.int .i64 (s.rb),.int .i64 (s.rc),.int .i64 (s.rd)]),(1,.int .i64 n)] [] [sgF]
 refine zj<|zc<|zL rfl rfl (zfa rfl rfl) (fun b1=> ?_)
 refine r_pv rfl rfl (zi rfl)<|zm<|zg<|zj<|zj<|zc<|zY rfl rfl (.n) ce11 (zcf) (.c (j:=0) rfl .n)<|r_pv rfl rfl (zzc rfl)<|zm<|zg<|zua rfl rfl<|zD<|zg<|zj<|zW (OW:=[]) (O:=[boxA b1 29 (cS s)]) 100000 mixed (.then .ret) (by kernel_rfl)<|d_u 0 rfl rfl (by kernel_rfl) (by kernel_rfl) rfl rfl (zf 0 ty29 rfl rfl (.take (.take (.take (.take (.take (.take (.take (.take (.take (.take (.take (.take (.take (.take (.take (.take (.take (.take .nil)))))))))))))))))))<|d_pv 1 rfl rfl (by kernel_rfl) (by kernel_rfl) rfl rfl (zd rfl)<|d_u 3 rfl rfl (by kernel_rfl) (by kernel_rfl) rfl rfl (zf 0 ty29 rfl rfl (.take (.take (.take (.take (.take (.take (.take (.take (.take (.take (.take (.take (.take (.take (.take (.take (.take (.take .nil)))))))))))))))))))<|d_pv 4 rfl rfl (by kernel_rfl) (by kernel_rfl) rfl rfl (zd rfl)<|zt 2 (by kernel_rfl) (zKa rfl rfl rfl rfl (.c rfl (.c rfl .n)) ce12 (zjc (s:=s) (n:=n) (hfi:=by assumption) (hst:=by assumption) (hta:=by assumption) (htb:=by assumption) (hxa:=by assumption) (hya:=by assumption) (hza:=by assumption) (hqa:=by assumption) (hqb:=by assumption) (hqc:=by assumption) (hqd:=by assumption) (hxb:=by assumption) (hyb:=by assumption) (hzb:=by assumption) (hra:=by assumption) (hrb:=by assumption) (hrc:=by assumption) (hrd:=by assumption)) (.n) ?_)
 refine zt 5 (by kernel_rfl) (zKa rfl rfl rfl rfl (.c rfl (.c rfl .n)) ce13 (zze (s:=s) (n:=n) (hfi:=by assumption) (hst:=by assumption) (hta:=by assumption) (htb:=by assumption) (hxa:=by assumption) (hya:=by assumption) (hza:=by assumption) (hqa:=by assumption) (hqb:=by assumption) (hqc:=by assumption) (hqd:=by assumption) (hxb:=by assumption) (hyb:=by assumption) (hzb:=by assumption) (hra:=by assumption) (hrb:=by assumption) (hrc:=by assumption) (hrd:=by assumption)) (.n) ?_)
 refine d_pv 6 rfl rfl (by kernel_rfl) (by kernel_rfl) rfl rfl (zNa rfl rfl) ?_
 rw [show (decide (Sh.chk s n=Sh.chk s n))=true from by exact decide_eq_true rfl]
 refine d_pv 7 rfl rfl (by kernel_rfl) (by kernel_rfl) rfl rfl (zi rfl)<|zU (by kernel_rfl)<|zg<|zT ?_
 exact zO Tryz.results3 () trivial (zH rfl) rfl (ho:=(.n:PickO _ _ _)) (.n:SelR _ _ _)
end Go.Proofs.YtjeahiahjgifgaaGreatDoor.Sp
