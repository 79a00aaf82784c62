/- Lemmas on the walk and plain lemmas that the claim of this folder uses; each states its own conditions. Lines were printed by a program of ours. -/
import Derived.Test.YtefbbhiaalcjfaaZ4D
set_option linter.unusedVariables false
set_option linter.unusedSimpArgs false
set_option linter.unusedSectionVars false
namespace Go.Proofs.Ytefbbhiaalcjfaa.Sp
open Go
set_option linter.unusedVariables false
set_option maxRecDepth 100000
set_option maxHeartbeats 1000000
theorem zcd {w:Int} {h:Int} {m:Int} {p:Option Addr} {n:Nat} {cap:Nat} {l:List Int} {th:Int} (hn:l.length=n):Con Try.prog 14 [.agg #[.int .i64 w,.int .i64 h,.int .i64 m,.slice p n cap],.int .i64 th] [] [slF (rI .i64) p cap l] (Y:=Int) (fun y=>Fl.HolR w h m l th y) (fun y=> .tuple #[.int .i64 y,.int .i64 (if Bl.rok w h m l then (if 0≤th∧th≤65536 then 0 else 2) else 1)]) (fun y=>[]) (fun y=>[]):=by
 refine zq Try.func14 rfl rfl rfl (fun c=> ?_)
 show RunC _ _ _ _ _ [(0,.agg #[.int .i64 w,.int .i64 h,.int .i64 m,.slice p n cap]),(1,.int .i64 th)] [] [slF (rI .i64) p cap l]
 refine zfa 0 rfl (fun hL0=> ?_)
 refine zh<|zc<|zT rfl rfl (zY rfl rfl) (fun b1=> ?_)
 refine zT rfl rfl (zY rfl rfl) (fun b2=> ?_)
 refine r_pv rfl rfl (zd rfl)<|r_pv rfl rfl (zd rfl)<|zj<|ze<|zh<|zh<|zc<|r_u rfl rfl (zi 1 ty24 rfl rfl (.take (.take (.take (.take .nil)))))<|r_u rfl rfl (zf 0 ty3 rfl rfl rfl)<|zR rfl rfl (.c rfl (.c rfl .n)) ce33 (zxb (w:=w) (h:=h) (m:=m) (p:=p) (n:=n) (cap:=cap) (l:=l) (th:=th) (hn:=by assumption)) (.c (j:=0) rfl .n)<|r_pv rfl rfl (zd rfl)<|zj<|ze<|zh<|zc<|r_pv rfl rfl (zb rfl)<|r_pv rfl rfl (zHa rfl rfl)<|zj<|ze<|zC rfl (fun hc=> ?_) (fun hc=> ?_)
 ·
  have hno:=fun k=>hc (Fl.ask0.2 k)
  refine zh<|zc<|r_pv rfl rfl (zb rfl)<|r_pv rfl rfl (zd rfl)<|r_pv rfl rfl (zd rfl)<|zj<|ze<|zI<|zt ?_
  exact zua Try.results14 0 (Fl.HolR.no hno) (zp rfl) (zp rfl) rfl (ho:=(.n:PickO _ _ _)) (.n:SelR _ _ _)
 ·
  have hok:=Fl.ask0.1 (Decidable.not_not.1 hc)
  obtain ⟨wn,hn9,rfl,rfl,hw9,hh9,hwh,hb9⟩:=Fl.rok_n hok.1 hn
  refine zz<|ze<|zh<|zAb 0 rfl .z<|zka (OW:=[]) (O:=[emA,boxA b1 24 [.int .i64 ((wn:Nat):Int),.int .i64 ((hn9:Nat):Int),.int .i64 m,.slice p n cap]]) 100000 mixed (.then .ret) (by kernel_rfl)<|d_u 0 rfl rfl (by kernel_rfl) (by kernel_rfl) rfl rfl (zi 1 ty24 rfl rfl (.take (.take (.take (.take .nil)))))<|d_pv 1 rfl rfl (by kernel_rfl) (by kernel_rfl) rfl rfl (zXa .n (.c rfl .n))<|zW 2 (by kernel_rfl) (zU rfl rfl rfl rfl (.n) ce38 (zLe) (.n) ?_)
  rintro ⟨p33,c34⟩ -
  dsimp only [List.append_eq,List.nil_append,List.cons_append]
  refine zW 3 (by kernel_rfl) (zU rfl rfl rfl rfl (.c rfl (.c rfl (.c rfl .n))) ce36 (zbd (w:=wn) (h:=hn9) (m:=m) (p:=p) (n:=n) (cap:=cap) (l:=l) (tb:=b2) (th:=th) (p2:=p33) (c2:=c34) (hn:=by assumption) (hw:=by first|rfl|assumption|omega) (hh:=by first|rfl|assumption|omega) (hwh:=by first|rfl|assumption|omega) (hb:=by first|rfl|assumption|omega)) (.c (j:=2) rfl (.c (j:=1) rfl (.c (j:=0) rfl .n))) ?_)
  rintro ⟨p35,c36,o,cc⟩ hcl
  dsimp only [List.append_eq,List.nil_append,List.cons_append]
  replace hcl:Fl.Lst (fun j=>(Fl.lo l th) j=true) (Fl.nb true wn n) cc∧Fl.OutI n (Fl.lo l th) cc n o:=hcl
  refine d_pv 4 rfl rfl (by kernel_rfl) (by kernel_rfl) rfl rfl (zb rfl)<|d_pv 5 rfl rfl (by kernel_rfl) (by kernel_rfl) rfl rfl (zr rfl rfl)<|d_pv 6 rfl rfl (by kernel_rfl) (by kernel_rfl) rfl rfl (zr rfl rfl)<|d_pv 7 rfl rfl (by kernel_rfl) (by kernel_rfl) rfl rfl (zd rfl)<|d_pv 8 rfl rfl (by kernel_rfl) (by kernel_rfl) rfl rfl (zd rfl)<|zga (by kernel_rfl)<|ze<|zh<|zc<|zsa rfl rfl (zMd (κ:=Int) (ν:=Bool) (fun z:Int=> .int .i64 z) (fun z:Bool=> .bool z) (InK .i64)) (fun b7 _=> ?_)
  refine r_pv rfl rfl (zd rfl)<|zj<|ze<|zh<|zh ?_
  have hin:∀j,(Fl.lo l th) j=true→j<n:=fun j hj=>by have:=Fl.lo_lt hj;omega
  have hol:=hcl.2.len
  refine zc<|r_pv rfl rfl (zb rfl)<|r_pv rfl rfl (zK Try.underlying22 rfl)<|r_pv rfl rfl (zb rfl)<|zj<|ze<|zx<|zja (X:=Nat×(List (Int×Bool))) (fun x:Nat×(List (Int×Bool))=>x.1≤n∧Fl.OpnI (Fl.lo l th) cc (Fl.edg wn hn9) x.1 x.2) (fun x=>[(30,.int .i64 ((x.1:Nat):Int)),(29,.int .i64 ((n:Nat):Int)),(28,.slice p35 n c36),(9,.map (some b7)),(8,.int .i64 (((Fl.cnt (Fl.ldr (Fl.lo l th) cc) n):Nat):Int)),(5,.int .i64 0),(4,.int .i64 0),(2,.pointer (some ⟨b1,0,none⟩))]) (fun x=>[mapA b7 (fun z:Int=> .int .i64 z) (fun z:Bool=> .bool z) (InK .i64) (x.2),boxA b1 24 [.int .i64 ((wn:Nat):Int),.int .i64 ((hn9:Nat):Int),.int .i64 m,.slice p n cap]]) (fun x=>[slF (rI .i64) p35 c36 o,slF (rI2 .i64) p33 c34 ([((1:Int),(0:Int)),(-1,0),(0,1),(0,-1)]++[(1,1),(-1,1),(1,-1),(-1,-1)]),atF b2 0 [.int .i64 th],slF (rI .i64) p cap l]) (fun x:Nat×(List (Int×Bool))=>n - x.1) (0,([]:List (Int×Bool))) (show 0≤n∧Fl.OpnI (Fl.lo l th) cc (Fl.edg wn hn9) 0 ([]:List (Int×Bool)) from by exact ⟨Nat.zero_le _,Fl.OpnI.start⟩) ((.e rfl (by first|rfl|(congr 1;omega)|simp_all) (.of rfl)):SubM _ _) (ho:=((.e (i:=0) rfl (by first|rfl|(congr 1;omega)|simp_all) (.c (i:=1) rfl .n)):PickO _ _ _)) ((.of [0,1,2,3] rfl):SelR _ _ _) ?_
  rintro ⟨i,mp⟩ hI
  replace hI:i≤n∧Fl.OpnI (Fl.lo l th) cc (Fl.edg wn hn9) i mp:=hI
  try dsimp only
  obtain ⟨hi,hM⟩:=hI
  refine zh<|zc<|r_pv rfl rfl (zX rfl rfl)<|zj<|ze<|zh<|zC rfl (fun h8=> ?_) (fun h8=> ?_)
  ·
   have hqd:=Nat.div_le_self i wn
   have hq0:=Int.natCast_nonneg (i / wn)
   have hm0:=Int.natCast_nonneg (i%wn)
   have hmd:=Nat.mod_lt i (show 0<wn by omega)
   have hoe:=hcl.2.old i (by omega)
   have hon:=hcl.2.new i (by omega)
   have hcn:=Fl.cnt_le (Fl.ldr (Fl.lo l th) cc) (cc i)
   refine zz<|ze<|zh<|zx<|zh<|zc<|r_pv rfl rfl (zb rfl)<|zN (x0:=(o.getD i 0)) 0 i rfl Try.underlying22 sz3 rfl rfl rfl (by first|rfl|assumption|(simp_all;done)|omega) rfl rfl (gD (d:=0) (by omega)) (fun b9 o10 hok11=> ?_)
   replace hok11:=zn.1 hok11
   refine r_u rfl rfl (zm (j:=0) 0 ty3 rfl rfl rfl rfl)<|r_pv rfl rfl (zd rfl)<|r_pv rfl rfl (zd rfl)<|zj<|ze<|zh<|zka (OW:=[]) (O:=[mapA b7 (fun z:Int=> .int .i64 z) (fun z:Bool=> .bool z) (InK .i64) mp,boxA b1 24 [.int .i64 ((wn:Nat):Int),.int .i64 ((hn9:Nat):Int),.int .i64 m,.slice p n cap]]) 100000 mixed (.then (.block (.then (.then (.block (.then .ret)))))) (by kernel_rfl)<|d_pv 0 rfl rfl (by kernel_rfl) (by kernel_rfl) rfl rfl (zb rfl)<|d_pv 1 rfl rfl (by kernel_rfl) (by kernel_rfl) rfl rfl (zg Try.underlying24 rfl sz3 rfl rfl)<|d_u 2 rfl rfl (by kernel_rfl) (by kernel_rfl) rfl rfl (zf 1 ty3 rfl rfl rfl)<|d_pv 3 rfl rfl (by kernel_rfl) (by kernel_rfl) rfl rfl (zDa (z:=(((i%wn):Nat):Int)) rfl rfl (by omega) (remN (by omega) (by omega)))<|d_pv 4 rfl rfl (by kernel_rfl) (by kernel_rfl) rfl rfl (zb rfl)<|d_pv 5 rfl rfl (by kernel_rfl) (by kernel_rfl) rfl rfl (zg Try.underlying24 rfl sz3 rfl rfl)<|d_u 6 rfl rfl (by kernel_rfl) (by kernel_rfl) rfl rfl (zf 1 ty3 rfl rfl rfl)<|d_pv 7 rfl rfl (by kernel_rfl) (by kernel_rfl) rfl rfl (zCa (z:=(((i / wn):Nat):Int)) rfl rfl (by omega) (by rw [quoN (z:=(((i / wn):Nat):Int)) (by omega) (by omega)];exact w64 (by omega)))<|d_pv 8 rfl rfl (by kernel_rfl) (by kernel_rfl) rfl rfl (zd rfl)<|d_pv 9 rfl rfl (by kernel_rfl) (by kernel_rfl) rfl rfl (zd rfl)<|zga (by kernel_rfl)<|ze<|zOa (X:=Unit) (fun x=>True) (fun x=>[(66,.bool (decide (0≤o.getD i 0∧(Fl.edg wn hn9) i=true))),(11,.int .i64 (o.getD i 0)),(30,.int .i64 ((i:Nat):Int)),(29,.int .i64 ((n:Nat):Int)),(28,.slice p35 n c36),(9,.map (some b7)),(8,.int .i64 (((Fl.cnt (Fl.ldr (Fl.lo l th) cc) n):Nat):Int)),(5,.int .i64 0),(4,.int .i64 0),(2,.pointer (some ⟨b1,0,none⟩))]) (fun x=>[mapA b7 (fun z:Int=> .int .i64 z) (fun z:Bool=> .bool z) (InK .i64) mp,boxA b1 24 [.int .i64 ((wn:Nat):Int),.int .i64 ((hn9:Nat):Int),.int .i64 m,.slice p n cap]]) (fun x=>[atF b9 o10 [.int .i64 (o.getD i 0)],slF (rI .i64) p35 c36 o,slF (rI2 .i64) p33 c34 ([((1:Int),(0:Int)),(-1,0),(0,1),(0,-1)]++[(1,1),(-1,1),(1,-1),(-1,-1)]),atF b2 0 [.int .i64 th],slF (rI .i64) p cap l]) ?_ ?_
   ·
    refine zc<|r_pv rfl rfl (zb rfl)<|r_pv rfl rfl (zAa rfl rfl)<|zO rfl rfl (zb rfl) (fun hk0=> ?_) (fun hk0=> ?_)
    ·
     refine r_pv rfl rfl (zb rfl)<|r_pv rfl rfl (zva rfl rfl)<|zO rfl rfl (zb rfl) (fun hx0=> ?_) (fun hx0=> ?_)
     ·
      refine za rfl rfl<|za rfl rfl<|r_pv rfl rfl (zk rfl rfl)<|r_pv rfl rfl (zb rfl)<|za rfl rfl<|za rfl rfl<|za rfl rfl<|za rfl rfl<|za rfl rfl<|r_pv rfl rfl (zk rfl rfl)<|r_pv rfl rfl (zb rfl)<|za rfl rfl<|za rfl rfl<|za rfl rfl<|za rfl rfl<|za rfl rfl<|r_pv rfl rfl (zk rfl rfl)<|r_pv rfl rfl (zk rfl rfl)<|zj ?_
      exact zba () (show True from by first|trivial|omega|simp_all) ((.e rfl (congrArg Value.bool (by exact Eq.symm (decide_eq_true ⟨by omega,Fl.edg_iff.2 (by omega)⟩))) (.of rfl)):SubM _ _) (ho:=((.of [0,0] rfl):PickO _ _ _)) ((.of [0,1,2,3,4] rfl):SelR _ _ _)
     ·
      refine r_pv rfl rfl (zb rfl)<|r_pv rfl rfl (zva rfl rfl)<|r_pv rfl rfl (zk rfl rfl)<|zO rfl rfl (zb rfl) (fun hx1=> ?_) (fun hx1=> ?_)
      ·
       refine za rfl rfl<|za rfl rfl<|za rfl rfl<|za rfl rfl<|za rfl rfl<|r_pv rfl rfl (zk rfl rfl)<|r_pv rfl rfl (zb rfl)<|za rfl rfl<|za rfl rfl<|za rfl rfl<|za rfl rfl<|za rfl rfl<|r_pv rfl rfl (zk rfl rfl)<|r_pv rfl rfl (zk rfl rfl)<|zj ?_
       exact zba () (show True from by first|trivial|omega|simp_all) ((.e rfl (congrArg Value.bool (by exact Eq.symm (decide_eq_true ⟨by omega,Fl.edg_iff.2 (by omega)⟩))) (.of rfl)):SubM _ _) (ho:=((.of [0,0] rfl):PickO _ _ _)) ((.of [0,1,2,3,4] rfl):SelR _ _ _)
      ·
       refine r_pv rfl rfl (zb rfl)<|r_pv rfl rfl (zg Try.underlying24 rfl sz3 rfl rfl)<|r_u rfl rfl (zf 1 ty3 rfl rfl rfl)<|r_pv rfl rfl (zea (z:=(((wn:Nat):Int) - 1)) rfl rfl (w64 (by omega)))<|r_pv rfl rfl (zva rfl rfl)<|r_pv rfl rfl (zk rfl rfl)<|zO rfl rfl (zb rfl) (fun hx2=> ?_) (fun hx2=> ?_)
       ·
        refine za rfl rfl<|za rfl rfl<|za rfl rfl<|za rfl rfl<|za rfl rfl<|r_pv rfl rfl (zk rfl rfl)<|r_pv rfl rfl (zk rfl rfl)<|zj ?_
        exact zba () (show True from by first|trivial|omega|simp_all) ((.e rfl (congrArg Value.bool (by exact Eq.symm (decide_eq_true ⟨by omega,Fl.edg_iff.2 (by omega)⟩))) (.of rfl)):SubM _ _) (ho:=((.of [0,0] rfl):PickO _ _ _)) ((.of [0,1,2,3,4] rfl):SelR _ _ _)
       ·
        refine r_pv rfl rfl (zb rfl)<|r_pv rfl rfl (zg Try.underlying24 rfl sz3 rfl rfl)<|r_u rfl rfl (zf 1 ty3 rfl rfl rfl)<|r_pv rfl rfl (zea (z:=(((hn9:Nat):Int) - 1)) rfl rfl (w64 (by omega)))<|r_pv rfl rfl (zva rfl rfl)<|r_pv rfl rfl (zk rfl rfl)<|r_pv rfl rfl (zk rfl rfl)<|zj ?_
        exact zba () (show True from by first|trivial|omega|simp_all) ((.e rfl (congrArg Value.bool (by exact decide_eq_decide.2 ⟨fun h9=>⟨by omega,Fl.edg_iff.2 (by omega)⟩,fun h9=>by have h8:=Fl.edg_iff.1 h9.2;omega⟩)) (.of rfl)):SubM _ _) (ho:=((.of [0,0] rfl):PickO _ _ _)) ((.of [0,1,2,3,4] rfl):SelR _ _ _)
    ·
     refine za rfl rfl<|za rfl rfl<|za rfl rfl<|za rfl rfl<|za rfl rfl<|za rfl rfl<|za rfl rfl<|za rfl rfl<|za rfl rfl<|za rfl rfl<|za rfl rfl<|za rfl rfl<|za rfl rfl<|za rfl rfl<|za rfl rfl<|za rfl rfl<|za rfl rfl<|za rfl rfl<|za rfl rfl<|za rfl rfl<|r_pv rfl rfl (zk rfl rfl)<|zj ?_
     exact zba () (show True from by first|trivial|omega|simp_all) ((.e rfl (congrArg Value.bool (by exact Eq.symm (decide_eq_false (fun h9=>hk0 (by omega))))) (.of rfl)):SubM _ _) (ho:=((.of [0,0] rfl):PickO _ _ _)) ((.of [0,1,2,3,4] rfl):SelR _ _ _)
   ·
    rintro ⟨⟩ -
    try dsimp only
    refine zC rfl (fun hx=> ?_) (fun hx=> ?_)
    ·
     have hfi:(Fl.lo l th) i=true:=by by_cases h9:(Fl.lo l th) i=true;exact h9;have h8:=hon (fun h7=>h9 h7.1);omega
     have hoi:=hoe hfi (hin _ (hcl.1.mem hfi))
     have hci:=hcl.1.le i hfi
     refine zc<|r_pv rfl rfl (zb rfl)<|r_pv rfl rfl (zb rfl)<|zta 0 rfl rfl rfl (zhe (a0:=(o.getD i 0)) (v:=true) ky3 Try.underlying77 rfl rfl rfl (zn.2 (by omega))) (fun _=> .z) (fun _ _=> ?_)
     refine zj<|zQ<|ze<|zc<|r_pv rfl rfl (zB (z:=(((i+1):Nat):Int)) rfl rfl (w64 (by omega)))<|r_pv rfl rfl (zb rfl)<|zj<|zaa ((i+1),mput mp (o.getD i 0) true) (show (i+1)≤n∧Fl.OpnI (Fl.lo l th) cc (Fl.edg wn hn9) (i+1) (mput mp (o.getD i 0) true) from by have h9:=hM.put hfi hx.2;rw [← hoi] at h9;exact ⟨by omega,h9⟩) (by show n - (i+1)<n - i;omega) ((.of rfl):SubM _ _) (ho:=((.of [0,0] rfl):PickO _ _ _)) ((.of [1,2,3,4] rfl):SelR _ _ _)
    ·
     refine zz<|zQ<|ze<|zc<|r_pv rfl rfl (zB (z:=(((i+1):Nat):Int)) rfl rfl (w64 (by omega)))<|r_pv rfl rfl (zb rfl)<|zj<|zaa ((i+1),mp) (show (i+1)≤n∧Fl.OpnI (Fl.lo l th) cc (Fl.edg wn hn9) (i+1) mp from by exact ⟨by omega,hM.skip (fun h9=>hx ⟨by have h8:=hoe h9.1 (hin _ (hcl.1.mem h9.1));omega,h9.2⟩)⟩) (by show n - (i+1)<n - i;omega) ((.of rfl):SubM _ _) (ho:=((.of [0,0] rfl):PickO _ _ _)) ((.of [1,2,3,4] rfl):SelR _ _ _)
  ·
   refine zha<|zl<|zl<|zu<|ze<|zh ?_
   have hin8:i=n:=by omega
   rw [hin8] at hM
   have hml:=hM.hol hcl.1 hin
   have hcn:=Fl.cnt_le (Fl.ldr (Fl.lo l th) cc) n
   refine zc<|r_pv rfl rfl (zb rfl)<|r_pv rfl rfl (zb rfl)<|r_u rfl rfl (zie (encK:=(fun z:Int=> .int .i64 z)) (encV:=(fun z:Bool=> .bool z)) (ok:=(InK .i64)) (m:=mp) 0 rfl Try.underlying77 rfl)<|r_pv rfl rfl (zea (z:=((((Fl.cnt (Fl.ldr (Fl.lo l th) cc) n):Nat):Int) - (((mp).length:Nat):Int))) rfl rfl (w64 (by omega)))<|r_pv rfl rfl (zd rfl)<|r_pv rfl rfl (zd rfl)<|zj<|ze<|zI ?_
   exact zua Try.results14 ((Fl.hol n (Fl.lo l th) cc (Fl.edg wn hn9):Nat):Int) (Fl.HolR.yes hok hn hcl.1 rfl) (zp rfl) (zp rfl) (by rw [Decidable.not_not.1 hc,hM.hol hcl.1 hin]) (ho:=(.n:PickO _ _ _)) (.n:SelR _ _ _)
theorem zae {w:Int} {h:Int} {m:Int} {p:Option Addr} {n:Nat} {cap:Nat} {l:List Int} {th:Int} (hn:l.length=n):Con Try.prog 15 [.agg #[.int .i64 w,.int .i64 h,.int .i64 m,.slice p n cap],.int .i64 th] [] [slF (rI .i64) p cap l] (Y:=Int) (fun y=>Fl.HolR w h m l th y) (fun y=> .tuple #[.int .i64 y,.int .i64 (if Bl.rok w h m l then (if 0≤th∧th≤65536 then 0 else 2) else 1)]) (fun y=>[]) (fun y=>[]):=by
 refine zq Try.func15 rfl rfl rfl (fun c=> ?_)
 show RunC _ _ _ _ _ [(0,.agg #[.int .i64 w,.int .i64 h,.int .i64 m,.slice p n cap]),(1,.int .i64 th)] [] [slF (rI .i64) p cap l]
 refine zfa 0 rfl (fun hL0=> ?_)
 refine zh<|zc<|zT rfl rfl (zY rfl rfl) (fun b1=> ?_)
 refine r_pv rfl rfl (zd rfl)<|r_pv rfl rfl (zd rfl)<|zj<|ze<|zh<|zc<|r_u rfl rfl (zi 0 ty24 rfl rfl (.take (.take (.take (.take .nil)))))<|r_pv rfl rfl (zb rfl)<|zR rfl rfl (.c rfl (.c rfl .n)) ce16 (zZd (w:=w) (h:=h) (m:=m) (p:=p) (n:=n) (cap:=cap) (l:=l) (th:=th) (hn:=by assumption)) (.c (j:=0) rfl .n)<|r_pv rfl rfl (zd rfl)<|zj<|ze<|zh<|zh<|zc<|r_pv rfl rfl (zb rfl)<|r_pv rfl rfl (zHa rfl rfl)<|zj<|ze<|zC rfl (fun hc=> ?_) (fun hc=> ?_)
 ·
  have hno:=fun k=>hc (Fl.ask0.2 k)
  refine zh<|zc<|r_pv rfl rfl (zb rfl)<|r_pv rfl rfl (zd rfl)<|r_pv rfl rfl (zd rfl)<|zj<|ze<|zI<|zt ?_
  exact zua Try.results15 0 (Fl.HolR.no hno) (zp rfl) (zp rfl) rfl (ho:=(.n:PickO _ _ _)) (.n:SelR _ _ _)
 ·
  have hok:=Fl.ask0.1 (Decidable.not_not.1 hc)
  obtain ⟨wn,hn9,rfl,rfl,hw9,hh9,hwh,hb9⟩:=Fl.rok_n hok.1 hn
  refine zz<|ze<|zh<|zc<|zsa rfl rfl (zpa rB Try.underlying39 inf4) (fun b2 _=> ?_)
  refine r_pv rfl rfl (zd rfl)<|zj<|ze<|zh<|zh<|zc<|r_pv rfl rfl (zd rfl)<|zj<|ze<|zx<|zja (X:=Nat×(Option Addr)×Nat) (fun x:Nat×(Option Addr)×Nat=>x.1≤n) (fun x=>[(7,.slice (x.2.1) (x.1) (x.2.2)),(8,.int .i64 ((x.1:Nat):Int)),(5,.int .i64 0),(4,.int .i64 0),(2,.pointer (some ⟨b1,0,none⟩)),(1,.int .i64 th)]) (fun x=>[rowA 4 rB (x.2.1) (x.2.2) (Fl.lol l th x.1),boxA b1 24 [.int .i64 ((wn:Nat):Int),.int .i64 ((hn9:Nat):Int),.int .i64 m,.slice p n cap]]) (fun x=>[slF (rI .i64) p cap l]) (fun x:Nat×(Option Addr)×Nat=>n - x.1) (0,some ⟨b2,0,none⟩,0) (show 0≤n from by exact Nat.zero_le _) ((.c rfl (.e rfl (by first|rfl|(congr 1;omega)|simp_all) (.of rfl))):SubM _ _) (ho:=((.e (i:=0) rfl (by first|rfl|(congr 1;omega)|simp_all) (.c (i:=0) rfl .n)):PickO _ _ _)) ((.c (j:=0) rfl .n):SelR _ _ _) ?_
  rintro ⟨i,p7,c7⟩ hI
  replace hI:i≤n:=hI
  try dsimp only
  have hil:=Fl.lol_len l th i
  refine zh<|zh<|zc<|r_pv rfl rfl (zb rfl)<|r_pv rfl rfl (zg Try.underlying24 rfl sz22 rfl rfl)<|r_u rfl rfl (zf 1 ty22 rfl rfl rfl)<|r_pv rfl rfl (zK Try.underlying22 rfl)<|r_pv rfl rfl (zX rfl rfl)<|zj<|ze<|zC rfl (fun h3=> ?_) (fun h3=> ?_)
  ·
   refine zz<|ze<|zh<|zx<|zc<|r_pv rfl rfl (zb rfl)<|r_pv rfl rfl (zg Try.underlying24 rfl sz22 rfl rfl)<|r_u rfl rfl (zf 1 ty22 rfl rfl rfl)<|r_pv rfl rfl (zb rfl)<|zN (x0:=(l.getD i 0)) 0 i rfl Try.underlying22 sz3 rfl rfl rfl (by first|rfl|assumption|(simp only [Fl.lol_len];done)|omega) rfl rfl (gD (d:=0) (by omega)) (fun b4 o5 hok6=> ?_)
   replace hok6:=zn.1 hok6
   refine r_u rfl rfl (zm (j:=0) 0 ty3 rfl rfl rfl rfl)<|r_pv rfl rfl (zb rfl)<|r_pv rfl rfl (zX rfl rfl)<|zsa rfl rfl (zG (enc:=fun b:Bool=>[.bool b]) (ok:=fun _=>True) (h1:=fun _=>rfl) (h2:=fun _=>rfl) (k:=1) Try.underlying39 inf4 rfl (by decide) (by decide) (by decide) (.c (x:=decide ((l.getD i 0)<th)) rfl rfl (fun _ _=>by trivial) .n)) (fun b7 _=> ?_)
   refine zia 0 rfl .z<|zta 1 rfl rfl rfl (zqa 0 rfl Try.underlying39 inf4 (by decide) rfl rfl (by first|rfl|assumption|(simp only [Fl.lol_len];done)|omega) rfl (by first|rfl|assumption|(simp only [Fl.lol_len];done)|omega) (by omega) (by omega)) (fun _=>(.s .z)) ?_
   rintro ⟨p8,c9⟩ -
   dsimp only [List.append_eq,List.nil_append,List.cons_append]
   refine r_pv rfl rfl (zd rfl)<|zj<|zQ<|ze<|zc<|r_pv rfl rfl (zb rfl)<|r_pv rfl rfl (zB (z:=(((i+1):Nat):Int)) rfl rfl (w64 (by omega)))<|r_pv rfl rfl (zd rfl)<|zj<|zaa (i+1,p8,c9) (show (i+1)≤n from by omega) (by show n - (i+1)<n - i;omega) ((.c rfl (.e rfl (by first|rfl|(congr 1;omega)|simp_all) (.of rfl))):SubM _ _) (ho:=((.e (i:=1) rfl (by dsimp only;rw [Fl.lol_succ]) (.c (i:=1) rfl .n)):PickO _ _ _)) ((.c (j:=2) rfl .n):SelR _ _ _)
  ·
   refine zha<|zl<|zl<|zu<|ze<|zh ?_
   have e10:Fl.lol l th i=Fl.lol l th n:=by rw [show i=n by omega]
   rw [e10]
   have e11:(.slice p7 i c7:Value)= .slice p7 n c7:=by rw [show i=n by omega]
   rw [e11]
   refine zxd 0 rfl .z ?_
   have hgl:=Fl.lol_len l th n
   refine zc<|r_pv rfl rfl (zg Try.underlying24 rfl sz3 rfl rfl)<|r_u rfl rfl (zf 1 ty3 rfl rfl rfl)<|r_pv rfl rfl (zb rfl)<|zA rfl rfl (.c rfl (.c rfl (.c rfl .n))) ce35 (zad (w:=wn) (h:=hn9) (e:=true) (p:=p7) (n:=n) (cap:=c7) (l:=Fl.lol l th n) (hn:=by first|rfl|assumption|omega) (hw:=by first|rfl|assumption|omega) (hwh:=by first|rfl|assumption|omega) (hb:=by first|rfl|assumption|omega)) (.c (j:=0) rfl .n) ?_
   rintro ⟨pco,cco,co⟩ hR
   dsimp only [List.append_eq,List.nil_append,List.cons_append]
   replace hR:Fl.Rds n (Fl.fl (Fl.lol l th n)) (Fl.nb true wn n) co false:=hR
   refine r_pv rfl rfl (zd rfl)<|zj<|ze<|zh ?_
   have hL:Fl.Lst (fun j=>(Fl.lo l th) j=true) (Fl.nb true wn n) (fun jj=>(co.getD jj 0).toNat):=by have h9:=hR.lst (Fl.lol_len l th n);rw [Fl.fl_lol hn] at h9;exact h9
   have hcol:=hR.rd.len
   refine zc<|r_pv rfl rfl (zb rfl)<|r_pv rfl rfl (zK Try.underlying39 rfl)<|zsa rfl rfl (zQa (r:=rB) (k:=n) (x0:=false) (γ0:=()) Try.underlying39 inf4 rfl rfl rfl rfl (by omega) (by omega) rfl (fun _ _=>by trivial) (by decide)) (fun b12 _=> ?_)
   refine r_pv rfl rfl (zd rfl)<|zj<|ze<|zh<|zh<|zc<|r_pv rfl rfl (zd rfl)<|zj<|ze<|zx<|zja (X:=Nat×(List Bool)) (fun x:Nat×(List Bool)=>x.1≤n∧Fl.BdI n (fun jj=>(co.getD jj 0).toNat) (Fl.edg wn hn9) x.1 x.2) (fun x=>[(11,.int .i64 ((x.1:Nat):Int)),(10,.slice (some ⟨b12,0,none⟩) n n),(9,.slice pco n cco),(7,.slice p7 n c7),(5,.int .i64 0),(4,.int .i64 0),(2,.pointer (some ⟨b1,0,none⟩))]) (fun x=>[rowA 4 rB (some ⟨b12,0,none⟩) n (x.2),boxA b1 24 [.int .i64 ((wn:Nat):Int),.int .i64 ((hn9:Nat):Int),.int .i64 m,.slice p n cap]]) (fun x=>[slF (rI .i64) pco cco co,slF rB p7 c7 (Fl.lol l th n),slF (rI .i64) p cap l]) (fun x:Nat×(List Bool)=>n - x.1) (0,List.replicate n false) (show 0≤n∧Fl.BdI n (fun jj=>(co.getD jj 0).toNat) (Fl.edg wn hn9) 0 (List.replicate n false) from by exact ⟨Nat.zero_le _,Fl.BdI.start⟩) ((.e rfl (by first|rfl|(congr 1;omega)|simp_all) (.of rfl)):SubM _ _) (ho:=((.of [0,1] rfl):PickO _ _ _)) ((.of [0,1,2] rfl):SelR _ _ _) ?_
   rintro ⟨i,bd⟩ hI
   replace hI:i≤n∧Fl.BdI n (fun jj=>(co.getD jj 0).toNat) (Fl.edg wn hn9) i bd:=hI
   try dsimp only
   obtain ⟨hi,hB⟩:=hI
   have hbl:=hB.len
   refine zh<|zh<|zc<|r_pv rfl rfl (zb rfl)<|r_pv rfl rfl (zb rfl)<|r_pv rfl rfl (zK Try.underlying39 rfl)<|r_pv rfl rfl (zX rfl rfl)<|zj<|ze<|zC rfl (fun h13=> ?_) (fun h13=> ?_)
   ·
    have hqd:=Nat.div_le_self i wn
    have hq0:=Int.natCast_nonneg (i / wn)
    have hm0:=Int.natCast_nonneg (i%wn)
    have hmd:=Nat.mod_lt i (show 0<wn by omega)
    have hrg:=hR.rd.lo i (by omega)
    refine zz<|ze<|zh<|zx<|zh<|zc<|r_pv rfl rfl (zb rfl)<|r_pv rfl rfl (zg Try.underlying24 rfl sz3 rfl rfl)<|r_u rfl rfl (zf 1 ty3 rfl rfl rfl)<|r_pv rfl rfl (zDa (z:=(((i%wn):Nat):Int)) rfl rfl (by omega) (remN (by omega) (by omega)))<|r_pv rfl rfl (zd rfl)<|zj<|ze<|zh<|zc<|r_pv rfl rfl (zb rfl)<|r_pv rfl rfl (zg Try.underlying24 rfl sz3 rfl rfl)<|r_u rfl rfl (zf 1 ty3 rfl rfl rfl)<|r_pv rfl rfl (zCa (z:=(((i / wn):Nat):Int)) rfl rfl (by omega) (by rw [quoN (z:=(((i / wn):Nat):Int)) (by omega) (by omega)];exact w64 (by omega)))<|r_pv rfl rfl (zd rfl)<|zj<|ze<|zOa (X:=Unit) (fun x=>True) (fun x=>[(80,.bool ((Fl.edg wn hn9) i)),(11,.int .i64 ((i:Nat):Int)),(10,.slice (some ⟨b12,0,none⟩) n n),(9,.slice pco n cco),(7,.slice p7 n c7),(5,.int .i64 0),(4,.int .i64 0),(2,.pointer (some ⟨b1,0,none⟩))]) (fun x=>[rowA 4 rB (some ⟨b12,0,none⟩) n bd,boxA b1 24 [.int .i64 ((wn:Nat):Int),.int .i64 ((hn9:Nat):Int),.int .i64 m,.slice p n cap]]) (fun x=>[slF (rI .i64) pco cco co,slF rB p7 c7 (Fl.lol l th n),slF (rI .i64) p cap l]) ?_ ?_
    ·
     refine zc<|r_pv rfl rfl (zb rfl)<|r_pv rfl rfl (zva rfl rfl)<|zO rfl rfl (zb rfl) (fun hx0=> ?_) (fun hx0=> ?_)
     ·
      refine za rfl rfl<|za rfl rfl<|r_pv rfl rfl (zk rfl rfl)<|r_pv rfl rfl (zb rfl)<|za rfl rfl<|za rfl rfl<|za rfl rfl<|za rfl rfl<|za rfl rfl<|r_pv rfl rfl (zk rfl rfl)<|r_pv rfl rfl (zb rfl)<|za rfl rfl<|za rfl rfl<|za rfl rfl<|za rfl rfl<|za rfl rfl<|r_pv rfl rfl (zk rfl rfl)<|zj ?_
      exact zba () (show True from by first|trivial|omega|simp_all) ((.e rfl (congrArg Value.bool (by exact Eq.symm (Fl.edg_iff.2 (by omega)))) (.of rfl)):SubM _ _) (ho:=((.of [0,0] rfl):PickO _ _ _)) ((.of [0,1,2] rfl):SelR _ _ _)
     ·
      refine r_pv rfl rfl (zb rfl)<|r_pv rfl rfl (zva rfl rfl)<|r_pv rfl rfl (zk rfl rfl)<|zO rfl rfl (zb rfl) (fun hx1=> ?_) (fun hx1=> ?_)
      ·
       refine za rfl rfl<|za rfl rfl<|za rfl rfl<|za rfl rfl<|za rfl rfl<|r_pv rfl rfl (zk rfl rfl)<|r_pv rfl rfl (zb rfl)<|za rfl rfl<|za rfl rfl<|za rfl rfl<|za rfl rfl<|za rfl rfl<|r_pv rfl rfl (zk rfl rfl)<|zj ?_
       exact zba () (show True from by first|trivial|omega|simp_all) ((.e rfl (congrArg Value.bool (by exact Eq.symm (Fl.edg_iff.2 (by omega)))) (.of rfl)):SubM _ _) (ho:=((.of [0,0] rfl):PickO _ _ _)) ((.of [0,1,2] rfl):SelR _ _ _)
      ·
       refine r_pv rfl rfl (zb rfl)<|r_pv rfl rfl (zg Try.underlying24 rfl sz3 rfl rfl)<|r_u rfl rfl (zf 1 ty3 rfl rfl rfl)<|r_pv rfl rfl (zea (z:=(((wn:Nat):Int) - 1)) rfl rfl (w64 (by omega)))<|r_pv rfl rfl (zva rfl rfl)<|r_pv rfl rfl (zk rfl rfl)<|zO rfl rfl (zb rfl) (fun hx2=> ?_) (fun hx2=> ?_)
       ·
        refine za rfl rfl<|za rfl rfl<|za rfl rfl<|za rfl rfl<|za rfl rfl<|r_pv rfl rfl (zk rfl rfl)<|zj ?_
        exact zba () (show True from by first|trivial|omega|simp_all) ((.e rfl (congrArg Value.bool (by exact Eq.symm (Fl.edg_iff.2 (by omega)))) (.of rfl)):SubM _ _) (ho:=((.of [0,0] rfl):PickO _ _ _)) ((.of [0,1,2] rfl):SelR _ _ _)
       ·
        refine r_pv rfl rfl (zb rfl)<|r_pv rfl rfl (zg Try.underlying24 rfl sz3 rfl rfl)<|r_u rfl rfl (zf 1 ty3 rfl rfl rfl)<|r_pv rfl rfl (zea (z:=(((hn9:Nat):Int) - 1)) rfl rfl (w64 (by omega)))<|r_pv rfl rfl (zva rfl rfl)<|r_pv rfl rfl (zk rfl rfl)<|zj ?_
        exact zba () (show True from by first|trivial|omega|simp_all) ((.e rfl (congrArg Value.bool (by rw [Bool.eq_iff_iff,Fl.edg_iff,decide_eq_true_eq];omega)) (.of rfl)):SubM _ _) (ho:=((.of [0,0] rfl):PickO _ _ _)) ((.of [0,1,2] rfl):SelR _ _ _)
    ·
     rintro ⟨⟩ -
     try dsimp only
     refine zfb rfl (fun hx=> ?_) (fun hx=> ?_)
     ·
      refine zc<|r_pv rfl rfl (zb rfl)<|r_pv rfl rfl (zb rfl)<|r_pv rfl rfl (zb rfl)<|zN (x0:=(co.getD i 0)) 0 i rfl Try.underlying22 sz3 rfl rfl rfl (by first|rfl|assumption|(simp only [Fl.lol_len];done)|omega) rfl rfl (gD (d:=0) (by omega)) (fun b14 o15 hok16=> ?_)
      replace hok16:=zn.1 hok16
      refine r_u rfl rfl (zm (j:=0) 0 ty3 rfl rfl rfl rfl)<|r_pv rfl rfl (zS (j:=(co.getD i 0).toNat) Try.underlying39 sz4 rfl rfl (by omega) (by omega))<|zta 0 rfl rfl rfl (zP (j:=(co.getD i 0).toNat) (x0:=true) (γ0:=()) rfl rfl (by first|omega|(rw [List.length_map];omega)|(simp only [List.length_set];omega)|(simp;omega)) rfl rfl sz4 (fun _ _=>by trivial)) (fun _=> .z) (fun _ _=> ?_)
      refine zj<|zQ<|ze<|zc<|r_pv rfl rfl (zb rfl)<|r_pv rfl rfl (zB (z:=(((i+1):Nat):Int)) rfl rfl (w64 (by omega)))<|r_pv rfl rfl (zd rfl)<|zj<|zaa ((i+1),(bd.set ((co.getD i 0).toNat) true)) (show (i+1)≤n∧Fl.BdI n (fun jj=>(co.getD jj 0).toNat) (Fl.edg wn hn9) (i+1) (bd.set ((co.getD i 0).toNat) true) from by exact ⟨by omega,hB.put hx (show (co.getD i 0).toNat<n by omega)⟩) (by show n - (i+1)<n - i;omega) ((.of rfl):SubM _ _) (ho:=((.of [0,0] rfl):PickO _ _ _)) ((.of [1,2,3] rfl):SelR _ _ _)
     ·
      refine zz<|zQ<|ze<|zc<|r_pv rfl rfl (zb rfl)<|r_pv rfl rfl (zB (z:=(((i+1):Nat):Int)) rfl rfl (w64 (by omega)))<|r_pv rfl rfl (zd rfl)<|zj<|zaa ((i+1),bd) (show (i+1)≤n∧Fl.BdI n (fun jj=>(co.getD jj 0).toNat) (Fl.edg wn hn9) (i+1) bd from by exact ⟨by omega,hB.skip (fun h9=>Bool.false_ne_true (hx.symm.trans h9))⟩) (by show n - (i+1)<n - i;omega) ((.of rfl):SubM _ _) (ho:=((.of [0,0] rfl):PickO _ _ _)) ((.of [0,1,2] rfl):SelR _ _ _)
   ·
    refine zha<|zl<|zl<|zu<|ze<|zh ?_
    have hin8:i=n:=by omega
    rw [hin8] at hB
    clear hin8 hI hi
    refine zc<|r_pv rfl rfl (zd rfl)<|zj<|ze<|zh<|zh<|zc<|r_pv rfl rfl (zd rfl)<|zj<|ze<|zx<|zja (X:=Nat) (fun x:Nat=>x≤n) (fun x=>[(14,.int .i64 (((Fl.cnt (fun jj=>(Fl.ldr (Fl.lo l th) (fun jj=>(co.getD jj 0).toNat)) jj&& !(bd.getD jj false)) x):Nat):Int)),(15,.int .i64 ((x:Nat):Int)),(10,.slice (some ⟨b12,0,none⟩) n n),(9,.slice pco n cco),(7,.slice p7 n c7),(5,.int .i64 0),(4,.int .i64 0)]) (fun x=>[rowA 4 rB (some ⟨b12,0,none⟩) n bd,boxA b1 24 [.int .i64 ((wn:Nat):Int),.int .i64 ((hn9:Nat):Int),.int .i64 m,.slice p n cap]]) (fun x=>[slF (rI .i64) pco cco co,slF rB p7 c7 (Fl.lol l th n),slF (rI .i64) p cap l]) (fun x:Nat=>n - x) 0 (show 0≤n from by exact Nat.zero_le _) ((.e rfl (by first|rfl|(congr 1;omega)|simp_all) (.e rfl (by first|rfl|(congr 1;omega)|simp_all) (.of rfl))):SubM _ _) (ho:=((.of [0,0] rfl):PickO _ _ _)) ((.of [0,1,2] rfl):SelR _ _ _) ?_
    rintro i hI
    replace hI:i≤n:=hI
    try dsimp only
    refine zh<|zh<|zc<|r_pv rfl rfl (zb rfl)<|r_pv rfl rfl (zb rfl)<|r_pv rfl rfl (zK Try.underlying39 rfl)<|r_pv rfl rfl (zX rfl rfl)<|zj<|ze<|zC rfl (fun h17=> ?_) (fun h17=> ?_)
    ·
     have hcn:=Fl.cnt_le (fun jj=>(Fl.ldr (Fl.lo l th) (fun jj=>(co.getD jj 0).toNat)) jj&& !(bd.getD jj false)) i
     have hfl:(Fl.lo l th) i=(Fl.lol l th n).getD i false:=by rw [← Fl.fl_lol hn];rfl
     refine zz<|ze<|zh<|zx<|zOa (X:=Unit) (fun x=>True) (fun x=>[(111,.bool ((Fl.ldr (Fl.lo l th) (fun jj=>(co.getD jj 0).toNat)) i&& !(bd.getD i false))),(14,.int .i64 (((Fl.cnt (fun jj=>(Fl.ldr (Fl.lo l th) (fun jj=>(co.getD jj 0).toNat)) jj&& !(bd.getD jj false)) i):Nat):Int)),(15,.int .i64 ((i:Nat):Int)),(10,.slice (some ⟨b12,0,none⟩) n n),(9,.slice pco n cco),(7,.slice p7 n c7),(5,.int .i64 0),(4,.int .i64 0)]) (fun x=>[rowA 4 rB (some ⟨b12,0,none⟩) n bd,boxA b1 24 [.int .i64 ((wn:Nat):Int),.int .i64 ((hn9:Nat):Int),.int .i64 m,.slice p n cap]]) (fun x=>[slF (rI .i64) pco cco co,slF rB p7 c7 (Fl.lol l th n),slF (rI .i64) p cap l]) ?_ ?_
     ·
      refine zc<|r_pv rfl rfl (zb rfl)<|r_pv rfl rfl (zb rfl)<|zN (x0:=((Fl.lol l th n).getD i false)) 1 i rfl Try.underlying39 sz4 rfl rfl rfl (by first|rfl|assumption|(simp only [Fl.lol_len];done)|omega) rfl rfl (gD (d:=false) (by omega)) (fun b18 o19 hok20=> ?_)
      refine r_u rfl rfl (zm (j:=0) 0 ty4 rfl rfl rfl rfl)<|zhf rfl rfl (zb rfl) (fun hy0=> ?_) (fun hy0=> ?_)
      ·
       refine r_pv rfl rfl (zb rfl)<|r_pv rfl rfl (zb rfl)<|zN (x0:=(co.getD i 0)) 1 i rfl Try.underlying22 sz3 rfl rfl rfl (by first|rfl|assumption|(simp only [Fl.lol_len];done)|omega) rfl rfl (gD (d:=0) (by omega)) (fun b21 o22 hok23=> ?_)
       replace hok23:=zn.1 hok23
       refine r_u rfl rfl (zm (j:=0) 0 ty3 rfl rfl rfl rfl)<|r_pv rfl rfl (zb rfl)<|r_pv rfl rfl (zva rfl rfl)<|r_pv rfl rfl (zk rfl rfl)<|zO rfl rfl (zb rfl) (fun hy1=> ?_) (fun hy1=> ?_)
       ·
        refine r_pv rfl rfl (zb rfl)<|r_pv rfl rfl (zb rfl)<|r_pv rfl rfl (zS (j:=i) Try.underlying39 sz4 rfl rfl rfl (by omega))<|r_vl rfl rfl (zV 0 i rfl ty4 rfl rfl (gD (d:=false) (by omega)) rfl) (fun _ hok24=> ?_)
        refine r_pv rfl rfl (ztb rfl)<|r_pv rfl rfl (zk rfl rfl)<|zj ?_
        exact zba () (show True from by first|trivial|omega|simp_all) ((.e rfl (congrArg Value.bool (by rw [Fl.ldr_iff.2 ⟨by rw [hfl];exact hy0,by show (co.getD i 0).toNat=i;omega⟩];simp)) (.of rfl)):SubM _ _) (ho:=((.of [0,0] rfl):PickO _ _ _)) ((.of [2,3,4] rfl):SelR _ _ _)
       ·
        refine za rfl rfl<|za rfl rfl<|za rfl rfl<|za rfl rfl<|za rfl rfl<|r_pv rfl rfl (zk rfl rfl)<|zj ?_
        exact zba () (show True from by first|trivial|omega|simp_all) ((.e rfl (congrArg Value.bool (by rw [show (Fl.ldr (Fl.lo l th) (fun jj=>(co.getD jj 0).toNat)) i=false from Bool.eq_false_iff.2 (fun h9=>hy1 (by have h8:=(Fl.ldr_iff.1 h9).2;have h7:=hR.rd.lo i (by omega);have h6:(co.getD i 0).toNat=i:=h8;omega))];rfl)) (.of rfl)):SubM _ _) (ho:=((.of [0,0] rfl):PickO _ _ _)) ((.of [2,3,4] rfl):SelR _ _ _)
      ·
       refine za rfl rfl<|za rfl rfl<|za rfl rfl<|za rfl rfl<|za rfl rfl<|za rfl rfl<|r_pv rfl rfl (zk rfl rfl)<|r_pv rfl rfl (zb rfl)<|za rfl rfl<|za rfl rfl<|za rfl rfl<|za rfl rfl<|za rfl rfl<|r_pv rfl rfl (zk rfl rfl)<|zj ?_
       exact zba () (show True from by first|trivial|omega|simp_all) ((.e rfl (congrArg Value.bool (by rw [show (Fl.ldr (Fl.lo l th) (fun jj=>(co.getD jj 0).toNat)) i=false from Bool.eq_false_iff.2 (fun h9=>Bool.false_ne_true (hy0.symm.trans (hfl.symm.trans (Fl.ldr_iff.1 h9).1)))];rfl)) (.of rfl)):SubM _ _) (ho:=((.of [0,0] rfl):PickO _ _ _)) ((.of [1,2,3] rfl):SelR _ _ _)
     ·
      rintro ⟨⟩ -
      try dsimp only
      refine zfb rfl (fun hy=> ?_) (fun hy=> ?_)
      ·
       refine zc<|r_pv rfl rfl (zb rfl)<|r_pv rfl rfl (zB (z:=((((Fl.cnt (fun jj=>(Fl.ldr (Fl.lo l th) (fun jj=>(co.getD jj 0).toNat)) jj&& !(bd.getD jj false)) i)+1):Nat):Int)) rfl rfl (w64 (by omega)))<|r_pv rfl rfl (zd rfl)<|zj<|zQ<|ze<|zc<|r_pv rfl rfl (zb rfl)<|r_pv rfl rfl (zB (z:=(((i+1):Nat):Int)) rfl rfl (w64 (by omega)))<|r_pv rfl rfl (zd rfl)<|zj<|zaa (i+1) (show (i+1)≤n from by omega) (by show n - (i+1)<n - i;omega) ((.e rfl (congrArg (Value.int .i64) (by rw [Fl.cnt_succ,if_pos hy])) (.of rfl)):SubM _ _) (ho:=((.of [0,0] rfl):PickO _ _ _)) ((.of [0,1,2] rfl):SelR _ _ _)
      ·
       refine zz<|zQ<|ze<|zc<|r_pv rfl rfl (zb rfl)<|r_pv rfl rfl (zB (z:=(((i+1):Nat):Int)) rfl rfl (w64 (by omega)))<|r_pv rfl rfl (zd rfl)<|zj<|zaa (i+1) (show (i+1)≤n from by omega) (by show n - (i+1)<n - i;omega) ((.e rfl (congrArg (Value.int .i64) (by rw [Fl.cnt_succ,if_neg (fun h9=>Bool.false_ne_true (hy.symm.trans h9))];rfl)) (.of rfl)):SubM _ _) (ho:=((.of [0,0] rfl):PickO _ _ _)) ((.of [0,1,2] rfl):SelR _ _ _)
    ·
     refine zha<|zl<|zl<|zu<|ze<|zh<|zc<|r_pv rfl rfl (zb rfl)<|r_pv rfl rfl (zd rfl)<|r_pv rfl rfl (zd rfl)<|zj<|ze<|zI ?_
     have hin8:i=n:=by omega
     exact zua Try.results15 ((Fl.hol n (Fl.lo l th) (fun jj=>(co.getD jj 0).toNat) (Fl.edg wn hn9):Nat):Int) (Fl.HolR.yes hok hn hL rfl) (zp rfl) (zp rfl) (by rw [Decidable.not_not.1 hc,hin8,hB.hol hL (fun k hk hf=>by show (co.getD k 0).toNat=k;have h9:=hR.rd.out k hk (by rw [Fl.fl_lol hn];exact hf);omega)]) (ho:=(.n:PickO _ _ _)) (.n:SelR _ _ _)
end Go.Proofs.Ytefbbhiaalcjfaa.Sp
namespace Go.Proofs.Ytefbbhiaalcjfaa.Fl
open Sp (Bb b0)
def one (w:Nat) (l:List Int) (i:Nat):Bb:=
  ⟨1,((i%w:Nat):Int),((i / w:Nat):Int),((i%w:Nat):Int),((i / w:Nat):Int),((i%w:Nat):Int),((i / w:Nat):Int),((i%w:Nat):Int)*((i%w:Nat):Int),((i%w:Nat):Int)*((i / w:Nat):Int),((i / w:Nat):Int)*((i / w:Nat):Int),l.getD i 0,l.getD i 0*((i%w:Nat):Int),l.getD i 0*((i / w:Nat):Int)⟩
def tog (a b:Bb):Bb:=
  ⟨a.ar+b.ar,min a.le b.le,min a.tp b.tp,max a.rt b.rt,max a.bt b.bt,a.sx+b.sx,a.sy+b.sy,a.xx+b.xx,a.xy+b.xy,a.yy+b.yy,a.ms+b.ms,a.mx+b.mx,a.my+b.my⟩
def okb (a:Bb):Prop:=Bl.ok a.ar a.le a.tp a.rt a.bt a.sx a.sy a.xx a.xy a.yy a.ms a.mx a.my
instance (a:Bb):Decidable (okb a):=inferInstanceAs (Decidable (Bl.ok ..))
def acc (w:Nat) (l o:List Int) (k:Int):Nat→Option Bb
  |0=>none
  |i+1=>if o.getD i 0=k then some (match acc w l o k i with|none=>one w l i|some a=>tog a (one w l i)) else acc w l o k i
theorem one_ok {w h n i:Nat} {l:List Int} (hw:1≤w∧w≤64) (hh:h≤64) (hn:n=w*h) (hi:i<n) (hg:0≤l.getD i 0∧l.getD i 0≤65535):okb (one w l i):=by
  have h1:i%w≤63:=by have:=Nat.mod_lt i (show 0<w by omega);omega
  have h2:i / w≤63:=by have:=Nat.div_lt_of_lt_mul (show i<w*h by omega);omega
  unfold okb one Bl.ok
  dsimp only
  generalize ((i%w:Nat))=X at *;generalize i / w=Y at *;generalize l.getD i 0=G at*
  have a1:=Bl.mul_b (x:=(X:Int)) (y:=(X:Int)) (m:=63) (n:=63) (by omega) (by omega)
  have a2:=Bl.mul_b (x:=(X:Int)) (y:=(Y:Int)) (m:=63) (n:=63) (by omega) (by omega)
  have a3:=Bl.mul_b (x:=(Y:Int)) (y:=(Y:Int)) (m:=63) (n:=63) (by omega) (by omega)
  omega
theorem mul_le2 {a b x y s:Int} (ha:0≤a) (hx:y≤x) (hs:a*x≤s):a*y≤s:=Int.le_trans (Int.mul_le_mul_of_nonneg_left hx ha) hs
theorem mul_ge2 {a b x y s:Int} (ha:0≤a) (hx:x≤y) (hs:s≤a*x):s≤a*y:=Int.le_trans hs (Int.mul_le_mul_of_nonneg_left hx ha)
theorem tog_ok {a b:Bb} (ha:okb a) (hb:okb b) (h:a.ar+b.ar≤4096):okb (tog a b):=by
  unfold okb Bl.ok at ha hb
  unfold okb tog Bl.ok
  dsimp only
  obtain ⟨a1,a2,a3,a4,a5,a6,a7,a8,a9,a10,a11,a12,a13⟩:=ha
  obtain ⟨b1,b2,b3,b4,b5,b6,b7,b8,b9,b10,b11,b12,b13⟩:=hb
  simp only [Int.add_mul]
  have m1:min a.le b.le≤a.le:=by omega
  have m2:min a.le b.le≤b.le:=by omega
  have m3:min a.tp b.tp≤a.tp:=by omega
  have m4:min a.tp b.tp≤b.tp:=by omega
  have m5:a.rt≤max a.rt b.rt:=by omega
  have m6:b.rt≤max a.rt b.rt:=by omega
  have m7:a.bt≤max a.bt b.bt:=by omega
  have m8:b.bt≤max a.bt b.bt:=by omega
  have c1:=mul_le2 (b:=0) (by omega) m1 a6.1
  have c2:=mul_le2 (b:=0) (by omega) m2 b6.1
  have c3:=mul_ge2 (b:=0) (by omega) m5 a6.2
  have c4:=mul_ge2 (b:=0) (by omega) m6 b6.2
  have c5:=mul_le2 (b:=0) (by omega) m3 a7.1
  have c6:=mul_le2 (b:=0) (by omega) m4 b7.1
  have c7:=mul_ge2 (b:=0) (by omega) m7 a7.2
  have c8:=mul_ge2 (b:=0) (by omega) m8 b7.2
  have d1:=mul_le2 (b:=0) (by omega) m1 a12.1
  have d2:=mul_le2 (b:=0) (by omega) m2 b12.1
  have d3:=mul_ge2 (b:=0) (by omega) m5 a12.2
  have d4:=mul_ge2 (b:=0) (by omega) m6 b12.2
  have d5:=mul_le2 (b:=0) (by omega) m3 a13.1
  have d6:=mul_le2 (b:=0) (by omega) m4 b13.1
  have d7:=mul_ge2 (b:=0) (by omega) m7 a13.2
  have d8:=mul_ge2 (b:=0) (by omega) m8 b13.2
  clear a6 b6 a7 b7 a12 b12 a13 b13
  omega
theorem acc_ok {w h n:Nat} {l o:List Int} {k:Int} (hw:1≤w∧w≤64) (hh:h≤64) (hn:n=w*h) (hb:n≤4096) (hg:∀i,i<n→0≤l.getD i 0∧l.getD i 0≤65535):∀i,i≤n→∀a,acc w l o k i=some a→okb a∧a.ar≤(i:Int):=by
  intro i
  induction i with
  |zero=>intro _ a e;cases e
  |succ i ih=>
    intro hi a e
    have ho:=one_ok hw hh hn (show i<n by omega) (hg i (by omega))
    unfold acc at e
    split at e
    · cases hc : acc w l o k i with
      |none=>rw [hc] at e;cases e;exact ⟨ho,by show (1:Int)≤_;omega⟩
      |some b=>
        rw [hc] at e;cases e
        obtain ⟨h1,h2⟩:=ih (by omega) b hc
        have h3:b.ar+(one w l i).ar≤((i+1:Nat):Int):=by show b.ar+1≤_;omega
        exact ⟨tog_ok h1 ho (by omega),h3⟩
    · obtain ⟨h1,h2⟩:=ih (by omega) a e;exact ⟨h1,by omega⟩
def gb (a:Option Bb):Bb:=a.getD b0
def bls (w:Nat) (l o:List Int) (N n:Nat):List Bb:=(List.range N).map (fun k:Nat=>gb (acc w l o (k:Int) n))
theorem bls_len (w:Nat) (l o:List Int) (N n:Nat):(bls w l o N n).length=N:=by simp [bls]
theorem bls_get {w:Nat} {l o:List Int} {N n k:Nat} (h:k<N):(bls w l o N n).getD k b0=gb (acc w l o (k:Int) n):=by
  unfold bls;rw [List.getD_eq_getElem?_getD,List.getElem?_map,List.getElem?_range h];rfl
theorem ext_gD {A B:List Bb} (hl:A.length=B.length) (h:∀k,k<A.length→A.getD k b0=B.getD k b0):A=B:=by
  refine List.ext_getElem hl fun k h1 h2=> ?_
  have:=h k h1
  rw [List.getD_eq_getElem?_getD,List.getD_eq_getElem?_getD,List.getElem?_eq_getElem h1,List.getElem?_eq_getElem h2] at this
  exact this
theorem gD_set {A:List Bb} {k j:Nat} {v:Bb} (h:k<A.length):(A.set k v).getD j b0=if j=k then v else A.getD j b0:=by
  rw [List.getD_eq_getElem?_getD,List.getElem?_set]
  by_cases e:k=j
  · subst e;simp [h]
  · rw [if_neg e,if_neg (fun x=>e x.symm),←List.getD_eq_getElem?_getD]
section
variable {w h n N i : Nat} {l o : List Int} {A : List Bb}
structure TbI (w:Nat) (l o:List Int) (N i:Nat) (A:List Bb):Prop where
  len:A.length=N
  get:∀k,k<N→A.getD k b0=gb (acc w l o (k:Int) i)
theorem TbI.start:TbI w l o N 0 (List.replicate N b0):=⟨by simp,fun k hk=>by
  rw [List.getD_eq_getElem?_getD,List.getElem?_replicate];simp [hk,acc,gb]⟩
theorem TbI.skip (h:TbI w l o N i A) (hx:o.getD i 0<0):TbI w l o N (i+1) A:=
  ⟨h.len,fun k hk=>by rw [h.get k hk];unfold acc;rw [if_neg (show ¬o.getD i 0=(k:Int) by omega)];cases i <;> rfl⟩
theorem acc_next {k:Int} (hx:o.getD i 0=k):acc w l o k (i+1)=some (match acc w l o k i with|none=>one w l i|some a=>tog a (one w l i)):=by
  rw [acc,if_pos hx]
theorem acc_keep {k:Int} (hx:¬o.getD i 0=k):acc w l o k (i+1)=acc w l o k i:=by rw [acc,if_neg hx]
theorem TbI.put (h:TbI w l o N i A) {k:Nat} {v:Bb} (hk:k<N) (ho:o.getD i 0=(k:Int)) (hv:v=gb (acc w l o (k:Int) (i+1))):TbI w l o N (i+1) (A.set k v):=
  ⟨by rw [List.length_set];exact h.len,fun j hj=>by
    rw [gD_set (by rw [h.len];exact hk)]
    by_cases e:j=k
    · rw [if_pos e,hv,e]
    · rw [if_neg e,h.get j hj,acc_keep (show ¬o.getD i 0=(j:Int) by omega)]⟩
theorem gb_new {k:Int} (hx:o.getD i 0=k) (ha:(gb (acc w l o k i)).ar=0) (hok:∀a,acc w l o k i=some a→okb a):one w l i=gb (acc w l o k (i+1)):=by
  rw [acc_next hx]
  cases e:acc w l o k i with
  |none=>rfl
  |some a=>rw [e] at ha;have:=(hok a e).1;change a.ar=0 at ha;omega
theorem gb_old {k:Int} (hx:o.getD i 0=k) (ha:¬(gb (acc w l o k i)).ar=0):tog (gb (acc w l o k i)) (one w l i)=gb (acc w l o k (i+1)):=by
  rw [acc_next hx]
  cases e:acc w l o k i with
  |none=>rw [e] at ha;exact absurd rfl ha
  |some a=>rfl
theorem gb_ok {k:Int} (ha:¬(gb (acc w l o k i)).ar=0) (hok:∀a,acc w l o k i=some a→okb a∧a.ar≤(i:Int)):okb (gb (acc w l o k i))∧(gb (acc w l o k i)).ar≤(i:Int):=by
  cases e:acc w l o k i with
  |none=>rw [e] at ha;exact absurd rfl ha
  |some a=>exact hok a e
theorem TbI.fin (h:TbI w l o N n A):A=bls w l o N n:=ext_gD (by rw [h.len,bls_len]) fun k hk=>by
  rw [h.len] at hk;rw [h.get k hk,bls_get hk]
end
structure LabC (n:Nat) (f:Nat→Bool) (c:Nat→Nat) (o:List Int):Prop where
  len:o.length=n
  yes:∀j,j<n→f j=true→o.getD j 0=(cnt (ldr f c) (c j):Int)
  not:∀j,j<n→¬f j=true→o.getD j 0= -1
section
variable {w n i : Nat} {f : Nat → Bool} {adj : Nat → Nat → Prop} {c : Nat → Nat} {l o : List Int}
theorem OutI.labc (hc:Lst (fun j=>f j=true) adj c) (hn:∀j,f j=true→j<n) (h:OutI n f c n o):LabC n f c o:=
  ⟨h.len,fun j hj hf=>h.old j hj hf (hn _ (hc.mem hf)),fun j hj hf=>h.new j hj fun k=>hf k.1⟩
theorem Lab.labc (h:Lab n f adj o):∃c,Lst (fun j=>f j=true) adj c∧LabC n f c o:=let ⟨c,a,b,d⟩:=h.ex;⟨c,a,h.len,b,d⟩
theorem LabC.lt (hc:Lst (fun j=>f j=true) adj c) (hn:∀j,f j=true→j<n) (h:LabC n f c o) (hi:i<n) (hf:f i=true):o.getD i 0<(cnt (ldr f c) n:Int)∧0≤o.getD i 0:=by
  rw [h.yes i hi hf]
  have:=cnt_lt (ldr f c) (hn _ (hc.mem hf)) (ldr_iff.2 ⟨hc.mem hf,hc.idem hf⟩)
  omega
theorem LabC.pos (h:LabC n f c o) (hi:i<n):(0≤o.getD i 0↔f i=true):=by
  by_cases e:f i=true
  · rw [h.yes i hi e];exact ⟨fun _=>e,fun _=>by omega⟩
  · rw [h.not i hi e];exact ⟨fun x=>by omega,fun x=>absurd x e⟩
theorem LabC.fresh (hc:Lst (fun j=>f j=true) adj c) (h:LabC n f c o):∀i,i≤n→∀k:Nat,cnt (ldr f c) i≤k→acc w l o (k:Int) i=none:=by
  intro i
  induction i with
  |zero=>intro _ k _;rfl
  |succ i ih=>
    intro hi k hk
    have h1:=cnt_mono (ldr f c) (show i≤i+1 by omega)
    rw [acc_keep,ih (by omega) k (by omega)]
    intro e
    by_cases hf:f i=true
    · rw [h.yes i (by omega) hf] at e
      have h2:=cnt_lt (ldr f c) (show c i<i+1 by have:=hc.le i hf;omega) (ldr_iff.2 ⟨hc.mem hf,hc.idem hf⟩)
      omega
    · rw [h.not i (by omega) hf] at e;omega
theorem acc_some {k:Int}:∀i,(∃j,j<i∧o.getD j 0=k)→acc w l o k i≠none:=by
  intro i
  induction i with
  |zero=>rintro ⟨j,h,_⟩;omega
  |succ i ih=>
    rintro ⟨j,h,e⟩
    by_cases x:o.getD i 0=k
    · rw [acc_next x];exact fun y=>by cases y
    · rw [acc_keep x];exact ih ⟨j,by by_cases z:j=i;exact absurd (z ▸ e) x;omega,e⟩
theorem LabC.seen (hc:Lst (fun j=>f j=true) adj c) (h:LabC n f c o) (hi:i<n) (hf:f i=true) (he:¬o.getD i 0=(cnt (ldr f c) i:Int)):acc w l o (o.getD i 0) i≠none:=by
  have hci:¬c i=i:=fun e=>he (by rw [h.yes i hi hf,e])
  have hlt:c i<i:=by have:=hc.le i hf;omega
  refine acc_some i ⟨c i,hlt,?_⟩
  rw [h.yes i hi hf,h.yes (c i) (by omega) (hc.mem hf),hc.idem hf]
end
def BlsR (w h m:Int) (l:List Int) (th:Int) (A:List Bb):Prop:=
  (Bl.rok w h m l∧0≤th∧th≤65536→∃c o,Lst (fun j=>ge l th j=true) (nb false w.toNat l.length) c∧LabC l.length (ge l th) c o∧A=bls w.toNat l o (cnt (ldr (ge l th) c) l.length) l.length)∧(¬(Bl.rok w h m l∧0≤th∧th≤65536)→A=[])
theorem LabC.lab {n:Nat} {f:Nat→Bool} {adj:Nat→Nat→Prop} {c:Nat→Nat} {o:List Int} (hc:Lst (fun j=>f j=true) adj c) (h:LabC n f c o):Lab n f adj o:=⟨h.len,c,hc,h.yes,h.not⟩
theorem BlsR.uniq {w h m th:Int} {l:List Int} {A B:List Bb} (a:BlsR w h m l th A) (b:BlsR w h m l th B):A=B:=by
  by_cases e:Bl.rok w h m l∧0≤th∧th≤65536
  · obtain ⟨c, o, h1, h2, h3⟩ := a.1 e
    obtain ⟨d,p,k1,k2,k3⟩:=b.1 e
    have e1:o=p:=(h2.lab h1).uniq (k2.lab k1)
    rw [h3,k3,e1,ldr_uniq h1 k1]
  · rw [a.2 e,b.2 e]
theorem BlsR.no {w h m th:Int} {l:List Int} (e:¬(Bl.rok w h m l∧0≤th∧th≤65536)):BlsR w h m l th []:=⟨fun k=>absurd k e,fun _=>rfl⟩
theorem BlsR.yes {w n:Nat} {h m th:Int} {l o:List Int} {c:Nat→Nat} {A:List Bb} (e:Bl.rok w h m l∧0≤th∧th≤65536) (hn:l.length=n) (hc:Lst (fun j=>ge l th j=true) (nb false w n) c) (ho:LabC n (ge l th) c o) (hA:A=bls w l o (cnt (ldr (ge l th) c) n) n):BlsR w h m l th A:=by
  subst hn;exact ⟨fun _=>⟨c,o,hc,ho,hA⟩,fun x=>absurd e x⟩
theorem rok_g {w h m:Int} {l:List Int} {n:Nat} (e:Bl.rok w h m l) (hn:l.length=n):∀i,i<n→0≤l.getD i 0∧l.getD i 0≤65535:=fun i hi=>by
  obtain ⟨_,_,h3,_,h5⟩:=e
  have hm:l.getD i 0∈l:=Big.getD_mem (by omega)
  by_cases k:l.getD i 0<0∨m<l.getD i 0
  · exact absurd ⟨_,hm,k⟩ h5
  · omega
end Go.Proofs.Ytefbbhiaalcjfaa.Fl
namespace Go.Proofs.Ytefbbhiaalcjfaa.Sp
open Go
set_option linter.unusedVariables false
set_option maxRecDepth 100000
set_option maxHeartbeats 1000000
theorem zOe {w:Int} {h:Int} {m:Int} {p:Option Addr} {n:Nat} {cap:Nat} {l:List Int} {th:Int} (hn:l.length=n):Con Try.prog 17 [.agg #[.int .i64 w,.int .i64 h,.int .i64 m,.slice p n cap],.int .i64 th] [] [slF (rI .i64) p cap l] (Y:=(Option Addr)×Nat×(List Bb)) (fun y=>Fl.BlsR w h m l th y.2.2) (fun y=> .tuple #[.slice (y.1) (y.2.2.length) (y.2.1),.int .i64 (if Bl.rok w h m l then (if 0≤th∧th≤65536 then 0 else 2) else 1)]) (fun y=>[]) (fun y=>[slF (rI13 .i64) (y.1) (y.2.1) (y.2.2)]):=by
 refine zq Try.func17 rfl rfl rfl (fun c=> ?_)
 show RunC _ _ _ _ _ [(0,.agg #[.int .i64 w,.int .i64 h,.int .i64 m,.slice p n cap]),(1,.int .i64 th)] [] [slF (rI .i64) p cap l]
 refine zfa 0 rfl (fun hL0=> ?_)
 refine zh<|zc<|zT rfl rfl (zY rfl rfl) (fun b1=> ?_)
 refine r_pv rfl rfl (zd rfl)<|r_pv rfl rfl (zd rfl)<|zj<|ze<|zh<|zh<|zc<|r_u rfl rfl (zi 0 ty24 rfl rfl (.take (.take (.take (.take .nil)))))<|r_pv rfl rfl (zb rfl)<|zR rfl rfl (.c rfl (.c rfl .n)) ce33 (zxb (w:=w) (h:=h) (m:=m) (p:=p) (n:=n) (cap:=cap) (l:=l) (th:=th) (hn:=by assumption)) (.c (j:=0) rfl .n)<|r_pv rfl rfl (zd rfl)<|zj<|ze<|zh<|zc<|r_pv rfl rfl (zb rfl)<|r_pv rfl rfl (zHa rfl rfl)<|zj<|ze<|zC rfl (fun hc=> ?_) (fun hc=> ?_)
 ·
  have hno:=fun k=>hc (Fl.ask0.2 k)
  refine zh<|zc<|r_pv rfl rfl (zb rfl)<|r_pv rfl rfl (zd rfl)<|r_pv rfl rfl (zd rfl)<|zj<|ze<|zI<|zt<|zac (rI13 .i64) ?_
  exact zua Try.results17 (none,0,[]) (Fl.BlsR.no hno) (zp rfl) (zp rfl) rfl (ho:=(.n:PickO _ _ _)) ((.c (j:=0) rfl .n):SelR _ _ _)
 ·
  have hok:=Fl.ask0.1 (Decidable.not_not.1 hc)
  obtain ⟨wn,hn9,rfl,rfl,hw9,hh9,hwh,hb9⟩:=Fl.rok_n hok.1 hn
  refine zz<|ze<|zh<|zc<|r_u rfl rfl (zi 0 ty24 rfl rfl (.take (.take (.take (.take .nil)))))<|r_pv rfl rfl (zb rfl)<|zA rfl rfl (.c rfl (.c rfl .n)) ce34 (zic (w:=wn) (h:=hn9) (m:=m) (p:=p) (n:=n) (cap:=cap) (l:=l) (th:=th) (hn:=by assumption) (hw:=by first|rfl|assumption|omega) (hh:=by first|rfl|assumption|omega) (hwh:=by first|rfl|assumption|omega) (hb:=by first|rfl|assumption|omega)) (.c (j:=0) rfl .n) ?_
  rintro ⟨p32,c33,o,cc⟩ hcl
  dsimp only [List.append_eq,List.nil_append,List.cons_append]
  replace hcl:Fl.Lst (fun j=>Fl.ge l th j=true) (Fl.nb false wn n) cc∧Fl.OutI n (Fl.ge l th) cc n o:=hcl
  refine r_pv rfl rfl (zb rfl)<|r_pv rfl rfl (zr rfl rfl)<|r_pv rfl rfl (zr rfl rfl)<|r_pv rfl rfl (zd rfl)<|r_pv rfl rfl (zd rfl)<|zj<|ze<|zh ?_
  have hin:∀j,(Fl.ge l th) j=true→j<n:=fun j hj=>by have:=Fl.ge_lt hj;omega
  have hLC:=hcl.2.labc hcl.1 hin
  have hol:=hLC.len
  have hcn:=Fl.cnt_le (Fl.ldr (Fl.ge l th) cc) n
  refine zc<|r_pv rfl rfl (zb rfl)<|zsa rfl rfl (zQa (r:=rI13 .i64) (k:=(Fl.cnt (Fl.ldr (Fl.ge l th) cc) n)) (x0:=b0) (γ0:=()) Try.underlying35 inf51 rfl rfl rfl rfl (by omega) (by omega) rfl (fun _ _=>by exact okB_0) (by decide)) (fun b4 _=> ?_)
  refine r_pv rfl rfl (zd rfl)<|zj<|ze<|zh<|zh<|zc<|r_pv rfl rfl (zb rfl)<|r_pv rfl rfl (zK Try.underlying22 rfl)<|r_pv rfl rfl (zb rfl)<|zj<|ze<|zx<|zja (X:=Nat×(List Bb)) (fun x:Nat×(List Bb)=>x.1≤n∧Fl.TbI wn l o (Fl.cnt (Fl.ldr (Fl.ge l th) cc) n) x.1 x.2) (fun x=>[(32,.int .i64 ((x.1:Nat):Int)),(31,.int .i64 ((n:Nat):Int)),(30,.slice p32 n c33),(9,.slice (some ⟨b4,0,none⟩) (Fl.cnt (Fl.ldr (Fl.ge l th) cc) n) (Fl.cnt (Fl.ldr (Fl.ge l th) cc) n)),(5,.int .i64 0),(4,.slice none 0 0),(2,.pointer (some ⟨b1,0,none⟩))]) (fun x=>[rowA 51 (rI13 .i64) (some ⟨b4,0,none⟩) (Fl.cnt (Fl.ldr (Fl.ge l th) cc) n) (x.2),boxA b1 24 [.int .i64 ((wn:Nat):Int),.int .i64 ((hn9:Nat):Int),.int .i64 m,.slice p n cap]]) (fun x=>[slF (rI .i64) p32 c33 o,slF (rI .i64) p cap l]) (fun x:Nat×(List Bb)=>n - x.1) (0,List.replicate (Fl.cnt (Fl.ldr (Fl.ge l th) cc) n) b0) (show 0≤n∧Fl.TbI wn l o (Fl.cnt (Fl.ldr (Fl.ge l th) cc) n) 0 (List.replicate (Fl.cnt (Fl.ldr (Fl.ge l th) cc) n) b0) from by exact ⟨Nat.zero_le _,Fl.TbI.start⟩) ((.e rfl (by first|rfl|(congr 1;omega)|simp_all) (.of rfl)):SubM _ _) (ho:=((.of [0,0] rfl):PickO _ _ _)) ((.of [0,1] rfl):SelR _ _ _) ?_
  rintro ⟨i,A⟩ hI
  replace hI:i≤n∧Fl.TbI wn l o (Fl.cnt (Fl.ldr (Fl.ge l th) cc) n) i A:=hI
  try dsimp only
  obtain ⟨hi,hT⟩:=hI
  have hAl:=hT.len
  refine zh<|zc<|r_pv rfl rfl (zX rfl rfl)<|zj<|ze<|zh<|zC rfl (fun h5=> ?_) (fun h5=> ?_)
  ·
   refine zz<|ze<|zh<|zx<|zh<|zc<|r_pv rfl rfl (zb rfl)<|zN (x0:=(o.getD i 0)) 0 i rfl Try.underlying22 sz3 rfl rfl rfl (by first|rfl|assumption|(simp_all;done)|omega) rfl rfl (gD (d:=0) (by omega)) (fun b6 o7 hok8=> ?_)
   replace hok8:=zn.1 hok8
   refine r_u rfl rfl (zm (j:=0) 0 ty3 rfl rfl rfl rfl)<|r_pv rfl rfl (zd rfl)<|r_pv rfl rfl (zd rfl)<|zj<|ze<|zh<|zh<|zc<|r_pv rfl rfl (zb rfl)<|r_pv rfl rfl (zX rfl rfl)<|zj<|ze<|zC rfl (fun hneg=> ?_) (fun hneg=> ?_)
   ·
    refine zha<|zl<|zu<|ze<|zc<|r_pv rfl rfl (zB (z:=(((i+1):Nat):Int)) rfl rfl (w64 (by omega)))<|r_pv rfl rfl (zb rfl)<|zj<|zaa ((i+1),A) (show (i+1)≤n∧Fl.TbI wn l o (Fl.cnt (Fl.ldr (Fl.ge l th) cc) n) (i+1) A from by exact ⟨by omega,hT.skip hneg⟩) (by show n - (i+1)<n - i;omega) ((.of rfl):SubM _ _) (ho:=((.of [0,0] rfl):PickO _ _ _)) ((.of [1,2] rfl):SelR _ _ _)
   ·
    have hqd:=Nat.div_le_self i wn
    have hq0:=Int.natCast_nonneg (i / wn)
    have hm0:=Int.natCast_nonneg (i%wn)
    have hfi:(Fl.ge l th) i=true:=(hLC.pos (by omega)).1 (by omega)
    obtain ⟨hlt9,hge9⟩:=hLC.lt hcl.1 hin (show i<n by omega) hfi
    obtain ⟨kk,hkk⟩:∃kk:Nat,o.getD i 0=(kk:Int):=⟨(o.getD i 0).toNat,by omega⟩
    have e9:((o.getD i 0):Int)=((kk:Nat):Int):=by exact hkk
    rw [e9]
    have hkN:kk<(Fl.cnt (Fl.ldr (Fl.ge l th) cc) n):=by omega
    have hget:=hT.get kk hkN
    have hacc:=Fl.acc_ok (l:=l) (o:=o) (k:=(kk:Int)) hw9 hh9.2 hwh hb9 (Fl.rok_g hok.1 hn) i (by omega)
    refine zz<|ze<|zh<|zka (OW:=[]) (O:=[rowA 51 (rI13 .i64) (some ⟨b4,0,none⟩) (Fl.cnt (Fl.ldr (Fl.ge l th) cc) n) A,boxA b1 24 [.int .i64 ((wn:Nat):Int),.int .i64 ((hn9:Nat):Int),.int .i64 m,.slice p n cap]]) 100000 mixed (.then (.block (.then (.then (.block (.then .ret)))))) (by kernel_rfl)<|d_pv 0 rfl rfl (by kernel_rfl) (by kernel_rfl) rfl rfl (zb rfl)<|d_pv 1 rfl rfl (by kernel_rfl) (by kernel_rfl) rfl rfl (zg Try.underlying24 rfl sz3 rfl rfl)<|d_u 2 rfl rfl (by kernel_rfl) (by kernel_rfl) rfl rfl (zf 1 ty3 rfl rfl rfl)<|d_pv 3 rfl rfl (by kernel_rfl) (by kernel_rfl) rfl rfl (zDa (z:=(((i%wn):Nat):Int)) rfl rfl (by omega) (remN (by omega) (by omega)))<|d_pv 4 rfl rfl (by kernel_rfl) (by kernel_rfl) rfl rfl (zb rfl)<|d_pv 5 rfl rfl (by kernel_rfl) (by kernel_rfl) rfl rfl (zg Try.underlying24 rfl sz3 rfl rfl)<|d_u 6 rfl rfl (by kernel_rfl) (by kernel_rfl) rfl rfl (zf 1 ty3 rfl rfl rfl)<|d_pv 7 rfl rfl (by kernel_rfl) (by kernel_rfl) rfl rfl (zCa (z:=(((i / wn):Nat):Int)) rfl rfl (by omega) (by rw [quoN (z:=(((i / wn):Nat):Int)) (by omega) (by omega)];exact w64 (by omega)))<|d_pv 8 rfl rfl (by kernel_rfl) (by kernel_rfl) rfl rfl (zg Try.underlying24 rfl sz22 rfl rfl)<|d_u 9 rfl rfl (by kernel_rfl) (by kernel_rfl) rfl rfl (zf 1 ty22 rfl rfl rfl)<|d_pv 10 rfl rfl (by kernel_rfl) (by kernel_rfl) rfl rfl (zb rfl)<|zoa (x0:=(l.getD i 0)) 11 rfl rfl (by kernel_rfl) (by kernel_rfl) 2 i rfl Try.underlying22 sz3 rfl rfl rfl (by first|rfl|assumption|(simp_all;done)|omega) rfl rfl (gD (d:=0) (by omega)) (fun b10 o11 hok12=> ?_)
    replace hok12:=zn.1 hok12
    refine d_u 12 rfl rfl (by kernel_rfl) (by kernel_rfl) rfl rfl (zm (j:=0) 0 ty3 rfl rfl rfl rfl)<|d_pv 13 rfl rfl (by kernel_rfl) (by kernel_rfl) rfl rfl (zd rfl)<|d_pv 14 rfl rfl (by kernel_rfl) (by kernel_rfl) rfl rfl (zd rfl)<|d_pv 15 rfl rfl (by kernel_rfl) (by kernel_rfl) rfl rfl (zd rfl)<|zga (by kernel_rfl)<|ze<|zh ?_
    obtain ⟨kx,hkx⟩:∃z,z=(i%wn):=⟨_,rfl⟩
    rw [← hkx]
    obtain ⟨ky,hky⟩:∃z,z=(i / wn):=⟨_,rfl⟩
    rw [← hky]
    obtain ⟨kg,hkg⟩:∃z,z=(l.getD i 0):=⟨_,rfl⟩
    rw [← hkg]
    have hkxb:kx≤63:=by rw [hkx];have:=Nat.mod_lt i (show 0<wn by omega);omega
    have hkyb:ky≤63:=by rw [hky];have:=Nat.div_lt_of_lt_mul (show i<wn*hn9 by omega);omega
    have hkgb:0≤kg∧kg≤65535:=by rw [hkg];exact Fl.rok_g hok.1 hn i (by omega)
    have hp1:kx*kx≤63*63:=Nat.mul_le_mul hkxb hkxb
    have hp2:kx*ky≤63*63:=Nat.mul_le_mul hkxb hkyb
    have hp3:ky*ky≤63*63:=Nat.mul_le_mul hkyb hkyb
    have hp4:=Bl.mul_b (x:=kg) (y:=(kx:Int)) (m:=65535) (n:=63) hkgb (by omega)
    have hp5:=Bl.mul_b (x:=kg) (y:=(ky:Int)) (m:=65535) (n:=63) hkgb (by omega)
    have hO1:Fl.okb (Fl.one wn l i):=Fl.one_ok hw9 hh9.2 hwh (by omega) (Fl.rok_g hok.1 hn i (by omega))
    refine zc<|r_pv rfl rfl (zb rfl)<|r_pv rfl rfl (zb rfl)<|r_pv rfl rfl (zb rfl)<|r_pv rfl rfl (zb rfl)<|r_pv rfl rfl (zb rfl)<|r_pv rfl rfl (zb rfl)<|r_pv rfl rfl (zb rfl)<|r_pv rfl rfl (zb rfl)<|r_pv rfl rfl (zma (z:=(((kx*kx):Nat):Int)) rfl rfl (w64 (by omega)))<|r_pv rfl rfl (zb rfl)<|r_pv rfl rfl (zb rfl)<|r_pv rfl rfl (zma (z:=(((kx*ky):Nat):Int)) rfl rfl (w64 (by omega)))<|r_pv rfl rfl (zb rfl)<|r_pv rfl rfl (zb rfl)<|r_pv rfl rfl (zma (z:=(((ky*ky):Nat):Int)) rfl rfl (w64 (by omega)))<|r_pv rfl rfl (zb rfl)<|r_pv rfl rfl (zb rfl)<|r_pv rfl rfl (zb rfl)<|r_pv rfl rfl (zma (z:=(kg*((kx:Nat):Int))) rfl rfl (w64 (by omega)))<|r_pv rfl rfl (zb rfl)<|r_pv rfl rfl (zb rfl)<|r_pv rfl rfl (zma (z:=(kg*((ky:Nat):Int))) rfl rfl (w64 (by omega)))<|r_pv rfl rfl (zL zr51 rfl Try.underlying51 (.c sz3 (.c sz3 (.c sz3 (.c sz3 (.c sz3 (.c sz3 (.c sz3 (.c sz3 (.c sz3 (.c sz3 (.c sz3 (.c sz3 (.c sz3 .n))))))))))))) (.c rfl (.c rfl (.c rfl (.c rfl (.c rfl (.c rfl (.c rfl (.c rfl (.c rfl (.c rfl (.c rfl (.c rfl (.c rfl .n))))))))))))) (.c rfl rfl rfl (.take .nil) (.c rfl rfl rfl (.skip (.take .nil)) (.c rfl rfl rfl (.skip (.skip (.skip (.take .nil)))) (.c rfl rfl rfl (.skip (.skip (.take .nil))) (.c rfl rfl rfl (.skip (.skip (.skip (.skip (.take .nil))))) (.c rfl rfl rfl (.skip (.skip (.skip (.skip (.skip (.take .nil)))))) (.c rfl rfl rfl (.skip (.skip (.skip (.skip (.skip (.skip (.take .nil))))))) (.c rfl rfl rfl (.skip (.skip (.skip (.skip (.skip (.skip (.skip (.take .nil)))))))) (.c rfl rfl rfl (.skip (.skip (.skip (.skip (.skip (.skip (.skip (.skip (.take .nil))))))))) (.c rfl rfl rfl (.skip (.skip (.skip (.skip (.skip (.skip (.skip (.skip (.skip (.take .nil)))))))))) (.c rfl rfl rfl (.skip (.skip (.skip (.skip (.skip (.skip (.skip (.skip (.skip (.skip (.take .nil))))))))))) (.c rfl rfl rfl (.skip (.skip (.skip (.skip (.skip (.skip (.skip (.skip (.skip (.skip (.skip (.take .nil)))))))))))) (.c rfl rfl rfl (.skip (.skip (.skip (.skip (.skip (.skip (.skip (.skip (.skip (.skip (.skip (.skip (.take .nil))))))))))))) .n))))))))))))))<|zT rfl rfl (zJ zr51 rfl) (fun b13=> ?_)
    refine zo 0 rfl rfl rfl rfl rfl sz51 rfl (.take (.take (.take (.take (.take (.take (.take (.take (.take (.take (.take (.take (.take .nil))))))))))))) .z<|zj<|ze<|zh<|zc<|r_pv rfl rfl (zb rfl)<|r_pv rfl rfl (zb rfl)<|r_pv rfl rfl (zS (j:=kk) Try.underlying35 sz51 rfl rfl rfl (by omega))<|r_u rfl rfl (zNc 1 rfl Try.underlying51 rfl sz3 rfl (by omega) rfl)<|r_vl rfl rfl (zSb (x0:=(A.getD kk b0)) (v:= .int .i64 ((A.getD kk b0).ar)) 1 kk 0 rfl ty3 rfl rfl (gD (d:=b0) (by omega)) rfl) (fun _ hok14=> ?_)
    obtain ⟨hok140,hok141,hok142,hok143,hok144,hok145,hok146,hok147,hok148,hok149,hok1410,hok1411,hok1412⟩:=hok14
    replace hok140:=zn.1 hok140
    replace hok141:=zn.1 hok141
    replace hok142:=zn.1 hok142
    replace hok143:=zn.1 hok143
    replace hok144:=zn.1 hok144
    replace hok145:=zn.1 hok145
    replace hok146:=zn.1 hok146
    replace hok147:=zn.1 hok147
    replace hok148:=zn.1 hok148
    replace hok149:=zn.1 hok149
    replace hok1410:=zn.1 hok1410
    replace hok1411:=zn.1 hok1411
    replace hok1412:=zn.1 hok1412
    refine r_pv rfl rfl (zva rfl rfl)<|zj<|ze<|zC rfl (fun hz=> ?_) (fun hz=> ?_)
    ·
     have hnew:=Fl.gb_new hkk (by rw [← hget];exact hz) (fun a ha=>(hacc a ha).1)
     refine zc<|r_pv rfl rfl (zb rfl)<|r_pv rfl rfl (zb rfl)<|r_u rfl rfl (zi 0 ty51 rfl rfl (.take (.take (.take (.take (.take (.take (.take (.take (.take (.take (.take (.take (.take .nil))))))))))))))<|r_pv rfl rfl (zS (j:=kk) Try.underlying35 sz51 rfl rfl rfl (by omega))<|zta 1 rfl rfl rfl (zP (j:=kk) (x0:=(⟨1,((kx:Nat):Int),((ky:Nat):Int),((kx:Nat):Int),((ky:Nat):Int),((kx:Nat):Int),((ky:Nat):Int),(((kx*kx):Nat):Int),(((kx*ky):Nat):Int),(((ky*ky):Nat):Int),kg,(kg*((kx:Nat):Int)),(kg*((ky:Nat):Int))⟩:Bb)) (γ0:=()) rfl rfl (by first|omega|(rw [List.length_map];omega)|(simp only [List.length_set];omega)|(simp;omega)) rfl rfl sz51 (fun _ _=>by exact ⟨zn.2 (by first|omega|decide|(dsimp only;omega)),zn.2 (by first|omega|decide|(dsimp only;omega)),zn.2 (by first|omega|decide|(dsimp only;omega)),zn.2 (by first|omega|decide|(dsimp only;omega)),zn.2 (by first|omega|decide|(dsimp only;omega)),zn.2 (by first|omega|decide|(dsimp only;omega)),zn.2 (by first|omega|decide|(dsimp only;omega)),zn.2 (by first|omega|decide|(dsimp only;omega)),zn.2 (by first|omega|decide|(dsimp only;omega)),zn.2 (by first|omega|decide|(dsimp only;omega)),zn.2 (by first|omega|decide|(dsimp only;omega)),zn.2 (by first|omega|decide|(dsimp only;omega)),zn.2 (by first|omega|decide|(dsimp only;omega))⟩)) (fun _=>(.s .z)) (fun _ _=> ?_)
     refine zj<|zQ<|ze<|zc<|r_pv rfl rfl (zB (z:=(((i+1):Nat):Int)) rfl rfl (w64 (by omega)))<|r_pv rfl rfl (zb rfl)<|zj<|zaa ((i+1),(A.set kk (⟨1,((kx:Nat):Int),((ky:Nat):Int),((kx:Nat):Int),((ky:Nat):Int),((kx:Nat):Int),((ky:Nat):Int),(((kx*kx):Nat):Int),(((kx*ky):Nat):Int),(((ky*ky):Nat):Int),kg,(kg*((kx:Nat):Int)),(kg*((ky:Nat):Int))⟩:Bb))) (show (i+1)≤n∧Fl.TbI wn l o (Fl.cnt (Fl.ldr (Fl.ge l th) cc) n) (i+1) (A.set kk (⟨1,((kx:Nat):Int),((ky:Nat):Int),((kx:Nat):Int),((ky:Nat):Int),((kx:Nat):Int),((ky:Nat):Int),(((kx*kx):Nat):Int),(((kx*ky):Nat):Int),(((ky*ky):Nat):Int),kg,(kg*((kx:Nat):Int)),(kg*((ky:Nat):Int))⟩:Bb)) from by exact ⟨by omega,hT.put hkN hkk (by rw [← hnew,hkx,hky,hkg];rfl)⟩) (by show n - (i+1)<n - i;omega) ((.of rfl):SubM _ _) (ho:=((.of [1,1] rfl):PickO _ _ _)) ((.of [2,3] rfl):SelR _ _ _)
    ·
     have hold:=Fl.gb_old (w:=wn) (l:=l) hkk (by rw [← hget];exact hz)
     have hA1:Fl.okb (A.getD kk b0):=by rw [hget];exact (Fl.gb_ok (by rw [← hget];exact hz) hacc).1
     rw [← hget] at hold
     have hbd1:=Bl.ok_bd hA1
     unfold Bl.bd at hbd1
     refine zya (.c (i:=1) rfl (.c (i:=0) rfl (.c (i:=0) rfl .n)))<|zka (OW:=[rowA 51 (rI13 .i64) (some ⟨b4,0,none⟩) (Fl.cnt (Fl.ldr (Fl.ge l th) cc) n) A]) (O:=[boxA b13 51 [.int .i64 1,.int .i64 ((kx:Nat):Int),.int .i64 ((ky:Nat):Int),.int .i64 ((kx:Nat):Int),.int .i64 ((ky:Nat):Int),.int .i64 ((kx:Nat):Int),.int .i64 ((ky:Nat):Int),.int .i64 (((kx*kx):Nat):Int),.int .i64 (((kx*ky):Nat):Int),.int .i64 (((ky*ky):Nat):Int),.int .i64 kg,.int .i64 (kg*((kx:Nat):Int)),.int .i64 (kg*((ky:Nat):Int))],boxA b1 24 [.int .i64 ((wn:Nat):Int),.int .i64 ((hn9:Nat):Int),.int .i64 m,.slice p n cap]]) 9 mixed (.block (.then (.then (.block (.then .ret))))) (by kernel_rfl)<|d_pv 0 rfl rfl (by kernel_rfl) (by kernel_rfl) rfl rfl (zb rfl)<|d_pv 1 rfl rfl (by kernel_rfl) (by kernel_rfl) rfl rfl (zb rfl)<|d_pv 2 rfl rfl (by kernel_rfl) (by kernel_rfl) rfl rfl (zb rfl)<|d_pv 3 rfl rfl (by kernel_rfl) (by kernel_rfl) rfl rfl (zb rfl)<|d_pv 4 rfl rfl (by kernel_rfl) (by kernel_rfl) rfl rfl (zS (j:=kk) Try.underlying35 sz51 rfl rfl rfl (by omega))<|d_vlw 5 rfl rfl (by kernel_rfl) (by kernel_rfl) (by kernel_rfl) rfl rfl (zXb 0 kk rfl ty51 rfl rfl (gD (d:=b0) (by omega))) (fun _ hok15=> ?_)
     obtain ⟨hok150,hok151,hok152,hok153,hok154,hok155,hok156,hok157,hok158,hok159,hok1510,hok1511,hok1512⟩:=hok15
     replace hok150:=zn.1 hok150
     replace hok151:=zn.1 hok151
     replace hok152:=zn.1 hok152
     replace hok153:=zn.1 hok153
     replace hok154:=zn.1 hok154
     replace hok155:=zn.1 hok155
     replace hok156:=zn.1 hok156
     replace hok157:=zn.1 hok157
     replace hok158:=zn.1 hok158
     replace hok159:=zn.1 hok159
     replace hok1510:=zn.1 hok1510
     replace hok1511:=zn.1 hok1511
     replace hok1512:=zn.1 hok1512
     refine d_uw 6 rfl rfl (by kernel_rfl) (by kernel_rfl) (by kernel_rfl) rfl rfl (zi 1 ty51 rfl rfl (.take (.take (.take (.take (.take (.take (.take (.take (.take (.take (.take (.take (.take .nil))))))))))))))<|zW 7 (by kernel_rfl) (zGb rfl rfl rfl rfl (.c rfl (.c rfl .n)) ce40 (zPd (ar1:=(A.getD kk b0).ar) (le1:=(A.getD kk b0).le) (tp1:=(A.getD kk b0).tp) (rt1:=(A.getD kk b0).rt) (bt1:=(A.getD kk b0).bt) (sx1:=(A.getD kk b0).sx) (sy1:=(A.getD kk b0).sy) (xx1:=(A.getD kk b0).xx) (xy1:=(A.getD kk b0).xy) (yy1:=(A.getD kk b0).yy) (ms1:=(A.getD kk b0).ms) (mx1:=(A.getD kk b0).mx) (my1:=(A.getD kk b0).my) (ar2:=1) (le2:=((kx:Nat):Int)) (tp2:=((ky:Nat):Int)) (rt2:=((kx:Nat):Int)) (bt2:=((ky:Nat):Int)) (sx2:=((kx:Nat):Int)) (sy2:=((ky:Nat):Int)) (xx2:=(((kx*kx):Nat):Int)) (xy2:=(((kx*ky):Nat):Int)) (yy2:=(((ky*ky):Nat):Int)) (ms2:=kg) (mx2:=(kg*((kx:Nat):Int))) (my2:=(kg*((ky:Nat):Int))) (hb1:=by exact Bl.ok_bd hA1) (hb2:=by exact Bl.ok_bd (by rw [hkx,hky,hkg];exact hO1))) (.n) ?_)
     refine d_pv 8 rfl rfl (by kernel_rfl) (by kernel_rfl) rfl rfl (zS (j:=kk) Try.underlying35 sz51 rfl rfl rfl (by omega))<|zW 9 (by kernel_rfl) (zRe (A':=fun _=>rowA 51 (rI13 .i64) (some ⟨b4,0,none⟩) (Fl.cnt (Fl.ldr (Fl.ge l th) cc) n) (A.set kk (⟨(((A.getD kk b0).ar)+1),(min ((A.getD kk b0).le) ((kx:Nat):Int)),(min ((A.getD kk b0).tp) ((ky:Nat):Int)),(max ((A.getD kk b0).rt) ((kx:Nat):Int)),(max ((A.getD kk b0).bt) ((ky:Nat):Int)),(((A.getD kk b0).sx)+((kx:Nat):Int)),(((A.getD kk b0).sy)+((ky:Nat):Int)),(((A.getD kk b0).xx)+(((kx*kx):Nat):Int)),(((A.getD kk b0).xy)+(((kx*ky):Nat):Int)),(((A.getD kk b0).yy)+(((ky*ky):Nat):Int)),(((A.getD kk b0).ms)+kg),(((A.getD kk b0).mx)+(kg*((kx:Nat):Int))),(((A.getD kk b0).my)+(kg*((ky:Nat):Int)))⟩:Bb))) (by kernel_rfl) rfl rfl rfl (zP (j:=kk) (x0:=(⟨(((A.getD kk b0).ar)+1),(min ((A.getD kk b0).le) ((kx:Nat):Int)),(min ((A.getD kk b0).tp) ((ky:Nat):Int)),(max ((A.getD kk b0).rt) ((kx:Nat):Int)),(max ((A.getD kk b0).bt) ((ky:Nat):Int)),(((A.getD kk b0).sx)+((kx:Nat):Int)),(((A.getD kk b0).sy)+((ky:Nat):Int)),(((A.getD kk b0).xx)+(((kx*kx):Nat):Int)),(((A.getD kk b0).xy)+(((kx*ky):Nat):Int)),(((A.getD kk b0).yy)+(((ky*ky):Nat):Int)),(((A.getD kk b0).ms)+kg),(((A.getD kk b0).mx)+(kg*((kx:Nat):Int))),(((A.getD kk b0).my)+(kg*((ky:Nat):Int)))⟩:Bb)) (γ0:=()) rfl rfl (by first|omega|(rw [List.length_map];omega)|(simp only [List.length_set];omega)|(simp;omega)) rfl rfl sz51 (fun _ _=>by exact ⟨zn.2 (by first|omega|decide|(dsimp only;omega)),zn.2 (by first|omega|decide|(dsimp only;omega)),zn.2 (by first|omega|decide|(dsimp only;omega)),zn.2 (by first|omega|decide|(dsimp only;omega)),zn.2 (by first|omega|decide|(dsimp only;omega)),zn.2 (by first|omega|decide|(dsimp only;omega)),zn.2 (by first|omega|decide|(dsimp only;omega)),zn.2 (by first|omega|decide|(dsimp only;omega)),zn.2 (by first|omega|decide|(dsimp only;omega)),zn.2 (by first|omega|decide|(dsimp only;omega)),zn.2 (by first|omega|decide|(dsimp only;omega)),zn.2 (by first|omega|decide|(dsimp only;omega)),zn.2 (by first|omega|decide|(dsimp only;omega))⟩)) (fun _ _=> ?_))
     refine zga (by kernel_rfl)<|zQ<|ze<|zc<|r_pv rfl rfl (zB (z:=(((i+1):Nat):Int)) rfl rfl (w64 (by omega)))<|r_pv rfl rfl (zb rfl)<|zj<|zaa ((i+1),(A.set kk (⟨(((A.getD kk b0).ar)+1),(min ((A.getD kk b0).le) ((kx:Nat):Int)),(min ((A.getD kk b0).tp) ((ky:Nat):Int)),(max ((A.getD kk b0).rt) ((kx:Nat):Int)),(max ((A.getD kk b0).bt) ((ky:Nat):Int)),(((A.getD kk b0).sx)+((kx:Nat):Int)),(((A.getD kk b0).sy)+((ky:Nat):Int)),(((A.getD kk b0).xx)+(((kx*kx):Nat):Int)),(((A.getD kk b0).xy)+(((kx*ky):Nat):Int)),(((A.getD kk b0).yy)+(((ky*ky):Nat):Int)),(((A.getD kk b0).ms)+kg),(((A.getD kk b0).mx)+(kg*((kx:Nat):Int))),(((A.getD kk b0).my)+(kg*((ky:Nat):Int)))⟩:Bb))) (show (i+1)≤n∧Fl.TbI wn l o (Fl.cnt (Fl.ldr (Fl.ge l th) cc) n) (i+1) (A.set kk (⟨(((A.getD kk b0).ar)+1),(min ((A.getD kk b0).le) ((kx:Nat):Int)),(min ((A.getD kk b0).tp) ((ky:Nat):Int)),(max ((A.getD kk b0).rt) ((kx:Nat):Int)),(max ((A.getD kk b0).bt) ((ky:Nat):Int)),(((A.getD kk b0).sx)+((kx:Nat):Int)),(((A.getD kk b0).sy)+((ky:Nat):Int)),(((A.getD kk b0).xx)+(((kx*kx):Nat):Int)),(((A.getD kk b0).xy)+(((kx*ky):Nat):Int)),(((A.getD kk b0).yy)+(((ky*ky):Nat):Int)),(((A.getD kk b0).ms)+kg),(((A.getD kk b0).mx)+(kg*((kx:Nat):Int))),(((A.getD kk b0).my)+(kg*((ky:Nat):Int)))⟩:Bb)) from by exact ⟨by omega,hT.put hkN hkk (by rw [← hold,hkx,hky,hkg];rfl)⟩) (by show n - (i+1)<n - i;omega) ((.of rfl):SubM _ _) (ho:=((.of [0,1] rfl):PickO _ _ _)) ((.of [2,3] rfl):SelR _ _ _)
  ·
   refine zha<|zl<|zl<|zu<|ze<|zh<|zc<|r_pv rfl rfl (zb rfl)<|r_pv rfl rfl (zd rfl)<|r_pv rfl rfl (zd rfl)<|zj<|ze<|zI ?_
   have hin8:i=n:=by omega
   rw [hin8] at hT
   refine zKa 0 rfl .z ?_
   exact zua Try.results17 (some ⟨b4,0,none⟩,(Fl.cnt (Fl.ldr (Fl.ge l th) cc) n),A) (Fl.BlsR.yes hok hn hcl.1 hLC hT.fin) (zp rfl) (zp rfl) (by rw [Decidable.not_not.1 hc,hAl]) (ho:=(.n:PickO _ _ _)) ((.c (j:=0) rfl .n):SelR _ _ _)
end Go.Proofs.Ytefbbhiaalcjfaa.Sp
namespace Go.Proofs.Ytefbbhiaalcjfaa.Fl
open Sp (Bb b0)
theorem self_eq (z:Int):decide (z=z)=true:=decide_eq_true rfl
instance (e:Bool) (w n j k:Nat):Decidable (nb e w n j k):=by unfold nb;infer_instance
theorem Lst.cert {n:Nat} {f:Nat→Bool} {adj:Nat→Nat→Prop} (c p:Nat→Nat) (hf:∀i,f i=true→i<n)
    (h1:∀i,i<n→f i=true→c i≤i∧(c i=i∨(f (p i)=true∧adj i (p i)∧p i<i∧c (p i)=c i)))
    (h2:∀i,i<n→∀k,k<n→f i=true→f k=true→adj i k→c i=c k):Lst (fun j=>f j=true) adj c:=by
  refine ⟨fun i hi=>(h1 i (hf i hi) hi).1,fun i=> ?_,fun i k hi hk ha=>h2 i (hf i hi) k (hf k hk) hi hk ha⟩
  induction i using Nat.strongRecOn with
  |ind i ih=>
    intro hi
    rcases (h1 i (hf i hi) hi).2 with e|⟨a,b,d,e⟩
    · rw [e];exact .refl i
    · rw [← e];exact .step hi a b (ih (p i) d a)
def pixK:List Int:=[9,9,0,0,0,9,0,5,0,0,0,5]
def labK:List Int:=[0,0,-1,-1,-1,0,-1,1,-1,-1,-1,1]
def cK (i:Nat):Nat:=([0,0,2,3,4,0,6,7,8,9,10,7]:List Nat).getD i 0
def pK (i:Nat):Nat:=([0,0,2,3,4,1,6,7,8,9,10,7]:List Nat).getD i 0
theorem lstK:Lst (fun j=>ge pixK 5 j=true) (nb false 4 12) cK:=
  Lst.cert (n:=12) (f:=ge pixK 5) cK pK (fun i hi=>ge_lt (l:=pixK) hi) (by decide +kernel) (by decide +kernel)
theorem labcK:LabC 12 (ge pixK 5) cK labK:=⟨rfl,by decide +kernel,by decide +kernel⟩
theorem labrK:LabR 4 3 9 pixK 5 labK:=LabR.yes (w:=4) (n:=12) (by decide +kernel) rfl (labcK.lab lstK)
def blK:List Bb:=[⟨3,0,0,1,1,2,1,2,1,1,27,18,9⟩,⟨2,3,1,3,2,6,3,18,9,5,10,30,15⟩]
theorem blsK:BlsR 4 3 9 pixK 5 blK:=BlsR.yes (w:=4) (n:=12) (by decide +kernel) rfl lstK labcK (by decide +kernel)
def pixH:List Int:=[1,1,1,1,0,1,1,1,1]
theorem holK:HolR 3 3 1 pixH 1 1:=
  HolR.yes (w:=3) (h:=3) (n:=9) (c:=id) (by decide +kernel) rfl
    (Lst.cert (n:=9) (f:=lo pixH 1) id id (fun i hi=>lo_lt (l:=pixH) hi) (by decide +kernel) (by decide +kernel)) (by decide +kernel)
end Go.Proofs.Ytefbbhiaalcjfaa.Fl
namespace Go.Proofs.Ytefbbhiaalcjfaa.Sp
open Go
set_option linter.unusedVariables false
set_option maxRecDepth 100000
set_option maxHeartbeats 1000000
theorem zPe:Con Try.prog 9 [] [] [] (Y:=Unit) (fun y=>True) (fun y=> .bool true) (fun y=>[]) (fun y=>[]):=by
 refine zq Try.func9 rfl rfl rfl (fun c=> ?_)
 show RunC _ _ _ _ _ [] [] []
 refine zh<|zc<|r_pv rfl rfl (zd rfl)<|zj<|ze<|zh<|zc<|zsa rfl rfl (zG (enc:=fun z:Int=>[.int .i64 z]) (ok:=InK .i64) (h1:=fun _=>rfl) (h2:=fun _=>rfl) (k:=12) Try.underlying22 inf3 rfl (by decide) (by decide) (by decide) (.c (x:=9) rfl rfl (fun _ _=>by exact zn.2 (by omega)) (.c (x:=9) rfl rfl (fun _ _=>by exact zn.2 (by omega)) (.c (x:=0) rfl rfl (fun _ _=>by exact zn.2 (by omega)) (.c (x:=0) rfl rfl (fun _ _=>by exact zn.2 (by omega)) (.c (x:=0) rfl rfl (fun _ _=>by exact zn.2 (by omega)) (.c (x:=9) rfl rfl (fun _ _=>by exact zn.2 (by omega)) (.c (x:=0) rfl rfl (fun _ _=>by exact zn.2 (by omega)) (.c (x:=5) rfl rfl (fun _ _=>by exact zn.2 (by omega)) (.c (x:=0) rfl rfl (fun _ _=>by exact zn.2 (by omega)) (.c (x:=0) rfl rfl (fun _ _=>by exact zn.2 (by omega)) (.c (x:=0) rfl rfl (fun _ _=>by exact zn.2 (by omega)) (.c (x:=5) rfl rfl (fun _ _=>by exact zn.2 (by omega)) .n))))))))))))) (fun b1 _=> ?_)
 refine r_pv rfl rfl (zL zr24 rfl Try.underlying24 (.c sz3 (.c sz3 (.c sz3 (.c sz22 .n)))) (.c rfl (.c rfl (.c rfl (.c rfl .n)))) (.c rfl rfl rfl (.take .nil) (.c rfl rfl rfl (.skip (.take .nil)) (.c rfl rfl rfl (.skip (.skip (.take .nil))) (.c rfl rfl rfl (.skip (.skip (.skip (.take .nil)))) .n)))))<|zT rfl rfl (zJ zr24 rfl) (fun b2=> ?_)
 refine zo 0 rfl rfl rfl rfl rfl sz24 rfl (.take (.take (.take (.take .nil)))) .z<|zj<|ze<|zh<|zc<|r_u rfl rfl (zi 0 ty24 rfl rfl (.take (.take (.take (.take .nil)))))<|zia 1 rfl (.s .z)<|zA rfl rfl (.c rfl (.c rfl .n)) ce11 (zNe (w:=4) (h:=3) (m:=9) (p:=some ⟨b1,0,none⟩) (n:=12) (cap:=12) (l:=[9,9,0,0,0,9,0,5,0,0,0,5]) (th:=5) (hn:=by first|rfl|assumption|omega|decide|(decide +kernel))) (.c (j:=0) rfl .n) ?_
 rintro ⟨p33,c34,oL⟩ hL
 dsimp only [List.append_eq,List.nil_append,List.cons_append]
 replace hL:Fl.LabR 4 3 9 ([9,9,0,0,0,9,0,5,0,0,0,5]) 5 oL:=hL
 have e5:oL=Fl.labK:=by exact hL.uniq Fl.labrK
 subst e5
 have e6:=Fl.ask0.2 (show Bl.rok 4 3 9 ([9,9,0,0,0,9,0,5,0,0,0,5])∧(0:Int)≤5∧(5:Int)≤65536 by decide +kernel)
 rw [e6]
 refine r_pv rfl rfl (zb rfl)<|r_pv rfl rfl (zr rfl rfl)<|r_pv rfl rfl (zr rfl rfl)<|r_pv rfl rfl (zd rfl)<|r_pv rfl rfl (zd rfl)<|zj<|ze<|zh<|zc<|r_u rfl rfl (zi 0 ty24 rfl rfl (.take (.take (.take (.take .nil)))))<|zA rfl rfl (.c rfl (.c rfl .n)) ce17 (zOe (w:=4) (h:=3) (m:=9) (p:=some ⟨b1,0,none⟩) (n:=12) (cap:=12) (l:=[9,9,0,0,0,9,0,5,0,0,0,5]) (th:=5) (hn:=by first|rfl|assumption|omega|decide|(decide +kernel))) (.c (j:=1) rfl .n) ?_
 rintro ⟨p37,c38,aB⟩ hB
 dsimp only [List.append_eq,List.nil_append,List.cons_append]
 replace hB:Fl.BlsR 4 3 9 ([9,9,0,0,0,9,0,5,0,0,0,5]) 5 aB:=hB
 have e9:aB=Fl.blK:=by exact hB.uniq Fl.blsK
 subst e9
 have e10:=Fl.ask0.2 (show Bl.rok 4 3 9 ([9,9,0,0,0,9,0,5,0,0,0,5])∧(0:Int)≤5∧(5:Int)≤65536 by decide +kernel)
 rw [e10]
 refine r_pv rfl rfl (zb rfl)<|r_pv rfl rfl (zr rfl rfl)<|r_pv rfl rfl (zr rfl rfl)<|r_pv rfl rfl (zd rfl)<|r_pv rfl rfl (zd rfl)<|zj<|ze<|zh<|zh<|zc<|r_pv rfl rfl (zb rfl)<|r_pv rfl rfl (zb rfl)<|r_pv rfl rfl (zB (z:=0) rfl rfl (w64 (by decide)))<|r_pv rfl rfl (zHa rfl rfl) ?_
 rw [show false=false from by decide]
 refine r_pv rfl rfl (zb rfl)<|r_pv rfl rfl (zb rfl)<|zsa rfl rfl (zG (enc:=fun z:Int=>[.int .i64 z]) (ok:=InK .i64) (h1:=fun _=>rfl) (h2:=fun _=>rfl) (k:=12) Try.underlying22 inf3 rfl (by decide) (by decide) (by decide) (.c (x:=0) rfl rfl (fun _ _=>by exact zn.2 (by omega)) (.c (x:=0) rfl rfl (fun _ _=>by exact zn.2 (by omega)) (.c (x:=(-1)) rfl rfl (fun _ _=>by exact zn.2 (by omega)) (.c (x:=(-1)) rfl rfl (fun _ _=>by exact zn.2 (by omega)) (.c (x:=(-1)) rfl rfl (fun _ _=>by exact zn.2 (by omega)) (.c (x:=0) rfl rfl (fun _ _=>by exact zn.2 (by omega)) (.c (x:=(-1)) rfl rfl (fun _ _=>by exact zn.2 (by omega)) (.c (x:=1) rfl rfl (fun _ _=>by exact zn.2 (by omega)) (.c (x:=(-1)) rfl rfl (fun _ _=>by exact zn.2 (by omega)) (.c (x:=(-1)) rfl rfl (fun _ _=>by exact zn.2 (by omega)) (.c (x:=(-1)) rfl rfl (fun _ _=>by exact zn.2 (by omega)) (.c (x:=1) rfl rfl (fun _ _=>by exact zn.2 (by omega)) .n))))))))))))) (fun b11 _=> ?_)
 refine zia 0 rfl .z<|zR rfl rfl (.c rfl (.c rfl .n)) ce13 (zMe (p1:=p33) (n1:=(Fl.labK.length)) (c1:=c34) (l1:=Fl.labK) (p2:=some ⟨b11,0,none⟩) (n2:=12) (c2:=12) (l2:=[0,0,(-1),(-1),(-1),0,(-1),1,(-1),(-1),(-1),1]) (hn1:=by first|rfl|assumption|omega|decide|(decide +kernel)) (hn2:=by first|rfl|assumption|omega|decide|(decide +kernel))) (.c (j:=2) rfl (.c (j:=0) rfl .n)) ?_
 rw [show (decide (Fl.labK=([0,0,(-1),(-1),(-1),0,(-1),1,(-1),(-1),(-1),1])))=true from by decide +kernel]
 refine r_pv rfl rfl (ztb rfl)<|r_pv rfl rfl (zk rfl rfl)<|r_pv rfl rfl (zb rfl)<|r_pv rfl rfl (zb rfl)<|r_pv rfl rfl (zK Try.underlying35 rfl)<|r_pv rfl rfl (zHa rfl rfl) ?_
 rw [show (decide ((((Fl.blK.length):Nat):Int)≠2))=false from by decide +kernel]
 refine r_pv rfl rfl (zk rfl rfl)<|zj<|ze<|zVa rfl rfl<|zz<|ze<|zh<|zc<|r_pv rfl rfl (zb rfl)<|zN (x0:=(Fl.blK.getD 0 b0)) 1 0 rfl Try.underlying35 sz51 rfl rfl rfl (by first|rfl|assumption|(simp_all;done)|omega) rfl rfl (gD (d:=b0) (by first|omega|decide)) (fun b12 o13 hok14=> ?_)
 obtain ⟨hok140,hok141,hok142,hok143,hok144,hok145,hok146,hok147,hok148,hok149,hok1410,hok1411,hok1412⟩:=hok14
 replace hok140:=zn.1 hok140
 replace hok141:=zn.1 hok141
 replace hok142:=zn.1 hok142
 replace hok143:=zn.1 hok143
 replace hok144:=zn.1 hok144
 replace hok145:=zn.1 hok145
 replace hok146:=zn.1 hok146
 replace hok147:=zn.1 hok147
 replace hok148:=zn.1 hok148
 replace hok149:=zn.1 hok149
 replace hok1410:=zn.1 hok1410
 replace hok1411:=zn.1 hok1411
 replace hok1412:=zn.1 hok1412
 refine r_u rfl rfl (zIa (j:=0) 0 ty51 rfl rfl rfl (.take (.take (.take (.take (.take (.take (.take (.take (.take (.take (.take (.take (.take .nil))))))))))))))<|zA rfl rfl (.c rfl .n) ce19 (zZc (ar:=(Fl.blK.getD 0 b0).ar) (le:=(Fl.blK.getD 0 b0).le) (tp:=(Fl.blK.getD 0 b0).tp) (rt:=(Fl.blK.getD 0 b0).rt) (bt:=(Fl.blK.getD 0 b0).bt) (sx:=(Fl.blK.getD 0 b0).sx) (sy:=(Fl.blK.getD 0 b0).sy) (xx:=(Fl.blK.getD 0 b0).xx) (xy:=(Fl.blK.getD 0 b0).xy) (yy:=(Fl.blK.getD 0 b0).yy) (ms:=(Fl.blK.getD 0 b0).ms) (mx:=(Fl.blK.getD 0 b0).mx) (my:=(Fl.blK.getD 0 b0).my) (hok:=by first|rfl|assumption|omega|decide|(decide +kernel)) (hm:=by first|rfl|assumption|omega|decide|(decide +kernel))) (.n) ?_
 rintro ⟨w315,w416,w517,w618⟩ -
 dsimp only [List.append_eq,List.nil_append,List.cons_append]
 refine r_pv rfl rfl (zb rfl)<|r_pv rfl rfl (zr rfl rfl)<|r_pv rfl rfl (zr rfl rfl)<|zT rfl rfl (zJ zr47 rfl) (fun b19=> ?_)
 refine zo 0 rfl rfl rfl rfl rfl sz47 rfl (.take (.take (.take (.take (.take (.take (.take (.take .nil)))))))) .z<|r_pv rfl rfl (zd rfl)<|zj<|ze<|zh<|zc<|r_pv rfl rfl (zb rfl)<|zN (x0:=(Fl.blK.getD 0 b0)) 4 0 rfl Try.underlying35 sz51 rfl rfl rfl (by first|rfl|assumption|(simp_all;done)|omega) rfl rfl (gD (d:=b0) (by first|omega|decide)) (fun b20 o21 hok22=> ?_)
 obtain ⟨hok220,hok221,hok222,hok223,hok224,hok225,hok226,hok227,hok228,hok229,hok2210,hok2211,hok2212⟩:=hok22
 replace hok220:=zn.1 hok220
 replace hok221:=zn.1 hok221
 replace hok222:=zn.1 hok222
 replace hok223:=zn.1 hok223
 replace hok224:=zn.1 hok224
 replace hok225:=zn.1 hok225
 replace hok226:=zn.1 hok226
 replace hok227:=zn.1 hok227
 replace hok228:=zn.1 hok228
 replace hok229:=zn.1 hok229
 replace hok2210:=zn.1 hok2210
 replace hok2211:=zn.1 hok2211
 replace hok2212:=zn.1 hok2212
 refine r_u rfl rfl (zIa (j:=0) 0 ty51 rfl rfl rfl (.take (.take (.take (.take (.take (.take (.take (.take (.take (.take (.take (.take (.take .nil))))))))))))))<|zA rfl rfl (.c rfl .n) ce23 (zEc (ar:=(Fl.blK.getD 0 b0).ar) (le:=(Fl.blK.getD 0 b0).le) (tp:=(Fl.blK.getD 0 b0).tp) (rt:=(Fl.blK.getD 0 b0).rt) (bt:=(Fl.blK.getD 0 b0).bt) (sx:=(Fl.blK.getD 0 b0).sx) (sy:=(Fl.blK.getD 0 b0).sy) (xx:=(Fl.blK.getD 0 b0).xx) (xy:=(Fl.blK.getD 0 b0).xy) (yy:=(Fl.blK.getD 0 b0).yy) (ms:=(Fl.blK.getD 0 b0).ms) (mx:=(Fl.blK.getD 0 b0).mx) (my:=(Fl.blK.getD 0 b0).my) (hok:=by first|rfl|assumption|omega|decide|(decide +kernel))) (.n) ?_
 rintro ⟨w323,w424,w525,w626,w727,w828⟩ -
 dsimp only [List.append_eq,List.nil_append,List.cons_append]
 refine r_pv rfl rfl (zb rfl)<|r_pv rfl rfl (zr rfl rfl)<|r_pv rfl rfl (zr rfl rfl)<|r_pv rfl rfl (zr rfl rfl)<|r_pv rfl rfl (zr rfl rfl)<|zT rfl rfl (zJ zr45 rfl) (fun b29=> ?_)
 refine zT rfl rfl (zJ zr45 rfl) (fun b30=> ?_)
 refine zT rfl rfl (zJ zr45 rfl) (fun b31=> ?_)
 refine zo 2 rfl rfl rfl rfl rfl sz45 rfl (.take (.take (.take (.take .nil)))) (.s (.s .z))<|zo 1 rfl rfl rfl rfl rfl sz45 rfl (.take (.take (.take (.take .nil)))) (.s .z)<|zo 0 rfl rfl rfl rfl rfl sz45 rfl (.take (.take (.take (.take .nil)))) .z<|r_pv rfl rfl (zd rfl)<|zj<|ze<|zh<|zc<|zsa rfl rfl (zG (enc:=fun z:Int=>[.int .i64 z]) (ok:=InK .i64) (h1:=fun _=>rfl) (h2:=fun _=>rfl) (k:=9) Try.underlying22 inf3 rfl (by decide) (by decide) (by decide) (.c (x:=1) rfl rfl (fun _ _=>by exact zn.2 (by omega)) (.c (x:=1) rfl rfl (fun _ _=>by exact zn.2 (by omega)) (.c (x:=1) rfl rfl (fun _ _=>by exact zn.2 (by omega)) (.c (x:=1) rfl rfl (fun _ _=>by exact zn.2 (by omega)) (.c (x:=0) rfl rfl (fun _ _=>by exact zn.2 (by omega)) (.c (x:=1) rfl rfl (fun _ _=>by exact zn.2 (by omega)) (.c (x:=1) rfl rfl (fun _ _=>by exact zn.2 (by omega)) (.c (x:=1) rfl rfl (fun _ _=>by exact zn.2 (by omega)) (.c (x:=1) rfl rfl (fun _ _=>by exact zn.2 (by omega)) .n)))))))))) (fun b32 _=> ?_)
 refine r_pv rfl rfl (zL zr24 rfl Try.underlying24 (.c sz3 (.c sz3 (.c sz3 (.c sz22 .n)))) (.c rfl (.c rfl (.c rfl (.c rfl .n)))) (.c rfl rfl rfl (.take .nil) (.c rfl rfl rfl (.skip (.take .nil)) (.c rfl rfl rfl (.skip (.skip (.take .nil))) (.c rfl rfl rfl (.skip (.skip (.skip (.take .nil)))) .n)))))<|zia 0 rfl .z<|zA rfl rfl (.c rfl (.c rfl .n)) ce14 (zcd (w:=3) (h:=3) (m:=1) (p:=some ⟨b32,0,none⟩) (n:=9) (cap:=9) (l:=[1,1,1,1,0,1,1,1,1]) (th:=1) (hn:=by first|rfl|assumption|omega|decide|(decide +kernel))) (.c (j:=0) rfl .n) ?_
 rintro zH hH
 dsimp only [List.append_eq,List.nil_append,List.cons_append]
 replace hH:Fl.HolR 3 3 1 ([1,1,1,1,0,1,1,1,1]) 1 zH:=hH
 have e33:zH=1:=by exact hH.uniq Fl.holK
 subst e33
 have e34:=Fl.ask0.2 (show Bl.rok 3 3 1 ([1,1,1,1,0,1,1,1,1])∧(0:Int)≤1∧(1:Int)≤65536 by decide +kernel)
 rw [e34]
 refine r_pv rfl rfl (zb rfl)<|r_pv rfl rfl (zr rfl rfl)<|r_pv rfl rfl (zr rfl rfl)<|r_pv rfl rfl (zd rfl)<|r_pv rfl rfl (zd rfl)<|zj<|ze<|zh<|zc<|zA rfl rfl (.c rfl (.c rfl .n)) ce32 (zvc (z1:=7) (z2:=6) (hz1:=by first|rfl|assumption|omega|decide|(decide +kernel)) (hz2:=by first|rfl|assumption|omega|decide|(decide +kernel)) (hy:=by first|rfl|assumption|omega|decide|(decide +kernel))) (.n) ?_
 rintro ⟨w335,w436⟩ -
 dsimp only [List.append_eq,List.nil_append,List.cons_append]
 refine r_pv rfl rfl (zb rfl)<|r_pv rfl rfl (zr rfl rfl)<|r_pv rfl rfl (zr rfl rfl)<|zT rfl rfl (zJ zr45 rfl) (fun b37=> ?_)
 refine zo 0 rfl rfl rfl rfl rfl sz45 rfl (.take (.take (.take (.take .nil)))) .z<|r_pv rfl rfl (zd rfl)<|zj<|ze<|zh<|zc<|zA rfl rfl (.c rfl (.c rfl .n)) ce32 (zvc (z1:=2) (z2:=9) (hz1:=by first|rfl|assumption|omega|decide|(decide +kernel)) (hz2:=by first|rfl|assumption|omega|decide|(decide +kernel)) (hy:=by first|rfl|assumption|omega|decide|(decide +kernel))) (.n) ?_
 rintro ⟨w338,w439⟩ -
 dsimp only [List.append_eq,List.nil_append,List.cons_append]
 refine r_pv rfl rfl (zb rfl)<|r_pv rfl rfl (zr rfl rfl)<|r_pv rfl rfl (zr rfl rfl)<|zT rfl rfl (zJ zr45 rfl) (fun b40=> ?_)
 refine zo 0 rfl rfl rfl rfl rfl sz45 rfl (.take (.take (.take (.take .nil)))) .z<|r_pv rfl rfl (zd rfl)<|zj<|ze<|zh<|zc<|r_pv rfl rfl (zb rfl)<|r_pv rfl rfl (zb rfl)<|r_pv rfl rfl (zB (z:=0) rfl rfl (w64 (by decide)))<|r_pv rfl rfl (zb rfl)<|r_pv rfl rfl (zB (z:=0) rfl rfl (w64 (by decide)))<|r_pv rfl rfl (zva rfl rfl) ?_
 rw [show true=true from by decide]
 refine r_pv rfl rfl (zb rfl)<|r_pv rfl rfl (zb rfl)<|r_pv rfl rfl (zva rfl rfl) ?_
 rw [show true=true from by decide]
 refine r_pv rfl rfl (zk rfl rfl)<|r_pv rfl rfl (zb rfl)<|r_pv rfl rfl (zg Try.underlying47 rfl sz45 rfl rfl)<|r_u rfl rfl (zi 6 ty45 rfl rfl (.take (.take (.take (.take .nil)))))<|r_u rfl rfl (zi 1 ty45 rfl rfl (.take (.take (.take (.take .nil)))))<|zR rfl rfl (.c rfl (.c rfl .n)) ce20 (zlb (u1:=w315) (v1:=w416) (q1:=Rat.divInt (2*((Fl.blK.getD 0 b0).mx)+((Fl.blK.getD 0 b0).ms)) (2*((Fl.blK.getD 0 b0).ms))) (u2:=w335) (v2:=w436) (q2:=Rat.divInt 7 6) (hl:=by first|rfl|assumption|omega|decide|(decide +kernel))) (.c (j:=7) rfl (.c (j:=1) rfl .n)) ?_
 rw [show (decide ((Rat.divInt (2*((Fl.blK.getD 0 b0).mx)+((Fl.blK.getD 0 b0).ms)) (2*((Fl.blK.getD 0 b0).ms)))=(Rat.divInt 7 6)))=true from by decide +kernel]
 refine r_pv rfl rfl (zk rfl rfl)<|r_pv rfl rfl (zb rfl)<|r_u rfl rfl (zi 5 ty45 rfl rfl (.take (.take (.take (.take .nil)))))<|r_u rfl rfl (zi 0 ty45 rfl rfl (.take (.take (.take (.take .nil)))))<|zR rfl rfl (.c rfl (.c rfl .n)) ce20 (zlb (u1:=w323) (v1:=w424) (q1:=Rat.divInt (((Fl.blK.getD 0 b0).xx)*((Fl.blK.getD 0 b0).ar) - ((Fl.blK.getD 0 b0).sx)*((Fl.blK.getD 0 b0).sx)) (((Fl.blK.getD 0 b0).ar)*((Fl.blK.getD 0 b0).ar))) (u2:=w338) (v2:=w439) (q2:=Rat.divInt 2 9) (hl:=by first|rfl|assumption|omega|decide|(decide +kernel))) (.c (j:=3) rfl (.c (j:=0) rfl .n)) ?_
 rw [show (decide ((Rat.divInt (((Fl.blK.getD 0 b0).xx)*((Fl.blK.getD 0 b0).ar) - ((Fl.blK.getD 0 b0).sx)*((Fl.blK.getD 0 b0).sx)) (((Fl.blK.getD 0 b0).ar)*((Fl.blK.getD 0 b0).ar)))=(Rat.divInt 2 9)))=true from by decide +kernel]
 refine r_pv rfl rfl (zk rfl rfl)<|r_pv rfl rfl (zb rfl)<|r_u rfl rfl (zi 3 ty45 rfl rfl (.take (.take (.take (.take .nil)))))<|r_u rfl rfl (zi 0 ty45 rfl rfl (.take (.take (.take (.take .nil)))))<|zR rfl rfl (.c rfl (.c rfl .n)) ce20 (zlb (u1:=w727) (v1:=w828) (q1:=Rat.divInt (((Fl.blK.getD 0 b0).yy)*((Fl.blK.getD 0 b0).ar) - ((Fl.blK.getD 0 b0).sy)*((Fl.blK.getD 0 b0).sy)) (((Fl.blK.getD 0 b0).ar)*((Fl.blK.getD 0 b0).ar))) (u2:=w338) (v2:=w439) (q2:=Rat.divInt 2 9) (hl:=by first|rfl|assumption|omega|decide|(decide +kernel))) (.c (j:=5) rfl (.c (j:=0) rfl .n)) ?_
 rw [show (decide ((Rat.divInt (((Fl.blK.getD 0 b0).yy)*((Fl.blK.getD 0 b0).ar) - ((Fl.blK.getD 0 b0).sy)*((Fl.blK.getD 0 b0).sy)) (((Fl.blK.getD 0 b0).ar)*((Fl.blK.getD 0 b0).ar)))=(Rat.divInt 2 9)))=true from by decide +kernel]
 refine r_pv rfl rfl (zk rfl rfl)<|r_pv rfl rfl (zb rfl)<|r_pv rfl rfl (zb rfl)<|zN (x0:=(Fl.blK.getD 0 b0)) 11 0 rfl Try.underlying35 sz51 rfl rfl rfl (by first|rfl|assumption|(simp_all;done)|omega) rfl rfl (gD (d:=b0) (by first|omega|decide)) (fun b41 o42 hok43=> ?_)
 obtain ⟨hok430,hok431,hok432,hok433,hok434,hok435,hok436,hok437,hok438,hok439,hok4310,hok4311,hok4312⟩:=hok43
 replace hok430:=zn.1 hok430
 replace hok431:=zn.1 hok431
 replace hok432:=zn.1 hok432
 replace hok433:=zn.1 hok433
 replace hok434:=zn.1 hok434
 replace hok435:=zn.1 hok435
 replace hok436:=zn.1 hok436
 replace hok437:=zn.1 hok437
 replace hok438:=zn.1 hok438
 replace hok439:=zn.1 hok439
 replace hok4310:=zn.1 hok4310
 replace hok4311:=zn.1 hok4311
 replace hok4312:=zn.1 hok4312
 refine r_u rfl rfl (zIa (j:=0) 0 ty51 rfl rfl rfl (.take (.take (.take (.take (.take (.take (.take (.take (.take (.take (.take (.take (.take .nil))))))))))))))<|r_pv rfl rfl (zL zr51 rfl Try.underlying51 (.c sz3 (.c sz3 (.c sz3 (.c sz3 (.c sz3 (.c sz3 (.c sz3 (.c sz3 (.c sz3 (.c sz3 (.c sz3 (.c sz3 (.c sz3 .n))))))))))))) (.c rfl (.c rfl (.c rfl (.c rfl (.c rfl (.c rfl (.c rfl (.c rfl (.c rfl (.c rfl (.c rfl .n))))))))))) (.c rfl rfl rfl (.take .nil) (.c rfl rfl rfl (.skip (.skip (.skip (.take .nil)))) (.c rfl rfl rfl (.skip (.skip (.skip (.skip (.take .nil))))) (.c rfl rfl rfl (.skip (.skip (.skip (.skip (.skip (.take .nil)))))) (.c rfl rfl rfl (.skip (.skip (.skip (.skip (.skip (.skip (.take .nil))))))) (.c rfl rfl rfl (.skip (.skip (.skip (.skip (.skip (.skip (.skip (.take .nil)))))))) (.c rfl rfl rfl (.skip (.skip (.skip (.skip (.skip (.skip (.skip (.skip (.take .nil))))))))) (.c rfl rfl rfl (.skip (.skip (.skip (.skip (.skip (.skip (.skip (.skip (.skip (.take .nil)))))))))) (.c rfl rfl rfl (.skip (.skip (.skip (.skip (.skip (.skip (.skip (.skip (.skip (.skip (.take .nil))))))))))) (.c rfl rfl rfl (.skip (.skip (.skip (.skip (.skip (.skip (.skip (.skip (.skip (.skip (.skip (.take .nil)))))))))))) (.c rfl rfl rfl (.skip (.skip (.skip (.skip (.skip (.skip (.skip (.skip (.skip (.skip (.skip (.skip (.take .nil))))))))))))) .n))))))))))))<|r_pv rfl rfl (zOd (p:=(Fl.blK.getD 0 b0).ar=3∧(Fl.blK.getD 0 b0).le=0∧(Fl.blK.getD 0 b0).tp=0∧(Fl.blK.getD 0 b0).rt=1∧(Fl.blK.getD 0 b0).bt=1∧(Fl.blK.getD 0 b0).sx=2∧(Fl.blK.getD 0 b0).sy=1∧(Fl.blK.getD 0 b0).xx=2∧(Fl.blK.getD 0 b0).xy=1∧(Fl.blK.getD 0 b0).yy=1∧(Fl.blK.getD 0 b0).ms=27∧(Fl.blK.getD 0 b0).mx=18∧(Fl.blK.getD 0 b0).my=9) (by kernel_rfl) rfl rfl (zNd Try.underlying51 (by kernel_rfl) (zSa (by decide) ty3 rfl rfl (zRa Try.underlying3) (zSa (by decide) ty3 rfl rfl (zRa Try.underlying3) (zSa (by decide) ty3 rfl rfl (zRa Try.underlying3) (zSa (by decide) ty3 rfl rfl (zRa Try.underlying3) (zSa (by decide) ty3 rfl rfl (zRa Try.underlying3) (zSa (by decide) ty3 rfl rfl (zRa Try.underlying3) (zSa (by decide) ty3 rfl rfl (zRa Try.underlying3) (zSa (by decide) ty3 rfl rfl (zRa Try.underlying3) (zSa (by decide) ty3 rfl rfl (zRa Try.underlying3) (zSa (by decide) ty3 rfl rfl (zRa Try.underlying3) (zSa (by decide) ty3 rfl rfl (zRa Try.underlying3) (zSa (by decide) ty3 rfl rfl (zRa Try.underlying3) (zSa (by decide) ty3 rfl rfl (zRa Try.underlying3) znf)))))))))))))) (by simp [Bool.decide_and])) ?_
 rw [show (decide ((Fl.blK.getD 0 b0).ar=3∧(Fl.blK.getD 0 b0).le=0∧(Fl.blK.getD 0 b0).tp=0∧(Fl.blK.getD 0 b0).rt=1∧(Fl.blK.getD 0 b0).bt=1∧(Fl.blK.getD 0 b0).sx=2∧(Fl.blK.getD 0 b0).sy=1∧(Fl.blK.getD 0 b0).xx=2∧(Fl.blK.getD 0 b0).xy=1∧(Fl.blK.getD 0 b0).yy=1∧(Fl.blK.getD 0 b0).ms=27∧(Fl.blK.getD 0 b0).mx=18∧(Fl.blK.getD 0 b0).my=9))=true from by decide +kernel]
 refine r_pv rfl rfl (zk rfl rfl)<|r_pv rfl rfl (zd rfl)<|zj<|ze<|zI ?_
 exact zD Try.results9 () trivial (zp rfl) rfl (ho:=(.n:PickO _ _ _)) (.n:SelR _ _ _)
end Go.Proofs.Ytefbbhiaalcjfaa.Sp
namespace Go.Proofs.Ytefbbhiaalcjfaa.Sp
open Go
set_option linter.unusedVariables false
set_option maxRecDepth 100000
set_option maxHeartbeats 1000000
theorem zxf {w:Int} {h:Int} {m:Int} {p:Option Addr} {n:Nat} {cap:Nat} {l:List Int} (hn:l.length=n):Con Try.prog 10 [.agg #[.int .i64 w,.int .i64 h,.int .i64 m,.slice p n cap]] [] [slF (rI .i64) p cap l] (Y:=Unit) (fun y=>True) (fun y=> .bool (decide (((n:Nat):Int)≤200))) (fun y=>[]) (fun y=>[]):=by
 refine zq Try.func10 rfl rfl rfl (fun c=> ?_)
 show RunC _ _ _ _ _ [(0,.agg #[.int .i64 w,.int .i64 h,.int .i64 m,.slice p n cap])] [] [slF (rI .i64) p cap l]
 refine zfa 0 rfl (fun hL0=> ?_)
 refine zh<|zc<|zT rfl rfl (zY rfl rfl) (fun b1=> ?_)
 refine r_pv rfl rfl (zd rfl)<|zj<|ze<|zh<|zc<|r_pv rfl rfl (zg Try.underlying24 rfl sz22 rfl rfl)<|r_u rfl rfl (zf 0 ty22 rfl rfl rfl)<|r_pv rfl rfl (zK Try.underlying22 rfl)<|r_pv rfl rfl (znb rfl rfl)<|r_pv rfl rfl (zd rfl)<|zj<|ze<|zI ?_
 exact zD Try.results10 () trivial (zp rfl) rfl (ho:=(.n:PickO _ _ _)) (.n:SelR _ _ _)
theorem zFc {w:Int} {h:Int} {m:Int} {p:Option Addr} {n:Nat} {cap:Nat} {l:List Int} {th:Int} (hn:l.length=n):Con Try.prog 4 [.agg #[.int .i64 w,.int .i64 h,.int .i64 m,.slice p n cap],.int .i64 th] [] [slF (rI .i64) p cap l] (Y:=Unit) (fun y=>True) (fun y=> .bool true) (fun y=>[]) (fun y=>[]):=by
 refine zq Try.func4 rfl rfl rfl (fun c=> ?_)
 show RunC _ _ _ _ _ [(0,.agg #[.int .i64 w,.int .i64 h,.int .i64 m,.slice p n cap]),(1,.int .i64 th)] [] [slF (rI .i64) p cap l]
 refine zfa 0 rfl (fun hL0=> ?_)
 refine zh<|zc<|zT rfl rfl (zY rfl rfl) (fun b1=> ?_)
 refine r_pv rfl rfl (zd rfl)<|zj<|ze<|zh<|zh<|zc<|zR rfl rfl (.n) ce9 (zPe) (.n)<|r_pv rfl rfl (ztb rfl)<|zj<|ze<|zVa rfl rfl<|zz<|ze<|zh<|zh<|zc<|r_u rfl rfl (zi 0 ty24 rfl rfl (.take (.take (.take (.take .nil)))))<|zR rfl rfl (.c rfl .n) ce10 (zxf (w:=w) (h:=h) (m:=m) (p:=p) (n:=n) (cap:=cap) (l:=l) (hn:=by assumption)) (.c (j:=0) rfl .n)<|r_pv rfl rfl (zgb rfl)<|zj<|ze<|zC rfl (fun h2=> ?_) (fun h2=> ?_)
 ·
  refine zh<|zc<|r_pv rfl rfl (zd rfl)<|zj<|ze<|zI<|zt ?_
  exact zD Try.results4 () trivial (zp rfl) rfl (ho:=(.n:PickO _ _ _)) (.n:SelR _ _ _)
 ·
  refine zz<|ze<|zh<|zc<|r_u rfl rfl (zi 0 ty24 rfl rfl (.take (.take (.take (.take .nil)))))<|r_pv rfl rfl (zb rfl)<|zA rfl rfl (.c rfl (.c rfl .n)) ce14 (zcd (w:=w) (h:=h) (m:=m) (p:=p) (n:=n) (cap:=cap) (l:=l) (th:=th) (hn:=by assumption)) (.c (j:=0) rfl .n) ?_
  rintro z1 hL1
  dsimp only [List.append_eq,List.nil_append,List.cons_append]
  replace hL1:Fl.HolR w h m l th z1:=hL1
  refine r_pv rfl rfl (zb rfl)<|r_pv rfl rfl (zr rfl rfl)<|r_pv rfl rfl (zr rfl rfl)<|r_pv rfl rfl (zd rfl)<|r_pv rfl rfl (zd rfl)<|zj<|ze<|zh<|zc<|r_u rfl rfl (zi 0 ty24 rfl rfl (.take (.take (.take (.take .nil)))))<|r_pv rfl rfl (zb rfl)<|zA rfl rfl (.c rfl (.c rfl .n)) ce15 (zae (w:=w) (h:=h) (m:=m) (p:=p) (n:=n) (cap:=cap) (l:=l) (th:=th) (hn:=by assumption)) (.c (j:=0) rfl .n) ?_
  rintro z2 hL2
  dsimp only [List.append_eq,List.nil_append,List.cons_append]
  replace hL2:Fl.HolR w h m l th z2:=hL2
  have e3:z1=z2:=by exact hL1.uniq hL2
  subst e3
  refine r_pv rfl rfl (zb rfl)<|r_pv rfl rfl (zr rfl rfl)<|r_pv rfl rfl (zr rfl rfl)<|r_pv rfl rfl (zd rfl)<|r_pv rfl rfl (zd rfl)<|zj<|ze<|zh<|zc<|r_pv rfl rfl (zb rfl)<|r_pv rfl rfl (zb rfl)<|r_pv rfl rfl (zva rfl rfl) ?_
  rw [Fl.self_eq]
  refine r_pv rfl rfl (zb rfl)<|r_pv rfl rfl (zb rfl)<|r_pv rfl rfl (zb rfl)<|r_pv rfl rfl (zva rfl rfl) ?_
  rw [Fl.self_eq]
  refine r_pv rfl rfl (zk rfl rfl)<|r_pv rfl rfl (zd rfl)<|zj<|ze<|zI ?_
  exact zD Try.results4 () trivial (zp rfl) rfl (ho:=(.n:PickO _ _ _)) (.n:SelR _ _ _)
end Go.Proofs.Ytefbbhiaalcjfaa.Sp
