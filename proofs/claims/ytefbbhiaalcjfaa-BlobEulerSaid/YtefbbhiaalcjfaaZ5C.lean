/- Lemmas on the walk and plain lemmas that the claim of this folder uses; each states its own conditions. Lines were printed by a program of ours. -/
import Derived.Test.YtefbbhiaalcjfaaZ5B
set_option linter.unusedVariables false
set_option linter.unusedSimpArgs false
set_option linter.unusedSectionVars false
namespace Go.Proofs.Ytefbbhiaalcjfaa.Sp
open Go
set_option linter.unusedVariables false
set_option maxRecDepth 100000
set_option maxHeartbeats 8000000
theorem zVc {w:Int} {h:Int} {m:Int} {p:Option Addr} {n:Nat} {cap:Nat} {l:List Int} {th:Int} (hn:l.length=n):Con Try.prog 14 [.agg #[.int .i64 w,.int .i64 h,.int .i64 m,.slice p n cap],.int .i64 th] [] [slF (rI .i64) p cap l] (Y:=Int) (fun y=>Fl.HolR w h m l th y) (fun y=> .tuple #[.int .i64 y,.int .i64 (if Bl.rok w h m l then (if 0≤th∧th≤65536 then 0 else 2) else 1)]) (fun y=>[]) (fun y=>[]):=by
 refine zr Try.func14 rfl rfl rfl (fun c=> ?_)
 show RunC _ _ _ _ _ [(0,.agg #[.int .i64 w,.int .i64 h,.int .i64 m,.slice p n cap]),(1,.int .i64 th)] [] [slF (rI .i64) p cap l]
 refine zca 0 rfl (fun hL0=> ?_)
 refine zi<|zc<|zS rfl rfl (zX rfl rfl) (fun b1=> ?_)
 refine zS rfl rfl (zX rfl rfl) (fun b2=> ?_)
 refine r_pv rfl rfl (zd rfl)<|r_pv rfl rfl (zd rfl)<|zj<|ze<|zi<|zi<|zc<|r_u rfl rfl (zh 1 ty24 rfl rfl (.take (.take (.take (.take .nil)))))<|r_u rfl rfl (zf 0 ty3 rfl rfl rfl)<|zO rfl rfl (.c rfl (.c rfl .n)) ce33 (zzb (w:=w) (h:=h) (m:=m) (p:=p) (n:=n) (cap:=cap) (l:=l) (th:=th) (hn:=by assumption)) (.c (j:=0) rfl .n)<|r_pv rfl rfl (zd rfl)<|zj<|ze<|zi<|zc<|r_pv rfl rfl (zb rfl)<|r_pv rfl rfl (zIa rfl rfl)<|zj<|ze<|zD rfl (fun hc=> ?_) (fun hc=> ?_)
 ·
  have hno:=fun k=>hc (Fl.ask0.2 k)
  refine zi<|zc<|r_pv rfl rfl (zb rfl)<|r_pv rfl rfl (zd rfl)<|r_pv rfl rfl (zd rfl)<|zj<|ze<|zI<|zt ?_
  exact zva Try.results14 0 (Fl.HolR.no hno) (zq rfl) (zq rfl) rfl (ho:=(.n:PickO _ _ _)) (.n:SelR _ _ _)
 ·
  have hok:=Fl.ask0.1 (Decidable.not_not.1 hc)
  obtain ⟨wn,hn9,rfl,rfl,hw9,hh9,hwh,hb9⟩:=Fl.rok_n hok.1 hn
  refine zA<|ze<|zi<|zfb 0 rfl .z<|zja (OW:=[]) (O:=[emA,boxA b1 24 [.int .i64 ((wn:Nat):Int),.int .i64 ((hn9:Nat):Int),.int .i64 m,.slice p n cap]]) 100000 mixed (.then .ret) (by kernel_rfl)<|d_u 0 rfl rfl (by kernel_rfl) (by kernel_rfl) rfl rfl (zh 1 ty24 rfl rfl (.take (.take (.take (.take .nil)))))<|d_pv 1 rfl rfl (by kernel_rfl) (by kernel_rfl) rfl rfl (zQa .n (.c rfl .n))<|zV 2 (by kernel_rfl) (zT rfl rfl rfl rfl (.n) ce38 (zue) (.n) ?_)
  rintro ⟨p33,c34⟩ -
  dsimp only [List.append_eq,List.nil_append,List.cons_append]
  refine zV 3 (by kernel_rfl) (zT rfl rfl rfl rfl (.c rfl (.c rfl (.c rfl .n))) ce36 (zUc (w:=wn) (h:=hn9) (m:=m) (p:=p) (n:=n) (cap:=cap) (l:=l) (tb:=b2) (th:=th) (p2:=p33) (c2:=c34) (hn:=by assumption) (hw:=by first|rfl|assumption|omega) (hh:=by first|rfl|assumption|omega) (hwh:=by first|rfl|assumption|omega) (hb:=by first|rfl|assumption|omega)) (.c (j:=2) rfl (.c (j:=1) rfl (.c (j:=0) rfl .n))) ?_)
  rintro ⟨p35,c36,o,cc⟩ hcl
  dsimp only [List.append_eq,List.nil_append,List.cons_append]
  replace hcl:Fl.Lst (fun j=>(Fl.lo l th) j=true) (Fl.nb true wn n) cc∧Fl.OutI n (Fl.lo l th) cc n o:=hcl
  refine d_pv 4 rfl rfl (by kernel_rfl) (by kernel_rfl) rfl rfl (zb rfl)<|d_pv 5 rfl rfl (by kernel_rfl) (by kernel_rfl) rfl rfl (zp rfl rfl)<|d_pv 6 rfl rfl (by kernel_rfl) (by kernel_rfl) rfl rfl (zp rfl rfl)<|d_pv 7 rfl rfl (by kernel_rfl) (by kernel_rfl) rfl rfl (zd rfl)<|d_pv 8 rfl rfl (by kernel_rfl) (by kernel_rfl) rfl rfl (zd rfl)<|zga (by kernel_rfl)<|ze<|zi<|zc<|zta rfl rfl (zOd (κ:=Int) (ν:=Bool) (fun z:Int=> .int .i64 z) (fun z:Bool=> .bool z) (InK .i64)) (fun b7 _=> ?_)
  refine r_pv rfl rfl (zd rfl)<|zj<|ze<|zi<|zi ?_
  have hin:∀j,(Fl.lo l th) j=true→j<n:=fun j hj=>by have:=Fl.lo_lt hj;omega
  have hol:=hcl.2.len
  refine zc<|r_pv rfl rfl (zb rfl)<|r_pv rfl rfl (zM Try.underlying22 rfl)<|r_pv rfl rfl (zb rfl)<|zj<|ze<|zz<|zma (X:=Nat×(List (Int×Bool))) (fun x:Nat×(List (Int×Bool))=>x.1≤n∧Fl.OpnI (Fl.lo l th) cc (Fl.edg wn hn9) x.1 x.2) (fun x=>[(30,.int .i64 ((x.1:Nat):Int)),(29,.int .i64 ((n:Nat):Int)),(28,.slice p35 n c36),(9,.map (some b7)),(8,.int .i64 (((Fl.cnt (Fl.ldr (Fl.lo l th) cc) n):Nat):Int)),(5,.int .i64 0),(4,.int .i64 0),(2,.pointer (some ⟨b1,0,none⟩))]) (fun x=>[mapA b7 (fun z:Int=> .int .i64 z) (fun z:Bool=> .bool z) (InK .i64) (x.2),boxA b1 24 [.int .i64 ((wn:Nat):Int),.int .i64 ((hn9:Nat):Int),.int .i64 m,.slice p n cap]]) (fun x=>[slF (rI .i64) p35 c36 o,slF (rI2 .i64) p33 c34 ([((1:Int),(0:Int)),(-1,0),(0,1),(0,-1)]++[(1,1),(-1,1),(1,-1),(-1,-1)]),atF b2 0 [.int .i64 th],slF (rI .i64) p cap l]) (fun x:Nat×(List (Int×Bool))=>n - x.1) (0,([]:List (Int×Bool))) (show 0≤n∧Fl.OpnI (Fl.lo l th) cc (Fl.edg wn hn9) 0 ([]:List (Int×Bool)) from by exact ⟨Nat.zero_le _,Fl.OpnI.start⟩) ((.e rfl (by first|rfl|(congr 1;omega)|simp_all) (.of rfl)):SubM _ _) (ho:=((.e (i:=0) rfl (by first|rfl|(congr 1;omega)|simp_all) (.c (i:=1) rfl .n)):PickO _ _ _)) ((.of [0,1,2,3] rfl):SelR _ _ _) ?_
  rintro ⟨i,mp⟩ hI
  replace hI:i≤n∧Fl.OpnI (Fl.lo l th) cc (Fl.edg wn hn9) i mp:=hI
  try dsimp only
  obtain ⟨hi,hM⟩:=hI
  refine zi<|zc<|r_pv rfl rfl (zW rfl rfl)<|zj<|ze<|zi<|zD rfl (fun h8=> ?_) (fun h8=> ?_)
  ·
   have hqd:=Nat.div_le_self i wn
   have hq0:=Int.natCast_nonneg (i / wn)
   have hm0:=Int.natCast_nonneg (i%wn)
   have hmd:=Nat.mod_lt i (show 0<wn by omega)
   have hoe:=hcl.2.old i (by omega)
   have hon:=hcl.2.new i (by omega)
   have hcn:=Fl.cnt_le (Fl.ldr (Fl.lo l th) cc) (cc i)
   refine zA<|ze<|zi<|zz<|zi<|zc<|r_pv rfl rfl (zb rfl)<|zQ (x0:=(o.getD i 0)) 0 i rfl Try.underlying22 sz3 rfl rfl rfl (by first|rfl|assumption|(simp_all;done)|omega) rfl rfl (gD (d:=0) (by omega)) (fun b9 o10 hok11=> ?_)
   replace hok11:=zn.1 hok11
   refine r_u rfl rfl (zl (j:=0) 0 ty3 rfl rfl rfl rfl)<|r_pv rfl rfl (zd rfl)<|r_pv rfl rfl (zd rfl)<|zj<|ze<|zi<|zja (OW:=[]) (O:=[mapA b7 (fun z:Int=> .int .i64 z) (fun z:Bool=> .bool z) (InK .i64) mp,boxA b1 24 [.int .i64 ((wn:Nat):Int),.int .i64 ((hn9:Nat):Int),.int .i64 m,.slice p n cap]]) 100000 mixed (.then (.block (.then (.then (.block (.then .ret)))))) (by kernel_rfl)<|d_pv 0 rfl rfl (by kernel_rfl) (by kernel_rfl) rfl rfl (zb rfl)<|d_pv 1 rfl rfl (by kernel_rfl) (by kernel_rfl) rfl rfl (zg Try.underlying24 rfl sz3 rfl rfl)<|d_u 2 rfl rfl (by kernel_rfl) (by kernel_rfl) rfl rfl (zf 1 ty3 rfl rfl rfl)<|d_pv 3 rfl rfl (by kernel_rfl) (by kernel_rfl) rfl rfl (zHa (z:=(((i%wn):Nat):Int)) rfl rfl (by omega) (remN (by omega) (by omega)))<|d_pv 4 rfl rfl (by kernel_rfl) (by kernel_rfl) rfl rfl (zb rfl)<|d_pv 5 rfl rfl (by kernel_rfl) (by kernel_rfl) rfl rfl (zg Try.underlying24 rfl sz3 rfl rfl)<|d_u 6 rfl rfl (by kernel_rfl) (by kernel_rfl) rfl rfl (zf 1 ty3 rfl rfl rfl)<|d_pv 7 rfl rfl (by kernel_rfl) (by kernel_rfl) rfl rfl (zGa (z:=(((i / wn):Nat):Int)) rfl rfl (by omega) (by rw [quoN (z:=(((i / wn):Nat):Int)) (by omega) (by omega)];exact w64 (by omega)))<|d_pv 8 rfl rfl (by kernel_rfl) (by kernel_rfl) rfl rfl (zd rfl)<|d_pv 9 rfl rfl (by kernel_rfl) (by kernel_rfl) rfl rfl (zd rfl)<|zga (by kernel_rfl)<|ze<|zFa (X:=Unit) (fun x=>True) (fun x=>[(66,.bool (decide (0≤o.getD i 0∧(Fl.edg wn hn9) i=true))),(11,.int .i64 (o.getD i 0)),(30,.int .i64 ((i:Nat):Int)),(29,.int .i64 ((n:Nat):Int)),(28,.slice p35 n c36),(9,.map (some b7)),(8,.int .i64 (((Fl.cnt (Fl.ldr (Fl.lo l th) cc) n):Nat):Int)),(5,.int .i64 0),(4,.int .i64 0),(2,.pointer (some ⟨b1,0,none⟩))]) (fun x=>[mapA b7 (fun z:Int=> .int .i64 z) (fun z:Bool=> .bool z) (InK .i64) mp,boxA b1 24 [.int .i64 ((wn:Nat):Int),.int .i64 ((hn9:Nat):Int),.int .i64 m,.slice p n cap]]) (fun x=>[atF b9 o10 [.int .i64 (o.getD i 0)],slF (rI .i64) p35 c36 o,slF (rI2 .i64) p33 c34 ([((1:Int),(0:Int)),(-1,0),(0,1),(0,-1)]++[(1,1),(-1,1),(1,-1),(-1,-1)]),atF b2 0 [.int .i64 th],slF (rI .i64) p cap l]) ?_ ?_
   ·
    refine zc<|r_pv rfl rfl (zb rfl)<|r_pv rfl rfl (zya rfl rfl)<|zP rfl rfl (zb rfl) (fun hk0=> ?_) (fun hk0=> ?_)
    ·
     refine r_pv rfl rfl (zb rfl)<|r_pv rfl rfl (zua rfl rfl)<|zP rfl rfl (zb rfl) (fun hx0=> ?_) (fun hx0=> ?_)
     ·
      refine za rfl rfl<|za rfl rfl<|r_pv rfl rfl (zk rfl rfl)<|r_pv rfl rfl (zb rfl)<|za rfl rfl<|za rfl rfl<|za rfl rfl<|za rfl rfl<|za rfl rfl<|r_pv rfl rfl (zk rfl rfl)<|r_pv rfl rfl (zb rfl)<|za rfl rfl<|za rfl rfl<|za rfl rfl<|za rfl rfl<|za rfl rfl<|r_pv rfl rfl (zk rfl rfl)<|r_pv rfl rfl (zk rfl rfl)<|zj ?_
      exact zZ () (show True from by first|trivial|omega|simp_all) ((.e rfl (congrArg Value.bool (by exact Eq.symm (decide_eq_true ⟨by omega,Fl.edg_iff.2 (by omega)⟩))) (.of rfl)):SubM _ _) (ho:=((.of [0,0] rfl):PickO _ _ _)) ((.of [0,1,2,3,4] rfl):SelR _ _ _)
     ·
      refine r_pv rfl rfl (zb rfl)<|r_pv rfl rfl (zua rfl rfl)<|r_pv rfl rfl (zk rfl rfl)<|zP rfl rfl (zb rfl) (fun hx1=> ?_) (fun hx1=> ?_)
      ·
       refine za rfl rfl<|za rfl rfl<|za rfl rfl<|za rfl rfl<|za rfl rfl<|r_pv rfl rfl (zk rfl rfl)<|r_pv rfl rfl (zb rfl)<|za rfl rfl<|za rfl rfl<|za rfl rfl<|za rfl rfl<|za rfl rfl<|r_pv rfl rfl (zk rfl rfl)<|r_pv rfl rfl (zk rfl rfl)<|zj ?_
       exact zZ () (show True from by first|trivial|omega|simp_all) ((.e rfl (congrArg Value.bool (by exact Eq.symm (decide_eq_true ⟨by omega,Fl.edg_iff.2 (by omega)⟩))) (.of rfl)):SubM _ _) (ho:=((.of [0,0] rfl):PickO _ _ _)) ((.of [0,1,2,3,4] rfl):SelR _ _ _)
      ·
       refine r_pv rfl rfl (zb rfl)<|r_pv rfl rfl (zg Try.underlying24 rfl sz3 rfl rfl)<|r_u rfl rfl (zf 1 ty3 rfl rfl rfl)<|r_pv rfl rfl (zda (z:=(((wn:Nat):Int) - 1)) rfl rfl (w64 (by omega)))<|r_pv rfl rfl (zua rfl rfl)<|r_pv rfl rfl (zk rfl rfl)<|zP rfl rfl (zb rfl) (fun hx2=> ?_) (fun hx2=> ?_)
       ·
        refine za rfl rfl<|za rfl rfl<|za rfl rfl<|za rfl rfl<|za rfl rfl<|r_pv rfl rfl (zk rfl rfl)<|r_pv rfl rfl (zk rfl rfl)<|zj ?_
        exact zZ () (show True from by first|trivial|omega|simp_all) ((.e rfl (congrArg Value.bool (by exact Eq.symm (decide_eq_true ⟨by omega,Fl.edg_iff.2 (by omega)⟩))) (.of rfl)):SubM _ _) (ho:=((.of [0,0] rfl):PickO _ _ _)) ((.of [0,1,2,3,4] rfl):SelR _ _ _)
       ·
        refine r_pv rfl rfl (zb rfl)<|r_pv rfl rfl (zg Try.underlying24 rfl sz3 rfl rfl)<|r_u rfl rfl (zf 1 ty3 rfl rfl rfl)<|r_pv rfl rfl (zda (z:=(((hn9:Nat):Int) - 1)) rfl rfl (w64 (by omega)))<|r_pv rfl rfl (zua rfl rfl)<|r_pv rfl rfl (zk rfl rfl)<|r_pv rfl rfl (zk rfl rfl)<|zj ?_
        exact zZ () (show True from by first|trivial|omega|simp_all) ((.e rfl (congrArg Value.bool (by exact decide_eq_decide.2 ⟨fun h9=>⟨by omega,Fl.edg_iff.2 (by omega)⟩,fun h9=>by have h8:=Fl.edg_iff.1 h9.2;omega⟩)) (.of rfl)):SubM _ _) (ho:=((.of [0,0] rfl):PickO _ _ _)) ((.of [0,1,2,3,4] rfl):SelR _ _ _)
    ·
     refine za rfl rfl<|za rfl rfl<|za rfl rfl<|za rfl rfl<|za rfl rfl<|za rfl rfl<|za rfl rfl<|za rfl rfl<|za rfl rfl<|za rfl rfl<|za rfl rfl<|za rfl rfl<|za rfl rfl<|za rfl rfl<|za rfl rfl<|za rfl rfl<|za rfl rfl<|za rfl rfl<|za rfl rfl<|za rfl rfl<|r_pv rfl rfl (zk rfl rfl)<|zj ?_
     exact zZ () (show True from by first|trivial|omega|simp_all) ((.e rfl (congrArg Value.bool (by exact Eq.symm (decide_eq_false (fun h9=>hk0 (by omega))))) (.of rfl)):SubM _ _) (ho:=((.of [0,0] rfl):PickO _ _ _)) ((.of [0,1,2,3,4] rfl):SelR _ _ _)
   ·
    rintro ⟨⟩ -
    try dsimp only
    refine zD rfl (fun hx=> ?_) (fun hx=> ?_)
    ·
     have hfi:(Fl.lo l th) i=true:=by by_cases h9:(Fl.lo l th) i=true;exact h9;have h8:=hon (fun h7=>h9 h7.1);omega
     have hoi:=hoe hfi (hin _ (hcl.1.mem hfi))
     have hci:=hcl.1.le i hfi
     refine zc<|r_pv rfl rfl (zb rfl)<|r_pv rfl rfl (zb rfl)<|zxa 0 rfl rfl rfl (zhe (a0:=(o.getD i 0)) (v:=true) ky3 Try.underlying77 rfl rfl rfl (zn.2 (by omega))) (fun _=> .z) (fun _ _=> ?_)
     refine zj<|zJ<|ze<|zc<|r_pv rfl rfl (zy (z:=(((i+1):Nat):Int)) rfl rfl (w64 (by omega)))<|r_pv rfl rfl (zb rfl)<|zj<|zba ((i+1),mput mp (o.getD i 0) true) (show (i+1)≤n∧Fl.OpnI (Fl.lo l th) cc (Fl.edg wn hn9) (i+1) (mput mp (o.getD i 0) true) from by have h9:=hM.put hfi hx.2;rw [← hoi] at h9;exact ⟨by omega,h9⟩) (by show n - (i+1)<n - i;omega) ((.of rfl):SubM _ _) (ho:=((.of [0,0] rfl):PickO _ _ _)) ((.of [1,2,3,4] rfl):SelR _ _ _)
    ·
     refine zA<|zJ<|ze<|zc<|r_pv rfl rfl (zy (z:=(((i+1):Nat):Int)) rfl rfl (w64 (by omega)))<|r_pv rfl rfl (zb rfl)<|zj<|zba ((i+1),mp) (show (i+1)≤n∧Fl.OpnI (Fl.lo l th) cc (Fl.edg wn hn9) (i+1) mp from by exact ⟨by omega,hM.skip (fun h9=>hx ⟨by have h8:=hoe h9.1 (hin _ (hcl.1.mem h9.1));omega,h9.2⟩)⟩) (by show n - (i+1)<n - i;omega) ((.of rfl):SubM _ _) (ho:=((.of [0,0] rfl):PickO _ _ _)) ((.of [1,2,3,4] rfl):SelR _ _ _)
  ·
   refine zfa<|zm<|zm<|zv<|ze<|zi ?_
   have hin8:i=n:=by omega
   rw [hin8] at hM
   have hml:=hM.hol hcl.1 hin
   have hcn:=Fl.cnt_le (Fl.ldr (Fl.lo l th) cc) n
   refine zc<|r_pv rfl rfl (zb rfl)<|r_pv rfl rfl (zb rfl)<|r_u rfl rfl (zie (encK:=(fun z:Int=> .int .i64 z)) (encV:=(fun z:Bool=> .bool z)) (ok:=(InK .i64)) (m:=mp) 0 rfl Try.underlying77 rfl)<|r_pv rfl rfl (zda (z:=((((Fl.cnt (Fl.ldr (Fl.lo l th) cc) n):Nat):Int) - (((mp).length:Nat):Int))) rfl rfl (w64 (by omega)))<|r_pv rfl rfl (zd rfl)<|r_pv rfl rfl (zd rfl)<|zj<|ze<|zI ?_
   exact zva Try.results14 ((Fl.hol n (Fl.lo l th) cc (Fl.edg wn hn9):Nat):Int) (Fl.HolR.yes hok hn hcl.1 rfl) (zq rfl) (zq rfl) (by rw [Decidable.not_not.1 hc,hM.hol hcl.1 hin]) (ho:=(.n:PickO _ _ _)) (.n:SelR _ _ _)
end Go.Proofs.Ytefbbhiaalcjfaa.Sp
namespace Go.Proofs.Ytefbbhiaalcjfaa.Fl
open Sp (Bb b0)
def one (w:Nat) (l:List Int) (i:Nat):Bb:=
  ⟨1,((i%w:Nat):Int),((i / w:Nat):Int),((i%w:Nat):Int),((i / w:Nat):Int),((i%w:Nat):Int),((i / w:Nat):Int),((i%w:Nat):Int)*((i%w:Nat):Int),((i%w:Nat):Int)*((i / w:Nat):Int),((i / w:Nat):Int)*((i / w:Nat):Int),l.getD i 0,l.getD i 0*((i%w:Nat):Int),l.getD i 0*((i / w:Nat):Int)⟩
def tog (a b:Bb):Bb:=
  ⟨a.ar+b.ar,min a.le b.le,min a.tp b.tp,max a.rt b.rt,max a.bt b.bt,a.sx+b.sx,a.sy+b.sy,a.xx+b.xx,a.xy+b.xy,a.yy+b.yy,a.ms+b.ms,a.mx+b.mx,a.my+b.my⟩
def okb (a:Bb):Prop:=Bl.ok a.ar a.le a.tp a.rt a.bt a.sx a.sy a.xx a.xy a.yy a.ms a.mx a.my
instance (a:Bb):Decidable (okb a):=inferInstanceAs (Decidable (Bl.ok ..))
def acc (w:Nat) (l o:List Int) (k:Int):Nat→Option Bb
  |0=>none
  |i+1=>if o.getD i 0=k then some (match acc w l o k i with|none=>one w l i|some a=>tog a (one w l i)) else acc w l o k i
theorem one_ok {w h n i:Nat} {l:List Int} (hw:1≤w∧w≤64) (hh:h≤64) (hn:n=w*h) (hi:i<n) (hg:0≤l.getD i 0∧l.getD i 0≤65535):okb (one w l i):=by
  have h1:i%w≤63:=by have:=Nat.mod_lt i (show 0<w by omega);omega
  have h2:i / w≤63:=by have:=Nat.div_lt_of_lt_mul (show i<w*h by omega);omega
  unfold okb one Bl.ok
  dsimp only
  generalize ((i%w:Nat))=X at *;generalize i / w=Y at *;generalize l.getD i 0=G at*
  have a1:=Bl.mul_b (x:=(X:Int)) (y:=(X:Int)) (m:=63) (n:=63) (by omega) (by omega)
  have a2:=Bl.mul_b (x:=(X:Int)) (y:=(Y:Int)) (m:=63) (n:=63) (by omega) (by omega)
  have a3:=Bl.mul_b (x:=(Y:Int)) (y:=(Y:Int)) (m:=63) (n:=63) (by omega) (by omega)
  omega
theorem mul_le2 {a b x y s:Int} (ha:0≤a) (hx:y≤x) (hs:a*x≤s):a*y≤s:=Int.le_trans (Int.mul_le_mul_of_nonneg_left hx ha) hs
theorem mul_ge2 {a b x y s:Int} (ha:0≤a) (hx:x≤y) (hs:s≤a*x):s≤a*y:=Int.le_trans hs (Int.mul_le_mul_of_nonneg_left hx ha)
theorem tog_ok {a b:Bb} (ha:okb a) (hb:okb b) (h:a.ar+b.ar≤4096):okb (tog a b):=by
  unfold okb Bl.ok at ha hb
  unfold okb tog Bl.ok
  dsimp only
  obtain ⟨a1,a2,a3,a4,a5,a6,a7,a8,a9,a10,a11,a12,a13⟩:=ha
  obtain ⟨b1,b2,b3,b4,b5,b6,b7,b8,b9,b10,b11,b12,b13⟩:=hb
  simp only [Int.add_mul]
  have m1:min a.le b.le≤a.le:=by omega
  have m2:min a.le b.le≤b.le:=by omega
  have m3:min a.tp b.tp≤a.tp:=by omega
  have m4:min a.tp b.tp≤b.tp:=by omega
  have m5:a.rt≤max a.rt b.rt:=by omega
  have m6:b.rt≤max a.rt b.rt:=by omega
  have m7:a.bt≤max a.bt b.bt:=by omega
  have m8:b.bt≤max a.bt b.bt:=by omega
  have c1:=mul_le2 (b:=0) (by omega) m1 a6.1
  have c2:=mul_le2 (b:=0) (by omega) m2 b6.1
  have c3:=mul_ge2 (b:=0) (by omega) m5 a6.2
  have c4:=mul_ge2 (b:=0) (by omega) m6 b6.2
  have c5:=mul_le2 (b:=0) (by omega) m3 a7.1
  have c6:=mul_le2 (b:=0) (by omega) m4 b7.1
  have c7:=mul_ge2 (b:=0) (by omega) m7 a7.2
  have c8:=mul_ge2 (b:=0) (by omega) m8 b7.2
  have d1:=mul_le2 (b:=0) (by omega) m1 a12.1
  have d2:=mul_le2 (b:=0) (by omega) m2 b12.1
  have d3:=mul_ge2 (b:=0) (by omega) m5 a12.2
  have d4:=mul_ge2 (b:=0) (by omega) m6 b12.2
  have d5:=mul_le2 (b:=0) (by omega) m3 a13.1
  have d6:=mul_le2 (b:=0) (by omega) m4 b13.1
  have d7:=mul_ge2 (b:=0) (by omega) m7 a13.2
  have d8:=mul_ge2 (b:=0) (by omega) m8 b13.2
  clear a6 b6 a7 b7 a12 b12 a13 b13
  omega
theorem acc_ok {w h n:Nat} {l o:List Int} {k:Int} (hw:1≤w∧w≤64) (hh:h≤64) (hn:n=w*h) (hb:n≤4096) (hg:∀i,i<n→0≤l.getD i 0∧l.getD i 0≤65535):∀i,i≤n→∀a,acc w l o k i=some a→okb a∧a.ar≤(i:Int):=by
  intro i
  induction i with
  |zero=>intro _ a e;cases e
  |succ i ih=>
    intro hi a e
    have ho:=one_ok hw hh hn (show i<n by omega) (hg i (by omega))
    unfold acc at e
    split at e
    · cases hc : acc w l o k i with
      |none=>rw [hc] at e;cases e;exact ⟨ho,by show (1:Int)≤_;omega⟩
      |some b=>
        rw [hc] at e;cases e
        obtain ⟨h1,h2⟩:=ih (by omega) b hc
        have h3:b.ar+(one w l i).ar≤((i+1:Nat):Int):=by show b.ar+1≤_;omega
        exact ⟨tog_ok h1 ho (by omega),h3⟩
    · obtain ⟨h1,h2⟩:=ih (by omega) a e;exact ⟨h1,by omega⟩
def gb (a:Option Bb):Bb:=a.getD b0
def bls (w:Nat) (l o:List Int) (N n:Nat):List Bb:=(List.range N).map (fun k:Nat=>gb (acc w l o (k:Int) n))
theorem bls_len (w:Nat) (l o:List Int) (N n:Nat):(bls w l o N n).length=N:=by simp [bls]
theorem bls_get {w:Nat} {l o:List Int} {N n k:Nat} (h:k<N):(bls w l o N n).getD k b0=gb (acc w l o (k:Int) n):=by
  unfold bls;rw [List.getD_eq_getElem?_getD,List.getElem?_map,List.getElem?_range h];rfl
theorem ext_gD {A B:List Bb} (hl:A.length=B.length) (h:∀k,k<A.length→A.getD k b0=B.getD k b0):A=B:=by
  refine List.ext_getElem hl fun k h1 h2=> ?_
  have:=h k h1
  rw [List.getD_eq_getElem?_getD,List.getD_eq_getElem?_getD,List.getElem?_eq_getElem h1,List.getElem?_eq_getElem h2] at this
  exact this
theorem gD_set {A:List Bb} {k j:Nat} {v:Bb} (h:k<A.length):(A.set k v).getD j b0=if j=k then v else A.getD j b0:=by
  rw [List.getD_eq_getElem?_getD,List.getElem?_set]
  by_cases e:k=j
  · subst e;simp [h]
  · rw [if_neg e,if_neg (fun x=>e x.symm),←List.getD_eq_getElem?_getD]
section
variable {w h n N i : Nat} {l o : List Int} {A : List Bb}
structure TbI (w:Nat) (l o:List Int) (N i:Nat) (A:List Bb):Prop where
  len:A.length=N
  get:∀k,k<N→A.getD k b0=gb (acc w l o (k:Int) i)
theorem TbI.start:TbI w l o N 0 (List.replicate N b0):=⟨by simp,fun k hk=>by
  rw [List.getD_eq_getElem?_getD,List.getElem?_replicate];simp [hk,acc,gb]⟩
theorem TbI.skip (h:TbI w l o N i A) (hx:o.getD i 0<0):TbI w l o N (i+1) A:=
  ⟨h.len,fun k hk=>by rw [h.get k hk];unfold acc;rw [if_neg (show ¬o.getD i 0=(k:Int) by omega)];cases i <;> rfl⟩
theorem acc_next {k:Int} (hx:o.getD i 0=k):acc w l o k (i+1)=some (match acc w l o k i with|none=>one w l i|some a=>tog a (one w l i)):=by
  rw [acc,if_pos hx]
theorem acc_keep {k:Int} (hx:¬o.getD i 0=k):acc w l o k (i+1)=acc w l o k i:=by rw [acc,if_neg hx]
theorem TbI.put (h:TbI w l o N i A) {k:Nat} {v:Bb} (hk:k<N) (ho:o.getD i 0=(k:Int)) (hv:v=gb (acc w l o (k:Int) (i+1))):TbI w l o N (i+1) (A.set k v):=
  ⟨by rw [List.length_set];exact h.len,fun j hj=>by
    rw [gD_set (by rw [h.len];exact hk)]
    by_cases e:j=k
    · rw [if_pos e,hv,e]
    · rw [if_neg e,h.get j hj,acc_keep (show ¬o.getD i 0=(j:Int) by omega)]⟩
theorem gb_new {k:Int} (hx:o.getD i 0=k) (ha:(gb (acc w l o k i)).ar=0) (hok:∀a,acc w l o k i=some a→okb a):one w l i=gb (acc w l o k (i+1)):=by
  rw [acc_next hx]
  cases e:acc w l o k i with
  |none=>rfl
  |some a=>rw [e] at ha;have:=(hok a e).1;change a.ar=0 at ha;omega
theorem gb_old {k:Int} (hx:o.getD i 0=k) (ha:¬(gb (acc w l o k i)).ar=0):tog (gb (acc w l o k i)) (one w l i)=gb (acc w l o k (i+1)):=by
  rw [acc_next hx]
  cases e:acc w l o k i with
  |none=>rw [e] at ha;exact absurd rfl ha
  |some a=>rfl
theorem gb_ok {k:Int} (ha:¬(gb (acc w l o k i)).ar=0) (hok:∀a,acc w l o k i=some a→okb a∧a.ar≤(i:Int)):okb (gb (acc w l o k i))∧(gb (acc w l o k i)).ar≤(i:Int):=by
  cases e:acc w l o k i with
  |none=>rw [e] at ha;exact absurd rfl ha
  |some a=>exact hok a e
theorem TbI.fin (h:TbI w l o N n A):A=bls w l o N n:=ext_gD (by rw [h.len,bls_len]) fun k hk=>by
  rw [h.len] at hk;rw [h.get k hk,bls_get hk]
end
structure LabC (n:Nat) (f:Nat→Bool) (c:Nat→Nat) (o:List Int):Prop where
  len:o.length=n
  yes:∀j,j<n→f j=true→o.getD j 0=(cnt (ldr f c) (c j):Int)
  not:∀j,j<n→¬f j=true→o.getD j 0= -1
section
variable {w n i : Nat} {f : Nat → Bool} {adj : Nat → Nat → Prop} {c : Nat → Nat} {l o : List Int}
theorem OutI.labc (hc:Lst (fun j=>f j=true) adj c) (hn:∀j,f j=true→j<n) (h:OutI n f c n o):LabC n f c o:=
  ⟨h.len,fun j hj hf=>h.old j hj hf (hn _ (hc.mem hf)),fun j hj hf=>h.new j hj fun k=>hf k.1⟩
theorem Lab.labc (h:Lab n f adj o):∃c,Lst (fun j=>f j=true) adj c∧LabC n f c o:=let ⟨c,a,b,d⟩:=h.ex;⟨c,a,h.len,b,d⟩
theorem LabC.lt (hc:Lst (fun j=>f j=true) adj c) (hn:∀j,f j=true→j<n) (h:LabC n f c o) (hi:i<n) (hf:f i=true):o.getD i 0<(cnt (ldr f c) n:Int)∧0≤o.getD i 0:=by
  rw [h.yes i hi hf]
  have:=cnt_lt (ldr f c) (hn _ (hc.mem hf)) (ldr_iff.2 ⟨hc.mem hf,hc.idem hf⟩)
  omega
theorem LabC.pos (h:LabC n f c o) (hi:i<n):(0≤o.getD i 0↔f i=true):=by
  by_cases e:f i=true
  · rw [h.yes i hi e];exact ⟨fun _=>e,fun _=>by omega⟩
  · rw [h.not i hi e];exact ⟨fun x=>by omega,fun x=>absurd x e⟩
theorem LabC.fresh (hc:Lst (fun j=>f j=true) adj c) (h:LabC n f c o):∀i,i≤n→∀k:Nat,cnt (ldr f c) i≤k→acc w l o (k:Int) i=none:=by
  intro i
  induction i with
  |zero=>intro _ k _;rfl
  |succ i ih=>
    intro hi k hk
    have h1:=cnt_mono (ldr f c) (show i≤i+1 by omega)
    rw [acc_keep,ih (by omega) k (by omega)]
    intro e
    by_cases hf:f i=true
    · rw [h.yes i (by omega) hf] at e
      have h2:=cnt_lt (ldr f c) (show c i<i+1 by have:=hc.le i hf;omega) (ldr_iff.2 ⟨hc.mem hf,hc.idem hf⟩)
      omega
    · rw [h.not i (by omega) hf] at e;omega
theorem LabC.lead (hc:Lst (fun j=>f j=true) adj c) (h:LabC n f c o) (hi:i<n) (hf:f i=true) (he:o.getD i 0=(cnt (ldr f c) i:Int)):ldr f c i=true:=by
  have hci:c i=i:=by
    by_cases e:c i<i
    · have h2 := cnt_lt (ldr f c) e (ldr_iff.2 ⟨hc.mem hf, hc.idem hf⟩)
      rw [h.yes i hi hf] at he;omega
    · have:=hc.le i hf;omega
  exact ldr_iff.2 ⟨hf,hci⟩
theorem acc_some {k:Int}:∀i,(∃j,j<i∧o.getD j 0=k)→acc w l o k i≠none:=by
  intro i
  induction i with
  |zero=>rintro ⟨j,h,_⟩;omega
  |succ i ih=>
    rintro ⟨j,h,e⟩
    by_cases x:o.getD i 0=k
    · rw [acc_next x];exact fun y=>by cases y
    · rw [acc_keep x];exact ih ⟨j,by by_cases z:j=i;exact absurd (z ▸ e) x;omega,e⟩
theorem LabC.seen (hc:Lst (fun j=>f j=true) adj c) (h:LabC n f c o) (hi:i<n) (hf:f i=true) (he:¬o.getD i 0=(cnt (ldr f c) i:Int)):acc w l o (o.getD i 0) i≠none:=by
  have hci:¬c i=i:=fun e=>he (by rw [h.yes i hi hf,e])
  have hlt:c i<i:=by have:=hc.le i hf;omega
  refine acc_some i ⟨c i,hlt,?_⟩
  rw [h.yes i hi hf,h.yes (c i) (by omega) (hc.mem hf),hc.idem hf]
end
def BlsR (w h m:Int) (l:List Int) (th:Int) (A:List Bb):Prop:=
  (Bl.rok w h m l∧0≤th∧th≤65536→∃c o,Lst (fun j=>ge l th j=true) (nb false w.toNat l.length) c∧LabC l.length (ge l th) c o∧A=bls w.toNat l o (cnt (ldr (ge l th) c) l.length) l.length)∧(¬(Bl.rok w h m l∧0≤th∧th≤65536)→A=[])
theorem LabC.lab {n:Nat} {f:Nat→Bool} {adj:Nat→Nat→Prop} {c:Nat→Nat} {o:List Int} (hc:Lst (fun j=>f j=true) adj c) (h:LabC n f c o):Lab n f adj o:=⟨h.len,c,hc,h.yes,h.not⟩
theorem BlsR.uniq {w h m th:Int} {l:List Int} {A B:List Bb} (a:BlsR w h m l th A) (b:BlsR w h m l th B):A=B:=by
  by_cases e:Bl.rok w h m l∧0≤th∧th≤65536
  · obtain ⟨c, o, h1, h2, h3⟩ := a.1 e
    obtain ⟨d,p,k1,k2,k3⟩:=b.1 e
    have e1:o=p:=(h2.lab h1).uniq (k2.lab k1)
    rw [h3,k3,e1,ldr_uniq h1 k1]
  · rw [a.2 e,b.2 e]
theorem BlsR.no {w h m th:Int} {l:List Int} (e:¬(Bl.rok w h m l∧0≤th∧th≤65536)):BlsR w h m l th []:=⟨fun k=>absurd k e,fun _=>rfl⟩
theorem BlsR.yes {w n:Nat} {h m th:Int} {l o:List Int} {c:Nat→Nat} {A:List Bb} (e:Bl.rok w h m l∧0≤th∧th≤65536) (hn:l.length=n) (hc:Lst (fun j=>ge l th j=true) (nb false w n) c) (ho:LabC n (ge l th) c o) (hA:A=bls w l o (cnt (ldr (ge l th) c) n) n):BlsR w h m l th A:=by
  subst hn;exact ⟨fun _=>⟨c,o,hc,ho,hA⟩,fun x=>absurd e x⟩
theorem rok_g {w h m:Int} {l:List Int} {n:Nat} (e:Bl.rok w h m l) (hn:l.length=n):∀i,i<n→0≤l.getD i 0∧l.getD i 0≤65535:=fun i hi=>by
  obtain ⟨_,_,h3,_,h5⟩:=e
  have hm:l.getD i 0∈l:=Big.getD_mem (by omega)
  by_cases k:l.getD i 0<0∨m<l.getD i 0
  · exact absurd ⟨_,hm,k⟩ h5
  · omega
end Go.Proofs.Ytefbbhiaalcjfaa.Fl
namespace Go.Proofs.Ytefbbhiaalcjfaa.Sp
open Go
set_option linter.unusedVariables false
set_option maxRecDepth 100000
set_option maxHeartbeats 8000000
theorem zWc {w:Int} {h:Int} {m:Int} {p:Option Addr} {n:Nat} {cap:Nat} {l:List Int} {th:Int} (hn:l.length=n):Con Try.prog 17 [.agg #[.int .i64 w,.int .i64 h,.int .i64 m,.slice p n cap],.int .i64 th] [] [slF (rI .i64) p cap l] (Y:=(Option Addr)×Nat×(List Bb)) (fun y=>Fl.BlsR w h m l th y.2.2) (fun y=> .tuple #[.slice (y.1) (y.2.2.length) (y.2.1),.int .i64 (if Bl.rok w h m l then (if 0≤th∧th≤65536 then 0 else 2) else 1)]) (fun y=>[]) (fun y=>[slF (rI13 .i64) (y.1) (y.2.1) (y.2.2)]):=by
 refine zr Try.func17 rfl rfl rfl (fun c=> ?_)
 show RunC _ _ _ _ _ [(0,.agg #[.int .i64 w,.int .i64 h,.int .i64 m,.slice p n cap]),(1,.int .i64 th)] [] [slF (rI .i64) p cap l]
 refine zca 0 rfl (fun hL0=> ?_)
 refine zi<|zc<|zS rfl rfl (zX rfl rfl) (fun b1=> ?_)
 refine r_pv rfl rfl (zd rfl)<|r_pv rfl rfl (zd rfl)<|zj<|ze<|zi<|zi<|zc<|r_u rfl rfl (zh 0 ty24 rfl rfl (.take (.take (.take (.take .nil)))))<|r_pv rfl rfl (zb rfl)<|zO rfl rfl (.c rfl (.c rfl .n)) ce33 (zzb (w:=w) (h:=h) (m:=m) (p:=p) (n:=n) (cap:=cap) (l:=l) (th:=th) (hn:=by assumption)) (.c (j:=0) rfl .n)<|r_pv rfl rfl (zd rfl)<|zj<|ze<|zi<|zc<|r_pv rfl rfl (zb rfl)<|r_pv rfl rfl (zIa rfl rfl)<|zj<|ze<|zD rfl (fun hc=> ?_) (fun hc=> ?_)
 ·
  have hno:=fun k=>hc (Fl.ask0.2 k)
  refine zi<|zc<|r_pv rfl rfl (zb rfl)<|r_pv rfl rfl (zd rfl)<|r_pv rfl rfl (zd rfl)<|zj<|ze<|zI<|zt<|zbc (rI13 .i64) ?_
  exact zva Try.results17 (none,0,[]) (Fl.BlsR.no hno) (zq rfl) (zq rfl) rfl (ho:=(.n:PickO _ _ _)) ((.c (j:=0) rfl .n):SelR _ _ _)
 ·
  have hok:=Fl.ask0.1 (Decidable.not_not.1 hc)
  obtain ⟨wn,hn9,rfl,rfl,hw9,hh9,hwh,hb9⟩:=Fl.rok_n hok.1 hn
  refine zA<|ze<|zi<|zc<|r_u rfl rfl (zh 0 ty24 rfl rfl (.take (.take (.take (.take .nil)))))<|r_pv rfl rfl (zb rfl)<|zB rfl rfl (.c rfl (.c rfl .n)) ce34 (zdc (w:=wn) (h:=hn9) (m:=m) (p:=p) (n:=n) (cap:=cap) (l:=l) (th:=th) (hn:=by assumption) (hw:=by first|rfl|assumption|omega) (hh:=by first|rfl|assumption|omega) (hwh:=by first|rfl|assumption|omega) (hb:=by first|rfl|assumption|omega)) (.c (j:=0) rfl .n) ?_
  rintro ⟨p32,c33,o,cc⟩ hcl
  dsimp only [List.append_eq,List.nil_append,List.cons_append]
  replace hcl:Fl.Lst (fun j=>Fl.ge l th j=true) (Fl.nb false wn n) cc∧Fl.OutI n (Fl.ge l th) cc n o:=hcl
  refine r_pv rfl rfl (zb rfl)<|r_pv rfl rfl (zp rfl rfl)<|r_pv rfl rfl (zp rfl rfl)<|r_pv rfl rfl (zd rfl)<|r_pv rfl rfl (zd rfl)<|zj<|ze<|zi ?_
  have hin:∀j,(Fl.ge l th) j=true→j<n:=fun j hj=>by have:=Fl.ge_lt hj;omega
  have hLC:=hcl.2.labc hcl.1 hin
  have hol:=hLC.len
  have hcn:=Fl.cnt_le (Fl.ldr (Fl.ge l th) cc) n
  refine zc<|r_pv rfl rfl (zb rfl)<|zta rfl rfl (zWa (r:=rI13 .i64) (k:=(Fl.cnt (Fl.ldr (Fl.ge l th) cc) n)) (x0:=b0) (γ0:=()) Try.underlying35 inf51 rfl rfl rfl rfl (by omega) (by omega) rfl (fun g _=>by exact okB_0) (by decide)) (fun b4 _=> ?_)
  refine r_pv rfl rfl (zd rfl)<|zj<|ze<|zi<|zi<|zc<|r_pv rfl rfl (zb rfl)<|r_pv rfl rfl (zM Try.underlying22 rfl)<|r_pv rfl rfl (zb rfl)<|zj<|ze<|zz<|zma (X:=Nat×(List Bb)) (fun x:Nat×(List Bb)=>x.1≤n∧Fl.TbI wn l o (Fl.cnt (Fl.ldr (Fl.ge l th) cc) n) x.1 x.2) (fun x=>[(32,.int .i64 ((x.1:Nat):Int)),(31,.int .i64 ((n:Nat):Int)),(30,.slice p32 n c33),(9,.slice (some ⟨b4,0,none⟩) (Fl.cnt (Fl.ldr (Fl.ge l th) cc) n) (Fl.cnt (Fl.ldr (Fl.ge l th) cc) n)),(5,.int .i64 0),(4,.slice none 0 0),(2,.pointer (some ⟨b1,0,none⟩))]) (fun x=>[rowA 51 (rI13 .i64) (some ⟨b4,0,none⟩) (Fl.cnt (Fl.ldr (Fl.ge l th) cc) n) (x.2),boxA b1 24 [.int .i64 ((wn:Nat):Int),.int .i64 ((hn9:Nat):Int),.int .i64 m,.slice p n cap]]) (fun x=>[slF (rI .i64) p32 c33 o,slF (rI .i64) p cap l]) (fun x:Nat×(List Bb)=>n - x.1) (0,List.replicate (Fl.cnt (Fl.ldr (Fl.ge l th) cc) n) b0) (show 0≤n∧Fl.TbI wn l o (Fl.cnt (Fl.ldr (Fl.ge l th) cc) n) 0 (List.replicate (Fl.cnt (Fl.ldr (Fl.ge l th) cc) n) b0) from by exact ⟨Nat.zero_le _,Fl.TbI.start⟩) ((.e rfl (by first|rfl|(congr 1;omega)|simp_all) (.of rfl)):SubM _ _) (ho:=((.of [0,0] rfl):PickO _ _ _)) ((.of [0,1] rfl):SelR _ _ _) ?_
  rintro ⟨i,A⟩ hI
  replace hI:i≤n∧Fl.TbI wn l o (Fl.cnt (Fl.ldr (Fl.ge l th) cc) n) i A:=hI
  try dsimp only
  obtain ⟨hi,hT⟩:=hI
  have hAl:=hT.len
  refine zi<|zc<|r_pv rfl rfl (zW rfl rfl)<|zj<|ze<|zi<|zD rfl (fun h5=> ?_) (fun h5=> ?_)
  ·
   refine zA<|ze<|zi<|zz<|zi<|zc<|r_pv rfl rfl (zb rfl)<|zQ (x0:=(o.getD i 0)) 0 i rfl Try.underlying22 sz3 rfl rfl rfl (by first|rfl|assumption|(simp_all;done)|omega) rfl rfl (gD (d:=0) (by omega)) (fun b6 o7 hok8=> ?_)
   replace hok8:=zn.1 hok8
   refine r_u rfl rfl (zl (j:=0) 0 ty3 rfl rfl rfl rfl)<|r_pv rfl rfl (zd rfl)<|r_pv rfl rfl (zd rfl)<|zj<|ze<|zi<|zi<|zc<|r_pv rfl rfl (zb rfl)<|r_pv rfl rfl (zW rfl rfl)<|zj<|ze<|zD rfl (fun hneg=> ?_) (fun hneg=> ?_)
   ·
    refine zfa<|zm<|zv<|ze<|zc<|r_pv rfl rfl (zy (z:=(((i+1):Nat):Int)) rfl rfl (w64 (by omega)))<|r_pv rfl rfl (zb rfl)<|zj<|zba ((i+1),A) (show (i+1)≤n∧Fl.TbI wn l o (Fl.cnt (Fl.ldr (Fl.ge l th) cc) n) (i+1) A from by exact ⟨by omega,hT.skip hneg⟩) (by show n - (i+1)<n - i;omega) ((.of rfl):SubM _ _) (ho:=((.of [0,0] rfl):PickO _ _ _)) ((.of [1,2] rfl):SelR _ _ _)
   ·
    have hqd:=Nat.div_le_self i wn
    have hq0:=Int.natCast_nonneg (i / wn)
    have hm0:=Int.natCast_nonneg (i%wn)
    have hfi:(Fl.ge l th) i=true:=(hLC.pos (by omega)).1 (by omega)
    obtain ⟨hlt9,hge9⟩:=hLC.lt hcl.1 hin (show i<n by omega) hfi
    obtain ⟨kk,hkk⟩:∃kk:Nat,o.getD i 0=(kk:Int):=⟨(o.getD i 0).toNat,by omega⟩
    have e9:((o.getD i 0):Int)=((kk:Nat):Int):=by exact hkk
    rw [e9]
    have hkN:kk<(Fl.cnt (Fl.ldr (Fl.ge l th) cc) n):=by omega
    have hget:=hT.get kk hkN
    have hacc:=Fl.acc_ok (l:=l) (o:=o) (k:=(kk:Int)) hw9 hh9.2 hwh hb9 (Fl.rok_g hok.1 hn) i (by omega)
    refine zA<|ze<|zi<|zja (OW:=[]) (O:=[rowA 51 (rI13 .i64) (some ⟨b4,0,none⟩) (Fl.cnt (Fl.ldr (Fl.ge l th) cc) n) A,boxA b1 24 [.int .i64 ((wn:Nat):Int),.int .i64 ((hn9:Nat):Int),.int .i64 m,.slice p n cap]]) 100000 mixed (.then (.block (.then (.then (.block (.then .ret)))))) (by kernel_rfl)<|d_pv 0 rfl rfl (by kernel_rfl) (by kernel_rfl) rfl rfl (zb rfl)<|d_pv 1 rfl rfl (by kernel_rfl) (by kernel_rfl) rfl rfl (zg Try.underlying24 rfl sz3 rfl rfl)<|d_u 2 rfl rfl (by kernel_rfl) (by kernel_rfl) rfl rfl (zf 1 ty3 rfl rfl rfl)<|d_pv 3 rfl rfl (by kernel_rfl) (by kernel_rfl) rfl rfl (zHa (z:=(((i%wn):Nat):Int)) rfl rfl (by omega) (remN (by omega) (by omega)))<|d_pv 4 rfl rfl (by kernel_rfl) (by kernel_rfl) rfl rfl (zb rfl)<|d_pv 5 rfl rfl (by kernel_rfl) (by kernel_rfl) rfl rfl (zg Try.underlying24 rfl sz3 rfl rfl)<|d_u 6 rfl rfl (by kernel_rfl) (by kernel_rfl) rfl rfl (zf 1 ty3 rfl rfl rfl)<|d_pv 7 rfl rfl (by kernel_rfl) (by kernel_rfl) rfl rfl (zGa (z:=(((i / wn):Nat):Int)) rfl rfl (by omega) (by rw [quoN (z:=(((i / wn):Nat):Int)) (by omega) (by omega)];exact w64 (by omega)))<|d_pv 8 rfl rfl (by kernel_rfl) (by kernel_rfl) rfl rfl (zg Try.underlying24 rfl sz22 rfl rfl)<|d_u 9 rfl rfl (by kernel_rfl) (by kernel_rfl) rfl rfl (zf 1 ty22 rfl rfl rfl)<|d_pv 10 rfl rfl (by kernel_rfl) (by kernel_rfl) rfl rfl (zb rfl)<|zoa (x0:=(l.getD i 0)) 11 rfl rfl (by kernel_rfl) (by kernel_rfl) 2 i rfl Try.underlying22 sz3 rfl rfl rfl (by first|rfl|assumption|(simp_all;done)|omega) rfl rfl (gD (d:=0) (by omega)) (fun b10 o11 hok12=> ?_)
    replace hok12:=zn.1 hok12
    refine d_u 12 rfl rfl (by kernel_rfl) (by kernel_rfl) rfl rfl (zl (j:=0) 0 ty3 rfl rfl rfl rfl)<|d_pv 13 rfl rfl (by kernel_rfl) (by kernel_rfl) rfl rfl (zd rfl)<|d_pv 14 rfl rfl (by kernel_rfl) (by kernel_rfl) rfl rfl (zd rfl)<|d_pv 15 rfl rfl (by kernel_rfl) (by kernel_rfl) rfl rfl (zd rfl)<|zga (by kernel_rfl)<|ze<|zi ?_
    obtain ⟨kx,hkx⟩:∃z,z=(i%wn):=⟨_,rfl⟩
    rw [← hkx]
    obtain ⟨ky,hky⟩:∃z,z=(i / wn):=⟨_,rfl⟩
    rw [← hky]
    obtain ⟨kg,hkg⟩:∃z,z=(l.getD i 0):=⟨_,rfl⟩
    rw [← hkg]
    have hkxb:kx≤63:=by rw [hkx];have:=Nat.mod_lt i (show 0<wn by omega);omega
    have hkyb:ky≤63:=by rw [hky];have:=Nat.div_lt_of_lt_mul (show i<wn*hn9 by omega);omega
    have hkgb:0≤kg∧kg≤65535:=by rw [hkg];exact Fl.rok_g hok.1 hn i (by omega)
    have hp1:kx*kx≤63*63:=Nat.mul_le_mul hkxb hkxb
    have hp2:kx*ky≤63*63:=Nat.mul_le_mul hkxb hkyb
    have hp3:ky*ky≤63*63:=Nat.mul_le_mul hkyb hkyb
    have hp4:=Bl.mul_b (x:=kg) (y:=(kx:Int)) (m:=65535) (n:=63) hkgb (by omega)
    have hp5:=Bl.mul_b (x:=kg) (y:=(ky:Int)) (m:=65535) (n:=63) hkgb (by omega)
    have hO1:Fl.okb (Fl.one wn l i):=Fl.one_ok hw9 hh9.2 hwh (by omega) (Fl.rok_g hok.1 hn i (by omega))
    refine zc<|r_pv rfl rfl (zb rfl)<|r_pv rfl rfl (zb rfl)<|r_pv rfl rfl (zb rfl)<|r_pv rfl rfl (zb rfl)<|r_pv rfl rfl (zb rfl)<|r_pv rfl rfl (zb rfl)<|r_pv rfl rfl (zb rfl)<|r_pv rfl rfl (zb rfl)<|r_pv rfl rfl (zla (z:=(((kx*kx):Nat):Int)) rfl rfl (w64 (by omega)))<|r_pv rfl rfl (zb rfl)<|r_pv rfl rfl (zb rfl)<|r_pv rfl rfl (zla (z:=(((kx*ky):Nat):Int)) rfl rfl (w64 (by omega)))<|r_pv rfl rfl (zb rfl)<|r_pv rfl rfl (zb rfl)<|r_pv rfl rfl (zla (z:=(((ky*ky):Nat):Int)) rfl rfl (w64 (by omega)))<|r_pv rfl rfl (zb rfl)<|r_pv rfl rfl (zb rfl)<|r_pv rfl rfl (zb rfl)<|r_pv rfl rfl (zla (z:=(kg*((kx:Nat):Int))) rfl rfl (w64 (by omega)))<|r_pv rfl rfl (zb rfl)<|r_pv rfl rfl (zb rfl)<|r_pv rfl rfl (zla (z:=(kg*((ky:Nat):Int))) rfl rfl (w64 (by omega)))<|r_pv rfl rfl (zK zr51 rfl Try.underlying51 (.c sz3 (.c sz3 (.c sz3 (.c sz3 (.c sz3 (.c sz3 (.c sz3 (.c sz3 (.c sz3 (.c sz3 (.c sz3 (.c sz3 (.c sz3 .n))))))))))))) (.c rfl (.c rfl (.c rfl (.c rfl (.c rfl (.c rfl (.c rfl (.c rfl (.c rfl (.c rfl (.c rfl (.c rfl (.c rfl .n))))))))))))) (.c rfl rfl rfl (.take .nil) (.c rfl rfl rfl (.skip (.take .nil)) (.c rfl rfl rfl (.skip (.skip (.skip (.take .nil)))) (.c rfl rfl rfl (.skip (.skip (.take .nil))) (.c rfl rfl rfl (.skip (.skip (.skip (.skip (.take .nil))))) (.c rfl rfl rfl (.skip (.skip (.skip (.skip (.skip (.take .nil)))))) (.c rfl rfl rfl (.skip (.skip (.skip (.skip (.skip (.skip (.take .nil))))))) (.c rfl rfl rfl (.skip (.skip (.skip (.skip (.skip (.skip (.skip (.take .nil)))))))) (.c rfl rfl rfl (.skip (.skip (.skip (.skip (.skip (.skip (.skip (.skip (.take .nil))))))))) (.c rfl rfl rfl (.skip (.skip (.skip (.skip (.skip (.skip (.skip (.skip (.skip (.take .nil)))))))))) (.c rfl rfl rfl (.skip (.skip (.skip (.skip (.skip (.skip (.skip (.skip (.skip (.skip (.take .nil))))))))))) (.c rfl rfl rfl (.skip (.skip (.skip (.skip (.skip (.skip (.skip (.skip (.skip (.skip (.skip (.take .nil)))))))))))) (.c rfl rfl rfl (.skip (.skip (.skip (.skip (.skip (.skip (.skip (.skip (.skip (.skip (.skip (.skip (.take .nil))))))))))))) .n))))))))))))))<|zS rfl rfl (zG zr51 rfl) (fun b13=> ?_)
    refine zo 0 rfl rfl rfl rfl rfl sz51 rfl (.take (.take (.take (.take (.take (.take (.take (.take (.take (.take (.take (.take (.take .nil))))))))))))) .z<|zj<|ze<|zi<|zc<|r_pv rfl rfl (zb rfl)<|r_pv rfl rfl (zb rfl)<|r_pv rfl rfl (zN (j:=kk) Try.underlying35 sz51 rfl rfl rfl (by omega))<|r_u rfl rfl (zRc 1 rfl Try.underlying51 rfl sz3 rfl (by omega) rfl)<|r_vl rfl rfl (zTb (x0:=(A.getD kk b0)) (v:= .int .i64 ((A.getD kk b0).ar)) 1 kk 0 rfl ty3 rfl rfl (gD (d:=b0) (by omega)) rfl) (fun _ hok14=> ?_)
    obtain ⟨hok140,hok141,hok142,hok143,hok144,hok145,hok146,hok147,hok148,hok149,hok1410,hok1411,hok1412⟩:=hok14
    replace hok140:=zn.1 hok140
    replace hok141:=zn.1 hok141
    replace hok142:=zn.1 hok142
    replace hok143:=zn.1 hok143
    replace hok144:=zn.1 hok144
    replace hok145:=zn.1 hok145
    replace hok146:=zn.1 hok146
    replace hok147:=zn.1 hok147
    replace hok148:=zn.1 hok148
    replace hok149:=zn.1 hok149
    replace hok1410:=zn.1 hok1410
    replace hok1411:=zn.1 hok1411
    replace hok1412:=zn.1 hok1412
    refine r_pv rfl rfl (zua rfl rfl)<|zj<|ze<|zD rfl (fun hz=> ?_) (fun hz=> ?_)
    ·
     have hnew:=Fl.gb_new hkk (by rw [← hget];exact hz) (fun a ha=>(hacc a ha).1)
     refine zc<|r_pv rfl rfl (zb rfl)<|r_pv rfl rfl (zb rfl)<|r_u rfl rfl (zh 0 ty51 rfl rfl (.take (.take (.take (.take (.take (.take (.take (.take (.take (.take (.take (.take (.take .nil))))))))))))))<|r_pv rfl rfl (zN (j:=kk) Try.underlying35 sz51 rfl rfl rfl (by omega))<|zxa 1 rfl rfl rfl (zR (j:=kk) (x0:=(⟨1,((kx:Nat):Int),((ky:Nat):Int),((kx:Nat):Int),((ky:Nat):Int),((kx:Nat):Int),((ky:Nat):Int),(((kx*kx):Nat):Int),(((kx*ky):Nat):Int),(((ky*ky):Nat):Int),kg,(kg*((kx:Nat):Int)),(kg*((ky:Nat):Int))⟩:Bb)) (γ0:=()) rfl rfl (by first|omega|(rw [List.length_map];omega)|(simp only [List.length_set];omega)|(simp;done)|(simp;omega)) rfl rfl sz51 (fun _ _=>by exact ⟨zn.2 (by first|omega|decide|(dsimp only;omega)),zn.2 (by first|omega|decide|(dsimp only;omega)),zn.2 (by first|omega|decide|(dsimp only;omega)),zn.2 (by first|omega|decide|(dsimp only;omega)),zn.2 (by first|omega|decide|(dsimp only;omega)),zn.2 (by first|omega|decide|(dsimp only;omega)),zn.2 (by first|omega|decide|(dsimp only;omega)),zn.2 (by first|omega|decide|(dsimp only;omega)),zn.2 (by first|omega|decide|(dsimp only;omega)),zn.2 (by first|omega|decide|(dsimp only;omega)),zn.2 (by first|omega|decide|(dsimp only;omega)),zn.2 (by first|omega|decide|(dsimp only;omega)),zn.2 (by first|omega|decide|(dsimp only;omega))⟩)) (fun _=>(.s .z)) (fun _ _=> ?_)
     refine zj<|zJ<|ze<|zc<|r_pv rfl rfl (zy (z:=(((i+1):Nat):Int)) rfl rfl (w64 (by omega)))<|r_pv rfl rfl (zb rfl)<|zj<|zba ((i+1),(A.set kk (⟨1,((kx:Nat):Int),((ky:Nat):Int),((kx:Nat):Int),((ky:Nat):Int),((kx:Nat):Int),((ky:Nat):Int),(((kx*kx):Nat):Int),(((kx*ky):Nat):Int),(((ky*ky):Nat):Int),kg,(kg*((kx:Nat):Int)),(kg*((ky:Nat):Int))⟩:Bb))) (show (i+1)≤n∧Fl.TbI wn l o (Fl.cnt (Fl.ldr (Fl.ge l th) cc) n) (i+1) (A.set kk (⟨1,((kx:Nat):Int),((ky:Nat):Int),((kx:Nat):Int),((ky:Nat):Int),((kx:Nat):Int),((ky:Nat):Int),(((kx*kx):Nat):Int),(((kx*ky):Nat):Int),(((ky*ky):Nat):Int),kg,(kg*((kx:Nat):Int)),(kg*((ky:Nat):Int))⟩:Bb)) from by exact ⟨by omega,hT.put hkN hkk (by rw [← hnew,hkx,hky,hkg];rfl)⟩) (by show n - (i+1)<n - i;omega) ((.of rfl):SubM _ _) (ho:=((.of [1,1] rfl):PickO _ _ _)) ((.of [2,3] rfl):SelR _ _ _)
    ·
     have hold:=Fl.gb_old (w:=wn) (l:=l) hkk (by rw [← hget];exact hz)
     have hA1:Fl.okb (A.getD kk b0):=by rw [hget];exact (Fl.gb_ok (by rw [← hget];exact hz) hacc).1
     rw [← hget] at hold
     have hbd1:=Bl.ok_bd hA1
     unfold Bl.bd at hbd1
     refine zza (.c (i:=1) rfl (.c (i:=0) rfl (.c (i:=0) rfl .n)))<|zja (OW:=[rowA 51 (rI13 .i64) (some ⟨b4,0,none⟩) (Fl.cnt (Fl.ldr (Fl.ge l th) cc) n) A]) (O:=[boxA b13 51 [.int .i64 1,.int .i64 ((kx:Nat):Int),.int .i64 ((ky:Nat):Int),.int .i64 ((kx:Nat):Int),.int .i64 ((ky:Nat):Int),.int .i64 ((kx:Nat):Int),.int .i64 ((ky:Nat):Int),.int .i64 (((kx*kx):Nat):Int),.int .i64 (((kx*ky):Nat):Int),.int .i64 (((ky*ky):Nat):Int),.int .i64 kg,.int .i64 (kg*((kx:Nat):Int)),.int .i64 (kg*((ky:Nat):Int))],boxA b1 24 [.int .i64 ((wn:Nat):Int),.int .i64 ((hn9:Nat):Int),.int .i64 m,.slice p n cap]]) 9 mixed (.block (.then (.then (.block (.then .ret))))) (by kernel_rfl)<|d_pv 0 rfl rfl (by kernel_rfl) (by kernel_rfl) rfl rfl (zb rfl)<|d_pv 1 rfl rfl (by kernel_rfl) (by kernel_rfl) rfl rfl (zb rfl)<|d_pv 2 rfl rfl (by kernel_rfl) (by kernel_rfl) rfl rfl (zb rfl)<|d_pv 3 rfl rfl (by kernel_rfl) (by kernel_rfl) rfl rfl (zb rfl)<|d_pv 4 rfl rfl (by kernel_rfl) (by kernel_rfl) rfl rfl (zN (j:=kk) Try.underlying35 sz51 rfl rfl rfl (by omega))<|d_vlw 5 rfl rfl (by kernel_rfl) (by kernel_rfl) (by kernel_rfl) rfl rfl (zZb 0 kk rfl ty51 rfl rfl (gD (d:=b0) (by omega))) (fun _ hok15=> ?_)
     obtain ⟨hok150,hok151,hok152,hok153,hok154,hok155,hok156,hok157,hok158,hok159,hok1510,hok1511,hok1512⟩:=hok15
     replace hok150:=zn.1 hok150
     replace hok151:=zn.1 hok151
     replace hok152:=zn.1 hok152
     replace hok153:=zn.1 hok153
     replace hok154:=zn.1 hok154
     replace hok155:=zn.1 hok155
     replace hok156:=zn.1 hok156
     replace hok157:=zn.1 hok157
     replace hok158:=zn.1 hok158
     replace hok159:=zn.1 hok159
     replace hok1510:=zn.1 hok1510
     replace hok1511:=zn.1 hok1511
     replace hok1512:=zn.1 hok1512
     refine d_uw 6 rfl rfl (by kernel_rfl) (by kernel_rfl) (by kernel_rfl) rfl rfl (zh 1 ty51 rfl rfl (.take (.take (.take (.take (.take (.take (.take (.take (.take (.take (.take (.take (.take .nil))))))))))))))<|zV 7 (by kernel_rfl) (zhd rfl rfl rfl rfl (.c rfl (.c rfl .n)) ce40 (zTd (ar1:=(A.getD kk b0).ar) (le1:=(A.getD kk b0).le) (tp1:=(A.getD kk b0).tp) (rt1:=(A.getD kk b0).rt) (bt1:=(A.getD kk b0).bt) (sx1:=(A.getD kk b0).sx) (sy1:=(A.getD kk b0).sy) (xx1:=(A.getD kk b0).xx) (xy1:=(A.getD kk b0).xy) (yy1:=(A.getD kk b0).yy) (ms1:=(A.getD kk b0).ms) (mx1:=(A.getD kk b0).mx) (my1:=(A.getD kk b0).my) (ar2:=1) (le2:=((kx:Nat):Int)) (tp2:=((ky:Nat):Int)) (rt2:=((kx:Nat):Int)) (bt2:=((ky:Nat):Int)) (sx2:=((kx:Nat):Int)) (sy2:=((ky:Nat):Int)) (xx2:=(((kx*kx):Nat):Int)) (xy2:=(((kx*ky):Nat):Int)) (yy2:=(((ky*ky):Nat):Int)) (ms2:=kg) (mx2:=(kg*((kx:Nat):Int))) (my2:=(kg*((ky:Nat):Int))) (hb1:=by exact Bl.ok_bd hA1) (hb2:=by exact Bl.ok_bd (by rw [hkx,hky,hkg];exact hO1))) (.n) ?_)
     refine d_pv 8 rfl rfl (by kernel_rfl) (by kernel_rfl) rfl rfl (zN (j:=kk) Try.underlying35 sz51 rfl rfl rfl (by omega))<|zV 9 (by kernel_rfl) (zRe (A':=fun _=>rowA 51 (rI13 .i64) (some ⟨b4,0,none⟩) (Fl.cnt (Fl.ldr (Fl.ge l th) cc) n) (A.set kk (⟨(((A.getD kk b0).ar)+1),(min ((A.getD kk b0).le) ((kx:Nat):Int)),(min ((A.getD kk b0).tp) ((ky:Nat):Int)),(max ((A.getD kk b0).rt) ((kx:Nat):Int)),(max ((A.getD kk b0).bt) ((ky:Nat):Int)),(((A.getD kk b0).sx)+((kx:Nat):Int)),(((A.getD kk b0).sy)+((ky:Nat):Int)),(((A.getD kk b0).xx)+(((kx*kx):Nat):Int)),(((A.getD kk b0).xy)+(((kx*ky):Nat):Int)),(((A.getD kk b0).yy)+(((ky*ky):Nat):Int)),(((A.getD kk b0).ms)+kg),(((A.getD kk b0).mx)+(kg*((kx:Nat):Int))),(((A.getD kk b0).my)+(kg*((ky:Nat):Int)))⟩:Bb))) (by kernel_rfl) rfl rfl rfl (zR (j:=kk) (x0:=(⟨(((A.getD kk b0).ar)+1),(min ((A.getD kk b0).le) ((kx:Nat):Int)),(min ((A.getD kk b0).tp) ((ky:Nat):Int)),(max ((A.getD kk b0).rt) ((kx:Nat):Int)),(max ((A.getD kk b0).bt) ((ky:Nat):Int)),(((A.getD kk b0).sx)+((kx:Nat):Int)),(((A.getD kk b0).sy)+((ky:Nat):Int)),(((A.getD kk b0).xx)+(((kx*kx):Nat):Int)),(((A.getD kk b0).xy)+(((kx*ky):Nat):Int)),(((A.getD kk b0).yy)+(((ky*ky):Nat):Int)),(((A.getD kk b0).ms)+kg),(((A.getD kk b0).mx)+(kg*((kx:Nat):Int))),(((A.getD kk b0).my)+(kg*((ky:Nat):Int)))⟩:Bb)) (γ0:=()) rfl rfl (by first|omega|(rw [List.length_map];omega)|(simp only [List.length_set];omega)|(simp;done)|(simp;omega)) rfl rfl sz51 (fun _ _=>by exact ⟨zn.2 (by first|omega|decide|(dsimp only;omega)),zn.2 (by first|omega|decide|(dsimp only;omega)),zn.2 (by first|omega|decide|(dsimp only;omega)),zn.2 (by first|omega|decide|(dsimp only;omega)),zn.2 (by first|omega|decide|(dsimp only;omega)),zn.2 (by first|omega|decide|(dsimp only;omega)),zn.2 (by first|omega|decide|(dsimp only;omega)),zn.2 (by first|omega|decide|(dsimp only;omega)),zn.2 (by first|omega|decide|(dsimp only;omega)),zn.2 (by first|omega|decide|(dsimp only;omega)),zn.2 (by first|omega|decide|(dsimp only;omega)),zn.2 (by first|omega|decide|(dsimp only;omega)),zn.2 (by first|omega|decide|(dsimp only;omega))⟩)) (fun _ _=> ?_))
     refine zga (by kernel_rfl)<|zJ<|ze<|zc<|r_pv rfl rfl (zy (z:=(((i+1):Nat):Int)) rfl rfl (w64 (by omega)))<|r_pv rfl rfl (zb rfl)<|zj<|zba ((i+1),(A.set kk (⟨(((A.getD kk b0).ar)+1),(min ((A.getD kk b0).le) ((kx:Nat):Int)),(min ((A.getD kk b0).tp) ((ky:Nat):Int)),(max ((A.getD kk b0).rt) ((kx:Nat):Int)),(max ((A.getD kk b0).bt) ((ky:Nat):Int)),(((A.getD kk b0).sx)+((kx:Nat):Int)),(((A.getD kk b0).sy)+((ky:Nat):Int)),(((A.getD kk b0).xx)+(((kx*kx):Nat):Int)),(((A.getD kk b0).xy)+(((kx*ky):Nat):Int)),(((A.getD kk b0).yy)+(((ky*ky):Nat):Int)),(((A.getD kk b0).ms)+kg),(((A.getD kk b0).mx)+(kg*((kx:Nat):Int))),(((A.getD kk b0).my)+(kg*((ky:Nat):Int)))⟩:Bb))) (show (i+1)≤n∧Fl.TbI wn l o (Fl.cnt (Fl.ldr (Fl.ge l th) cc) n) (i+1) (A.set kk (⟨(((A.getD kk b0).ar)+1),(min ((A.getD kk b0).le) ((kx:Nat):Int)),(min ((A.getD kk b0).tp) ((ky:Nat):Int)),(max ((A.getD kk b0).rt) ((kx:Nat):Int)),(max ((A.getD kk b0).bt) ((ky:Nat):Int)),(((A.getD kk b0).sx)+((kx:Nat):Int)),(((A.getD kk b0).sy)+((ky:Nat):Int)),(((A.getD kk b0).xx)+(((kx*kx):Nat):Int)),(((A.getD kk b0).xy)+(((kx*ky):Nat):Int)),(((A.getD kk b0).yy)+(((ky*ky):Nat):Int)),(((A.getD kk b0).ms)+kg),(((A.getD kk b0).mx)+(kg*((kx:Nat):Int))),(((A.getD kk b0).my)+(kg*((ky:Nat):Int)))⟩:Bb)) from by exact ⟨by omega,hT.put hkN hkk (by rw [← hold,hkx,hky,hkg];rfl)⟩) (by show n - (i+1)<n - i;omega) ((.of rfl):SubM _ _) (ho:=((.of [0,1] rfl):PickO _ _ _)) ((.of [2,3] rfl):SelR _ _ _)
  ·
   refine zfa<|zm<|zm<|zv<|ze<|zi<|zc<|r_pv rfl rfl (zb rfl)<|r_pv rfl rfl (zd rfl)<|r_pv rfl rfl (zd rfl)<|zj<|ze<|zI ?_
   have hin8:i=n:=by omega
   rw [hin8] at hT
   refine zPa 0 rfl .z ?_
   exact zva Try.results17 (some ⟨b4,0,none⟩,(Fl.cnt (Fl.ldr (Fl.ge l th) cc) n),A) (Fl.BlsR.yes hok hn hcl.1 hLC hT.fin) (zq rfl) (zq rfl) (by rw [Decidable.not_not.1 hc,hAl]) (ho:=(.n:PickO _ _ _)) ((.c (j:=0) rfl .n):SelR _ _ _)
end Go.Proofs.Ytefbbhiaalcjfaa.Sp
namespace Go.Proofs.Ytefbbhiaalcjfaa.Sp
open Go
set_option linter.unusedVariables false
set_option maxRecDepth 100000
set_option maxHeartbeats 8000000
theorem zBa {s:Bool} {p:Option Addr} {n:Nat} {cap:Nat} {l:List Int} (hn:l.length=n) (ho:Big.okL l) (hln:n≤4398046511104):Con Try.prog 68 [.bool s,.slice p n cap] [] [slF (rI .u32) p cap l] (Y:=(Option Addr)×Nat) (fun y=>True) (fun y=> .agg #[.bool (decide ((Big.sg s (Big.valL l))<0)),.slice (y.1) ((Big.digs ((Big.sg s (Big.valL l)).natAbs)).length) (y.2)]) (fun y=>[]) (fun y=>[slF (rI .u32) (y.1) (y.2) (Big.digs ((Big.sg s (Big.valL l)).natAbs))]):=by
 refine zr Try.func68 rfl rfl rfl (fun c=> ?_)
 show RunC _ _ _ _ _ [(0,.bool s),(1,.slice p n cap)] [] [slF (rI .u32) p cap l]
 refine zca 0 rfl (fun hL0=> ?_)
 refine zi<|zc<|zS rfl rfl (zG zr43 rfl) (fun b1=> ?_)
 refine zj<|ze<|zi<|zc<|r_pv rfl rfl (zb rfl)<|r_pv rfl rfl (zM Try.underlying41 rfl)<|r_pv rfl rfl (zd rfl)<|zj<|ze<|zi<|zz<|zma (X:=Nat) (fun x:Nat=>x≤n∧Big.trimL (l.take x)=Big.trimL l) (fun x=>[(5,.int .i64 ((x:Nat):Int)),(4,.pointer (some ⟨b1,0,none⟩)),(0,.bool s),(1,.slice p n cap)]) (fun x=>[boxA b1 43 [wz.b,wz.l]]) (fun x=>[slF (rI .u32) p cap l]) (fun x:Nat=>x) n (show n≤n∧Big.trimL (l.take n)=Big.trimL l from by exact ⟨by omega,by rw [List.take_of_length_le (by omega)]⟩) ((.of rfl):SubM _ _) (ho:=((.c (i:=0) rfl .n):PickO _ _ _)) ((.c (j:=0) rfl .n):SelR _ _ _) ?_
 rintro k hI
 replace hI:k≤n∧Big.trimL (l.take k)=Big.trimL l:=hI
 try dsimp only
 obtain ⟨hk,hT⟩:=hI
 refine zi<|zFa (X:=Unit) (fun x=>True) (fun x=>[(17,.bool (decide (0<k∧l.getD (k - 1) 0=0))),(5,.int .i64 ((k:Nat):Int)),(4,.pointer (some ⟨b1,0,none⟩)),(0,.bool s),(1,.slice p n cap)]) (fun x=>[boxA b1 43 [wz.b,wz.l]]) (fun x=>[slF (rI .u32) p cap l]) ?_ ?_
 ·
  refine zc<|r_pv rfl rfl (zb rfl)<|r_pv rfl rfl (zwa rfl rfl)<|zP rfl rfl (zb rfl) (fun h2=> ?_) (fun h2=> ?_)
  ·
   refine r_pv rfl rfl (zb rfl)<|r_pv rfl rfl (zb rfl)<|r_pv rfl rfl (zda (z:=(((k:Nat):Int) - 1)) rfl rfl (w64 (by omega)))<|zQ (x0:=(l.getD ((((k:Nat):Int) - 1).toNat) 0)) 0 ((((k:Nat):Int) - 1).toNat) rfl Try.underlying41 sz101 rfl rfl rfl (by first|rfl|assumption|(simp_all;done)|omega) rfl (by omega) (gD (d:=0) (by omega)) (fun b3 o4 hok5=> ?_)
   replace hok5:=zw.1 hok5
   refine r_u rfl rfl (zl (j:=0) 0 ty101 rfl rfl rfl rfl)<|r_pv rfl rfl (zua rfl rfl)<|r_pv rfl rfl (zk rfl rfl)<|zj ?_
   exact zZ () (show True from by first|trivial|omega|simp_all) ((.e rfl (congrArg Value.bool (by have h1:0<k:=(by omega);have h2:((k:Int) - 1).toNat=k - 1:=(by omega);simp [h1,h2])) (.of rfl)):SubM _ _) (ho:=((.c (i:=0) rfl .n):PickO _ _ _)) ((.c (j:=1) rfl .n):SelR _ _ _)
  ·
   refine za rfl rfl<|za rfl rfl<|za rfl rfl<|za rfl rfl<|za rfl rfl<|za rfl rfl<|r_pv rfl rfl (zk rfl rfl)<|zj ?_
   exact zZ () (show True from by first|trivial|omega|simp_all) ((.e rfl (congrArg Value.bool (by have h1:¬0<k:=(by omega);simp [h1])) (.of rfl)):SubM _ _) (ho:=((.c (i:=0) rfl .n):PickO _ _ _)) ((.c (j:=0) rfl .n):SelR _ _ _)
 ·
  rintro ⟨⟩ -
  try dsimp only
  refine zD rfl (fun hc=> ?_) (fun hc=> ?_)
  ·
   refine zA<|ze<|zz<|zc<|r_pv rfl rfl (zb rfl)<|r_pv rfl rfl (zda (z:=(((k - 1):Nat):Int)) rfl rfl (w64 (by omega)))<|r_pv rfl rfl (zd rfl)<|zj<|zJ<|zba (k - 1) (show (k - 1)≤n∧Big.trimL (l.take (k - 1))=Big.trimL l from by exact ⟨by omega,by rw [← hT,Big.trim_go l hc.1 (by omega) hc.2]⟩) (by show k - 1<k;omega) ((.e rfl (by first|rfl|(congr 1;omega)|simp_all) (.of rfl)):SubM _ _) (ho:=((.c (i:=0) rfl .n):PickO _ _ _)) ((.c (j:=0) rfl .n):SelR _ _ _)
  ·
   have htr:l.take k=Big.digs (Big.sg s (Big.valL l)).natAbs:=by rw [Big.sg_abs (Big.valL_nonneg ho),←Big.digs_valL ho,←hT];exact (Big.trim_stop l (by omega) hc).symm
   have hlt:(l.take k).length=k:=by rw [List.length_take];omega
   have hsg:=Big.made_sign (s:=s) ho htr hlt
   refine zfa<|zm<|zm<|zv<|ze<|zi<|zc<|r_pv rfl rfl (zb rfl)<|r_pv_b rfl rfl (zb rfl) (fun hs=> ?_) (fun hs=> ?_)
   ·
    refine r_pv rfl rfl (zb rfl)<|r_pv rfl rfl (zwa rfl rfl)<|r_pv rfl rfl (zk rfl rfl)<|zta rfl rfl (zqa (rI .u32) Try.underlying41 inf101) (fun b6 _=> ?_)
    refine r_pv rfl rfl (zb rfl)<|r_pv rfl rfl (zb rfl)<|r_pv rfl rfl (zZa (hi:=k) Try.underlying41 sz101 rfl (.s rfl) (.inr ⟨_,rfl⟩) (by omega))<|zpc (zUb 0 rfl k (by omega)) (fun _ _=> ?_)
    refine zxa 0 rfl rfl rfl (zra 0 rfl Try.underlying41 inf101 (by decide) rfl rfl (by first|rfl|assumption|(simp_all;done)|omega) rfl (by first|rfl|assumption|(simp_all;done)|omega) (by omega) (by omega)) (fun _=> .z) ?_
    rintro ⟨p7,c8⟩ -
    dsimp only [List.append_eq,List.nil_append,List.cons_append]
    refine r_pv rfl rfl (zK zr43 rfl Try.underlying43 (.c sz4 (.c sz41 .n)) (.c rfl (.c rfl .n)) (.c rfl rfl rfl (.take .nil) (.c rfl rfl rfl (.skip (.take .nil)) .n)))<|zo 1 rfl rfl rfl rfl rfl sz43 rfl (.take (.take .nil)) (.s .z)<|zj<|ze<|zI ?_
    subst hs
    refine zPa 0 rfl .z ?_
    exact zC Try.results68 (p7,c8) trivial (zu 1 ty43 rfl rfl (.take (.take .nil))) (by rw [hsg,←htr,hlt,Nat.zero_add] <;> simp) (ho:=(.n:PickO _ _ _)) ((.e (j:=0) rfl (by rw [htr] <;> rfl) .n):SelR _ _ _)
   ·
    refine za rfl rfl<|za rfl rfl<|r_pv rfl rfl (zk rfl rfl)<|zta rfl rfl (zqa (rI .u32) Try.underlying41 inf101) (fun b9 _=> ?_)
    refine r_pv rfl rfl (zb rfl)<|r_pv rfl rfl (zb rfl)<|r_pv rfl rfl (zZa (hi:=k) Try.underlying41 sz101 rfl (.s rfl) (.inr ⟨_,rfl⟩) (by omega))<|zpc (zUb 0 rfl k (by omega)) (fun _ _=> ?_)
    refine zxa 0 rfl rfl rfl (zra 0 rfl Try.underlying41 inf101 (by decide) rfl rfl (by first|rfl|assumption|(simp_all;done)|omega) rfl (by first|rfl|assumption|(simp_all;done)|omega) (by omega) (by omega)) (fun _=> .z) ?_
    rintro ⟨p10,c11⟩ -
    dsimp only [List.append_eq,List.nil_append,List.cons_append]
    refine r_pv rfl rfl (zK zr43 rfl Try.underlying43 (.c sz4 (.c sz41 .n)) (.c rfl (.c rfl .n)) (.c rfl rfl rfl (.take .nil) (.c rfl rfl rfl (.skip (.take .nil)) .n)))<|zo 1 rfl rfl rfl rfl rfl sz43 rfl (.take (.take .nil)) (.s .z)<|zj<|ze<|zI ?_
    subst hs
    refine zPa 0 rfl .z ?_
    exact zC Try.results68 (p10,c11) trivial (zu 1 ty43 rfl rfl (.take (.take .nil))) (by rw [hsg,←htr,hlt,Nat.zero_add] <;> simp) (ho:=(.n:PickO _ _ _)) ((.e (j:=0) rfl (by rw [htr] <;> rfl) .n):SelR _ _ _)
theorem zXa {s:Bool} {a:Nat} {p:Option Addr} {cap:Nat} (hln:(Big.digs (a)).length≤4398046511104):Con Try.prog 68 [.bool (s),.slice (p) ((Big.digs (a)).length) (cap)] [] [slF (rI .u32) (p) (cap) (Big.digs (a))] (Y:=(Option Addr)×(Nat)) (fun y=>True) (fun y=> .agg #[.bool (decide ((Big.sg s (a:Int))<0)),.slice (y.1) ((Big.digs ((Big.sg s (a:Int)).natAbs)).length) (y.2)]) (fun y=>[]) (fun y=>[slF (rI .u32) (y.1) (y.2) (Big.digs ((Big.sg s (a:Int)).natAbs))]):=by
  have h:= @zBa s p (Big.digs a).length cap (Big.digs a) rfl (Big.digs_ok a) hln
  rw [Big.valL_digs] at h
  exact h
theorem zNa {p:Option Addr} {n:Nat} {cap:Nat} {l:List Int} {i:Nat} (hn:l.length=n) (hi:i≤4611686018427387904):Con Try.prog 85 [.slice p n cap,.int .i64 ((i:Nat):Int)] [] [slF (rI .u32) p cap l] (Y:=Unit) (fun y=>True) (fun y=> .int .u64 (l.getD i 0)) (fun y=>[]) (fun y=>[]):=by
 refine zr Try.func85 rfl rfl rfl (fun c=> ?_)
 show RunC _ _ _ _ _ [(0,.slice p n cap),(1,.int .i64 ((i:Nat):Int))] [] [slF (rI .u32) p cap l]
 refine zca 0 rfl (fun hL0=> ?_)
 refine zi<|zc<|r_pv rfl rfl (zd rfl)<|zj<|ze<|zi<|zi<|zc<|r_pv rfl rfl (zb rfl)<|r_pv rfl rfl (zb rfl)<|r_pv rfl rfl (zM Try.underlying41 rfl)<|r_pv rfl rfl (zW rfl rfl)<|zj<|ze<|zD rfl (fun h1=> ?_) (fun h1=> ?_)
 ·
  refine zi<|zc<|r_pv rfl rfl (zb rfl)<|r_pv rfl rfl (zb rfl)<|zQ (x0:=(l.getD i 0)) 0 i rfl Try.underlying41 sz101 rfl rfl rfl (by first|rfl|assumption|(simp_all;done)|omega) rfl rfl (gD (d:=0) (by omega)) (fun b2 o3 hok4=> ?_)
  replace hok4:=zw.1 hok4
  refine r_u rfl rfl (zl (j:=0) 0 ty101 rfl rfl rfl rfl)<|r_pv rfl rfl (zx (z:=(l.getD i 0)) rfl (by rw [Try.underlying101];rfl) Try.underlying100 (wu64 (by omega)))<|r_pv rfl rfl (zd rfl)<|zj<|ze<|zI<|zt ?_
  exact zC Try.results85 () trivial (zq rfl) rfl (ho:=(.n:PickO _ _ _)) (.n:SelR _ _ _)
 ·
  refine zA<|ze<|zi<|zc<|r_pv rfl rfl (zd rfl)<|zj<|ze<|zI ?_
  exact zC Try.results85 () trivial (zq rfl) (by rw [show l.getD i 0=0 by simp [List.getD,List.getElem?_eq_none (show l.length≤i by omega)]]) (ho:=(.n:PickO _ _ _)) (.n:SelR _ _ _)
theorem zKb {s:Bool} {p:Option Addr} {n:Nat} {cap:Nat} {l:List Int} (hn:l.length=n):Con Try.prog 78 [.agg #[.bool s,.slice p n cap]] [] [slF (rI .u32) p cap l] (Y:=Unit) (fun y=>True) (fun y=> .bool (decide (Big.canon s l))) (fun y=>[]) (fun y=>[]):=by
 refine zr Try.func78 rfl rfl rfl (fun c=> ?_)
 show RunC _ _ _ _ _ [(0,.agg #[.bool s,.slice p n cap])] [] [slF (rI .u32) p cap l]
 refine zca 0 rfl (fun hL0=> ?_)
 refine zi<|zc<|zS rfl rfl (zX rfl rfl) (fun b1=> ?_)
 refine r_pv rfl rfl (zd rfl)<|zj<|ze<|zi<|zc<|r_pv rfl rfl (zg Try.underlying43 rfl sz41 rfl rfl)<|r_u rfl rfl (zf 0 ty41 rfl rfl rfl)<|r_pv rfl rfl (zM Try.underlying41 rfl)<|r_pv rfl rfl (zd rfl)<|zj<|ze<|zi<|zi<|zc<|r_pv rfl rfl (zd rfl)<|zj<|ze<|zz<|zma (X:=Nat) (fun x:Nat=>x≤n∧∀j,j<x→l.getD j 0<1000000000) (fun x=>[(4,.int .i64 ((x:Nat):Int)),(3,.int .i64 ((n:Nat):Int)),(1,.pointer (some ⟨b1,0,none⟩))]) (fun x=>[boxA b1 43 [.bool s,.slice p n cap]]) (fun x=>[slF (rI .u32) p cap l]) (fun x:Nat=>n - x) 0 (show 0≤n∧∀j,j<0→l.getD j 0<1000000000 from by exact ⟨by omega,fun j h=>by omega⟩) ((.e rfl (by first|rfl|(congr 1;omega)|simp_all) (.c rfl (.c rfl .n))):SubM _ _) (ho:=((.c (i:=0) rfl .n):PickO _ _ _)) ((.c (j:=0) rfl .n):SelR _ _ _) ?_
 rintro i hI
 replace hI:i≤n∧∀j,j<i→l.getD j 0<1000000000:=hI
 try dsimp only
 obtain ⟨hi,hall⟩:=hI
 refine zi<|zi<|zc<|r_pv rfl rfl (zb rfl)<|r_pv rfl rfl (zb rfl)<|r_pv rfl rfl (zW rfl rfl)<|zj<|ze<|zD rfl (fun h2=> ?_) (fun h2=> ?_)
 ·
  refine zA<|ze<|zi<|zz<|zi<|zc<|r_pv rfl rfl (zg Try.underlying43 rfl sz41 rfl rfl)<|r_u rfl rfl (zf 0 ty41 rfl rfl rfl)<|r_pv rfl rfl (zb rfl)<|zQ (x0:=(l.getD i 0)) 0 i rfl Try.underlying41 sz101 rfl rfl rfl (by first|rfl|assumption|(simp_all;done)|omega) rfl rfl (gD (d:=0) (by omega)) (fun b3 o4 hok5=> ?_)
  replace hok5:=zw.1 hok5
  refine r_u rfl rfl (zl (j:=0) 0 ty101 rfl rfl rfl rfl)<|r_pv rfl rfl (zya rfl rfl)<|zj<|ze<|zD rfl (fun hb=> ?_) (fun hb=> ?_)
  ·
   refine zi<|zc<|r_pv rfl rfl (zd rfl)<|zj<|ze<|zI<|zaa<|zt<|zt<|zaa<|zt ?_
   exact zC Try.results78 () trivial (zq rfl) (congrArg Value.bool (decide_eq_false (fun h=>((Big.canon_more (by omega)).1 h).2 ⟨_,Big.getD_mem (by omega),hb⟩))) (ho:=(.n:PickO _ _ _)) (.n:SelR _ _ _)
  ·
   refine zA<|zJ<|ze<|zc<|r_pv rfl rfl (zb rfl)<|r_pv rfl rfl (zy (z:=(((i+1):Nat):Int)) rfl rfl (w64 (by omega)))<|r_pv rfl rfl (zd rfl)<|zj<|zba (i+1) (show (i+1)≤n∧∀j,j<(i+1)→l.getD j 0<1000000000 from by refine ⟨by omega,fun j hj=> ?_⟩;by_cases e:j=i;subst e;omega;exact hall j (by omega)) (by show n - (i+1)<n - i;omega) ((.of rfl):SubM _ _) (ho:=((.c (i:=0) rfl .n):PickO _ _ _)) ((.c (j:=1) rfl .n):SelR _ _ _)
 ·
  refine zfa<|zm<|zm<|zv<|ze<|zi<|zi<|zc<|r_pv rfl rfl (zb rfl)<|r_pv rfl rfl (zua rfl rfl)<|zj<|ze<|zD rfl (fun h0=> ?_) (fun h0=> ?_)
  ·
   refine zi<|zc<|r_pv rfl rfl (zg Try.underlying43 rfl sz4 rfl rfl)<|r_u rfl rfl (zf 0 ty4 rfl rfl rfl)<|r_pv rfl rfl (zCb rfl)<|r_pv rfl rfl (zd rfl)<|zj<|ze<|zI<|zt ?_
   exact zC Try.results78 () trivial (zq rfl) (congrArg Value.bool (by have:l.length=0:=(by omega);cases s <;> simp [Big.canon,this])) (ho:=(.n:PickO _ _ _)) (.n:SelR _ _ _)
  ·
   refine zA<|ze<|zi<|zc<|r_pv rfl rfl (zg Try.underlying43 rfl sz41 rfl rfl)<|r_u rfl rfl (zf 0 ty41 rfl rfl rfl)<|r_pv rfl rfl (zb rfl)<|r_pv rfl rfl (zda (z:=(((n:Nat):Int) - 1)) rfl rfl (w64 (by omega)))<|zQ (x0:=(l.getD ((((n:Nat):Int) - 1).toNat) 0)) 0 ((((n:Nat):Int) - 1).toNat) rfl Try.underlying41 sz101 rfl rfl rfl (by first|rfl|assumption|(simp_all;done)|omega) rfl (by omega) (gD (d:=0) (by omega)) (fun b6 o7 hok8=> ?_)
   replace hok8:=zw.1 hok8
   refine r_u rfl rfl (zl (j:=0) 0 ty101 rfl rfl rfl rfl)<|r_pv rfl rfl (zIa rfl rfl)<|r_pv rfl rfl (zd rfl)<|zj<|ze<|zI ?_
   exact zC Try.results78 () trivial (zq rfl) (congrArg Value.bool (decide_eq_decide.2 (by rw [Big.canon_more (by omega),hn];have e:((n:Int) - 1).toNat=n - 1:=(by omega);rw [e];exact ⟨fun h=>h.1,fun h=>⟨h,fun ⟨g,hg,hb⟩=>by obtain ⟨j,hj,e⟩:=Big.mem_getD hg;have:=hall j (by omega);omega⟩⟩))) (ho:=(.n:PickO _ _ _)) (.n:SelR _ _ _)
theorem zEa {s:Bool} {p:Option Addr} {n:Nat} {cap:Nat} {l:List Int} (hn:l.length=n) (hln:n≤1099511627776):Con Try.prog 67 [.agg #[.bool s,.slice p n cap]] [] [slF (rI .u32) p cap l] (Y:=(Option Addr)×Nat) (fun y=>True) (fun y=> .agg #[.bool (decide ((Big.raw s l)<0)),.slice (y.1) ((Big.digs ((Big.raw s l).natAbs)).length) (y.2)]) (fun y=>[]) (fun y=>[slF (rI .u32) (y.1) (y.2) (Big.digs ((Big.raw s l).natAbs))]):=by
 refine zr Try.func67 rfl rfl rfl (fun c=> ?_)
 show RunC _ _ _ _ _ [(0,.agg #[.bool s,.slice p n cap])] [] [slF (rI .u32) p cap l]
 refine zca 0 rfl (fun hL0=> ?_)
 refine zbb 0 rfl (fun hE0=> ?_)
 have hnn:Big.nn l:=fun g hg=>(zw.1 (hE0 g hg)).1
 refine zi<|zc<|zS rfl rfl (zX rfl rfl) (fun b1=> ?_)
 refine zS rfl rfl (zG zr43 rfl) (fun b2=> ?_)
 refine zj<|ze<|zi<|zi<|zc<|r_u rfl rfl (zh 1 ty43 rfl rfl (.take (.take .nil)))<|zO rfl rfl (.c rfl .n) ce78 (zKb (s:=s) (p:=p) (n:=n) (cap:=cap) (l:=l) (hn:=by assumption)) (.c (j:=0) rfl .n)<|r_pv rfl rfl (zjb rfl)<|zj<|ze<|zD rfl (fun hc=> ?_) (fun hc=> ?_)
 ·
  refine zi<|zc<|r_pv rfl rfl (zK zr43 rfl Try.underlying43 (.c sz4 (.c sz41 .n)) .n .n)<|zo 0 rfl rfl rfl rfl rfl sz43 rfl (.take (.take .nil)) .z<|zj<|ze<|zI<|zt ?_
  have hz:Big.raw s l=0:=by unfold Big.raw;rw [if_neg hc]
  refine zbc (rI .u32) ?_
  exact zC Try.results67 (none,0) trivial (zu 0 ty43 rfl rfl (.take (.take .nil))) (by rw [hz];rfl) (ho:=(.n:PickO _ _ _)) ((.e (j:=0) rfl (by rw [hz];rfl) .n):SelR _ _ _)
 ·
  refine zA<|ze<|zi<|zja (OW:=[boxA b2 43 [wz.b,wz.l]]) (O:=[boxA b1 43 [.bool s,.slice p n cap]]) 5 mixed (.then .ret) (by kernel_rfl)<|d_pv 0 rfl rfl (by kernel_rfl) (by kernel_rfl) rfl rfl (zg Try.underlying43 rfl sz4 rfl rfl)<|d_u 1 rfl rfl (by kernel_rfl) (by kernel_rfl) rfl rfl (zf 0 ty4 rfl rfl rfl)<|d_pv 3 rfl rfl (by kernel_rfl) (by kernel_rfl) rfl rfl (zg Try.underlying43 rfl sz41 rfl rfl)<|d_uw 4 rfl rfl (by kernel_rfl) (by kernel_rfl) (by kernel_rfl) rfl rfl (zf 1 ty41 rfl rfl rfl)<|zV 2 (by kernel_rfl) (o_ef0W rfl rfl rfl rfl (zqa (rI .u32) Try.underlying41 inf101) (fun b3 _=> ?_))
  refine zV 5 (by kernel_rfl) (zRe (A':=fun v:Option Addr×Nat=>rowA 101 (rI .u32) v.1 v.2 (([])++l)) (by kernel_rfl) rfl rfl rfl (zra 0 rfl Try.underlying41 inf101 (by decide) rfl rfl (by first|rfl|assumption|(simp_all;done)|omega) rfl (by first|rfl|assumption|(simp_all;done)|omega) (by omega) (by omega)) ?_)
  rintro ⟨p4,c5⟩ -
  dsimp only [List.append_eq,List.nil_append,List.cons_append]
  refine d_pv 6 rfl rfl (by kernel_rfl) (by kernel_rfl) rfl rfl (zK zr43 rfl Try.underlying43 (.c sz4 (.c sz41 .n)) (.c rfl (.c rfl .n)) (.c rfl rfl rfl (.take .nil) (.c rfl rfl rfl (.skip (.take .nil)) .n)))<|zMa (zna (i:=1) rfl)<|zV 7 (by kernel_rfl) (zL (by kernel_rfl) rfl rfl rfl rfl rfl sz43 rfl (.take (.take .nil)) ?_)
  refine zga (by kernel_rfl)<|ze<|zI ?_
  have hcc:Big.canon s l:=Decidable.not_not.1 hc
  have hd:Big.digs (Big.raw s l).natAbs=l:=by rw [Big.raw_digs hnn,if_pos hcc]
  have hs:=Big.raw_sign hnn hcc
  refine zPa 1 rfl (.s .z) ?_
  exact zC Try.results67 (p4,c5) trivial (zu 0 ty43 rfl rfl (.take (.take .nil))) (by rw [hs,hd,hn,Nat.zero_add]) (ho:=(.n:PickO _ _ _)) ((.e (j:=0) rfl (by rw [hd] <;> rfl) .n):SelR _ _ _)
theorem zec {z:Int} {p:Option Addr} {cap:Nat} (hln:Big.ln z≤1099511627776):Con Try.prog 67 [.agg #[.bool (decide ((z)<0)),.slice (p) ((Big.digs ((z).natAbs)).length) (cap)]] [] [slF (rI .u32) (p) (cap) (Big.digs ((z).natAbs))] (Y:=(Option Addr)×(Nat)) (fun y=>True) (fun y=> .agg #[.bool (decide ((z)<0)),.slice (y.1) ((Big.digs ((z).natAbs)).length) (y.2)]) (fun y=>[]) (fun y=>[slF (rI .u32) (y.1) (y.2) (Big.digs ((z).natAbs))]):=by
  have h:= @zEa (decide ((z)<0)) p (Big.digs (z).natAbs).length cap (Big.digs (z).natAbs) rfl hln
  rw [Big.raw_big] at h
  exact h
theorem zxe {z:Int} (hz: -9223372036854775808≤z∧z≤9223372036854775807):Con Try.prog 72 [.int .i64 z] [] [] (Y:=(Option Addr)×Nat) (fun y=>True) (fun y=> .agg #[.bool (decide (z<0)),.slice (y.1) ((Big.digs ((z).natAbs)).length) (y.2)]) (fun y=>[]) (fun y=>[slF (rI .u32) (y.1) (y.2) (Big.digs ((z).natAbs))]):=by
 refine zr Try.func72 rfl rfl rfl (fun c=> ?_)
 show RunC _ _ _ _ _ [(0,.int .i64 z)] [] []
 refine zi<|zc<|zS rfl rfl (zG zr43 rfl) (fun b1=> ?_)
 refine zj<|ze<|zi<|zc<|r_pv rfl rfl (zb rfl)<|r_pv rfl rfl (zx (z:=(z%18446744073709551616)) rfl (by rw [Try.underlying3];rfl) Try.underlying100 (wu64m (by omega)))<|r_pv rfl rfl (zd rfl)<|zj<|ze<|zFa (X:=Unit) (fun x=>True) (fun x=>[(3,.int .u64 ((z.natAbs:Nat):Int)),(2,.pointer (some ⟨b1,0,none⟩)),(0,.int .i64 z)]) (fun x=>[boxA b1 43 [wz.b,wz.l]]) (fun x=>[]) ?_ ?_
 ·
  refine zi<|zc<|r_pv rfl rfl (zb rfl)<|r_pv rfl rfl (zW rfl rfl)<|zj<|ze<|zD rfl (fun hs=> ?_) (fun hs=> ?_)
  ·
   refine zc<|r_pv rfl rfl (zb rfl)<|r_pv rfl rfl (zy (z:=(z+1)) rfl rfl (w64 (by omega)))<|r_pv rfl rfl (zgf (z:=(-(z+1))) rfl (w64 (by omega)))<|r_pv rfl rfl (zx (z:=(-(z+1))) rfl (by rw [Try.underlying3];rfl) Try.underlying100 (wu64 (by omega)))<|r_pv rfl rfl (zy (z:=((z.natAbs:Nat):Int)) rfl rfl (wu64 (by omega)))<|r_pv rfl rfl (zd rfl)<|zj ?_
   exact zZ () (show True from by first|trivial|omega|simp_all) ((.of rfl):SubM _ _) (ho:=((.c (i:=0) rfl .n):PickO _ _ _)) (.n:SelR _ _ _)
  ·
   have e2:((z%18446744073709551616):Int)=((z.natAbs:Nat):Int):=by omega
   rw [e2]
   refine zA ?_
   exact zZ () (show True from by first|trivial|omega|simp_all) ((.of rfl):SubM _ _) (ho:=((.c (i:=0) rfl .n):PickO _ _ _)) (.n:SelR _ _ _)
 ·
  rintro ⟨⟩ -
  try dsimp only
  refine zi<|zc<|zta rfl rfl (zqa (rI .u32) Try.underlying41 inf101) (fun b3 _=> ?_)
  refine r_pv rfl rfl (zd rfl)<|zj<|ze<|zi<|zz<|zma (X:=Nat×(Option Addr)×Nat×(List Int)) (fun x:Nat×(Option Addr)×Nat×(List Int)=>x.1≤z.natAbs∧x.2.2.2++Big.digs x.1=Big.digs z.natAbs) (fun x=>[(4,.slice (x.2.1) (x.2.2.2.length) (x.2.2.1)),(3,.int .u64 ((x.1:Nat):Int)),(2,.pointer (some ⟨b1,0,none⟩)),(0,.int .i64 z)]) (fun x=>[rowA 101 (rI .u32) (x.2.1) (x.2.2.1) (x.2.2.2),boxA b1 43 [wz.b,wz.l]]) (fun x=>[]) (fun x:Nat×(Option Addr)×Nat×(List Int)=>x.1) (z.natAbs,some ⟨b3,0,none⟩,0,[]) (show z.natAbs≤z.natAbs∧([])++Big.digs z.natAbs=Big.digs z.natAbs from by exact ⟨Nat.le_refl _,rfl⟩) ((.e rfl (by first|rfl|(congr 1;omega)|simp_all) (.of rfl)):SubM _ _) (ho:=((.of [0,0] rfl):PickO _ _ _)) (.n:SelR _ _ _) ?_
  rintro ⟨m,p,c,os⟩ hI
  replace hI:m≤z.natAbs∧os++Big.digs m=Big.digs z.natAbs:=hI
  try dsimp only
  obtain ⟨hnn,hos⟩:=hI
  have hlen0:os.length+(Big.digs m).length≤3:=by have:=congrArg List.length hos;rw [List.length_append] at this;have:=Big.zqe (show z.natAbs<18446744073709551616 by omega);omega
  refine zi<|zi<|zc<|r_pv rfl rfl (zb rfl)<|r_pv rfl rfl (zwa rfl rfl)<|zj<|ze<|zD rfl (fun h4=> ?_) (fun h4=> ?_)
  ·
   refine zA<|ze<|zz<|zi<|zc<|r_pv rfl rfl (zb rfl)<|r_pv rfl rfl (zb rfl)<|r_pv rfl rfl (zHa (z:=(((m%1000000000):Nat):Int)) rfl rfl (by omega) (remN (by omega) (by omega)))<|r_pv rfl rfl (zx (z:=(((m%1000000000):Nat):Int)) rfl (by rw [Try.underlying100];rfl) Try.underlying101 (wu32 (by omega)))<|zta rfl rfl (zE (enc:=fun z:Int=>[.int .u32 z]) (ok:=InK .u32) (h1:=fun _=>rfl) (h2:=fun _=>rfl) (k:=1) Try.underlying41 inf101 rfl (by decide) (by decide) (by decide) (.c (x:=(((m%1000000000):Nat):Int)) rfl rfl (fun _ _=>by exact zw.2 (by omega)) .n)) (fun b5 _=> ?_)
   refine zea 0 rfl .z<|zxa 1 rfl rfl rfl (zra 0 rfl Try.underlying41 inf101 (by decide) rfl rfl (by first|rfl|assumption|(simp_all;done)|omega) rfl (by first|rfl|assumption|(simp_all;done)|omega) (by omega) (by omega)) (fun _=>(.s .z)) ?_
   rintro ⟨p6,c7⟩ -
   dsimp only [List.append_eq,List.nil_append,List.cons_append]
   refine r_pv rfl rfl (zd rfl)<|zj<|ze<|zc<|r_pv rfl rfl (zb rfl)<|r_pv rfl rfl (zGa (z:=(((m / 1000000000):Nat):Int)) rfl rfl (by omega) (by rw [quoN (z:=(((m / 1000000000):Nat):Int)) (by omega) (by omega)];exact wu64 (by omega)))<|r_pv rfl rfl (zd rfl)<|zj<|zJ<|zba ((m / 1000000000),p6,c7,os++[((m%1000000000:Nat):Int)]) (show (m / 1000000000)≤z.natAbs∧(os++[((m%1000000000:Nat):Int)])++Big.digs (m / 1000000000)=Big.digs z.natAbs from by exact ⟨by omega,Big.split_step (by omega) hos⟩) (by show m / 1000000000<m;omega) ((.e rfl (by simp) (.of rfl)):SubM _ _) (ho:=((.e (i:=1) rfl (by first|rfl|(congr 1;omega)|simp_all) (.c (i:=1) rfl .n)):PickO _ _ _)) (.n:SelR _ _ _)
  ·
   have hm0:m=0:=by omega
   subst hm0
   have hd:os=Big.digs z.natAbs:=by simpa [Big.digs_zero] using hos
   have hok:Big.okL os:=by rw [hd];exact Big.digs_ok _
   have hlen:os.length≤3:=by rw [hd];exact Big.zqe (by omega)
   have hsg:Big.sg (decide (z<0)) (Big.valL os)=z:=by rw [hd,Big.valL_digs];exact Big.sg_big z
   refine zfa<|zm<|zm<|zv<|ze<|zi<|zc<|r_pv rfl rfl (zb rfl)<|r_pv rfl rfl (zW rfl rfl)<|r_pv rfl rfl (zb rfl)<|zea 0 rfl .z<|zB rfl rfl (.c rfl (.c rfl .n)) ce68 (zBa (s:=decide (z<0)) (p:=p) (n:=os.length) (cap:=c) (l:=os) (hn:=by first|rfl|omega) (ho:=by exact hok) (hln:=by first|rfl|omega)) (.c (j:=0) rfl .n) ?_
   rintro ⟨p28,c29⟩ -
   dsimp only [List.append_eq,List.nil_append,List.cons_append]
   refine zo 1 rfl rfl rfl rfl rfl sz43 rfl (.take (.take .nil)) (.s .z)<|zj<|ze<|zI ?_
   exact zC Try.results72 (p28,c29) trivial (zu 1 ty43 rfl rfl (.take (.take .nil))) (by rw [hsg]) (ho:=(.n:PickO _ _ _)) ((.e (j:=0) rfl (by rw [hsg]) .n):SelR _ _ _)
theorem zye {a:Nat} {b:Nat} {p1:Option Addr} {c1:Nat} {p2:Option Addr} {c2:Nat} (hb1:(Big.digs a).length≤1099511627776) (hb2:(Big.digs b).length≤1099511627776):Con Try.prog 69 [.slice p1 ((Big.digs a).length) c1,.slice p2 ((Big.digs b).length) c2] [] [slF (rI .u32) p1 c1 (Big.digs a),slF (rI .u32) p2 c2 (Big.digs b)] (Y:=(Option Addr)×Nat) (fun y=>True) (fun y=> .slice (y.1) ((Big.digs (a+b)).length) (y.2)) (fun y=>[]) (fun y=>[slF (rI .u32) (y.1) (y.2) (Big.digs (a+b))]):=by
 refine zr Try.func69 rfl rfl rfl (fun c=> ?_)
 show RunC _ _ _ _ _ [(0,.slice p1 ((Big.digs a).length) c1),(1,.slice p2 ((Big.digs b).length) c2)] [] [slF (rI .u32) p1 c1 (Big.digs a),slF (rI .u32) p2 c2 (Big.digs b)]
 refine zca 0 rfl (fun hL0=> ?_)
 refine zca 1 rfl (fun hL1=> ?_)
 refine zi<|zc<|r_pv rfl rfl (zd rfl)<|zj<|ze<|zi<|zc<|zta rfl rfl (zqa (rI .u32) Try.underlying41 inf101) (fun b1 _=> ?_)
 refine r_pv rfl rfl (zd rfl)<|zj<|ze<|zi<|zc<|r_pv rfl rfl (zd rfl)<|zj<|ze<|zi<|zi<|zc<|r_pv rfl rfl (zd rfl)<|zj<|ze<|zz<|zma (X:=Nat×(Option Addr)×Nat×(List Int)×Int) (fun x:Nat×(Option Addr)×Nat×(List Int)×Int=>x.1≤max (Big.digs a).length (Big.digs b).length∧x.2.2.2.1.length=x.1∧0≤x.2.2.2.2∧x.2.2.2.2≤1∧Big.okL x.2.2.2.1∧Big.valL x.2.2.2.1+Big.pw x.1*x.2.2.2.2=Big.valL ((Big.digs a).take x.1)+Big.valL ((Big.digs b).take x.1)) (fun x=>[(6,.int .u64 (x.2.2.2.2)),(5,.slice (x.2.1) (x.2.2.2.1.length) (x.2.2.1)),(7,.int .i64 ((x.1:Nat):Int)),(4,.slice none 0 0),(0,.slice p1 ((Big.digs a).length) c1),(1,.slice p2 ((Big.digs b).length) c2)]) (fun x=>[rowA 101 (rI .u32) (x.2.1) (x.2.2.1) (x.2.2.2.1)]) (fun x=>[slF (rI .u32) p1 c1 (Big.digs a),slF (rI .u32) p2 c2 (Big.digs b)]) (fun x:Nat×(Option Addr)×Nat×(List Int)×Int=>max (Big.digs a).length (Big.digs b).length - x.1) (0,some ⟨b1,0,none⟩,0,[],0) (show 0≤max (Big.digs a).length (Big.digs b).length∧([]).length=0∧0≤0∧0≤1∧Big.okL ([])∧Big.valL ([])+Big.pw 0*0=Big.valL ((Big.digs a).take 0)+Big.valL ((Big.digs b).take 0) from by exact ⟨by omega,rfl,by decide,by decide,Big.okL_nil,by simp [Big.valL]⟩) ((.c rfl (.e rfl (by first|rfl|(congr 1;omega)|simp_all) (.e rfl (by first|rfl|(congr 1;omega)|simp_all) (.of rfl)))):SubM _ _) (ho:=((.c (i:=0) rfl .n):PickO _ _ _)) ((.of [0,1] rfl):SelR _ _ _) ?_
 rintro ⟨i,p,c,os,cy⟩ hI
 replace hI:i≤max (Big.digs a).length (Big.digs b).length∧os.length=i∧0≤cy∧cy≤1∧Big.okL os∧Big.valL os+Big.pw i*cy=Big.valL ((Big.digs a).take i)+Big.valL ((Big.digs b).take i):=hI
 try dsimp only
 obtain ⟨hi,hol,hc0,hc1,hok,hv⟩:=hI
 have hg1:=Big.okL_getD (Big.digs_ok a) i
 have hg2:=Big.okL_getD (Big.digs_ok b) i
 refine zi<|zFa (X:=Unit) (fun x=>True) (fun x=>[(19,.bool (decide (i<(Big.digs a).length∨i<(Big.digs b).length))),(6,.int .u64 cy),(5,.slice p (os.length) c),(7,.int .i64 ((i:Nat):Int)),(4,.slice none 0 0),(0,.slice p1 ((Big.digs a).length) c1),(1,.slice p2 ((Big.digs b).length) c2)]) (fun x=>[rowA 101 (rI .u32) p c os]) (fun x=>[slF (rI .u32) p1 c1 (Big.digs a),slF (rI .u32) p2 c2 (Big.digs b)]) ?_ ?_
 ·
  refine zc<|r_pv rfl rfl (zb rfl)<|r_pv rfl rfl (zb rfl)<|r_pv rfl rfl (zM Try.underlying41 rfl)<|r_pv rfl rfl (zW rfl rfl)<|zP rfl rfl (zb rfl) (fun h2=> ?_) (fun h2=> ?_)
  ·
   refine za rfl rfl<|za rfl rfl<|za rfl rfl<|za rfl rfl<|r_pv rfl rfl (zk rfl rfl)<|zj ?_
   exact zZ () (show True from by first|trivial|omega|simp_all) ((.e rfl (congrArg Value.bool (by simp;omega)) (.of rfl)):SubM _ _) (ho:=((.c (i:=0) rfl .n):PickO _ _ _)) ((.of [0,1] rfl):SelR _ _ _)
  ·
   refine r_pv rfl rfl (zb rfl)<|r_pv rfl rfl (zb rfl)<|r_pv rfl rfl (zM Try.underlying41 rfl)<|r_pv rfl rfl (zW rfl rfl)<|r_pv rfl rfl (zk rfl rfl)<|zj ?_
   exact zZ () (show True from by first|trivial|omega|simp_all) ((.e rfl (congrArg Value.bool (by simp;omega)) (.of rfl)):SubM _ _) (ho:=((.c (i:=0) rfl .n):PickO _ _ _)) ((.of [0,1] rfl):SelR _ _ _)
 ·
  rintro ⟨⟩ -
  try dsimp only
  refine zD rfl (fun hc=> ?_) (fun hc=> ?_)
  ·
   refine zA<|ze<|zi<|zz<|zi<|zc<|r_pv rfl rfl (zb rfl)<|r_pv rfl rfl (zb rfl)<|zO rfl rfl (.c rfl (.c rfl .n)) ce85 (zNa (p:=p1) (n:=(Big.digs a).length) (cap:=c1) (l:=Big.digs a) (i:=i) (hn:=by first|rfl|assumption|omega|(simp;done)|(simp;omega)|(simp_all;done)) (hi:=by first|rfl|assumption|omega|(simp;done)|(simp;omega)|(simp_all;done))) (.c (j:=0) rfl .n)<|r_pv rfl rfl (zb rfl)<|r_pv rfl rfl (zb rfl)<|zO rfl rfl (.c rfl (.c rfl .n)) ce85 (zNa (p:=p2) (n:=(Big.digs b).length) (cap:=c2) (l:=Big.digs b) (i:=i) (hn:=by first|rfl|assumption|omega|(simp;done)|(simp;omega)|(simp_all;done)) (hi:=by first|rfl|assumption|omega|(simp;done)|(simp;omega)|(simp_all;done))) (.c (j:=1) rfl .n)<|r_pv rfl rfl (zy (z:=((Big.digs a).getD i 0+(Big.digs b).getD i 0)) rfl rfl (wu64 (by omega)))<|r_pv rfl rfl (zb rfl)<|r_pv rfl rfl (zy (z:=(((Big.digs a).getD i 0+(Big.digs b).getD i 0)+cy)) rfl rfl (wu64 (by omega)))<|r_pv rfl rfl (zd rfl)<|zj<|ze<|zi<|zc<|r_pv rfl rfl (zb rfl)<|r_pv rfl rfl (zb rfl)<|r_pv rfl rfl (zHa (z:=((((Big.digs a).getD i 0+(Big.digs b).getD i 0)+cy)%1000000000)) rfl rfl (by omega) (remN (by omega) (by omega)))<|r_pv rfl rfl (zx (z:=((((Big.digs a).getD i 0+(Big.digs b).getD i 0)+cy)%1000000000)) rfl (by rw [Try.underlying100];rfl) Try.underlying101 (wu32 (by omega)))<|zta rfl rfl (zE (enc:=fun z:Int=>[.int .u32 z]) (ok:=InK .u32) (h1:=fun _=>rfl) (h2:=fun _=>rfl) (k:=1) Try.underlying41 inf101 rfl (by decide) (by decide) (by decide) (.c (x:=((((Big.digs a).getD i 0+(Big.digs b).getD i 0)+cy)%1000000000)) rfl rfl (fun _ _=>by exact zw.2 (by omega)) .n)) (fun b3 _=> ?_)
   refine zea 0 rfl .z<|zxa 1 rfl rfl rfl (zra 0 rfl Try.underlying41 inf101 (by decide) rfl rfl (by first|rfl|assumption|(simp_all;done)|omega) rfl (by first|rfl|assumption|(simp_all;done)|omega) (by omega) (by omega)) (fun _=>(.s .z)) ?_
   rintro ⟨p4,c5⟩ -
   dsimp only [List.append_eq,List.nil_append,List.cons_append]
   refine r_pv rfl rfl (zd rfl)<|zj<|ze<|zc<|r_pv rfl rfl (zb rfl)<|r_pv rfl rfl (zGa (z:=((((Big.digs a).getD i 0+(Big.digs b).getD i 0)+cy) / 1000000000)) rfl rfl (by omega) (by rw [quoN (z:=((((Big.digs a).getD i 0+(Big.digs b).getD i 0)+cy) / 1000000000)) (by omega) (by omega)];exact wu64 (by omega)))<|r_pv rfl rfl (zd rfl)<|zj<|zJ<|ze<|zc<|r_pv rfl rfl (zb rfl)<|r_pv rfl rfl (zy (z:=(((i+1):Nat):Int)) rfl rfl (w64 (by omega)))<|r_pv rfl rfl (zd rfl)<|zj<|zba ((i+1),p4,c5,os++[((Big.digs a).getD i 0+(Big.digs b).getD i 0+cy)%1000000000],((Big.digs a).getD i 0+(Big.digs b).getD i 0+cy) / 1000000000) (show (i+1)≤max (Big.digs a).length (Big.digs b).length∧(os++[((Big.digs a).getD i 0+(Big.digs b).getD i 0+cy)%1000000000]).length=(i+1)∧0≤(((Big.digs a).getD i 0+(Big.digs b).getD i 0+cy) / 1000000000)∧(((Big.digs a).getD i 0+(Big.digs b).getD i 0+cy) / 1000000000)≤1∧Big.okL (os++[((Big.digs a).getD i 0+(Big.digs b).getD i 0+cy)%1000000000])∧Big.valL (os++[((Big.digs a).getD i 0+(Big.digs b).getD i 0+cy)%1000000000])+Big.pw (i+1)*(((Big.digs a).getD i 0+(Big.digs b).getD i 0+cy) / 1000000000)=Big.valL ((Big.digs a).take (i+1))+Big.valL ((Big.digs b).take (i+1)) from by exact ⟨by omega,by simp [hol],by omega,by omega,Big.okL_snoc hok (by omega) (by omega),Big.plus_step hol hv (by omega)⟩) (by show max (Big.digs a).length (Big.digs b).length - (i+1)<max (Big.digs a).length (Big.digs b).length - i;omega) ((.e rfl (by first|rfl|(congr 1;omega)|simp_all) (.e rfl (by simp) (.of rfl))):SubM _ _) (ho:=((.e (i:=1) rfl (by first|rfl|(congr 1;omega)|simp_all) .n):PickO _ _ _)) ((.of [1,2] rfl):SelR _ _ _)
  ·
   have hok2:=Big.okL_snoc hok hc0 (show cy<1000000000 by omega)
   have hfin:=Big.plus_end (a:=a) (b:=b) hol (by omega) (by omega) hv
   refine zfa<|zm<|zm<|zv<|ze<|zi<|zc<|r_pv rfl rfl (zb rfl)<|r_pv rfl rfl (zb rfl)<|r_pv rfl rfl (zx (z:=cy) rfl (by rw [Try.underlying100];rfl) Try.underlying101 (wu32 (by omega)))<|zta rfl rfl (zE (enc:=fun z:Int=>[.int .u32 z]) (ok:=InK .u32) (h1:=fun _=>rfl) (h2:=fun _=>rfl) (k:=1) Try.underlying41 inf101 rfl (by decide) (by decide) (by decide) (.c (x:=cy) rfl rfl (fun _ _=>by exact zw.2 (by omega)) .n)) (fun b6 _=> ?_)
   refine zea 0 rfl .z<|zxa 1 rfl rfl rfl (zra 0 rfl Try.underlying41 inf101 (by decide) rfl rfl (by first|rfl|assumption|(simp_all;done)|omega) rfl (by first|rfl|assumption|(simp_all;done)|omega) (by omega) (by omega)) (fun _=>(.s .z)) ?_
   rintro ⟨p7,c8⟩ -
   dsimp only [List.append_eq,List.nil_append,List.cons_append]
   refine zea 1 rfl (.s .z)<|zB rfl rfl (.c rfl (.c rfl .n)) ce68 (zBa (s:=false) (p:=p7) (n:=os.length+1) (cap:=c8) (l:=(os++([cy]))) (hn:=by first|rfl|omega|(simp;done)|(simp;omega)) (ho:=by exact hok2) (hln:=by first|rfl|omega|(simp;done)|(simp;omega))) (.c (j:=0) rfl .n) ?_
   rintro ⟨p29,c210⟩ -
   dsimp only [List.append_eq,List.nil_append,List.cons_append]
   refine r_pv rfl rfl (zsa Try.underlying43 rfl ty41 rfl rfl)<|r_pv rfl rfl (zd rfl)<|zj<|ze<|zI ?_
   exact zC Try.results69 (p29,c210) trivial (zq rfl) (by rw [hfin]) (ho:=(.n:PickO _ _ _)) ((.e (j:=0) rfl (by rw [hfin]) .n):SelR _ _ _)
theorem zwb {a:Nat} {b:Nat} {p1:Option Addr} {c1:Nat} {p2:Option Addr} {c2:Nat} (hb1:(Big.digs a).length≤1099511627776) (hb2:(Big.digs b).length≤1099511627776) (hab:b≤a):Con Try.prog 71 [.slice p1 ((Big.digs a).length) c1,.slice p2 ((Big.digs b).length) c2] [] [slF (rI .u32) p1 c1 (Big.digs a),slF (rI .u32) p2 c2 (Big.digs b)] (Y:=(Option Addr)×Nat) (fun y=>True) (fun y=> .slice (y.1) ((Big.digs (a - b)).length) (y.2)) (fun y=>[]) (fun y=>[slF (rI .u32) (y.1) (y.2) (Big.digs (a - b))]):=by
 refine zr Try.func71 rfl rfl rfl (fun c=> ?_)
 show RunC _ _ _ _ _ [(0,.slice p1 ((Big.digs a).length) c1),(1,.slice p2 ((Big.digs b).length) c2)] [] [slF (rI .u32) p1 c1 (Big.digs a),slF (rI .u32) p2 c2 (Big.digs b)]
 refine zca 0 rfl (fun hL0=> ?_)
 refine zca 1 rfl (fun hL1=> ?_)
 refine zi<|zc<|r_pv rfl rfl (zd rfl)<|zj<|ze<|zi<|zc<|zta rfl rfl (zqa (rI .u32) Try.underlying41 inf101) (fun b1 _=> ?_)
 refine r_pv rfl rfl (zd rfl)<|zj<|ze<|zi<|zc<|r_pv rfl rfl (zd rfl)<|zj<|ze<|zi<|zi<|zc<|r_pv rfl rfl (zd rfl)<|zj<|ze<|zz<|zma (X:=Nat×(Option Addr)×Nat×(List Int)×Int) (fun x:Nat×(Option Addr)×Nat×(List Int)×Int=>x.1≤(Big.digs a).length∧x.2.2.2.1.length=x.1∧0≤x.2.2.2.2∧x.2.2.2.2≤1∧Big.okL x.2.2.2.1∧Big.valL x.2.2.2.1+Big.valL ((Big.digs b).take x.1)=Big.valL ((Big.digs a).take x.1)+Big.pw x.1*x.2.2.2.2) (fun x=>[(6,.int .u64 (x.2.2.2.2)),(5,.slice (x.2.1) (x.2.2.2.1.length) (x.2.2.1)),(7,.int .i64 ((x.1:Nat):Int)),(4,.slice none 0 0),(0,.slice p1 ((Big.digs a).length) c1),(1,.slice p2 ((Big.digs b).length) c2)]) (fun x=>[rowA 101 (rI .u32) (x.2.1) (x.2.2.1) (x.2.2.2.1)]) (fun x=>[slF (rI .u32) p1 c1 (Big.digs a),slF (rI .u32) p2 c2 (Big.digs b)]) (fun x:Nat×(Option Addr)×Nat×(List Int)×Int=>(Big.digs a).length - x.1) (0,some ⟨b1,0,none⟩,0,[],0) (show 0≤(Big.digs a).length∧([]).length=0∧0≤0∧0≤1∧Big.okL ([])∧Big.valL ([])+Big.valL ((Big.digs b).take 0)=Big.valL ((Big.digs a).take 0)+Big.pw 0*0 from by exact ⟨by omega,rfl,by decide,by decide,Big.okL_nil,by simp [Big.valL]⟩) ((.c rfl (.e rfl (by first|rfl|(congr 1;omega)|simp_all) (.e rfl (by first|rfl|(congr 1;omega)|simp_all) (.of rfl)))):SubM _ _) (ho:=((.c (i:=0) rfl .n):PickO _ _ _)) ((.of [0,1] rfl):SelR _ _ _) ?_
 rintro ⟨i,p,c,os,bo⟩ hI
 replace hI:i≤(Big.digs a).length∧os.length=i∧0≤bo∧bo≤1∧Big.okL os∧Big.valL os+Big.valL ((Big.digs b).take i)=Big.valL ((Big.digs a).take i)+Big.pw i*bo:=hI
 try dsimp only
 obtain ⟨hi,hol,hc0,hc1,hok,hv⟩:=hI
 have hg1:=Big.okL_getD (Big.digs_ok a) i
 have hg2:=Big.okL_getD (Big.digs_ok b) i
 refine zi<|zi<|zc<|r_pv rfl rfl (zb rfl)<|r_pv rfl rfl (zb rfl)<|r_pv rfl rfl (zM Try.underlying41 rfl)<|r_pv rfl rfl (zW rfl rfl)<|zj<|ze<|zD rfl (fun h2=> ?_) (fun h2=> ?_)
 ·
  refine zA<|ze<|zi<|zz<|zi<|zc<|r_pv rfl rfl (zb rfl)<|r_pv rfl rfl (zb rfl)<|zO rfl rfl (.c rfl (.c rfl .n)) ce85 (zNa (p:=p1) (n:=(Big.digs a).length) (cap:=c1) (l:=Big.digs a) (i:=i) (hn:=by first|rfl|assumption|omega|(simp;done)|(simp;omega)|(simp_all;done)) (hi:=by first|rfl|assumption|omega|(simp;done)|(simp;omega)|(simp_all;done))) (.c (j:=0) rfl .n)<|r_pv rfl rfl (zy (z:=(1000000000+(Big.digs a).getD i 0)) rfl rfl (wu64 (by omega)))<|r_pv rfl rfl (zb rfl)<|r_pv rfl rfl (zb rfl)<|zO rfl rfl (.c rfl (.c rfl .n)) ce85 (zNa (p:=p2) (n:=(Big.digs b).length) (cap:=c2) (l:=Big.digs b) (i:=i) (hn:=by first|rfl|assumption|omega|(simp;done)|(simp;omega)|(simp_all;done)) (hi:=by first|rfl|assumption|omega|(simp;done)|(simp;omega)|(simp_all;done))) (.c (j:=1) rfl .n)<|r_pv rfl rfl (zda (z:=((1000000000+(Big.digs a).getD i 0) - (Big.digs b).getD i 0)) rfl rfl (wu64 (by omega)))<|r_pv rfl rfl (zb rfl)<|r_pv rfl rfl (zda (z:=(((1000000000+(Big.digs a).getD i 0) - (Big.digs b).getD i 0) - bo)) rfl rfl (wu64 (by omega)))<|r_pv rfl rfl (zd rfl)<|zj<|ze<|zi<|zc<|r_pv rfl rfl (zb rfl)<|r_pv rfl rfl (zb rfl)<|r_pv rfl rfl (zHa (z:=((((1000000000+(Big.digs a).getD i 0) - (Big.digs b).getD i 0) - bo)%1000000000)) rfl rfl (by omega) (remN (by omega) (by omega)))<|r_pv rfl rfl (zx (z:=((((1000000000+(Big.digs a).getD i 0) - (Big.digs b).getD i 0) - bo)%1000000000)) rfl (by rw [Try.underlying100];rfl) Try.underlying101 (wu32 (by omega)))<|zta rfl rfl (zE (enc:=fun z:Int=>[.int .u32 z]) (ok:=InK .u32) (h1:=fun _=>rfl) (h2:=fun _=>rfl) (k:=1) Try.underlying41 inf101 rfl (by decide) (by decide) (by decide) (.c (x:=((((1000000000+(Big.digs a).getD i 0) - (Big.digs b).getD i 0) - bo)%1000000000)) rfl rfl (fun _ _=>by exact zw.2 (by omega)) .n)) (fun b3 _=> ?_)
  refine zea 0 rfl .z<|zxa 1 rfl rfl rfl (zra 0 rfl Try.underlying41 inf101 (by decide) rfl rfl (by first|rfl|assumption|(simp_all;done)|omega) rfl (by first|rfl|assumption|(simp_all;done)|omega) (by omega) (by omega)) (fun _=>(.s .z)) ?_
  rintro ⟨p4,c5⟩ -
  dsimp only [List.append_eq,List.nil_append,List.cons_append]
  refine r_pv rfl rfl (zd rfl)<|zj<|ze<|zc<|r_pv rfl rfl (zb rfl)<|r_pv rfl rfl (zGa (z:=((((1000000000+(Big.digs a).getD i 0) - (Big.digs b).getD i 0) - bo) / 1000000000)) rfl rfl (by omega) (by rw [quoN (z:=((((1000000000+(Big.digs a).getD i 0) - (Big.digs b).getD i 0) - bo) / 1000000000)) (by omega) (by omega)];exact wu64 (by omega)))<|r_pv rfl rfl (zda (z:=(1 - ((((1000000000+(Big.digs a).getD i 0) - (Big.digs b).getD i 0) - bo) / 1000000000))) rfl rfl (wu64 (by omega)))<|r_pv rfl rfl (zd rfl)<|zj<|zJ<|ze<|zc<|r_pv rfl rfl (zb rfl)<|r_pv rfl rfl (zy (z:=(((i+1):Nat):Int)) rfl rfl (w64 (by omega)))<|r_pv rfl rfl (zd rfl)<|zj<|zba ((i+1),p4,c5,os++[(1000000000+(Big.digs a).getD i 0 - (Big.digs b).getD i 0 - bo)%1000000000],1 - (1000000000+(Big.digs a).getD i 0 - (Big.digs b).getD i 0 - bo) / 1000000000) (show (i+1)≤(Big.digs a).length∧(os++[(1000000000+(Big.digs a).getD i 0 - (Big.digs b).getD i 0 - bo)%1000000000]).length=(i+1)∧0≤(1 - (1000000000+(Big.digs a).getD i 0 - (Big.digs b).getD i 0 - bo) / 1000000000)∧(1 - (1000000000+(Big.digs a).getD i 0 - (Big.digs b).getD i 0 - bo) / 1000000000)≤1∧Big.okL (os++[(1000000000+(Big.digs a).getD i 0 - (Big.digs b).getD i 0 - bo)%1000000000])∧Big.valL (os++[(1000000000+(Big.digs a).getD i 0 - (Big.digs b).getD i 0 - bo)%1000000000])+Big.valL ((Big.digs b).take (i+1))=Big.valL ((Big.digs a).take (i+1))+Big.pw (i+1)*(1 - (1000000000+(Big.digs a).getD i 0 - (Big.digs b).getD i 0 - bo) / 1000000000) from by exact ⟨by omega,by simp [hol],by omega,by omega,Big.okL_snoc hok (by omega) (by omega),Big.minus_step hol hv (by omega)⟩) (by show (Big.digs a).length - (i+1)<(Big.digs a).length - i;omega) ((.e rfl (by first|rfl|(congr 1;omega)|simp_all) (.e rfl (by simp) (.of rfl))):SubM _ _) (ho:=((.e (i:=1) rfl (by first|rfl|(congr 1;omega)|simp_all) .n):PickO _ _ _)) ((.of [1,2] rfl):SelR _ _ _)
 ·
  have htr:Big.trimL os=Big.digs (a - b):=Big.minus_fin hab hok hc0 hol (by omega) hv
  have hfin:(Big.sg false (Big.valL os)).natAbs=a - b:=by rw [Big.sg_abs (Big.valL_nonneg hok)];have:=congrArg Big.valL htr;rw [Big.valL_trim,Big.valL_digs] at this;omega
  refine zfa<|zm<|zm<|zv<|ze<|zi<|zc<|r_pv rfl rfl (zb rfl)<|zea 0 rfl .z<|zB rfl rfl (.c rfl (.c rfl .n)) ce68 (zBa (s:=false) (p:=p) (n:=os.length) (cap:=c) (l:=os) (hn:=by first|rfl|omega|(simp;done)|(simp;omega)) (ho:=by exact hok) (hln:=by first|rfl|omega|(simp;done)|(simp;omega))) (.c (j:=0) rfl .n) ?_
  rintro ⟨p26,c27⟩ -
  dsimp only [List.append_eq,List.nil_append,List.cons_append]
  refine r_pv rfl rfl (zsa Try.underlying43 rfl ty41 rfl rfl)<|r_pv rfl rfl (zd rfl)<|zj<|ze<|zI ?_
  exact zC Try.results71 (p26,c27) trivial (zq rfl) (by rw [hfin]) (ho:=(.n:PickO _ _ _)) ((.e (j:=0) rfl (by rw [hfin]) .n):SelR _ _ _)
theorem zfc {a:Nat} {b:Nat} {p1:Option Addr} {c1:Nat} {p2:Option Addr} {c2:Nat}:Con Try.prog 70 [.slice p1 ((Big.digs a).length) c1,.slice p2 ((Big.digs b).length) c2] [] [slF (rI .u32) p1 c1 (Big.digs a),slF (rI .u32) p2 c2 (Big.digs b)] (Y:=Unit) (fun y=>True) (fun y=> .int .i64 (Big.cmp (a:Int) (b:Int))) (fun y=>[]) (fun y=>[]):=by
 refine zr Try.func70 rfl rfl rfl (fun c=> ?_)
 show RunC _ _ _ _ _ [(0,.slice p1 ((Big.digs a).length) c1),(1,.slice p2 ((Big.digs b).length) c2)] [] [slF (rI .u32) p1 c1 (Big.digs a),slF (rI .u32) p2 c2 (Big.digs b)]
 refine zca 0 rfl (fun hL0=> ?_)
 refine zca 1 rfl (fun hL1=> ?_)
 refine zi<|zc<|r_pv rfl rfl (zd rfl)<|zj<|ze<|zi<|zi<|zc<|r_pv rfl rfl (zb rfl)<|r_pv rfl rfl (zM Try.underlying41 rfl)<|r_pv rfl rfl (zb rfl)<|r_pv rfl rfl (zM Try.underlying41 rfl)<|r_pv rfl rfl (zIa rfl rfl)<|zj<|ze<|zD rfl (fun hlen=> ?_) (fun hlen=> ?_)
 ·
  refine zi<|zi<|zc<|r_pv rfl rfl (zb rfl)<|r_pv rfl rfl (zM Try.underlying41 rfl)<|r_pv rfl rfl (zb rfl)<|r_pv rfl rfl (zM Try.underlying41 rfl)<|r_pv rfl rfl (zW rfl rfl)<|zj<|ze<|zD rfl (fun hll=> ?_) (fun hll=> ?_)
  ·
   refine zi<|zc<|r_pv rfl rfl (zd rfl)<|zj<|ze<|zI<|zt<|zt ?_
   exact zC Try.results70 () trivial (zq rfl) (by rw [← Big.cmp_len (by omega),Big.cmp_lt (by omega)]) (ho:=(.n:PickO _ _ _)) (.n:SelR _ _ _)
  ·
   refine zA<|ze<|zi<|zc<|r_pv rfl rfl (zd rfl)<|zj<|ze<|zI<|zt ?_
   exact zC Try.results70 () trivial (zq rfl) (by rw [← Big.cmp_len (by omega),Big.cmp_gt (by omega)]) (ho:=(.n:PickO _ _ _)) (.n:SelR _ _ _)
 ·
  replace hlen:(Big.digs a).length=(Big.digs b).length:=by omega
  refine zA<|ze<|zi<|zi<|zc<|r_pv rfl rfl (zb rfl)<|r_pv rfl rfl (zM Try.underlying41 rfl)<|r_pv rfl rfl (zda (z:=((((Big.digs a).length:Nat):Int) - 1)) rfl rfl (w64 (by omega)))<|r_pv rfl rfl (zd rfl)<|zj<|ze<|zz<|zma (X:=Nat) (fun x:Nat=>x≤(Big.digs a).length∧(Big.digs a).drop x=(Big.digs b).drop x) (fun x=>[(5,.int .i64 (((x:Nat):Int) - 1)),(0,.slice p1 ((Big.digs a).length) c1),(1,.slice p2 ((Big.digs b).length) c2)]) (fun x=>[]) (fun x=>[slF (rI .u32) p1 c1 (Big.digs a),slF (rI .u32) p2 c2 (Big.digs b)]) (fun x:Nat=>x) ((Big.digs a).length) (show ((Big.digs a).length)≤(Big.digs a).length∧(Big.digs a).drop ((Big.digs a).length)=(Big.digs b).drop ((Big.digs a).length) from by exact ⟨Nat.le_refl _,by rw [List.drop_length,hlen,List.drop_length]⟩) ((.e rfl (by first|rfl|(congr 1;omega)|simp_all) (.c rfl (.c rfl .n))):SubM _ _) (ho:=(.n:PickO _ _ _)) ((.of [0,1] rfl):SelR _ _ _) ?_
  rintro j hI
  replace hI:j≤(Big.digs a).length∧(Big.digs a).drop j=(Big.digs b).drop j:=hI
  try dsimp only
  obtain ⟨hj,hd⟩:=hI
  refine zi<|zi<|zc<|r_pv rfl rfl (zb rfl)<|r_pv rfl rfl (zya rfl rfl)<|zj<|ze<|zD rfl (fun h1=> ?_) (fun h1=> ?_)
  ·
   obtain ⟨k,rfl⟩:∃k,j=k+1:=⟨j - 1,by omega⟩
   have e2:(((((k+1):Nat):Int) - 1):Int)=((k:Nat):Int):=by omega
   rw [e2]
   refine zA<|ze<|zi<|zz<|zi<|zi<|zja (OW:=[]) (O:=[]) 100000 mixed (.then (.then (.block (.then (.then (.block (.then .ret))))))) (by kernel_rfl)<|d_pv 0 rfl rfl (by kernel_rfl) (by kernel_rfl) rfl rfl (zb rfl)<|d_pv 1 rfl rfl (by kernel_rfl) (by kernel_rfl) rfl rfl (zb rfl)<|zoa (x0:=((Big.digs a).getD k 0)) 2 rfl rfl (by kernel_rfl) (by kernel_rfl) 0 k rfl Try.underlying41 sz101 rfl rfl rfl (by first|rfl|assumption|(simp_all;done)|omega) rfl rfl (gD (d:=0) (by omega)) (fun b3 o4 hok5=> ?_)
   replace hok5:=zw.1 hok5
   refine d_u 3 rfl rfl (by kernel_rfl) (by kernel_rfl) rfl rfl (zl (j:=0) 0 ty101 rfl rfl rfl rfl)<|d_pv 4 rfl rfl (by kernel_rfl) (by kernel_rfl) rfl rfl (zb rfl)<|d_pv 5 rfl rfl (by kernel_rfl) (by kernel_rfl) rfl rfl (zb rfl)<|zoa (x0:=((Big.digs b).getD k 0)) 6 rfl rfl (by kernel_rfl) (by kernel_rfl) 2 k rfl Try.underlying41 sz101 rfl rfl rfl (by first|rfl|assumption|(simp_all;done)|omega) rfl rfl (gD (d:=0) (by omega)) (fun b6 o7 hok8=> ?_)
   replace hok8:=zw.1 hok8
   refine d_u 7 rfl rfl (by kernel_rfl) (by kernel_rfl) rfl rfl (zl (j:=0) 0 ty101 rfl rfl rfl rfl)<|d_pv 8 rfl rfl (by kernel_rfl) (by kernel_rfl) rfl rfl (zW rfl rfl)<|zga (by kernel_rfl)<|ze<|zD rfl (fun hlt=> ?_) (fun hlt=> ?_)
   ·
    refine zi<|zc<|r_pv rfl rfl (zd rfl)<|zj<|ze<|zI<|zt<|zaa<|zt<|zt<|zaa<|zt ?_
    exact zC Try.results70 () trivial (zq rfl) (by rw [← Big.cmp_at hlen (by omega) hd (by omega),Big.cmp_lt (by omega)]) (ho:=(.n:PickO _ _ _)) (.n:SelR _ _ _)
   ·
    refine zA<|ze<|zi<|zja (OW:=[]) (O:=[]) 100000 mixed (.then (.block (.then (.then (.block (.then .ret)))))) (by kernel_rfl)<|d_pv 0 rfl rfl (by kernel_rfl) (by kernel_rfl) rfl rfl (zb rfl)<|d_pv 1 rfl rfl (by kernel_rfl) (by kernel_rfl) rfl rfl (zb rfl)<|zoa (x0:=((Big.digs a).getD k 0)) 2 rfl rfl (by kernel_rfl) (by kernel_rfl) 2 k rfl Try.underlying41 sz101 rfl rfl rfl (by first|rfl|assumption|(simp_all;done)|omega) rfl rfl (gD (d:=0) (by omega)) (fun b9 o10 hok11=> ?_)
    replace hok11:=zw.1 hok11
    refine d_u 3 rfl rfl (by kernel_rfl) (by kernel_rfl) rfl rfl (zl (j:=0) 0 ty101 rfl rfl rfl rfl)<|d_pv 4 rfl rfl (by kernel_rfl) (by kernel_rfl) rfl rfl (zb rfl)<|d_pv 5 rfl rfl (by kernel_rfl) (by kernel_rfl) rfl rfl (zb rfl)<|zoa (x0:=((Big.digs b).getD k 0)) 6 rfl rfl (by kernel_rfl) (by kernel_rfl) 4 k rfl Try.underlying41 sz101 rfl rfl rfl (by first|rfl|assumption|(simp_all;done)|omega) rfl rfl (gD (d:=0) (by omega)) (fun b12 o13 hok14=> ?_)
    replace hok14:=zw.1 hok14
    refine d_u 7 rfl rfl (by kernel_rfl) (by kernel_rfl) rfl rfl (zl (j:=0) 0 ty101 rfl rfl rfl rfl)<|d_pv 8 rfl rfl (by kernel_rfl) (by kernel_rfl) rfl rfl (zwa rfl rfl)<|zga (by kernel_rfl)<|ze<|zD rfl (fun hgt=> ?_) (fun hgt=> ?_)
    ·
     refine zi<|zc<|r_pv rfl rfl (zd rfl)<|zj<|ze<|zI<|zaa<|zt<|zt<|zaa<|zt ?_
     exact zC Try.results70 () trivial (zq rfl) (by rw [← Big.cmp_at hlen (by omega) hd (by omega),Big.cmp_gt (by omega)]) (ho:=(.n:PickO _ _ _)) (.n:SelR _ _ _)
    ·
     refine zA<|zJ<|ze<|zc<|r_pv rfl rfl (zb rfl)<|r_pv rfl rfl (zda (z:=(((k:Nat):Int) - 1)) rfl rfl (w64 (by omega)))<|r_pv rfl rfl (zd rfl)<|zj<|zba k (show k≤(Big.digs a).length∧(Big.digs a).drop k=(Big.digs b).drop k from by exact ⟨by omega,Big.drop_more (by omega) (by omega) hd (by omega)⟩) (by show k<k+1;omega) ((.of rfl):SubM _ _) (ho:=(.n:PickO _ _ _)) ((.of [4,5] rfl):SelR _ _ _)
  ·
   refine zfa<|zm<|zm<|zv<|ze<|zi<|zc<|r_pv rfl rfl (zd rfl)<|zj<|ze<|zI ?_
   have hj0:j=0:=by omega
   subst hj0
   have heq:=Big.cmp_eq (show Big.digs a=Big.digs b by simpa using hd)
   exact zC Try.results70 () trivial (zq rfl) (by rw [heq] <;> simp [Big.cmp]) (ho:=(.n:PickO _ _ _)) (.n:SelR _ _ _)
theorem zGd {s:Bool} {p:Option Addr} {n:Nat} {cap:Nat} {l:List Int} (hn:l.length=n) (hln:n≤1099511627776):Con Try.prog 65 [.agg #[.bool s,.slice p n cap]] [] [slF (rI .u32) p cap l] (Y:=(Option Addr)×Nat) (fun y=>True) (fun y=> .agg #[.bool (decide ((- Big.raw s l)<0)),.slice (y.1) ((Big.digs ((- Big.raw s l).natAbs)).length) (y.2)]) (fun y=>[]) (fun y=>[slF (rI .u32) (y.1) (y.2) (Big.digs ((- Big.raw s l).natAbs))]):=by
 refine zr Try.func65 rfl rfl rfl (fun c=> ?_)
 show RunC _ _ _ _ _ [(0,.agg #[.bool s,.slice p n cap])] [] [slF (rI .u32) p cap l]
 refine zca 0 rfl (fun hL0=> ?_)
 refine zbb 0 rfl (fun hE0=> ?_)
 have hnn:Big.nn l:=fun g hg=>(zw.1 (hE0 g hg)).1
 have hb:Big.ln (Big.raw s l)≤n:=by have:=Big.zab (s:=s) hnn;omega
 unfold Big.ln at hb
 refine zi<|zc<|zS rfl rfl (zX rfl rfl) (fun b1=> ?_)
 refine zS rfl rfl (zG zr43 rfl) (fun b2=> ?_)
 refine zj<|ze<|zi<|zc<|r_u rfl rfl (zh 1 ty43 rfl rfl (.take (.take .nil)))<|zB rfl rfl (.c rfl .n) ce67 (zEa (s:=s) (p:=p) (n:=n) (cap:=cap) (l:=l) (hn:=by assumption) (hln:=by assumption)) (.c (j:=0) rfl .n) ?_
 rintro ⟨p23,c24⟩ -
 dsimp only [List.append_eq,List.nil_append,List.cons_append]
 refine zo 1 rfl rfl rfl rfl rfl sz43 rfl (.take (.take .nil)) (.s .z)<|zj<|ze<|zi<|zc<|r_pv rfl rfl (zg Try.underlying43 rfl sz4 rfl rfl)<|r_u rfl rfl (zf 1 ty4 rfl rfl rfl)<|r_pv rfl rfl (zCb rfl)<|r_pv rfl rfl (zg Try.underlying43 rfl sz41 rfl rfl)<|r_u rfl rfl (zf 1 ty41 rfl rfl rfl)<|zB rfl rfl (.c rfl (.c rfl .n)) ce68 (zXa (s:= !(decide ((Big.raw s l)<0))) (a:=(Big.raw s l).natAbs) (p:=p23) (cap:=c24) (hln:=by first|rfl|assumption|omega|(simp;done)|(simp;omega)|(simp_all;done))) (.c (j:=0) rfl .n) ?_
 rintro ⟨p25,c26⟩ -
 dsimp only [List.append_eq,List.nil_append,List.cons_append]
 refine zo 0 rfl rfl rfl rfl rfl sz43 rfl (.take (.take .nil)) .z<|zj<|ze<|zI ?_
 have hz:Big.sg (!decide (Big.raw s l<0)) ((Big.raw s l).natAbs:Int)= - Big.raw s l:=by rw [Big.sg_not,Big.sg_big]
 exact zC Try.results65 (p25,c26) trivial (zu 0 ty43 rfl rfl (.take (.take .nil))) (by rw [hz]) (ho:=(.n:PickO _ _ _)) ((.e (j:=0) rfl (by rw [hz]) .n):SelR _ _ _)
theorem zze {z:Int} {p:Option Addr} {cap:Nat} (hln:Big.ln z≤1099511627776):Con Try.prog 65 [.agg #[.bool (decide ((z)<0)),.slice (p) ((Big.digs ((z).natAbs)).length) (cap)]] [] [slF (rI .u32) (p) (cap) (Big.digs ((z).natAbs))] (Y:=(Option Addr)×(Nat)) (fun y=>True) (fun y=> .agg #[.bool (decide ((- z)<0)),.slice (y.1) ((Big.digs ((- z).natAbs)).length) (y.2)]) (fun y=>[]) (fun y=>[slF (rI .u32) (y.1) (y.2) (Big.digs ((- z).natAbs))]):=by
  have h:= @zGd (decide ((z)<0)) p (Big.digs (z).natAbs).length cap (Big.digs (z).natAbs) rfl hln
  rw [Big.raw_big] at h
  exact h
theorem zXc {w1:Wd} {x1:Int} (hln:Big.ln x1≤1099511627776):Con Try.prog 65 [.agg #[w1.b,w1.l]] [] [zF w1 (x1)] (Y:=(Wd)) (fun y=>True) (fun y=> .agg #[y.b,y.l]) (fun y=>[]) (fun y=>[zF y (- x1)]):=by
  exact zPb (zSc (fun p c=>zze hln))
theorem zYc {s:Bool} {p:Option Addr} {n:Nat} {cap:Nat} {l:List Int} (hn:l.length=n) (hln:n≤1099511627776):Con Try.prog 64 [.agg #[.bool s,.slice p n cap]] [] [slF (rI .u32) p cap l] (Y:=Unit) (fun y=>True) (fun y=> .int .i64 ((Big.raw s l).sign)) (fun y=>[]) (fun y=>[]):=by
 refine zr Try.func64 rfl rfl rfl (fun c=> ?_)
 show RunC _ _ _ _ _ [(0,.agg #[.bool s,.slice p n cap])] [] [slF (rI .u32) p cap l]
 refine zca 0 rfl (fun hL0=> ?_)
 refine zbb 0 rfl (fun hE0=> ?_)
 have hnn:Big.nn l:=fun g hg=>(zw.1 (hE0 g hg)).1
 refine zi<|zc<|zS rfl rfl (zX rfl rfl) (fun b1=> ?_)
 refine r_pv rfl rfl (zd rfl)<|zj<|ze<|zi<|zc<|r_u rfl rfl (zh 0 ty43 rfl rfl (.take (.take .nil)))<|zB rfl rfl (.c rfl .n) ce67 (zEa (s:=s) (p:=p) (n:=n) (cap:=cap) (l:=l) (hn:=by assumption) (hln:=by assumption)) (.c (j:=0) rfl .n) ?_
 rintro ⟨p22,c23⟩ -
 dsimp only [List.append_eq,List.nil_append,List.cons_append]
 refine zo 0 rfl rfl rfl rfl rfl sz43 rfl (.take (.take .nil)) .z<|zj<|ze<|zi<|zi<|zc<|r_pv rfl rfl (zg Try.underlying43 rfl sz41 rfl rfl)<|r_u rfl rfl (zf 0 ty41 rfl rfl rfl)<|r_pv rfl rfl (zM Try.underlying41 rfl)<|r_pv rfl rfl (zua rfl rfl)<|zj<|ze<|zD rfl (fun h0=> ?_) (fun h0=> ?_)
 ·
  refine zi<|zc<|r_pv rfl rfl (zd rfl)<|zj<|ze<|zI<|zt ?_
  exact zC Try.results64 () trivial (zq rfl) (by rw [show Big.raw s l=0 by have:=Big.len_digs_nil.1 (show (Big.digs (Big.raw s l).natAbs).length=0 by omega);omega];rfl) (ho:=(.n:PickO _ _ _)) (.n:SelR _ _ _)
 ·
  refine zA<|ze<|zi<|zi<|zc<|r_pv rfl rfl (zg Try.underlying43 rfl sz4 rfl rfl)<|r_u rfl rfl (zf 0 ty4 rfl rfl rfl)<|zj<|ze<|zib rfl (fun hs=> ?_) (fun hs=> ?_)
  ·
   refine zi<|zc<|r_pv rfl rfl (zd rfl)<|zj<|ze<|zI<|zt ?_
   exact zC Try.results64 () trivial (zq rfl) (by rw [Int.sign_eq_neg_one_of_neg (by simpa using hs)]) (ho:=(.n:PickO _ _ _)) (.n:SelR _ _ _)
  ·
   refine zA<|ze<|zi<|zc<|r_pv rfl rfl (zd rfl)<|zj<|ze<|zI ?_
   exact zC Try.results64 () trivial (zq rfl) (by rw [Int.sign_eq_one_of_pos (by have h2:¬Big.raw s l<0:=(by simpa using hs);have:(Big.raw s l).natAbs≠0:=(fun e=>h0 (by rw [e];rfl));omega)]) (ho:=(.n:PickO _ _ _)) (.n:SelR _ _ _)
theorem zvc {z:Int} {p:Option Addr} {cap:Nat} (hln:Big.ln z≤1099511627776):Con Try.prog 64 [.agg #[.bool (decide ((z)<0)),.slice (p) ((Big.digs ((z).natAbs)).length) (cap)]] [] [slF (rI .u32) (p) (cap) (Big.digs ((z).natAbs))] (Y:=Unit) (fun y=>True) (fun y=> .int .i64 ((z).sign)) (fun y=>[]) (fun y=>[]):=by
  have h:= @zYc (decide ((z)<0)) p (Big.digs (z).natAbs).length cap (Big.digs (z).natAbs) rfl hln
  rw [Big.raw_big] at h
  exact h
theorem zLb {w1:Wd} {x1:Int} (hln:Big.ln x1≤1099511627776):Con Try.prog 64 [.agg #[w1.b,w1.l]] [] [zF w1 (x1)] (Y:=Unit) (fun y=>True) (fun y=> .int .i64 ((x1).sign)) (fun y=>[]) (fun y=>[]):=by
  exact zSc (fun p c=>zvc hln)
theorem zHd {s:Bool} {p1:Option Addr} {n1:Nat} {c1:Nat} {l1:List Int} {t:Bool} {p2:Option Addr} {n2:Nat} {c2:Nat} {l2:List Int} (hn1:l1.length=n1) (hn2:l2.length=n2) (hm1:n1≤1099511627776) (hm2:n2≤1099511627776):Con Try.prog 45 [.agg #[.bool s,.slice p1 n1 c1],.agg #[.bool t,.slice p2 n2 c2]] [] [slF (rI .u32) p1 c1 l1,slF (rI .u32) p2 c2 l2] (Y:=(Option Addr)×Nat) (fun y=>True) (fun y=> .agg #[.bool (decide ((Big.raw s l1+Big.raw t l2)<0)),.slice (y.1) ((Big.digs ((Big.raw s l1+Big.raw t l2).natAbs)).length) (y.2)]) (fun y=>[]) (fun y=>[slF (rI .u32) (y.1) (y.2) (Big.digs ((Big.raw s l1+Big.raw t l2).natAbs))]):=by
 refine zr Try.func45 rfl rfl rfl (fun c=> ?_)
 show RunC _ _ _ _ _ [(0,.agg #[.bool s,.slice p1 n1 c1]),(1,.agg #[.bool t,.slice p2 n2 c2])] [] [slF (rI .u32) p1 c1 l1,slF (rI .u32) p2 c2 l2]
 refine zca 0 rfl (fun hL0=> ?_)
 refine zbb 0 rfl (fun hE0=> ?_)
 refine zca 1 rfl (fun hL1=> ?_)
 refine zbb 1 rfl (fun hE1=> ?_)
 have hnn1:Big.nn l1:=fun g hg=>(zw.1 (hE0 g hg)).1
 have hnn2:Big.nn l2:=fun g hg=>(zw.1 (hE1 g hg)).1
 have hb1:Big.ln (Big.raw s l1)≤n1:=by have:=Big.zab (s:=s) hnn1;omega
 have hb2:Big.ln (Big.raw t l2)≤n2:=by have:=Big.zab (s:=t) hnn2;omega
 unfold Big.ln at hb1 hb2
 refine zi<|zc<|zS rfl rfl (zX rfl rfl) (fun b1=> ?_)
 refine zS rfl rfl (zX rfl rfl) (fun b2=> ?_)
 refine zS rfl rfl (zG zr43 rfl) (fun b3=> ?_)
 refine zj<|ze<|zi<|zza (.c (i:=2) rfl (.c (i:=1) rfl (.c (i:=0) rfl .n)))<|zja (OW:=[boxA b1 43 [.bool s,.slice p1 n1 c1],boxA b2 43 [.bool t,.slice p2 n2 c2]]) (O:=[boxA b3 43 [wz.b,wz.l]]) 4 mixed (.then .ret) (by kernel_rfl)<|d_uw 0 rfl rfl (by kernel_rfl) (by kernel_rfl) (by kernel_rfl) rfl rfl (zh 0 ty43 rfl rfl (.take (.take .nil)))<|d_uw 2 rfl rfl (by kernel_rfl) (by kernel_rfl) (by kernel_rfl) rfl rfl (zh 1 ty43 rfl rfl (.take (.take .nil)))<|zV 1 (by kernel_rfl) (zT rfl rfl rfl rfl (.c rfl .n) ce67 (zEa (s:=s) (p:=p1) (n:=n1) (cap:=c1) (l:=l1) (hn:=by assumption) (hln:=by assumption)) (.c (j:=0) rfl .n) ?_)
 rintro ⟨p24,c25⟩ -
 dsimp only [List.append_eq,List.nil_append,List.cons_append]
 refine zV 3 (by kernel_rfl) (zT rfl rfl rfl rfl (.c rfl .n) ce67 (zEa (s:=t) (p:=p2) (n:=n2) (cap:=c2) (l:=l2) (hn:=by assumption) (hln:=by assumption)) (.c (j:=2) rfl .n) ?_)
 rintro ⟨p26,c27⟩ -
 dsimp only [List.append_eq,List.nil_append,List.cons_append]
 refine zV 4 (by kernel_rfl) (zL (by kernel_rfl) rfl rfl rfl rfl rfl sz43 rfl (.take (.take .nil)) ?_)
 refine zMa (zna (i:=1) rfl)<|zV 5 (by kernel_rfl) (zL (by kernel_rfl) rfl rfl rfl rfl rfl sz43 rfl (.take (.take .nil)) ?_)
 refine zga (by kernel_rfl)<|ze<|zi<|zi<|zc<|r_pv rfl rfl (zg Try.underlying43 rfl sz4 rfl rfl)<|r_u rfl rfl (zf 1 ty4 rfl rfl rfl)<|r_pv rfl rfl (zg Try.underlying43 rfl sz4 rfl rfl)<|r_u rfl rfl (zf 0 ty4 rfl rfl rfl)<|r_pv rfl rfl (zWb Try.underlying4 rfl rfl)<|zj<|ze<|zD rfl (fun hst=> ?_) (fun hst=> ?_)
 ·
  refine zi<|zza (.c (i:=2) rfl (.c (i:=0) rfl (.c (i:=0) rfl .n)))<|zja (OW:=[boxA b3 43 [wz.b,wz.l]]) (O:=[boxA b2 43 [.bool (decide ((Big.raw t l2)<0)),.slice p26 ((Big.digs ((Big.raw t l2).natAbs)).length) c27],boxA b1 43 [.bool (decide ((Big.raw s l1)<0)),.slice p24 ((Big.digs ((Big.raw s l1).natAbs)).length) c25]]) 8 mixed (.then (.then .ret)) (by kernel_rfl)<|d_pv 0 rfl rfl (by kernel_rfl) (by kernel_rfl) rfl rfl (zg Try.underlying43 rfl sz4 rfl rfl)<|d_uw 1 rfl rfl (by kernel_rfl) (by kernel_rfl) (by kernel_rfl) rfl rfl (zf 2 ty4 rfl rfl rfl)<|d_pv 2 rfl rfl (by kernel_rfl) (by kernel_rfl) rfl rfl (zg Try.underlying43 rfl sz41 rfl rfl)<|d_uw 3 rfl rfl (by kernel_rfl) (by kernel_rfl) (by kernel_rfl) rfl rfl (zf 2 ty41 rfl rfl rfl)<|d_pv 4 rfl rfl (by kernel_rfl) (by kernel_rfl) rfl rfl (zg Try.underlying43 rfl sz41 rfl rfl)<|d_uw 5 rfl rfl (by kernel_rfl) (by kernel_rfl) (by kernel_rfl) rfl rfl (zf 1 ty41 rfl rfl rfl)<|zV 6 (by kernel_rfl) (zT rfl rfl rfl rfl (.c rfl (.c rfl .n)) ce69 (zye (a:=(Big.raw s l1).natAbs) (b:=(Big.raw t l2).natAbs) (p1:=p24) (c1:=c25) (p2:=p26) (c2:=c27) (hb1:=by first|rfl|assumption|omega|(unfold Big.ln;omega)|(simp;done)|(simp;omega)|(simp_all;done)) (hb2:=by first|rfl|assumption|omega|(unfold Big.ln;omega)|(simp;done)|(simp;omega)|(simp_all;done))) (.c (j:=1) rfl (.c (j:=0) rfl .n)) ?_)
  rintro ⟨p38,c39⟩ -
  dsimp only [List.append_eq,List.nil_append,List.cons_append]
  refine zV 7 (by kernel_rfl) (zT rfl rfl rfl rfl (.c rfl (.c rfl .n)) ce68 (zXa (s:=decide ((Big.raw s l1)<0)) (a:=((Big.raw s l1).natAbs)+((Big.raw t l2).natAbs)) (p:=p38) (cap:=c39) (hln:=by have:=Big.len_add (Big.raw s l1).natAbs (Big.raw t l2).natAbs;omega)) (.c (j:=0) rfl .n) ?_)
  rintro ⟨p210,c211⟩ -
  dsimp only [List.append_eq,List.nil_append,List.cons_append]
  refine zV 8 (by kernel_rfl) (zL (by kernel_rfl) rfl rfl rfl rfl rfl sz43 rfl (.take (.take .nil)) ?_)
  refine zga (by kernel_rfl)<|ze<|zI<|zt ?_
  have hz:=Big.add_same hst
  exact zC Try.results45 (p210,c211) trivial (zu 0 ty43 rfl rfl (.take (.take .nil))) (by rw [hz]) (ho:=(.n:PickO _ _ _)) ((.e (j:=0) rfl (by rw [hz]) .n):SelR _ _ _)
 ·
  refine zA<|ze<|zi<|zi<|zc<|r_pv rfl rfl (zg Try.underlying43 rfl sz41 rfl rfl)<|r_u rfl rfl (zf 1 ty41 rfl rfl rfl)<|r_pv rfl rfl (zg Try.underlying43 rfl sz41 rfl rfl)<|r_u rfl rfl (zf 0 ty41 rfl rfl rfl)<|zO rfl rfl (.c rfl (.c rfl .n)) ce70 (zfc (a:=(Big.raw s l1).natAbs) (b:=(Big.raw t l2).natAbs) (p1:=p24) (c1:=c25) (p2:=p26) (c2:=c27)) (.c (j:=1) rfl (.c (j:=0) rfl .n))<|r_pv rfl rfl (zya rfl rfl)<|zj<|ze<|zD rfl (fun hcmp=> ?_) (fun hcmp=> ?_)
  ·
   have hab:(Big.raw t l2).natAbs≤(Big.raw s l1).natAbs:=by have:=Big.cmp_ge.1 hcmp;omega
   refine zi<|zza (.c (i:=2) rfl (.c (i:=0) rfl (.c (i:=0) rfl .n)))<|zja (OW:=[boxA b3 43 [wz.b,wz.l]]) (O:=[boxA b2 43 [.bool (decide ((Big.raw t l2)<0)),.slice p26 ((Big.digs ((Big.raw t l2).natAbs)).length) c27],boxA b1 43 [.bool (decide ((Big.raw s l1)<0)),.slice p24 ((Big.digs ((Big.raw s l1).natAbs)).length) c25]]) 8 mixed (.then (.then .ret)) (by kernel_rfl)<|d_pv 0 rfl rfl (by kernel_rfl) (by kernel_rfl) rfl rfl (zg Try.underlying43 rfl sz4 rfl rfl)<|d_uw 1 rfl rfl (by kernel_rfl) (by kernel_rfl) (by kernel_rfl) rfl rfl (zf 2 ty4 rfl rfl rfl)<|d_pv 2 rfl rfl (by kernel_rfl) (by kernel_rfl) rfl rfl (zg Try.underlying43 rfl sz41 rfl rfl)<|d_uw 3 rfl rfl (by kernel_rfl) (by kernel_rfl) (by kernel_rfl) rfl rfl (zf 2 ty41 rfl rfl rfl)<|d_pv 4 rfl rfl (by kernel_rfl) (by kernel_rfl) rfl rfl (zg Try.underlying43 rfl sz41 rfl rfl)<|d_uw 5 rfl rfl (by kernel_rfl) (by kernel_rfl) (by kernel_rfl) rfl rfl (zf 1 ty41 rfl rfl rfl)<|zV 6 (by kernel_rfl) (zT rfl rfl rfl rfl (.c rfl (.c rfl .n)) ce71 (zwb (a:=(Big.raw s l1).natAbs) (b:=(Big.raw t l2).natAbs) (p1:=p24) (c1:=c25) (p2:=p26) (c2:=c27) (hb1:=by first|rfl|assumption|omega|(unfold Big.ln;omega)|(simp;done)|(simp;omega)|(simp_all;done)) (hb2:=by first|rfl|assumption|omega|(unfold Big.ln;omega)|(simp;done)|(simp;omega)|(simp_all;done)) (hab:=by first|rfl|assumption|omega|(unfold Big.ln;omega)|(simp;done)|(simp;omega)|(simp_all;done))) (.c (j:=1) rfl (.c (j:=0) rfl .n)) ?_)
   rintro ⟨p312,c313⟩ -
   dsimp only [List.append_eq,List.nil_append,List.cons_append]
   refine zV 7 (by kernel_rfl) (zT rfl rfl rfl rfl (.c rfl (.c rfl .n)) ce68 (zXa (s:=decide ((Big.raw s l1)<0)) (a:=((Big.raw s l1).natAbs) - ((Big.raw t l2).natAbs)) (p:=p312) (cap:=c313) (hln:=by have:=Big.len_sub (Big.raw s l1).natAbs (Big.raw t l2).natAbs;omega)) (.c (j:=0) rfl .n) ?_)
   rintro ⟨p214,c215⟩ -
   dsimp only [List.append_eq,List.nil_append,List.cons_append]
   refine zV 8 (by kernel_rfl) (zL (by kernel_rfl) rfl rfl rfl rfl rfl sz43 rfl (.take (.take .nil)) ?_)
   refine zga (by kernel_rfl)<|ze<|zI<|zt ?_
   have hz:=Big.add_ge hst hab
   exact zC Try.results45 (p214,c215) trivial (zu 0 ty43 rfl rfl (.take (.take .nil))) (by rw [hz]) (ho:=(.n:PickO _ _ _)) ((.e (j:=0) rfl (by rw [hz]) .n):SelR _ _ _)
  ·
   have hab:(Big.raw s l1).natAbs≤(Big.raw t l2).natAbs:=by have:¬((Big.raw t l2).natAbs:Int)≤(Big.raw s l1).natAbs:=fun h=>hcmp (Big.cmp_ge.2 h);omega
   refine zA<|ze<|zi<|zza (.c (i:=2) rfl (.c (i:=0) rfl (.c (i:=0) rfl .n)))<|zja (OW:=[boxA b3 43 [wz.b,wz.l]]) (O:=[boxA b2 43 [.bool (decide ((Big.raw t l2)<0)),.slice p26 ((Big.digs ((Big.raw t l2).natAbs)).length) c27],boxA b1 43 [.bool (decide ((Big.raw s l1)<0)),.slice p24 ((Big.digs ((Big.raw s l1).natAbs)).length) c25]]) 8 mixed (.then .ret) (by kernel_rfl)<|d_pv 0 rfl rfl (by kernel_rfl) (by kernel_rfl) rfl rfl (zg Try.underlying43 rfl sz4 rfl rfl)<|d_uw 1 rfl rfl (by kernel_rfl) (by kernel_rfl) (by kernel_rfl) rfl rfl (zf 1 ty4 rfl rfl rfl)<|d_pv 2 rfl rfl (by kernel_rfl) (by kernel_rfl) rfl rfl (zg Try.underlying43 rfl sz41 rfl rfl)<|d_uw 3 rfl rfl (by kernel_rfl) (by kernel_rfl) (by kernel_rfl) rfl rfl (zf 1 ty41 rfl rfl rfl)<|d_pv 4 rfl rfl (by kernel_rfl) (by kernel_rfl) rfl rfl (zg Try.underlying43 rfl sz41 rfl rfl)<|d_uw 5 rfl rfl (by kernel_rfl) (by kernel_rfl) (by kernel_rfl) rfl rfl (zf 2 ty41 rfl rfl rfl)<|zV 6 (by kernel_rfl) (zT rfl rfl rfl rfl (.c rfl (.c rfl .n)) ce71 (zwb (a:=(Big.raw t l2).natAbs) (b:=(Big.raw s l1).natAbs) (p1:=p26) (c1:=c27) (p2:=p24) (c2:=c25) (hb1:=by first|rfl|assumption|omega|(unfold Big.ln;omega)|(simp;done)|(simp;omega)|(simp_all;done)) (hb2:=by first|rfl|assumption|omega|(unfold Big.ln;omega)|(simp;done)|(simp;omega)|(simp_all;done)) (hab:=by first|rfl|assumption|omega|(unfold Big.ln;omega)|(simp;done)|(simp;omega)|(simp_all;done))) (.c (j:=0) rfl (.c (j:=1) rfl .n)) ?_)
   rintro ⟨p316,c317⟩ -
   dsimp only [List.append_eq,List.nil_append,List.cons_append]
   refine zV 7 (by kernel_rfl) (zT rfl rfl rfl rfl (.c rfl (.c rfl .n)) ce68 (zXa (s:=decide ((Big.raw t l2)<0)) (a:=((Big.raw t l2).natAbs) - ((Big.raw s l1).natAbs)) (p:=p316) (cap:=c317) (hln:=by have:=Big.len_sub (Big.raw t l2).natAbs (Big.raw s l1).natAbs;omega)) (.c (j:=0) rfl .n) ?_)
   rintro ⟨p218,c219⟩ -
   dsimp only [List.append_eq,List.nil_append,List.cons_append]
   refine zV 8 (by kernel_rfl) (zL (by kernel_rfl) rfl rfl rfl rfl rfl sz43 rfl (.take (.take .nil)) ?_)
   refine zga (by kernel_rfl)<|ze<|zI ?_
   have hz:=Big.add_lt hst hab
   exact zC Try.results45 (p218,c219) trivial (zu 0 ty43 rfl rfl (.take (.take .nil))) (by rw [hz]) (ho:=(.n:PickO _ _ _)) ((.e (j:=0) rfl (by rw [hz]) .n):SelR _ _ _)
theorem zAe {x1:Int} {x2:Int} {p1:Option Addr} {c1:Nat} {p2:Option Addr} {c2:Nat} (hb1:Big.ln x1≤1099511627776) (hb2:Big.ln x2≤1099511627776):Con Try.prog 45 [.agg #[.bool (decide ((x1)<0)),.slice (p1) ((Big.digs ((x1).natAbs)).length) (c1)],.agg #[.bool (decide ((x2)<0)),.slice (p2) ((Big.digs ((x2).natAbs)).length) (c2)]] [] [slF (rI .u32) (p1) (c1) (Big.digs ((x1).natAbs)),slF (rI .u32) (p2) (c2) (Big.digs ((x2).natAbs))] (Y:=(Option Addr)×(Nat)) (fun y=>True) (fun y=> .agg #[.bool (decide ((x1+x2)<0)),.slice (y.1) ((Big.digs ((x1+x2).natAbs)).length) (y.2)]) (fun y=>[]) (fun y=>[slF (rI .u32) (y.1) (y.2) (Big.digs ((x1+x2).natAbs))]):=by
  have h:= @zHd (decide ((x1)<0)) p1 (Big.digs (x1).natAbs).length c1 (Big.digs (x1).natAbs) (decide ((x2)<0)) p2 (Big.digs (x2).natAbs).length c2 (Big.digs (x2).natAbs) rfl rfl hb1 hb2
  rw [Big.raw_big,Big.raw_big] at h
  exact h
theorem zBe {w1:Wd} {w2:Wd} {x1:Int} {x2:Int} (hb1:Big.ln x1≤1099511627776) (hb2:Big.ln x2≤1099511627776):Con Try.prog 45 [.agg #[w1.b,w1.l],.agg #[w2.b,w2.l]] [] [zF w1 (x1),zF w2 (x2)] (Y:=(Wd)) (fun y=>True) (fun y=> .agg #[y.b,y.l]) (fun y=>[]) (fun y=>[zF y (x1+x2)]):=by
  exact zPb (zsc (fun p1 c1 p2 c2=>zAe hb1 hb2))
theorem zId {s:Bool} {p1:Option Addr} {n1:Nat} {c1:Nat} {l1:List Int} {t:Bool} {p2:Option Addr} {n2:Nat} {c2:Nat} {l2:List Int} (hn1:l1.length=n1) (hn2:l2.length=n2) (hm1:n1≤1099511627776) (hm2:n2≤1099511627776):Con Try.prog 84 [.agg #[.bool s,.slice p1 n1 c1],.agg #[.bool t,.slice p2 n2 c2]] [] [slF (rI .u32) p1 c1 l1,slF (rI .u32) p2 c2 l2] (Y:=(Option Addr)×Nat) (fun y=>True) (fun y=> .agg #[.bool (decide ((Big.raw s l1 - Big.raw t l2)<0)),.slice (y.1) ((Big.digs ((Big.raw s l1 - Big.raw t l2).natAbs)).length) (y.2)]) (fun y=>[]) (fun y=>[slF (rI .u32) (y.1) (y.2) (Big.digs ((Big.raw s l1 - Big.raw t l2).natAbs))]):=by
 refine zr Try.func84 rfl rfl rfl (fun c=> ?_)
 show RunC _ _ _ _ _ [(0,.agg #[.bool s,.slice p1 n1 c1]),(1,.agg #[.bool t,.slice p2 n2 c2])] [] [slF (rI .u32) p1 c1 l1,slF (rI .u32) p2 c2 l2]
 refine zca 0 rfl (fun hL0=> ?_)
 refine zbb 0 rfl (fun hE0=> ?_)
 refine zca 1 rfl (fun hL1=> ?_)
 refine zbb 1 rfl (fun hE1=> ?_)
 have hnn1:Big.nn l1:=fun g hg=>(zw.1 (hE0 g hg)).1
 have hnn2:Big.nn l2:=fun g hg=>(zw.1 (hE1 g hg)).1
 have hb1:Big.ln (Big.raw s l1)≤n1:=by have:=Big.zab (s:=s) hnn1;omega
 have hb2:Big.ln (Big.raw t l2)≤n2:=by have:=Big.zab (s:=t) hnn2;omega
 unfold Big.ln at hb1 hb2
 refine zi<|zc<|zS rfl rfl (zX rfl rfl) (fun b1=> ?_)
 refine zS rfl rfl (zX rfl rfl) (fun b2=> ?_)
 refine zS rfl rfl (zG zr43 rfl) (fun b3=> ?_)
 refine zj<|ze<|zi<|zja (OW:=[boxA b3 43 [wz.b,wz.l]]) (O:=[boxA b2 43 [.bool t,.slice p2 n2 c2],boxA b1 43 [.bool s,.slice p1 n1 c1]]) 4 mixed (.then .ret) (by kernel_rfl)<|d_uw 0 rfl rfl (by kernel_rfl) (by kernel_rfl) (by kernel_rfl) rfl rfl (zh 2 ty43 rfl rfl (.take (.take .nil)))<|d_uw 1 rfl rfl (by kernel_rfl) (by kernel_rfl) (by kernel_rfl) rfl rfl (zh 1 ty43 rfl rfl (.take (.take .nil)))<|zV 2 (by kernel_rfl) (zT rfl rfl rfl rfl (.c rfl .n) ce65 (zGd (s:=t) (p:=p2) (n:=n2) (cap:=c2) (l:=l2) (hn:=by assumption) (hln:=by assumption)) (.c (j:=1) rfl .n) ?_)
 rintro ⟨p24,c25⟩ -
 dsimp only [List.append_eq,List.nil_append,List.cons_append]
 refine zV 3 (by kernel_rfl) (zT rfl rfl rfl rfl (.c rfl (.c rfl .n)) ce45 (zHd (s:=s) (p1:=p1) (n1:=n1) (c1:=c1) (l1:=l1) (t:=decide ((- Big.raw t l2)<0)) (p2:=p24) (n2:=(Big.digs ((- Big.raw t l2).natAbs)).length) (c2:=c25) (l2:=Big.digs ((- Big.raw t l2).natAbs)) (hn1:=by assumption) (hn2:=by first|rfl|assumption|omega|(rw [Int.natAbs_neg];omega)) (hm1:=by assumption) (hm2:=by first|rfl|assumption|omega|(rw [Int.natAbs_neg];omega))) (.c (j:=1) rfl (.c (j:=0) rfl .n)) ?_)
 rintro ⟨p36,c37⟩ -
 dsimp only [List.append_eq,List.nil_append,List.cons_append]
 refine zV 4 (by kernel_rfl) (zL (by kernel_rfl) rfl rfl rfl rfl rfl sz43 rfl (.take (.take .nil)) ?_)
 refine zga (by kernel_rfl)<|ze<|zI ?_
 have hz:Big.raw s l1+Big.raw (decide ((- Big.raw t l2)<0)) (Big.digs (- Big.raw t l2).natAbs)=Big.raw s l1 - Big.raw t l2:=by rw [Big.raw_big];omega
 exact zC Try.results84 (p36,c37) trivial (zu 0 ty43 rfl rfl (.take (.take .nil))) (by rw [hz]) (ho:=(.n:PickO _ _ _)) ((.e (j:=0) rfl (by rw [hz]) .n):SelR _ _ _)
theorem zEb {x1:Int} {x2:Int} {p1:Option Addr} {c1:Nat} {p2:Option Addr} {c2:Nat} (hb1:Big.ln x1≤1099511627776) (hb2:Big.ln x2≤1099511627776):Con Try.prog 84 [.agg #[.bool (decide ((x1)<0)),.slice (p1) ((Big.digs ((x1).natAbs)).length) (c1)],.agg #[.bool (decide ((x2)<0)),.slice (p2) ((Big.digs ((x2).natAbs)).length) (c2)]] [] [slF (rI .u32) (p1) (c1) (Big.digs ((x1).natAbs)),slF (rI .u32) (p2) (c2) (Big.digs ((x2).natAbs))] (Y:=(Option Addr)×(Nat)) (fun y=>True) (fun y=> .agg #[.bool (decide ((x1 - x2)<0)),.slice (y.1) ((Big.digs ((x1 - x2).natAbs)).length) (y.2)]) (fun y=>[]) (fun y=>[slF (rI .u32) (y.1) (y.2) (Big.digs ((x1 - x2).natAbs))]):=by
  have h:= @zId (decide ((x1)<0)) p1 (Big.digs (x1).natAbs).length c1 (Big.digs (x1).natAbs) (decide ((x2)<0)) p2 (Big.digs (x2).natAbs).length c2 (Big.digs (x2).natAbs) rfl rfl hb1 hb2
  rw [Big.raw_big,Big.raw_big] at h
  exact h
theorem zXe {s:Bool} {p1:Option Addr} {n1:Nat} {c1:Nat} {l1:List Int} {t:Bool} {p2:Option Addr} {n2:Nat} {c2:Nat} {l2:List Int} (hn1:l1.length=n1) (hn2:l2.length=n2) (hm1:n1≤1099511627776) (hm2:n2≤1099511627776):Con Try.prog 46 [.agg #[.bool s,.slice p1 n1 c1],.agg #[.bool t,.slice p2 n2 c2]] [] [slF (rI .u32) p1 c1 l1,slF (rI .u32) p2 c2 l2] (Y:=(Option Addr)×Nat) (fun y=>True) (fun y=> .agg #[.bool (decide ((Big.raw s l1*Big.raw t l2)<0)),.slice (y.1) ((Big.digs ((Big.raw s l1*Big.raw t l2).natAbs)).length) (y.2)]) (fun y=>[]) (fun y=>[slF (rI .u32) (y.1) (y.2) (Big.digs ((Big.raw s l1*Big.raw t l2).natAbs))]):=by
 refine zr Try.func46 rfl rfl rfl (fun c=> ?_)
 show RunC _ _ _ _ _ [(0,.agg #[.bool s,.slice p1 n1 c1]),(1,.agg #[.bool t,.slice p2 n2 c2])] [] [slF (rI .u32) p1 c1 l1,slF (rI .u32) p2 c2 l2]
 refine zca 0 rfl (fun hL0=> ?_)
 refine zbb 0 rfl (fun hE0=> ?_)
 refine zca 1 rfl (fun hL1=> ?_)
 refine zbb 1 rfl (fun hE1=> ?_)
 have hnn1:Big.nn l1:=fun g hg=>(zw.1 (hE0 g hg)).1
 have hnn2:Big.nn l2:=fun g hg=>(zw.1 (hE1 g hg)).1
 have hb1:Big.ln (Big.raw s l1)≤n1:=by have:=Big.zab (s:=s) hnn1;omega
 have hb2:Big.ln (Big.raw t l2)≤n2:=by have:=Big.zab (s:=t) hnn2;omega
 unfold Big.ln at hb1 hb2
 have hoa:=Big.digs_ok (Big.raw s l1).natAbs
 have hob:=Big.digs_ok (Big.raw t l2).natAbs
 refine zi<|zc<|zS rfl rfl (zX rfl rfl) (fun b1=> ?_)
 refine zS rfl rfl (zX rfl rfl) (fun b2=> ?_)
 refine zS rfl rfl (zG zr43 rfl) (fun b3=> ?_)
 refine zj<|ze<|zi<|zza (.c (i:=2) rfl (.c (i:=1) rfl (.c (i:=0) rfl .n)))<|zja (OW:=[boxA b1 43 [.bool s,.slice p1 n1 c1],boxA b2 43 [.bool t,.slice p2 n2 c2]]) (O:=[boxA b3 43 [wz.b,wz.l]]) 4 mixed (.then .ret) (by kernel_rfl)<|d_uw 0 rfl rfl (by kernel_rfl) (by kernel_rfl) (by kernel_rfl) rfl rfl (zh 0 ty43 rfl rfl (.take (.take .nil)))<|d_uw 2 rfl rfl (by kernel_rfl) (by kernel_rfl) (by kernel_rfl) rfl rfl (zh 1 ty43 rfl rfl (.take (.take .nil)))<|zV 1 (by kernel_rfl) (zT rfl rfl rfl rfl (.c rfl .n) ce67 (zEa (s:=s) (p:=p1) (n:=n1) (cap:=c1) (l:=l1) (hn:=by assumption) (hln:=by assumption)) (.c (j:=0) rfl .n) ?_)
 rintro ⟨p24,c25⟩ -
 dsimp only [List.append_eq,List.nil_append,List.cons_append]
 refine zV 3 (by kernel_rfl) (zT rfl rfl rfl rfl (.c rfl .n) ce67 (zEa (s:=t) (p:=p2) (n:=n2) (cap:=c2) (l:=l2) (hn:=by assumption) (hln:=by assumption)) (.c (j:=2) rfl .n) ?_)
 rintro ⟨p26,c27⟩ -
 dsimp only [List.append_eq,List.nil_append,List.cons_append]
 refine zV 4 (by kernel_rfl) (zL (by kernel_rfl) rfl rfl rfl rfl rfl sz43 rfl (.take (.take .nil)) ?_)
 refine zMa (zna (i:=1) rfl)<|zV 5 (by kernel_rfl) (zL (by kernel_rfl) rfl rfl rfl rfl rfl sz43 rfl (.take (.take .nil)) ?_)
 refine zga (by kernel_rfl)<|ze<|zi<|zc<|r_pv rfl rfl (zg Try.underlying43 rfl sz41 rfl rfl)<|r_u rfl rfl (zf 1 ty41 rfl rfl rfl)<|r_pv rfl rfl (zM Try.underlying41 rfl)<|r_pv rfl rfl (zg Try.underlying43 rfl sz41 rfl rfl)<|r_u rfl rfl (zf 0 ty41 rfl rfl rfl)<|r_pv rfl rfl (zM Try.underlying41 rfl)<|r_pv rfl rfl (zy (z:=(((((Big.digs ((Big.raw s l1).natAbs)).length)+((Big.digs ((Big.raw t l2).natAbs)).length)):Nat):Int)) rfl rfl (w64 (by omega)))<|zta rfl rfl (zWa (r:=rI .u32) (k:=(((Big.digs ((Big.raw s l1).natAbs)).length)+((Big.digs ((Big.raw t l2).natAbs)).length))) (x0:=0) (γ0:=()) Try.underlying41 inf101 rfl rfl rfl rfl (by omega) (by omega) rfl (fun g _=>by exact zw.2 (by decide)) (by decide)) (fun b8 _=> ?_)
 refine r_pv rfl rfl (zd rfl)<|zj<|ze<|zi<|zi<|zc<|r_pv rfl rfl (zd rfl)<|zj<|ze<|zz<|zma (X:=Nat×(List Int)) (fun x:Nat×(List Int)=>x.1≤(Big.digs (Big.raw s l1).natAbs).length∧x.2.length=(Big.digs (Big.raw s l1).natAbs).length+(Big.digs (Big.raw t l2).natAbs).length∧Big.okL x.2∧(∀k,x.1+(Big.digs (Big.raw t l2).natAbs).length≤k→x.2.getD k 0=0)∧Big.valL x.2=Big.valL ((Big.digs (Big.raw s l1).natAbs).take x.1)*Big.valL (Big.digs (Big.raw t l2).natAbs)) (fun x=>[(6,.int .i64 ((x.1:Nat):Int)),(5,.slice (some ⟨b8,0,none⟩) (((Big.digs ((Big.raw s l1).natAbs)).length)+((Big.digs ((Big.raw t l2).natAbs)).length)) (((Big.digs ((Big.raw s l1).natAbs)).length)+((Big.digs ((Big.raw t l2).natAbs)).length))),(4,.pointer (some ⟨b3,0,none⟩)),(3,.pointer (some ⟨b2,0,none⟩)),(2,.pointer (some ⟨b1,0,none⟩))]) (fun x=>[rowA 101 (rI .u32) (some ⟨b8,0,none⟩) (((Big.digs ((Big.raw s l1).natAbs)).length)+((Big.digs ((Big.raw t l2).natAbs)).length)) (x.2),boxA b2 43 [.bool (decide ((Big.raw t l2)<0)),.slice p26 ((Big.digs ((Big.raw t l2).natAbs)).length) c27],boxA b1 43 [.bool (decide ((Big.raw s l1)<0)),.slice p24 ((Big.digs ((Big.raw s l1).natAbs)).length) c25],boxA b3 43 [wz.b,wz.l]]) (fun x=>[slF (rI .u32) p26 c27 (Big.digs ((Big.raw t l2).natAbs)),slF (rI .u32) p24 c25 (Big.digs ((Big.raw s l1).natAbs)),slF (rI .u32) p1 c1 l1,slF (rI .u32) p2 c2 l2]) (fun x:Nat×(List Int)=>(Big.digs (Big.raw s l1).natAbs).length - x.1) (0,List.replicate ((Big.digs (Big.raw s l1).natAbs).length+(Big.digs (Big.raw t l2).natAbs).length) 0) (show 0≤(Big.digs (Big.raw s l1).natAbs).length∧(List.replicate ((Big.digs (Big.raw s l1).natAbs).length+(Big.digs (Big.raw t l2).natAbs).length) 0).length=(Big.digs (Big.raw s l1).natAbs).length+(Big.digs (Big.raw t l2).natAbs).length∧Big.okL (List.replicate ((Big.digs (Big.raw s l1).natAbs).length+(Big.digs (Big.raw t l2).natAbs).length) 0)∧(∀k,0+(Big.digs (Big.raw t l2).natAbs).length≤k→(List.replicate ((Big.digs (Big.raw s l1).natAbs).length+(Big.digs (Big.raw t l2).natAbs).length) 0).getD k 0=0)∧Big.valL (List.replicate ((Big.digs (Big.raw s l1).natAbs).length+(Big.digs (Big.raw t l2).natAbs).length) 0)=Big.valL ((Big.digs (Big.raw s l1).natAbs).take 0)*Big.valL (Big.digs (Big.raw t l2).natAbs) from by exact ⟨by omega,by simp,Big.okL_zeros _,fun k _=>Big.getD_zeros _ k,by simp [Big.valL_zeros,Big.valL]⟩) ((.e rfl (by first|rfl|(congr 1;omega)|simp_all) (.of rfl)):SubM _ _) (ho:=((.e (i:=0) rfl (by first|rfl|(congr 1;omega)|simp_all) (.of [0,0,0] rfl)):PickO _ _ _)) ((.of [0,1,2,3] rfl):SelR _ _ _) ?_
 rintro ⟨i,os⟩ hI
 replace hI:i≤(Big.digs (Big.raw s l1).natAbs).length∧os.length=(Big.digs (Big.raw s l1).natAbs).length+(Big.digs (Big.raw t l2).natAbs).length∧Big.okL os∧(∀k,i+(Big.digs (Big.raw t l2).natAbs).length≤k→os.getD k 0=0)∧Big.valL os=Big.valL ((Big.digs (Big.raw s l1).natAbs).take i)*Big.valL (Big.digs (Big.raw t l2).natAbs):=hI
 try dsimp only
 obtain ⟨hi,hol,hok,hz,hv⟩:=hI
 have hg1:=Big.okL_getD hoa i
 refine zi<|zi<|zc<|r_pv rfl rfl (zb rfl)<|r_pv rfl rfl (zg Try.underlying43 rfl sz41 rfl rfl)<|r_u rfl rfl (zf 2 ty41 rfl rfl rfl)<|r_pv rfl rfl (zM Try.underlying41 rfl)<|r_pv rfl rfl (zW rfl rfl)<|zj<|ze<|zD rfl (fun h9=> ?_) (fun h9=> ?_)
 ·
  refine zA<|ze<|zi<|zz<|zi<|zc<|r_pv rfl rfl (zd rfl)<|zj<|ze<|zi<|zi<|zc<|r_pv rfl rfl (zd rfl)<|zj<|ze<|zz<|zma (X:=Nat×(List Int)×Int) (fun x:Nat×(List Int)×Int=>x.1≤(Big.digs (Big.raw t l2).natAbs).length∧x.2.1.length=(Big.digs (Big.raw s l1).natAbs).length+(Big.digs (Big.raw t l2).natAbs).length∧Big.okL x.2.1∧0≤x.2.2∧x.2.2<1000000000∧(∀k,i+(Big.digs (Big.raw t l2).natAbs).length≤k→x.2.1.getD k 0=0)∧Big.valL x.2.1+Big.pw (i+x.1)*x.2.2=Big.valL ((Big.digs (Big.raw s l1).natAbs).take i)*Big.valL (Big.digs (Big.raw t l2).natAbs)+Big.pw i*(Big.digs (Big.raw s l1).natAbs).getD i 0*Big.valL ((Big.digs (Big.raw t l2).natAbs).take x.1)) (fun x=>[(7,.int .u64 (x.2.2)),(8,.int .i64 ((x.1:Nat):Int)),(6,.int .i64 ((i:Nat):Int)),(5,.slice (some ⟨b8,0,none⟩) (((Big.digs ((Big.raw s l1).natAbs)).length)+((Big.digs ((Big.raw t l2).natAbs)).length)) (((Big.digs ((Big.raw s l1).natAbs)).length)+((Big.digs ((Big.raw t l2).natAbs)).length))),(4,.pointer (some ⟨b3,0,none⟩)),(3,.pointer (some ⟨b2,0,none⟩)),(2,.pointer (some ⟨b1,0,none⟩))]) (fun x=>[rowA 101 (rI .u32) (some ⟨b8,0,none⟩) (((Big.digs ((Big.raw s l1).natAbs)).length)+((Big.digs ((Big.raw t l2).natAbs)).length)) (x.2.1),boxA b2 43 [.bool (decide ((Big.raw t l2)<0)),.slice p26 ((Big.digs ((Big.raw t l2).natAbs)).length) c27],boxA b1 43 [.bool (decide ((Big.raw s l1)<0)),.slice p24 ((Big.digs ((Big.raw s l1).natAbs)).length) c25],boxA b3 43 [wz.b,wz.l]]) (fun x=>[slF (rI .u32) p26 c27 (Big.digs ((Big.raw t l2).natAbs)),slF (rI .u32) p24 c25 (Big.digs ((Big.raw s l1).natAbs)),slF (rI .u32) p1 c1 l1,slF (rI .u32) p2 c2 l2]) (fun x:Nat×(List Int)×Int=>(Big.digs (Big.raw t l2).natAbs).length - x.1) (0,os,0) (show 0≤(Big.digs (Big.raw t l2).natAbs).length∧os.length=(Big.digs (Big.raw s l1).natAbs).length+(Big.digs (Big.raw t l2).natAbs).length∧Big.okL os∧0≤0∧0<1000000000∧(∀k,i+(Big.digs (Big.raw t l2).natAbs).length≤k→os.getD k 0=0)∧Big.valL os+Big.pw (i+0)*0=Big.valL ((Big.digs (Big.raw s l1).natAbs).take i)*Big.valL (Big.digs (Big.raw t l2).natAbs)+Big.pw i*(Big.digs (Big.raw s l1).natAbs).getD i 0*Big.valL ((Big.digs (Big.raw t l2).natAbs).take 0) from by exact ⟨by omega,hol,hok,by decide,by decide,hz,by rw [hv];simp [Big.valL]⟩) ((.c rfl (.e rfl (by first|rfl|(congr 1;omega)|simp_all) (.of rfl))):SubM _ _) (ho:=((.of [0,0,0,0] rfl):PickO _ _ _)) ((.of [0,1,2,3] rfl):SelR _ _ _) ?_
  rintro ⟨j,os2,cy⟩ hJ
  replace hJ:j≤(Big.digs (Big.raw t l2).natAbs).length∧os2.length=(Big.digs (Big.raw s l1).natAbs).length+(Big.digs (Big.raw t l2).natAbs).length∧Big.okL os2∧0≤cy∧cy<1000000000∧(∀k,i+(Big.digs (Big.raw t l2).natAbs).length≤k→os2.getD k 0=0)∧Big.valL os2+Big.pw (i+j)*cy=Big.valL ((Big.digs (Big.raw s l1).natAbs).take i)*Big.valL (Big.digs (Big.raw t l2).natAbs)+Big.pw i*(Big.digs (Big.raw s l1).natAbs).getD i 0*Big.valL ((Big.digs (Big.raw t l2).natAbs).take j):=hJ
  try dsimp only
  obtain ⟨hj,hol2,hok2,hcy0,hcy1,hz2,hv2⟩:=hJ
  have hg2:=Big.okL_getD hob j
  have hg3:=Big.okL_getD hok2 (i+j)
  have hpq:=Big.mul_lim hg1 hg2
  refine zi<|zi<|zc<|r_pv rfl rfl (zb rfl)<|r_pv rfl rfl (zg Try.underlying43 rfl sz41 rfl rfl)<|r_u rfl rfl (zf 1 ty41 rfl rfl rfl)<|r_pv rfl rfl (zM Try.underlying41 rfl)<|r_pv rfl rfl (zW rfl rfl)<|zj<|ze<|zD rfl (fun h10=> ?_) (fun h10=> ?_)
  ·
   refine zA<|ze<|zi<|zz<|zi<|zja (OW:=[]) (O:=[rowA 101 (rI .u32) (some ⟨b8,0,none⟩) (((Big.digs ((Big.raw s l1).natAbs)).length)+((Big.digs ((Big.raw t l2).natAbs)).length)) os2,boxA b2 43 [.bool (decide ((Big.raw t l2)<0)),.slice p26 ((Big.digs ((Big.raw t l2).natAbs)).length) c27],boxA b1 43 [.bool (decide ((Big.raw s l1)<0)),.slice p24 ((Big.digs ((Big.raw s l1).natAbs)).length) c25],boxA b3 43 [wz.b,wz.l]]) 100000 mixed (.then (.block (.then (.then (.block (.then (.block (.then (.then (.block (.then .ret))))))))))) (by kernel_rfl)<|d_pv 0 rfl rfl (by kernel_rfl) (by kernel_rfl) rfl rfl (zb rfl)<|d_pv 1 rfl rfl (by kernel_rfl) (by kernel_rfl) rfl rfl (zb rfl)<|d_pv 2 rfl rfl (by kernel_rfl) (by kernel_rfl) rfl rfl (zb rfl)<|d_pv 3 rfl rfl (by kernel_rfl) (by kernel_rfl) rfl rfl (zy (z:=(((i+j):Nat):Int)) rfl rfl (w64 (by omega)))<|d_pv 4 rfl rfl (by kernel_rfl) (by kernel_rfl) rfl rfl (zN (j:=(i+j)) Try.underlying41 sz101 rfl rfl rfl (by omega))<|d_vl 5 rfl rfl (by kernel_rfl) (by kernel_rfl) rfl rfl (zU 0 (i+j) rfl ty101 rfl rfl (gD (d:=0) (by omega)) rfl) (fun _ hok11=> ?_)
   replace hok11:=zw.1 hok11
   refine d_pv 6 rfl rfl (by kernel_rfl) (by kernel_rfl) rfl rfl (zx (z:=(os2.getD (i+j) 0)) rfl (by rw [Try.underlying101];rfl) Try.underlying100 (wu64 (by omega)))<|d_pv 7 rfl rfl (by kernel_rfl) (by kernel_rfl) rfl rfl (zg Try.underlying43 rfl sz41 rfl rfl)<|d_u 8 rfl rfl (by kernel_rfl) (by kernel_rfl) rfl rfl (zf 2 ty41 rfl rfl rfl)<|d_pv 9 rfl rfl (by kernel_rfl) (by kernel_rfl) rfl rfl (zb rfl)<|zoa (x0:=((Big.digs ((Big.raw s l1).natAbs)).getD i 0)) 10 rfl rfl (by kernel_rfl) (by kernel_rfl) 1 i rfl Try.underlying41 sz101 rfl rfl rfl (by first|rfl|assumption|(simp;omega)|omega) rfl rfl (gD (d:=0) (by omega)) (fun b12 o13 hok14=> ?_)
   replace hok14:=zw.1 hok14
   refine d_u 11 rfl rfl (by kernel_rfl) (by kernel_rfl) rfl rfl (zl (j:=0) 0 ty101 rfl rfl rfl rfl)<|d_pv 12 rfl rfl (by kernel_rfl) (by kernel_rfl) rfl rfl (zx (z:=((Big.digs ((Big.raw s l1).natAbs)).getD i 0)) rfl (by rw [Try.underlying101];rfl) Try.underlying100 (wu64 (by omega)))<|d_pv 13 rfl rfl (by kernel_rfl) (by kernel_rfl) rfl rfl (zg Try.underlying43 rfl sz41 rfl rfl)<|d_u 14 rfl rfl (by kernel_rfl) (by kernel_rfl) rfl rfl (zf 1 ty41 rfl rfl rfl)<|d_pv 15 rfl rfl (by kernel_rfl) (by kernel_rfl) rfl rfl (zb rfl)<|zoa (x0:=((Big.digs ((Big.raw t l2).natAbs)).getD j 0)) 16 rfl rfl (by kernel_rfl) (by kernel_rfl) 1 j rfl Try.underlying41 sz101 rfl rfl rfl (by first|rfl|assumption|(simp;omega)|omega) rfl rfl (gD (d:=0) (by omega)) (fun b15 o16 hok17=> ?_)
   replace hok17:=zw.1 hok17
   refine d_u 17 rfl rfl (by kernel_rfl) (by kernel_rfl) rfl rfl (zl (j:=0) 0 ty101 rfl rfl rfl rfl)<|d_pv 18 rfl rfl (by kernel_rfl) (by kernel_rfl) rfl rfl (zx (z:=((Big.digs ((Big.raw t l2).natAbs)).getD j 0)) rfl (by rw [Try.underlying101];rfl) Try.underlying100 (wu64 (by omega)))<|d_pv 19 rfl rfl (by kernel_rfl) (by kernel_rfl) rfl rfl (zla (z:=(((Big.digs ((Big.raw s l1).natAbs)).getD i 0)*((Big.digs ((Big.raw t l2).natAbs)).getD j 0))) rfl rfl (wu64 (by omega)))<|d_pv 20 rfl rfl (by kernel_rfl) (by kernel_rfl) rfl rfl (zy (z:=((os2.getD (i+j) 0)+(((Big.digs ((Big.raw s l1).natAbs)).getD i 0)*((Big.digs ((Big.raw t l2).natAbs)).getD j 0)))) rfl rfl (wu64 (by omega)))<|d_pv 21 rfl rfl (by kernel_rfl) (by kernel_rfl) rfl rfl (zb rfl)<|d_pv 22 rfl rfl (by kernel_rfl) (by kernel_rfl) rfl rfl (zy (z:=(((os2.getD (i+j) 0)+(((Big.digs ((Big.raw s l1).natAbs)).getD i 0)*((Big.digs ((Big.raw t l2).natAbs)).getD j 0)))+cy)) rfl rfl (wu64 (by omega)))<|d_pv 23 rfl rfl (by kernel_rfl) (by kernel_rfl) rfl rfl (zd rfl)<|zga (by kernel_rfl)<|ze<|zi<|zc<|r_pv rfl rfl (zb rfl)<|r_pv rfl rfl (zb rfl)<|r_pv rfl rfl (zb rfl)<|r_pv rfl rfl (zy (z:=(((i+j):Nat):Int)) rfl rfl (w64 (by omega)))<|r_pv rfl rfl (zb rfl)<|r_pv rfl rfl (zHa (z:=((((os2.getD (i+j) 0)+(((Big.digs ((Big.raw s l1).natAbs)).getD i 0)*((Big.digs ((Big.raw t l2).natAbs)).getD j 0)))+cy)%1000000000)) rfl rfl (by omega) (remN (by omega) (by omega)))<|r_pv rfl rfl (zx (z:=((((os2.getD (i+j) 0)+(((Big.digs ((Big.raw s l1).natAbs)).getD i 0)*((Big.digs ((Big.raw t l2).natAbs)).getD j 0)))+cy)%1000000000)) rfl (by rw [Try.underlying100];rfl) Try.underlying101 (wu32 (by omega)))<|r_pv rfl rfl (zN (j:=(i+j)) Try.underlying41 sz101 rfl rfl rfl (by omega))<|zxa 0 rfl rfl rfl (zR (j:=(i+j)) (x0:=((((os2.getD (i+j) 0)+(((Big.digs ((Big.raw s l1).natAbs)).getD i 0)*((Big.digs ((Big.raw t l2).natAbs)).getD j 0)))+cy)%1000000000)) (γ0:=()) rfl rfl (by first|omega|(rw [List.length_map];omega)|(simp only [List.length_set];omega)|(simp;done)|(simp;omega)) rfl rfl sz101 (fun _ _=>by exact zw.2 (by omega))) (fun _=> .z) (fun _ _=> ?_)
   refine zj<|ze<|zc<|r_pv rfl rfl (zb rfl)<|r_pv rfl rfl (zGa (z:=((((os2.getD (i+j) 0)+(((Big.digs ((Big.raw s l1).natAbs)).getD i 0)*((Big.digs ((Big.raw t l2).natAbs)).getD j 0)))+cy) / 1000000000)) rfl rfl (by omega) (by rw [quoN (z:=((((os2.getD (i+j) 0)+(((Big.digs ((Big.raw s l1).natAbs)).getD i 0)*((Big.digs ((Big.raw t l2).natAbs)).getD j 0)))+cy) / 1000000000)) (by omega) (by omega)];exact wu64 (by omega)))<|r_pv rfl rfl (zd rfl)<|zj<|zJ<|ze<|zc<|r_pv rfl rfl (zb rfl)<|r_pv rfl rfl (zy (z:=(((j+1):Nat):Int)) rfl rfl (w64 (by omega)))<|r_pv rfl rfl (zd rfl)<|zj<|zba ((j+1),os2.set (i+j) ((os2.getD (i+j) 0+(Big.digs (Big.raw s l1).natAbs).getD i 0*(Big.digs (Big.raw t l2).natAbs).getD j 0+cy)%1000000000),(os2.getD (i+j) 0+(Big.digs (Big.raw s l1).natAbs).getD i 0*(Big.digs (Big.raw t l2).natAbs).getD j 0+cy) / 1000000000) (show (j+1)≤(Big.digs (Big.raw t l2).natAbs).length∧(os2.set (i+j) ((os2.getD (i+j) 0+(Big.digs (Big.raw s l1).natAbs).getD i 0*(Big.digs (Big.raw t l2).natAbs).getD j 0+cy)%1000000000)).length=(Big.digs (Big.raw s l1).natAbs).length+(Big.digs (Big.raw t l2).natAbs).length∧Big.okL (os2.set (i+j) ((os2.getD (i+j) 0+(Big.digs (Big.raw s l1).natAbs).getD i 0*(Big.digs (Big.raw t l2).natAbs).getD j 0+cy)%1000000000))∧0≤((os2.getD (i+j) 0+(Big.digs (Big.raw s l1).natAbs).getD i 0*(Big.digs (Big.raw t l2).natAbs).getD j 0+cy) / 1000000000)∧((os2.getD (i+j) 0+(Big.digs (Big.raw s l1).natAbs).getD i 0*(Big.digs (Big.raw t l2).natAbs).getD j 0+cy) / 1000000000)<1000000000∧(∀k,i+(Big.digs (Big.raw t l2).natAbs).length≤k→(os2.set (i+j) ((os2.getD (i+j) 0+(Big.digs (Big.raw s l1).natAbs).getD i 0*(Big.digs (Big.raw t l2).natAbs).getD j 0+cy)%1000000000)).getD k 0=0)∧Big.valL (os2.set (i+j) ((os2.getD (i+j) 0+(Big.digs (Big.raw s l1).natAbs).getD i 0*(Big.digs (Big.raw t l2).natAbs).getD j 0+cy)%1000000000))+Big.pw (i+(j+1))*((os2.getD (i+j) 0+(Big.digs (Big.raw s l1).natAbs).getD i 0*(Big.digs (Big.raw t l2).natAbs).getD j 0+cy) / 1000000000)=Big.valL ((Big.digs (Big.raw s l1).natAbs).take i)*Big.valL (Big.digs (Big.raw t l2).natAbs)+Big.pw i*(Big.digs (Big.raw s l1).natAbs).getD i 0*Big.valL ((Big.digs (Big.raw t l2).natAbs).take (j+1)) from by exact ⟨by omega,by simpa using hol2,Big.okL_set hok2 (by omega) (by omega),by omega,by omega,fun k hk=>by rw [Big.getD_set_ne (by omega)];exact hz2 k (by omega),Big.mul_step hv2 (by omega) (by omega)⟩) (by show (Big.digs (Big.raw t l2).natAbs).length - (j+1)<(Big.digs (Big.raw t l2).natAbs).length - j;omega) ((.e rfl (by first|rfl|(congr 1;omega)|simp_all) (.of rfl)):SubM _ _) (ho:=((.e (i:=0) rfl (by first|rfl|(congr 1;omega)|simp_all) (.of [0,0,0] rfl)):PickO _ _ _)) ((.of [2,3,4,5] rfl):SelR _ _ _)
  ·
   have hjb:j=(Big.digs (Big.raw t l2).natAbs).length:=by omega
   subst hjb
   have hv3:=hv2
   refine zfa<|zm<|zm<|zv<|ze<|zc<|r_pv rfl rfl (zb rfl)<|r_pv rfl rfl (zb rfl)<|r_pv rfl rfl (zg Try.underlying43 rfl sz41 rfl rfl)<|r_u rfl rfl (zf 1 ty41 rfl rfl rfl)<|r_pv rfl rfl (zM Try.underlying41 rfl)<|r_pv rfl rfl (zy (z:=(((i+((Big.digs ((Big.raw t l2).natAbs)).length)):Nat):Int)) rfl rfl (w64 (by omega)))<|r_pv rfl rfl (zb rfl)<|r_pv rfl rfl (zx (z:=cy) rfl (by rw [Try.underlying100];rfl) Try.underlying101 (wu32 (by omega)))<|r_pv rfl rfl (zN (j:=(i+((Big.digs ((Big.raw t l2).natAbs)).length))) Try.underlying41 sz101 rfl rfl rfl (by omega))<|zxa 0 rfl rfl rfl (zR (j:=(i+((Big.digs ((Big.raw t l2).natAbs)).length))) (x0:=cy) (γ0:=()) rfl rfl (by first|omega|(rw [List.length_map];omega)|(simp only [List.length_set];omega)|(simp;done)|(simp;omega)) rfl rfl sz101 (fun _ _=>by exact zw.2 (by omega))) (fun _=> .z) (fun _ _=> ?_)
   refine zj<|zJ<|ze<|zc<|r_pv rfl rfl (zb rfl)<|r_pv rfl rfl (zy (z:=(((i+1):Nat):Int)) rfl rfl (w64 (by omega)))<|r_pv rfl rfl (zd rfl)<|zj<|zba ((i+1),os2.set (i+(Big.digs (Big.raw t l2).natAbs).length) cy) (show (i+1)≤(Big.digs (Big.raw s l1).natAbs).length∧(os2.set (i+(Big.digs (Big.raw t l2).natAbs).length) cy).length=(Big.digs (Big.raw s l1).natAbs).length+(Big.digs (Big.raw t l2).natAbs).length∧Big.okL (os2.set (i+(Big.digs (Big.raw t l2).natAbs).length) cy)∧(∀k,(i+1)+(Big.digs (Big.raw t l2).natAbs).length≤k→(os2.set (i+(Big.digs (Big.raw t l2).natAbs).length) cy).getD k 0=0)∧Big.valL (os2.set (i+(Big.digs (Big.raw t l2).natAbs).length) cy)=Big.valL ((Big.digs (Big.raw s l1).natAbs).take (i+1))*Big.valL (Big.digs (Big.raw t l2).natAbs) from by exact ⟨by omega,by simpa using hol2,Big.okL_set hok2 (by omega) (by omega),fun k hk=>by rw [Big.getD_set_ne (by omega)];exact hz2 k (by omega),Big.mul_round hv3 (by omega) (hz2 _ (Nat.le_refl _))⟩) (by show (Big.digs (Big.raw s l1).natAbs).length - (i+1)<(Big.digs (Big.raw s l1).natAbs).length - i;omega) ((.of rfl):SubM _ _) (ho:=((.e (i:=0) rfl (by first|rfl|(congr 1;omega)|simp_all) (.of [0,0,0] rfl)):PickO _ _ _)) ((.of [0,1,2,3] rfl):SelR _ _ _)
 ·
  have hia:i=(Big.digs (Big.raw s l1).natAbs).length:=by omega
  have hfin:Big.sg (decide (decide (Big.raw s l1<0)≠decide (Big.raw t l2<0))) (Big.valL os)=Big.raw s l1*Big.raw t l2:=by rw [hv,hia,List.take_length,Big.valL_digs,Big.valL_digs,←Int.natCast_mul,Big.sg_mul,Big.sg_big,Big.sg_big]
  refine zfa<|zm<|zm<|zv<|ze<|zi<|zc<|r_pv rfl rfl (zg Try.underlying43 rfl sz4 rfl rfl)<|r_u rfl rfl (zf 2 ty4 rfl rfl rfl)<|r_pv rfl rfl (zg Try.underlying43 rfl sz4 rfl rfl)<|r_u rfl rfl (zf 1 ty4 rfl rfl rfl)<|r_pv rfl rfl (zLa Try.underlying4 rfl rfl)<|r_pv rfl rfl (zb rfl)<|zea 0 rfl .z<|zB rfl rfl (.c rfl (.c rfl .n)) ce68 (zBa (s:=decide (decide ((Big.raw s l1)<0)≠decide ((Big.raw t l2)<0))) (p:=some ⟨b8,0,none⟩) (n:=(((Big.digs ((Big.raw s l1).natAbs)).length)+((Big.digs ((Big.raw t l2).natAbs)).length))) (cap:=(((Big.digs ((Big.raw s l1).natAbs)).length)+((Big.digs ((Big.raw t l2).natAbs)).length))) (l:=os) (hn:=by first|rfl|assumption|omega|(unfold Big.ln;omega)|(simp;done)|(simp;omega)|(simp_all;done)) (ho:=by exact hok) (hln:=by first|rfl|assumption|omega|(unfold Big.ln;omega)|(simp;done)|(simp;omega)|(simp_all;done))) (.c (j:=0) rfl .n) ?_
  rintro ⟨p218,c219⟩ -
  dsimp only [List.append_eq,List.nil_append,List.cons_append]
  refine zo 3 rfl rfl rfl rfl rfl sz43 rfl (.take (.take .nil)) (.s (.s (.s .z)))<|zj<|ze<|zI ?_
  exact zC Try.results46 (p218,c219) trivial (zu 3 ty43 rfl rfl (.take (.take .nil))) (by rw [hfin]) (ho:=(.n:PickO _ _ _)) ((.e (j:=0) rfl (by rw [hfin]) .n):SelR _ _ _)
theorem zFb {x1:Int} {x2:Int} {p1:Option Addr} {c1:Nat} {p2:Option Addr} {c2:Nat} (hb1:Big.ln x1≤1099511627776) (hb2:Big.ln x2≤1099511627776):Con Try.prog 46 [.agg #[.bool (decide ((x1)<0)),.slice (p1) ((Big.digs ((x1).natAbs)).length) (c1)],.agg #[.bool (decide ((x2)<0)),.slice (p2) ((Big.digs ((x2).natAbs)).length) (c2)]] [] [slF (rI .u32) (p1) (c1) (Big.digs ((x1).natAbs)),slF (rI .u32) (p2) (c2) (Big.digs ((x2).natAbs))] (Y:=(Option Addr)×(Nat)) (fun y=>True) (fun y=> .agg #[.bool (decide ((x1*x2)<0)),.slice (y.1) ((Big.digs ((x1*x2).natAbs)).length) (y.2)]) (fun y=>[]) (fun y=>[slF (rI .u32) (y.1) (y.2) (Big.digs ((x1*x2).natAbs))]):=by
  have h:= @zXe (decide ((x1)<0)) p1 (Big.digs (x1).natAbs).length c1 (Big.digs (x1).natAbs) (decide ((x2)<0)) p2 (Big.digs (x2).natAbs).length c2 (Big.digs (x2).natAbs) rfl rfl hb1 hb2
  rw [Big.raw_big,Big.raw_big] at h
  exact h
theorem zgc {w1:Wd} {w2:Wd} {x1:Int} {x2:Int} (hb1:Big.ln x1≤1099511627776) (hb2:Big.ln x2≤1099511627776):Con Try.prog 46 [.agg #[w1.b,w1.l],.agg #[w2.b,w2.l]] [] [zF w1 (x1),zF w2 (x2)] (Y:=(Wd)) (fun y=>True) (fun y=> .agg #[y.b,y.l]) (fun y=>[]) (fun y=>[zF y (x1*x2)]):=by
  exact zPb (zsc (fun p1 c1 p2 c2=>zFb hb1 hb2))
end Go.Proofs.Ytefbbhiaalcjfaa.Sp
namespace Go.Proofs.Ytefbbhiaalcjfaa.Sp
open Go
set_option linter.unusedVariables false
set_option maxRecDepth 100000
set_option maxHeartbeats 8000000
theorem zAb {a:Nat} {d:Nat} {p0:Option Addr} {cap:Nat} (hb:(Big.digs a).length≤1099511627776) (hd:d<1000000000):Con Try.prog 94 [.slice p0 ((Big.digs a).length) cap,.int .u64 ((d:Nat):Int)] [] [slF (rI .u32) p0 cap (Big.digs a)] (Y:=(Option Addr)×Nat) (fun y=>True) (fun y=> .slice (y.1) ((Big.digs (a*d)).length) (y.2)) (fun y=>[]) (fun y=>[slF (rI .u32) (y.1) (y.2) (Big.digs (a*d))]):=by
 refine zr Try.func94 rfl rfl rfl (fun c=> ?_)
 show RunC _ _ _ _ _ [(0,.slice p0 ((Big.digs a).length) cap),(1,.int .u64 ((d:Nat):Int))] [] [slF (rI .u32) p0 cap (Big.digs a)]
 refine zca 0 rfl (fun hL0=> ?_)
 refine zi<|zc<|r_pv rfl rfl (zd rfl)<|zj<|ze<|zi<|zc<|zta rfl rfl (zqa (rI .u32) Try.underlying41 inf101) (fun b1 _=> ?_)
 refine r_pv rfl rfl (zd rfl)<|zj<|ze<|zi<|zc<|r_pv rfl rfl (zd rfl)<|zj<|ze<|zi<|zi<|zc<|r_pv rfl rfl (zd rfl)<|zj<|ze<|zz<|zma (X:=Nat×(Option Addr)×Nat×(List Int)×Int) (fun x:Nat×(Option Addr)×Nat×(List Int)×Int=>Big.ScI (Big.digs a) (d:Int) x.1 x.2.2.2.1 x.2.2.2.2) (fun x=>[(6,.int .u64 (x.2.2.2.2)),(5,.slice (x.2.1) (x.2.2.2.1.length) (x.2.2.1)),(7,.int .i64 ((x.1:Nat):Int)),(4,.slice none 0 0),(0,.slice p0 ((Big.digs a).length) cap),(1,.int .u64 ((d:Nat):Int))]) (fun x=>[rowA 101 (rI .u32) (x.2.1) (x.2.2.1) (x.2.2.2.1)]) (fun x=>[slF (rI .u32) p0 cap (Big.digs a)]) (fun x:Nat×(Option Addr)×Nat×(List Int)×Int=>(Big.digs a).length - x.1) (0,some ⟨b1,0,none⟩,0,[],0) (show Big.ScI (Big.digs a) (d:Int) 0 ([]) 0 from by exact Big.ScI.start _ _) ((.c rfl (.e rfl (by first|rfl|(congr 1;omega)|simp_all) (.e rfl (by first|rfl|(congr 1;omega)|simp_all) (.of rfl)))):SubM _ _) (ho:=((.c (i:=0) rfl .n):PickO _ _ _)) ((.c (j:=0) rfl .n):SelR _ _ _) ?_
 rintro ⟨i,p,c,os,cy⟩ hI
 replace hI:Big.ScI (Big.digs a) (d:Int) i os cy:=hI
 try dsimp only
 have hi:=hI.le
 have hol:=hI.len
 have hc0:=hI.c0
 have hc1:=hI.c1
 have hg:=Big.okL_getD (Big.digs_ok a) i
 have hsl:=Big.sc_lim hg (show 0≤(d:Int)∧(d:Int)<1000000000 by omega) ⟨hc0,hc1⟩
 refine zi<|zi<|zc<|r_pv rfl rfl (zb rfl)<|r_pv rfl rfl (zb rfl)<|r_pv rfl rfl (zM Try.underlying41 rfl)<|r_pv rfl rfl (zW rfl rfl)<|zj<|ze<|zD rfl (fun h2=> ?_) (fun h2=> ?_)
 ·
  refine zA<|ze<|zi<|zz<|zi<|zc<|r_pv rfl rfl (zb rfl)<|r_pv rfl rfl (zb rfl)<|zQ (x0:=((Big.digs a).getD i 0)) 0 i rfl Try.underlying41 sz101 rfl rfl rfl (by first|rfl|assumption|(simp;done)|(simp;omega)|omega) rfl rfl (gD (d:=0) (by omega)) (fun b3 o4 hok5=> ?_)
  replace hok5:=zw.1 hok5
  refine r_u rfl rfl (zl (j:=0) 0 ty101 rfl rfl rfl rfl)<|r_pv rfl rfl (zx (z:=((Big.digs a).getD i 0)) rfl (by rw [Try.underlying101];rfl) Try.underlying100 (wu64 (by omega)))<|r_pv rfl rfl (zb rfl)<|r_pv rfl rfl (zla (z:=(((Big.digs a).getD i 0)*((d:Nat):Int))) rfl rfl (wu64 (by omega)))<|r_pv rfl rfl (zb rfl)<|r_pv rfl rfl (zy (z:=((((Big.digs a).getD i 0)*((d:Nat):Int))+cy)) rfl rfl (wu64 (by omega)))<|r_pv rfl rfl (zd rfl)<|zj<|ze<|zi<|zc<|r_pv rfl rfl (zb rfl)<|r_pv rfl rfl (zb rfl)<|r_pv rfl rfl (zHa (z:=(((((Big.digs a).getD i 0)*((d:Nat):Int))+cy)%1000000000)) rfl rfl (by omega) (remN (by omega) (by omega)))<|r_pv rfl rfl (zx (z:=(((((Big.digs a).getD i 0)*((d:Nat):Int))+cy)%1000000000)) rfl (by rw [Try.underlying100];rfl) Try.underlying101 (wu32 (by omega)))<|zta rfl rfl (zE (enc:=fun z:Int=>[.int .u32 z]) (ok:=InK .u32) (h1:=fun _=>rfl) (h2:=fun _=>rfl) (k:=1) Try.underlying41 inf101 rfl (by decide) (by decide) (by decide) (.c (x:=(((((Big.digs a).getD i 0)*((d:Nat):Int))+cy)%1000000000)) rfl rfl (fun _ _=>by exact zw.2 (by omega)) .n)) (fun b6 _=> ?_)
  refine zea 0 rfl .z<|zxa 1 rfl rfl rfl (zra 0 rfl Try.underlying41 inf101 (by decide) rfl rfl (by first|rfl|assumption|(simp;done)|(simp;omega)|omega) rfl (by first|rfl|assumption|(simp;done)|(simp;omega)|omega) (by omega) (by omega)) (fun _=>(.s .z)) ?_
  rintro ⟨p7,c8⟩ -
  dsimp only [List.append_eq,List.nil_append,List.cons_append]
  refine r_pv rfl rfl (zd rfl)<|zj<|ze<|zc<|r_pv rfl rfl (zb rfl)<|r_pv rfl rfl (zGa (z:=(((((Big.digs a).getD i 0)*((d:Nat):Int))+cy) / 1000000000)) rfl rfl (by omega) (by rw [quoN (z:=(((((Big.digs a).getD i 0)*((d:Nat):Int))+cy) / 1000000000)) (by omega) (by omega)];exact wu64 (by omega)))<|r_pv rfl rfl (zd rfl)<|zj<|zJ<|ze<|zc<|r_pv rfl rfl (zb rfl)<|r_pv rfl rfl (zy (z:=(((i+1):Nat):Int)) rfl rfl (w64 (by omega)))<|r_pv rfl rfl (zd rfl)<|zj<|zba ((i+1),p7,c8,os++[((Big.digs a).getD i 0*(d:Int)+cy)%1000000000],((Big.digs a).getD i 0*(d:Int)+cy) / 1000000000) (show Big.ScI (Big.digs a) (d:Int) (i+1) (os++[((Big.digs a).getD i 0*(d:Int)+cy)%1000000000]) (((Big.digs a).getD i 0*(d:Int)+cy) / 1000000000) from by exact hI.step (Big.digs_ok a) (by omega) (by omega)) (by show (Big.digs a).length - (i+1)<(Big.digs a).length - i;omega) ((.e rfl (by first|rfl|(congr 1;omega)|simp_all) (.e rfl (by simp) (.of rfl))):SubM _ _) (ho:=((.e (i:=1) rfl (by first|rfl|(congr 1;omega)|simp_all) .n):PickO _ _ _)) ((.c (j:=2) rfl .n):SelR _ _ _)
 ·
  obtain ⟨hok2,hfin⟩:=hI.fin (by omega)
  refine zfa<|zm<|zm<|zv<|ze<|zi<|zc<|r_pv rfl rfl (zb rfl)<|r_pv rfl rfl (zb rfl)<|r_pv rfl rfl (zx (z:=cy) rfl (by rw [Try.underlying100];rfl) Try.underlying101 (wu32 (by omega)))<|zta rfl rfl (zE (enc:=fun z:Int=>[.int .u32 z]) (ok:=InK .u32) (h1:=fun _=>rfl) (h2:=fun _=>rfl) (k:=1) Try.underlying41 inf101 rfl (by decide) (by decide) (by decide) (.c (x:=cy) rfl rfl (fun _ _=>by exact zw.2 (by omega)) .n)) (fun b9 _=> ?_)
  refine zea 0 rfl .z<|zxa 1 rfl rfl rfl (zra 0 rfl Try.underlying41 inf101 (by decide) rfl rfl (by first|rfl|assumption|(simp;done)|(simp;omega)|omega) rfl (by first|rfl|assumption|(simp;done)|(simp;omega)|omega) (by omega) (by omega)) (fun _=>(.s .z)) ?_
  rintro ⟨p10,c11⟩ -
  dsimp only [List.append_eq,List.nil_append,List.cons_append]
  refine zea 1 rfl (.s .z)<|zB rfl rfl (.c rfl (.c rfl .n)) ce68 (zBa (s:=false) (p:=p10) (n:=os.length+1) (cap:=c11) (l:=(os++([cy]))) (hn:=by first|rfl|omega|(simp;done)|(simp;omega)) (ho:=by exact hok2) (hln:=by first|rfl|omega|(simp;done)|(simp;omega))) (.c (j:=0) rfl .n) ?_
  rintro ⟨p212,c213⟩ -
  dsimp only [List.append_eq,List.nil_append,List.cons_append]
  refine r_pv rfl rfl (zsa Try.underlying43 rfl ty41 rfl rfl)<|r_pv rfl rfl (zd rfl)<|zj<|ze<|zI ?_
  have hz:(Big.sg false (Big.valL (os++[cy]))).natAbs=a*d:=by rw [hfin];exact Int.natAbs_natCast _
  exact zC Try.results94 (p212,c213) trivial (zq rfl) (by rw [hz]) (ho:=(.n:PickO _ _ _)) ((.e (j:=0) rfl (by rw [hz]) .n):SelR _ _ _)
theorem zZc {a:Nat} {d:Nat} {p0:Option Addr} {cap:Nat} (hb:(Big.digs a).length≤1099511627776) (hd:d<1000000000):Con Try.prog 95 [.slice p0 ((Big.digs a).length) cap,.int .u32 ((d:Nat):Int)] [] [slF (rI .u32) p0 cap (Big.digs a)] (Y:=(Option Addr)×Nat) (fun y=>True) (fun y=> .slice (y.1) ((Big.digs (a*1000000000+d)).length) (y.2)) (fun y=>[]) (fun y=>[slF (rI .u32) (y.1) (y.2) (Big.digs (a*1000000000+d))]):=by
 refine zr Try.func95 rfl rfl rfl (fun c=> ?_)
 show RunC _ _ _ _ _ [(0,.slice p0 ((Big.digs a).length) cap),(1,.int .u32 ((d:Nat):Int))] [] [slF (rI .u32) p0 cap (Big.digs a)]
 refine zca 0 rfl (fun hL0=> ?_)
 have hok2:Big.okL ([((d:Nat):Int)]++Big.digs a):=Big.okL_cons.2 ⟨by omega,Big.digs_ok a⟩
 have hz:(Big.sg false (Big.valL (((d:Nat):Int) :: Big.digs a))).natAbs=a*1000000000+d:=by rw [Big.sg_abs (Big.valL_nonneg (l:=((d:Nat):Int) :: Big.digs a) hok2)];simp only [Big.valL,Big.valL_digs];omega
 refine zi<|zc<|r_pv rfl rfl (zd rfl)<|zj<|ze<|zi<|zc<|r_pv rfl rfl (zb rfl)<|zta rfl rfl (zE (enc:=fun z:Int=>[.int .u32 z]) (ok:=InK .u32) (h1:=fun _=>rfl) (h2:=fun _=>rfl) (k:=1) Try.underlying41 inf101 rfl (by decide) (by decide) (by decide) (.c (x:=((d:Nat):Int)) rfl rfl (fun _ _=>by exact zw.2 (by omega)) .n)) (fun b1 _=> ?_)
 refine r_pv rfl rfl (zb rfl)<|zxa 0 rfl rfl rfl (zra 0 rfl Try.underlying41 inf101 (by decide) rfl rfl (by first|rfl|assumption|(simp;done)|(simp;omega)|omega) rfl (by first|rfl|assumption|(simp;done)|(simp;omega)|omega) (by omega) (by omega)) (fun _=> .z) ?_
 rintro ⟨p2,c3⟩ -
 dsimp only [List.append_eq,List.nil_append,List.cons_append]
 refine zea 0 rfl .z<|zB rfl rfl (.c rfl (.c rfl .n)) ce68 (zBa (s:=false) (p:=p2) (n:=1+((Big.digs a).length)) (cap:=c3) (l:=(([((d:Nat):Int)])++(Big.digs a))) (hn:=by first|rfl|omega|(simp;done)|(simp;omega)) (ho:=by exact hok2) (hln:=by first|rfl|omega|(simp;done)|(simp;omega))) (.c (j:=0) rfl .n) ?_
 rintro ⟨p24,c25⟩ -
 dsimp only [List.append_eq,List.nil_append,List.cons_append]
 refine r_pv rfl rfl (zsa Try.underlying43 rfl ty41 rfl rfl)<|r_pv rfl rfl (zd rfl)<|zj<|ze<|zI ?_
 exact zC Try.results95 (p24,c25) trivial (zq rfl) (by rw [hz]) (ho:=(.n:PickO _ _ _)) ((.e (j:=0) rfl (by rw [hz]) .n):SelR _ _ _)
theorem zwc {a:Nat} {mm:Nat} {p:Option Addr} {cap:Nat} (hb:(Big.digs a).length≤1099511627776) (hm0:0<mm) (hm1:mm≤1000000000):Con Try.prog 93 [.slice p ((Big.digs a).length) cap,.int .u64 ((mm:Nat):Int)] [] [slF (rI .u32) p cap (Big.digs a)] (Y:=(Option Addr)×Nat) (fun y=>True) (fun y=> .tuple #[.slice (y.1) ((Big.digs (a / mm)).length) (y.2),.int .u64 (((a%mm):Nat):Int)]) (fun y=>[]) (fun y=>[slF (rI .u32) (y.1) (y.2) (Big.digs (a / mm))]):=by
 refine zr Try.func93 rfl rfl rfl (fun c=> ?_)
 show RunC _ _ _ _ _ [(0,.slice p ((Big.digs a).length) cap),(1,.int .u64 ((mm:Nat):Int))] [] [slF (rI .u32) p cap (Big.digs a)]
 refine zca 0 rfl (fun hL0=> ?_)
 refine zi<|zc<|r_pv rfl rfl (zd rfl)<|r_pv rfl rfl (zd rfl)<|zj<|ze<|zi<|zc<|r_pv rfl rfl (zb rfl)<|r_pv rfl rfl (zM Try.underlying41 rfl)<|zta rfl rfl (zWa (r:=rI .u32) (k:=(Big.digs a).length) (x0:=0) (γ0:=()) Try.underlying41 inf101 rfl rfl rfl rfl (by omega) (by omega) rfl (fun g _=>by exact zw.2 (by decide)) (by decide)) (fun b1 _=> ?_)
 refine r_pv rfl rfl (zd rfl)<|zj<|ze<|zi<|zc<|r_pv rfl rfl (zd rfl)<|zj<|ze<|zi<|zi<|zc<|r_pv rfl rfl (zb rfl)<|r_pv rfl rfl (zM Try.underlying41 rfl)<|r_pv rfl rfl (zda (z:=((((Big.digs a).length:Nat):Int) - 1)) rfl rfl (w64 (by omega)))<|r_pv rfl rfl (zd rfl)<|zj<|ze<|zz<|zma (X:=Nat×(List Int)×(List Int)×Int) (fun x:Nat×(List Int)×(List Int)×Int=>x.2.1=List.replicate x.1 0++x.2.2.1∧Big.ShI (Big.digs a) (mm:Int) x.1 x.2.2.1 x.2.2.2) (fun x=>[(7,.int .u64 (x.2.2.2)),(8,.int .i64 (((x.1:Nat):Int) - 1)),(6,.slice (some ⟨b1,0,none⟩) ((Big.digs a).length) ((Big.digs a).length)),(5,.int .u64 0),(4,.slice none 0 0),(0,.slice p ((Big.digs a).length) cap),(1,.int .u64 ((mm:Nat):Int))]) (fun x=>[rowA 101 (rI .u32) (some ⟨b1,0,none⟩) ((Big.digs a).length) (x.2.1)]) (fun x=>[slF (rI .u32) p cap (Big.digs a)]) (fun x:Nat×(List Int)×(List Int)×Int=>x.1) ((Big.digs a).length,(List.replicate (Big.digs a).length 0),([]:List Int),(0:Int)) (show (List.replicate (Big.digs a).length 0)=List.replicate ((Big.digs a).length) 0++([]:List Int)∧Big.ShI (Big.digs a) (mm:Int) ((Big.digs a).length) ([]:List Int) (0:Int) from by exact ⟨by simp,Big.ShI.start (by omega)⟩) ((.e rfl (by first|rfl|(congr 1;omega)|simp_all) (.e rfl (by first|rfl|(congr 1;omega)|simp_all) (.of rfl))):SubM _ _) (ho:=((.e (i:=0) rfl (by first|rfl|(congr 1;omega)|simp_all) .n):PickO _ _ _)) ((.c (j:=0) rfl .n):SelR _ _ _) ?_
 rintro ⟨jj,os,qs,z⟩ hI
 replace hI:os=List.replicate jj 0++qs∧Big.ShI (Big.digs a) (mm:Int) jj qs z:=hI
 try dsimp only
 obtain ⟨hos,hS⟩:=hI
 have hz0:=hS.r0
 have hz1:=hS.r1
 have hkle:=hS.le
 refine zi<|zi<|zc<|r_pv rfl rfl (zb rfl)<|r_pv rfl rfl (zya rfl rfl)<|zj<|ze<|zD rfl (fun h2=> ?_) (fun h2=> ?_)
 ·
  obtain ⟨k,rfl⟩:∃k,jj=k+1:=⟨jj - 1,by omega⟩
  have e3:(((((k+1):Nat):Int) - 1):Int)=((k:Nat):Int):=by omega
  rw [e3]
  have hosl:os.length=(Big.digs a).length:=by rw [hos,List.length_append,List.length_replicate,hS.len];omega
  have hg:=Big.okL_getD (Big.digs_ok a) k
  have hdg:=Big.sh_digit hz0 hz1 hg
  have hrm:=Int.emod_lt_of_pos (z*1000000000+(Big.digs a).getD k 0) (show 0<(mm:Int) by omega)
  have hrm0:=Int.emod_nonneg (z*1000000000+(Big.digs a).getD k 0) (show (mm:Int)≠0 by omega)
  refine zA<|ze<|zi<|zz<|zi<|zc<|r_pv rfl rfl (zb rfl)<|r_pv rfl rfl (zla (z:=(z*1000000000)) rfl rfl (wu64 (by omega)))<|r_pv rfl rfl (zb rfl)<|r_pv rfl rfl (zb rfl)<|zQ (x0:=((Big.digs a).getD k 0)) 0 k rfl Try.underlying41 sz101 rfl rfl rfl (by first|rfl|assumption|(simp;done)|(simp;omega)|omega) rfl rfl (gD (d:=0) (by omega)) (fun b4 o5 hok6=> ?_)
  replace hok6:=zw.1 hok6
  refine r_u rfl rfl (zl (j:=0) 0 ty101 rfl rfl rfl rfl)<|r_pv rfl rfl (zx (z:=((Big.digs a).getD k 0)) rfl (by rw [Try.underlying101];rfl) Try.underlying100 (wu64 (by omega)))<|r_pv rfl rfl (zy (z:=((z*1000000000)+((Big.digs a).getD k 0))) rfl rfl (wu64 (by omega)))<|r_pv rfl rfl (zd rfl)<|zj<|ze<|zi<|zc<|r_pv rfl rfl (zb rfl)<|r_pv rfl rfl (zb rfl)<|r_pv rfl rfl (zb rfl)<|r_pv rfl rfl (zb rfl)<|r_pv rfl rfl (zGa (z:=(((z*1000000000)+((Big.digs a).getD k 0)) / ((mm:Nat):Int))) rfl rfl (by omega) (by rw [quoN (z:=(((z*1000000000)+((Big.digs a).getD k 0)) / ((mm:Nat):Int))) (by omega) (by omega)];exact wu64 (by omega)))<|r_pv rfl rfl (zx (z:=(((z*1000000000)+((Big.digs a).getD k 0)) / ((mm:Nat):Int))) rfl (by rw [Try.underlying100];rfl) Try.underlying101 (wu32 (by omega)))<|r_pv rfl rfl (zN (j:=k) Try.underlying41 sz101 rfl rfl rfl (by omega))<|zxa 0 rfl rfl rfl (zR (j:=k) (x0:=(((z*1000000000)+((Big.digs a).getD k 0)) / ((mm:Nat):Int))) (γ0:=()) rfl rfl (by first|omega|(rw [List.length_map];omega)|(simp only [List.length_set];omega)|(simp;done)|(simp;omega)) rfl rfl sz101 (fun _ _=>by exact zw.2 (by omega))) (fun _=> .z) (fun _ _=> ?_)
  refine zj<|ze<|zc<|r_pv rfl rfl (zb rfl)<|r_pv rfl rfl (zb rfl)<|r_pv rfl rfl (zHa (z:=(((z*1000000000)+((Big.digs a).getD k 0))%((mm:Nat):Int))) rfl rfl (by omega) (remN (by omega) (by omega)))<|r_pv rfl rfl (zd rfl)<|zj<|zJ<|ze<|zc<|r_pv rfl rfl (zb rfl)<|r_pv rfl rfl (zda (z:=(((k:Nat):Int) - 1)) rfl rfl (w64 (by omega)))<|r_pv rfl rfl (zd rfl)<|zj<|zba (k,(os.set k (((z*1000000000)+((Big.digs a).getD k 0)) / ((mm:Nat):Int))),((z*1000000000+(Big.digs a).getD k 0) / (mm:Int) :: qs),((z*1000000000+(Big.digs a).getD k 0)%(mm:Int))) (show (os.set k (((z*1000000000)+((Big.digs a).getD k 0)) / ((mm:Nat):Int)))=List.replicate k 0++((z*1000000000+(Big.digs a).getD k 0) / (mm:Int) :: qs)∧Big.ShI (Big.digs a) (mm:Int) k ((z*1000000000+(Big.digs a).getD k 0) / (mm:Int) :: qs) ((z*1000000000+(Big.digs a).getD k 0)%(mm:Int)) from by exact ⟨by rw [hos];exact Big.pad_set _,hS.step (Big.digs_ok a)⟩) (by show k<k+1;omega) ((.e rfl (by first|rfl|(congr 1;omega)|simp_all) (.of rfl)):SubM _ _) (ho:=((.c (i:=0) rfl .n):PickO _ _ _)) ((.c (j:=1) rfl .n):SelR _ _ _)
 ·
  have hj0:jj=0:=by omega
  have hS0:Big.ShI (Big.digs a) (mm:Int) 0 qs z:=hj0 ▸ hS
  obtain ⟨hf1,hf2⟩:=hS0.fin
  have hoq:os=qs:=by rw [hos,hj0];rfl
  have hok2:Big.okL os:=by rw [hoq];exact hS.ok
  have hosl:os.length=(Big.digs a).length:=by rw [hoq,hS0.len];omega
  have hz9:(Big.sg false (Big.valL os)).natAbs=a / mm:=by rw [hoq,Big.sg_abs (Big.valL_nonneg hS.ok),←Big.valL_trim,hf1,Big.valL_digs];exact Int.toNat_natCast _
  refine zfa<|zm<|zm<|zv<|ze<|zi<|zc<|r_pv rfl rfl (zb rfl)<|zea 0 rfl .z<|zB rfl rfl (.c rfl (.c rfl .n)) ce68 (zBa (s:=false) (p:=some ⟨b1,0,none⟩) (n:=(Big.digs a).length) (cap:=(Big.digs a).length) (l:=os) (hn:=by first|rfl|omega|(simp;done)|(simp;omega)) (ho:=by exact hok2) (hln:=by first|rfl|omega|(simp;done)|(simp;omega))) (.c (j:=0) rfl .n) ?_
  rintro ⟨p27,c28⟩ -
  dsimp only [List.append_eq,List.nil_append,List.cons_append]
  refine r_pv rfl rfl (zsa Try.underlying43 rfl ty41 rfl rfl)<|r_pv rfl rfl (zb rfl)<|r_pv rfl rfl (zd rfl)<|r_pv rfl rfl (zd rfl)<|zj<|ze<|zI ?_
  exact zva Try.results93 (p27,c28) trivial (zq rfl) (zq rfl) (by rw [hz9,hf2]) (ho:=(.n:PickO _ _ _)) ((.e (j:=0) rfl (by rw [hz9]) .n):SelR _ _ _)
theorem zad {a:Nat} {p:Option Addr} {cap:Nat} (hb:(Big.digs a).length≤2):Con Try.prog 83 [.slice p ((Big.digs a).length) cap] [] [slF (rI .u32) p cap (Big.digs a)] (Y:=Unit) (fun y=>True) (fun y=> .int .u64 ((a:Nat):Int)) (fun y=>[]) (fun y=>[]):=by
 refine zr Try.func83 rfl rfl rfl (fun c=> ?_)
 show RunC _ _ _ _ _ [(0,.slice p ((Big.digs a).length) cap)] [] [slF (rI .u32) p cap (Big.digs a)]
 refine zca 0 rfl (fun hL0=> ?_)
 have hpv:=Big.pair_val hb
 have hg0:=Big.okL_getD (Big.digs_ok a) 0
 have hg1:=Big.okL_getD (Big.digs_ok a) 1
 refine zi<|zc<|r_pv rfl rfl (zd rfl)<|zj<|ze<|zi<|zc<|r_pv rfl rfl (zb rfl)<|zO rfl rfl (.c rfl (.c rfl .n)) ce85 (zNa (p:=p) (n:=(Big.digs a).length) (cap:=cap) (l:=Big.digs a) (i:=1) (hn:=by first|rfl|assumption|omega|(simp;done)|(simp;omega)|(simp_all;done)) (hi:=by first|rfl|assumption|omega|(simp;done)|(simp;omega)|(simp_all;done))) (.c (j:=0) rfl .n)<|r_pv rfl rfl (zla (z:=((Big.digs a).getD 1 0*1000000000)) rfl rfl (wu64 (by omega)))<|r_pv rfl rfl (zb rfl)<|zO rfl rfl (.c rfl (.c rfl .n)) ce85 (zNa (p:=p) (n:=(Big.digs a).length) (cap:=cap) (l:=Big.digs a) (i:=0) (hn:=by first|rfl|assumption|omega|(simp;done)|(simp;omega)|(simp_all;done)) (hi:=by first|rfl|assumption|omega|(simp;done)|(simp;omega)|(simp_all;done))) (.c (j:=0) rfl .n)<|r_pv rfl rfl (zy (z:=(((Big.digs a).getD 1 0*1000000000)+(Big.digs a).getD 0 0)) rfl rfl (wu64 (by omega)))<|r_pv rfl rfl (zd rfl)<|zj<|ze<|zI ?_
 exact zC Try.results83 () trivial (zq rfl) (by rw [hpv]) (ho:=(.n:PickO _ _ _)) (.n:SelR _ _ _)
end Go.Proofs.Ytefbbhiaalcjfaa.Sp
namespace Go.Proofs.Ytefbbhiaalcjfaa.Sp
open Go
set_option linter.unusedVariables false
set_option maxRecDepth 100000
set_option maxHeartbeats 8000000
theorem zxc {a:Nat} {b:Nat} {p1:Option Addr} {c1:Nat} {p2:Option Addr} {c2:Nat} (hb1:(Big.digs a).length≤549755813888) (hb2:(Big.digs b).length≤549755813888) (hb0:0<b):Con Try.prog 82 [.slice p1 ((Big.digs a).length) c1,.slice p2 ((Big.digs b).length) c2] [] [slF (rI .u32) p1 c1 (Big.digs a),slF (rI .u32) p2 c2 (Big.digs b)] (Y:=(Option Addr)×Nat×(Option Addr)×Nat) (fun y=>True) (fun y=> .tuple #[.slice (y.1) ((Big.digs (a / b)).length) (y.2.1),.slice (y.2.2.1) ((Big.digs (a%b)).length) (y.2.2.2)]) (fun y=>[]) (fun y=>[slF (rI .u32) (y.1) (y.2.1) (Big.digs (a / b)),slF (rI .u32) (y.2.2.1) (y.2.2.2) (Big.digs (a%b))]):=by
 refine zr Try.func82 rfl rfl rfl (fun c=> ?_)
 show RunC _ _ _ _ _ [(0,.slice p1 ((Big.digs a).length) c1),(1,.slice p2 ((Big.digs b).length) c2)] [] [slF (rI .u32) p1 c1 (Big.digs a),slF (rI .u32) p2 c2 (Big.digs b)]
 refine zca 0 rfl (fun hL0=> ?_)
 refine zca 1 rfl (fun hL1=> ?_)
 have hln0:=Big.zre hb0
 have hob:=Big.okL_getD (Big.digs_ok b) 0
 have hob1:=Big.okL_getD (Big.digs_ok b) ((Big.digs b).length - 1)
 have hdv:=Big.ln_mono' (Nat.div_le_self a b)
 have hdm:=Nat.mod_lt a hb0
 refine zi<|zc<|r_pv rfl rfl (zd rfl)<|r_pv rfl rfl (zd rfl)<|zj<|ze<|zi<|zc<|r_pv rfl rfl (zb rfl)<|r_pv rfl rfl (zM Try.underlying41 rfl)<|r_pv rfl rfl (zd rfl)<|zj<|ze<|zi<|zi<|zc<|r_pv rfl rfl (zb rfl)<|r_pv rfl rfl (zua rfl rfl)<|zj<|ze<|zD rfl (fun hl1=> ?_) (fun hl1=> ?_)
 ·
  have hbd:=Big.one_digit (by omega:(Big.digs b).length=1)
  have hbl:b<1000000000:=by omega
  have hokt:Big.okL [((a%b:Nat):Int)]:=Big.okL_cons.2 ⟨by omega,Big.okL_nil⟩
  have hz3:=Big.made_nat hokt (show Big.valL [((a%b:Nat):Int)]=((a%b:Nat):Int) by simp only [Big.valL];omega)
  refine zi<|zc<|r_pv rfl rfl (zb rfl)<|r_pv rfl rfl (zb rfl)<|zQ (x0:=((Big.digs b).getD 0 0)) 1 0 rfl Try.underlying41 sz101 rfl rfl rfl (by first|rfl|assumption|(simp;done)|(simp;omega)|omega) rfl rfl (gD (d:=0) (by omega)) (fun b1 o2 hok3=> ?_)
  replace hok3:=zw.1 hok3
  refine r_u rfl rfl (zl (j:=0) 0 ty101 rfl rfl rfl rfl)<|r_pv rfl rfl (zx (z:=((Big.digs b).getD 0 0)) rfl (by rw [Try.underlying101];rfl) Try.underlying100 (wu64 (by omega))) ?_
  have e4:(((Big.digs b).getD 0 0):Int)=((b:Nat):Int):=by exact hbd
  rw [e4]
  refine zB rfl rfl (.c rfl (.c rfl .n)) ce93 (zwc (a:=a) (mm:=b) (p:=p1) (cap:=c1) (hb:=by first|rfl|assumption|omega|(simp;done)) (hm0:=by assumption) (hm1:=by first|rfl|assumption|omega|(simp;done))) (.c (j:=1) rfl .n) ?_
  rintro ⟨p25,c26⟩ -
  dsimp only [List.append_eq,List.nil_append,List.cons_append]
  refine r_pv rfl rfl (zb rfl)<|r_pv rfl rfl (zp rfl rfl)<|r_pv rfl rfl (zp rfl rfl)<|r_pv rfl rfl (zd rfl)<|r_pv rfl rfl (zd rfl)<|zj<|ze<|zi<|zc<|r_pv rfl rfl (zb rfl)<|r_pv rfl rfl (zb rfl)<|r_pv rfl rfl (zx (z:=(((a%b):Nat):Int)) rfl (by rw [Try.underlying100];rfl) Try.underlying101 (wu32 (by omega)))<|zta rfl rfl (zE (enc:=fun z:Int=>[.int .u32 z]) (ok:=InK .u32) (h1:=fun _=>rfl) (h2:=fun _=>rfl) (k:=1) Try.underlying41 inf101 rfl (by decide) (by decide) (by decide) (.c (x:=(((a%b):Nat):Int)) rfl rfl (fun _ _=>by exact zw.2 (by omega)) .n)) (fun b7 _=> ?_)
  refine zea 0 rfl .z<|zB rfl rfl (.c rfl (.c rfl .n)) ce68 (zBa (s:=false) (p:=some ⟨b7,0,none⟩) (n:=1) (cap:=1) (l:=[(((a%b):Nat):Int)]) (hn:=by first|rfl|omega|(simp;done)|(simp;omega)) (ho:=by exact hokt) (hln:=by first|rfl|omega|(simp;done)|(simp;omega))) (.c (j:=0) rfl .n) ?_
  rintro ⟨p28,c29⟩ -
  dsimp only [List.append_eq,List.nil_append,List.cons_append]
  refine r_pv rfl rfl (zsa Try.underlying43 rfl ty41 rfl rfl)<|r_pv rfl rfl (zd rfl)<|r_pv rfl rfl (zd rfl)<|zj<|ze<|zI<|zt ?_
  exact zva Try.results82 (p25,c26,p28,c29) trivial (zq rfl) (zq rfl) (by rw [hz3]) (ho:=(.n:PickO _ _ _)) ((.c (j:=2) rfl (.e (j:=0) rfl (by rw [hz3]) .n)):SelR _ _ _)
 ·
  refine zA<|ze<|zi<|zi<|zc<|r_pv rfl rfl (zb rfl)<|r_pv rfl rfl (zb rfl)<|zO rfl rfl (.c rfl (.c rfl .n)) ce70 (zfc (a:=a) (b:=b) (p1:=p1) (c1:=c1) (p2:=p2) (c2:=c2)) (.c (j:=0) rfl (.c (j:=1) rfl .n))<|r_pv rfl rfl (zW rfl rfl)<|zj<|ze<|zD rfl (fun hlt=> ?_) (fun hlt=> ?_)
  ·
   have hab9:¬(b:Int)≤a:=fun h=>by have:=Big.cmp_ge.2 h;omega
   have hab:a<b:=by omega
   refine zi<|zc<|zta rfl rfl (zqa (rI .u32) Try.underlying41 inf101) (fun b10 _=> ?_)
   refine r_pv rfl rfl (zb rfl)<|r_pv rfl rfl (zd rfl)<|r_pv rfl rfl (zd rfl)<|zj<|ze<|zI<|zt ?_
   have hz1:a / b=0:=Nat.div_eq_of_lt hab
   have hz2:a%b=a:=Nat.mod_eq_of_lt hab
   refine zPa 0 rfl .z ?_
   exact zva Try.results82 (some ⟨b10,0,none⟩,0,p1,c1) trivial (zq rfl) (zq rfl) (by rw [hz1,hz2];rfl) (ho:=(.n:PickO _ _ _)) ((.e (j:=0) rfl (by rw [hz1];rfl) (.e (j:=1) rfl (by rw [hz2]) .n)):SelR _ _ _)
  ·
   have hab:b≤a:=by have h9:=Big.cmp_ge.1 (by omega:0≤Big.cmp (a:Int) (b:Int));omega
   have hab2:=Big.ln_mono' hab
   have hq1:0≤1000000000 / ((Big.digs b).getD ((Big.digs b).length - 1) 0+1):=Int.ediv_nonneg (by omega) (by omega)
   have hdt:=Big.digs_top (b:=b) (n:=(Big.digs b).length - 1) (by omega)
   have hq2:1000000000 / ((Big.digs b).getD ((Big.digs b).length - 1) 0+1)≤500000000:=Int.ediv_le_of_le_mul (by omega) (by omega)
   refine zA<|ze<|zi<|zc<|r_pv rfl rfl (zb rfl)<|r_pv rfl rfl (zb rfl)<|r_pv rfl rfl (zda (z:=((((Big.digs b).length - 1):Nat):Int)) rfl rfl (w64 (by omega)))<|zQ (x0:=((Big.digs b).getD ((Big.digs b).length - 1) 0)) 1 ((Big.digs b).length - 1) rfl Try.underlying41 sz101 rfl rfl rfl (by first|rfl|assumption|(simp;done)|(simp;omega)|omega) rfl rfl (gD (d:=0) (by omega)) (fun b11 o12 hok13=> ?_)
   replace hok13:=zw.1 hok13
   refine r_u rfl rfl (zl (j:=0) 0 ty101 rfl rfl rfl rfl)<|r_pv rfl rfl (zx (z:=((Big.digs b).getD ((Big.digs b).length - 1) 0)) rfl (by rw [Try.underlying101];rfl) Try.underlying100 (wu64 (by omega)))<|r_pv rfl rfl (zy (z:=(((Big.digs b).getD ((Big.digs b).length - 1) 0)+1)) rfl rfl (wu64 (by omega)))<|r_pv rfl rfl (zGa (z:=(1000000000 / (((Big.digs b).getD ((Big.digs b).length - 1) 0)+1))) rfl rfl (by omega) (by rw [quoN (z:=(1000000000 / (((Big.digs b).getD ((Big.digs b).length - 1) 0)+1))) (by omega) (by omega)];exact wu64 (by omega)))<|r_pv rfl rfl (zd rfl)<|zj<|ze<|zi ?_
   obtain ⟨s,hs⟩:∃s:Nat,s=(1000000000 / ((Big.digs b).getD ((Big.digs b).length - 1) 0+1)).toNat:=⟨_,rfl⟩
   obtain ⟨hs1,hs2,hs3⟩:=Big.scale_len (n:=(Big.digs b).length - 1) (by omega) hs
   have hsd:=Big.digs_one hs1 (by omega:s<1000000000)
   have hsl:(Big.digs s).length=1:=by rw [hsd];rfl
   have e14:((1000000000 / (((Big.digs b).getD ((Big.digs b).length - 1) 0)+1)):Int)=((s:Nat):Int):=by omega
   rw [e14]
   refine zc<|r_pv rfl rfl (zb rfl)<|r_pv rfl rfl (zb rfl)<|zB rfl rfl (.c rfl (.c rfl .n)) ce94 (zAb (a:=a) (d:=s) (p0:=p1) (cap:=c1) (hb:=by first|rfl|assumption|omega|(simp;done)) (hd:=by first|rfl|assumption|omega|(simp;done))) (.c (j:=1) rfl .n) ?_
   rintro ⟨p315,c316⟩ -
   dsimp only [List.append_eq,List.nil_append,List.cons_append]
   refine r_pv rfl rfl (zb rfl)<|r_pv rfl rfl (zb rfl)<|zB rfl rfl (.c rfl (.c rfl .n)) ce94 (zAb (a:=b) (d:=s) (p0:=p2) (cap:=c2) (hb:=by first|rfl|assumption|omega|(simp;done)) (hd:=by first|rfl|assumption|omega|(simp;done))) (.c (j:=3) rfl .n) ?_
   rintro ⟨p317,c318⟩ -
   dsimp only [List.append_eq,List.nil_append,List.cons_append]
   refine r_pv rfl rfl (zd rfl)<|r_pv rfl rfl (zd rfl)<|zj<|ze<|zi ?_
   obtain ⟨A,hA⟩:∃z,z=a*s:=⟨_,rfl⟩
   rw [← hA]
   obtain ⟨V,hV⟩:∃z,z=b*s:=⟨_,rfl⟩
   rw [← hV]
   refine zca 1 rfl (fun hcA=> ?_)
   have hAl:(Big.digs a).length≤(Big.digs A).length:=by rw [hA];exact Big.len_mul_ge hs1
   have hAl2:(Big.digs A).length≤(Big.digs a).length+1:=by have h8:=Big.len_mul_le a s;rw [hsl] at h8;rw [hA];exact h8
   obtain ⟨m,hm⟩:∃z,(Big.digs V).length=z+1:=⟨(Big.digs b).length - 1,by rw [hV,hs3]⟩
   have hmb:(Big.digs b).length=m+1:=by rw [hV,hs3] at hm;omega
   have e19:((((Big.digs b).length:Nat):Int):Int)=(((m+1):Nat):Int):=by omega
   rw [e19]
   refine zc<|r_pv rfl rfl (zb rfl)<|r_pv rfl rfl (zb rfl)<|r_pv rfl rfl (zM Try.underlying41 rfl)<|r_pv rfl rfl (zb rfl)<|r_pv rfl rfl (zda (z:=((((Big.digs A).length - (m+1)):Nat):Int)) rfl rfl (w64 (by omega)))<|r_pv rfl rfl (zy (z:=((((Big.digs A).length - m):Nat):Int)) rfl rfl (w64 (by omega)))<|r_pv rfl rfl (zBd (lo:=((Big.digs A).length - m)) (hi:=(Big.digs A).length) Try.underlying41 sz101 rfl (.s rfl) .n (.inr ⟨_,rfl⟩) (.inl ⟨rfl,rfl⟩) (by omega) (by omega))<|zpc (zQe 1 rfl ((Big.digs A).length - m) ((Big.digs A).length) (by omega) (by omega)) (fun _ _=> ?_)
   refine zB rfl rfl (.c rfl (.c rfl .n)) ce68 (zBa (s:=false) (p:=(newP p315 c316 ((Big.digs A).length - m) 1)) (n:=((Big.digs A).length) - ((Big.digs A).length - m)) (cap:=(c316 - ((Big.digs A).length - m))) (l:=(((Big.digs A).take ((Big.digs A).length)).drop ((Big.digs A).length - m))) (hn:=by first|rfl|omega|(simp;done)|(simp;omega)) (ho:=by exact Big.okL_drop (Big.okL_take (Big.digs_ok _) _) _) (hln:=by first|rfl|omega|(simp;done)|(simp;omega))) (.c (j:=0) rfl .n) ?_
   rintro ⟨p220,c221⟩ -
   dsimp only [List.append_eq,List.nil_append,List.cons_append]
   refine r_pv rfl rfl (zsa Try.underlying43 rfl ty41 rfl rfl)<|r_pv rfl rfl (zd rfl)<|zj<|ze<|zi ?_
   obtain ⟨R0,hR0⟩:∃z,z=(Big.sg false (Big.valL (((Big.digs A).take ((Big.digs A).length)).drop ((Big.digs A).length - m)))).natAbs:=⟨_,rfl⟩
   rw [← hR0]
   have hpt:Big.PtI A V ((Big.digs A).length - m) [] R0:=Big.PtI.start hm (by omega) (by rw [hR0,List.take_length];have:=Big.valL_nonneg (Big.okL_drop (Big.digs_ok A) ((Big.digs A).length - m));simp only [Big.sg];omega)
   refine zc<|r_pv rfl rfl (zb rfl)<|r_pv rfl rfl (zM Try.underlying41 rfl)<|r_pv rfl rfl (zb rfl)<|r_pv rfl rfl (zda (z:=((((Big.digs A).length - (m+1)):Nat):Int)) rfl rfl (w64 (by omega)))<|r_pv rfl rfl (zy (z:=((((Big.digs A).length - m):Nat):Int)) rfl rfl (w64 (by omega)))<|zta rfl rfl (zWa (r:=rI .u32) (k:=((Big.digs A).length - m)) (x0:=0) (γ0:=()) Try.underlying41 inf101 rfl rfl rfl rfl (by omega) (by omega) rfl (fun g _=>by exact zw.2 (by decide)) (by decide)) (fun b22 _=> ?_)
   refine r_pv rfl rfl (zd rfl)<|zj<|ze<|zi<|zi<|zc<|r_pv rfl rfl (zb rfl)<|r_pv rfl rfl (zM Try.underlying41 rfl)<|r_pv rfl rfl (zb rfl)<|r_pv rfl rfl (zda (z:=((((Big.digs A).length:Nat):Int) - (((m+1):Nat):Int))) rfl rfl (w64 (by omega)))<|r_pv rfl rfl (zd rfl)<|zj<|ze<|zz<|zma (X:=Nat×(List Int)×Nat×(Option Addr)×Nat) (fun x:Nat×(List Int)×Nat×(Option Addr)×Nat=>Big.PtI A V x.1 x.2.1 x.2.2.1∧x.1+x.2.1.length=(Big.digs A).length - m) (fun x=>[(10,.slice (x.2.2.2.1) ((Big.digs (x.2.2.1)).length) (x.2.2.2.2)),(12,.int .i64 (((x.1:Nat):Int) - 1)),(11,.slice (some ⟨b22,0,none⟩) ((Big.digs A).length - m) ((Big.digs A).length - m)),(1,.slice p317 ((Big.digs V).length) c318),(0,.slice p315 ((Big.digs A).length) c316),(9,.int .u64 ((s:Nat):Int)),(6,.int .i64 (((m+1):Nat):Int)),(5,.slice none 0 0),(4,.slice none 0 0)]) (fun x=>[rowA 101 (rI .u32) (some ⟨b22,0,none⟩) ((Big.digs A).length - m) (List.replicate x.1 0++x.2.1)]) (fun x=>[slF (rI .u32) (x.2.2.2.1) (x.2.2.2.2) (Big.digs (x.2.2.1)),slF (rI .u32) p220 c221 (Big.digs R0),slF (rI .u32) (newP p315 c316 ((Big.digs A).length - m) 1) (c316 - ((Big.digs A).length - m)) (((Big.digs A).take ((Big.digs A).length)).drop ((Big.digs A).length - m)),slF (rI .u32) p317 c318 (Big.digs V),slF (rI .u32) p315 c316 (Big.digs A),atF b11 o12 [.int .u32 ((Big.digs b).getD ((Big.digs b).length - 1) 0)],slF (rI .u32) p1 c1 (Big.digs a),slF (rI .u32) p2 c2 (Big.digs b)]) (fun x:Nat×(List Int)×Nat×(Option Addr)×Nat=>x.1) (((Big.digs A).length - m),([]:List Int),R0,p220,c221) (show Big.PtI A V ((Big.digs A).length - m) ([]:List Int) R0∧((Big.digs A).length - m)+([]:List Int).length=(Big.digs A).length - m from by exact ⟨hpt,rfl⟩) ((.e rfl (by first|rfl|(congr 1;omega)|simp_all) (.e rfl (congrArg (Value.int .i64) (by omega)) (.of rfl))):SubM _ _) (ho:=((.e (i:=0) rfl (by simp) .n):PickO _ _ _)) ((.e (j:=0) rfl (by first|rfl|simp_all) (.of [0,1,2,3,4,5,6] rfl)):SelR _ _ _) ?_
   rintro ⟨jj,qs,R,pr,cr⟩ hI
   replace hI:Big.PtI A V jj qs R∧jj+qs.length=(Big.digs A).length - m:=hI
   try dsimp only
   obtain ⟨hP,hql⟩:=hI
   refine zi<|zi<|zc<|r_pv rfl rfl (zb rfl)<|r_pv rfl rfl (zya rfl rfl)<|zj<|ze<|zD rfl (fun hj=> ?_) (fun hj=> ?_)
   ·
    obtain ⟨j,rfl⟩:∃j,jj=j+1:=⟨jj - 1,by omega⟩
    have e23:(((((j+1):Nat):Int) - 1):Int)=((j:Nat):Int):=by omega
    rw [e23]
    have hjle:=hP.le
    have hRV:=hP.lt
    have hdn:=Big.okL_getD (Big.digs_ok A) j
    obtain ⟨d,hd⟩:∃d:Nat,(Big.digs A).getD j 0=(d:Int):=⟨_,(Int.toNat_of_nonneg hdn.1).symm⟩
    have hd9:d<1000000000:=by omega
    have hWlt9:=Big.pt_lim hRV hd9
    have hRl:=Big.ln_mono' (Nat.le_of_lt hRV)
    refine zA<|ze<|zi<|zz<|zi<|zc<|r_pv rfl rfl (zb rfl)<|r_pv rfl rfl (zb rfl)<|r_pv rfl rfl (zb rfl)<|zQ (x0:=((Big.digs A).getD j 0)) 4 j rfl Try.underlying41 sz101 rfl rfl rfl (by first|rfl|assumption|(simp;done)|(simp;omega)|omega) rfl rfl (gD (d:=0) (by omega)) (fun b24 o25 hok26=> ?_)
    replace hok26:=zw.1 hok26
    refine r_u rfl rfl (zl (j:=0) 0 ty101 rfl rfl rfl rfl) ?_
    have e27:(((Big.digs A).getD j 0):Int)=((d:Nat):Int):=by exact hd
    rw [e27]
    refine zB rfl rfl (.c rfl (.c rfl .n)) ce95 (zZc (a:=R) (d:=d) (p0:=pr) (cap:=cr) (hb:=by first|rfl|assumption|omega|(simp;done)) (hd:=by first|rfl|assumption|omega|(simp;done))) (.c (j:=1) rfl .n) ?_
    rintro ⟨p328,c329⟩ -
    dsimp only [List.append_eq,List.nil_append,List.cons_append]
    refine r_pv rfl rfl (zd rfl)<|zj<|ze<|zi ?_
    obtain ⟨W,hW⟩:∃z,z=(R*1000000000+d):=⟨_,rfl⟩
    rw [← hW]
    have hWlt:W<V*1000000000:=by rw [hW];exact hWlt9
    have hWl:=Big.pt_wlen hWlt hm
    have hw1:=Big.okL_getD (Big.digs_ok W) (m+1)
    have hw0:=Big.okL_getD (Big.digs_ok W) m
    have hv0:=Big.okL_getD (Big.digs_ok V) m
    have hg0:0≤(((Big.digs W).getD (m+1) 0*1000000000+(Big.digs W).getD m 0) / ((Big.digs V).getD m 0+1)):=Int.ediv_nonneg (by omega) (by omega)
    have hg1:(((Big.digs W).getD (m+1) 0*1000000000+(Big.digs W).getD m 0) / ((Big.digs V).getD m 0+1))≤1000000000000000000:=Int.le_trans (Int.ediv_le_self _ (by omega)) (by omega)
    refine zja (OW:=[]) (O:=[rowA 101 (rI .u32) (some ⟨b22,0,none⟩) ((Big.digs A).length - m) (List.replicate (j+1) 0++qs)]) 100000 mixed (.then (.block (.then (.then (.block (.then .ret)))))) (by kernel_rfl)<|d_pv 0 rfl rfl (by kernel_rfl) (by kernel_rfl) rfl rfl (zb rfl)<|d_pv 1 rfl rfl (by kernel_rfl) (by kernel_rfl) rfl rfl (zb rfl)<|d_pv 4 rfl rfl (by kernel_rfl) (by kernel_rfl) rfl rfl (zb rfl)<|d_pv 5 rfl rfl (by kernel_rfl) (by kernel_rfl) rfl rfl (zb rfl)<|d_pv 6 rfl rfl (by kernel_rfl) (by kernel_rfl) rfl rfl (zda (z:=((m:Nat):Int)) rfl rfl (w64 (by omega)))<|d_pv 9 rfl rfl (by kernel_rfl) (by kernel_rfl) rfl rfl (zb rfl)<|d_pv 10 rfl rfl (by kernel_rfl) (by kernel_rfl) rfl rfl (zb rfl)<|d_pv 11 rfl rfl (by kernel_rfl) (by kernel_rfl) rfl rfl (zda (z:=((m:Nat):Int)) rfl rfl (w64 (by omega)))<|zoa (x0:=((Big.digs V).getD m 0)) 12 rfl rfl (by kernel_rfl) (by kernel_rfl) 5 m rfl Try.underlying41 sz101 rfl rfl rfl (by first|rfl|assumption|(simp;done)|(simp;omega)|omega) rfl rfl (gD (d:=0) (by omega)) (fun b30 o31 hok32=> ?_)
    replace hok32:=zw.1 hok32
    refine d_u 13 rfl rfl (by kernel_rfl) (by kernel_rfl) rfl rfl (zl (j:=0) 0 ty101 rfl rfl rfl rfl)<|d_pv 14 rfl rfl (by kernel_rfl) (by kernel_rfl) rfl rfl (zx (z:=((Big.digs V).getD m 0)) rfl (by rw [Try.underlying101];rfl) Try.underlying100 (wu64 (by omega)))<|d_pv 15 rfl rfl (by kernel_rfl) (by kernel_rfl) rfl rfl (zy (z:=(((Big.digs V).getD m 0)+1)) rfl rfl (wu64 (by omega)))<|zV 2 (by kernel_rfl) (zhd rfl rfl rfl rfl (.c rfl (.c rfl .n)) ce85 (zNa (p:=p328) (n:=(Big.digs W).length) (cap:=c329) (l:=Big.digs W) (i:=(m+1)) (hn:=by first|rfl|assumption|omega|(simp;done)) (hi:=by first|rfl|assumption|omega|(simp;done))) (.c (j:=1) rfl .n) ?_)
    refine d_pv 3 rfl rfl (by kernel_rfl) (by kernel_rfl) rfl rfl (zla (z:=((Big.digs W).getD (m+1) 0*1000000000)) rfl rfl (wu64 (by omega)))<|zV 7 (by kernel_rfl) (zhd rfl rfl rfl rfl (.c rfl (.c rfl .n)) ce85 (zNa (p:=p328) (n:=(Big.digs W).length) (cap:=c329) (l:=Big.digs W) (i:=m) (hn:=by first|rfl|assumption|omega|(simp;done)) (hi:=by first|rfl|assumption|omega|(simp;done))) (.c (j:=1) rfl .n) ?_)
    refine d_pv 8 rfl rfl (by kernel_rfl) (by kernel_rfl) rfl rfl (zy (z:=(((Big.digs W).getD (m+1) 0*1000000000)+(Big.digs W).getD m 0)) rfl rfl (wu64 (by omega)))<|d_pv 16 rfl rfl (by kernel_rfl) (by kernel_rfl) rfl rfl (zGa (z:=((((Big.digs W).getD (m+1) 0*1000000000)+(Big.digs W).getD m 0) / (((Big.digs V).getD m 0)+1))) rfl rfl (by omega) (by rw [quoN (z:=((((Big.digs W).getD (m+1) 0*1000000000)+(Big.digs W).getD m 0) / (((Big.digs V).getD m 0)+1))) (by omega) (by omega)];exact wu64 (by omega)))<|d_pv 17 rfl rfl (by kernel_rfl) (by kernel_rfl) rfl rfl (zd rfl)<|zga (by kernel_rfl)<|ze<|zi ?_
    obtain ⟨g0,hg9⟩:∃g:Nat,(g:Int)=(((Big.digs W).getD (m+1) 0*1000000000+(Big.digs W).getD m 0) / ((Big.digs V).getD m 0+1)):=⟨_,Int.toNat_of_nonneg hg0⟩
    obtain ⟨hgm,hgl⟩:=Big.pt_guess hWlt hm hg9
    have hVg:=Big.ln_mono' hgm
    have e33:(((((Big.digs W).getD (m+1) 0*1000000000)+(Big.digs W).getD m 0) / (((Big.digs V).getD m 0)+1)):Int)=((g0:Nat):Int):=by exact hg9.symm
    rw [e33]
    refine zc<|r_pv rfl rfl (zb rfl)<|r_pv rfl rfl (zb rfl)<|r_pv rfl rfl (zb rfl)<|zB rfl rfl (.c rfl (.c rfl .n)) ce94 (zAb (a:=V) (d:=g0) (p0:=p317) (cap:=c318) (hb:=by first|rfl|assumption|omega|(simp;done)) (hd:=by first|rfl|assumption|omega|(simp;done))) (.c (j:=6) rfl .n) ?_
    rintro ⟨p334,c335⟩ -
    dsimp only [List.append_eq,List.nil_append,List.cons_append]
    refine zB rfl rfl (.c rfl (.c rfl .n)) ce71 (zwb (a:=W) (b:=V*g0) (p1:=p328) (c1:=c329) (p2:=p334) (c2:=c335) (hb1:=by first|rfl|assumption|omega|(simp;done)) (hb2:=by first|rfl|assumption|omega|(simp;done)) (hab:=by first|rfl|assumption|omega|(simp;done))) (.c (j:=2) rfl (.c (j:=0) rfl .n)) ?_
    rintro ⟨p336,c337⟩ -
    dsimp only [List.append_eq,List.nil_append,List.cons_append]
    refine r_pv rfl rfl (zd rfl)<|zj<|ze<|zi<|zz<|zma (X:=Nat×Nat×(Option Addr)×Nat) (fun x:Nat×Nat×(Option Addr)×Nat=>x.2.1+V*x.1=W) (fun x=>[(10,.slice (x.2.2.1) ((Big.digs (x.2.1)).length) (x.2.2.2)),(13,.int .u64 ((x.1:Nat):Int)),(12,.int .i64 ((j:Nat):Int)),(11,.slice (some ⟨b22,0,none⟩) ((Big.digs A).length - m) ((Big.digs A).length - m)),(1,.slice p317 ((Big.digs V).length) c318),(0,.slice p315 ((Big.digs A).length) c316),(9,.int .u64 ((s:Nat):Int)),(6,.int .i64 (((m+1):Nat):Int)),(5,.slice none 0 0),(4,.slice none 0 0)]) (fun x=>[rowA 101 (rI .u32) (some ⟨b22,0,none⟩) ((Big.digs A).length - m) (List.replicate (j+1) 0++qs)]) (fun x=>[slF (rI .u32) (x.2.2.1) (x.2.2.2) (Big.digs (x.2.1)),slF (rI .u32) p336 c337 (Big.digs (W - (V*g0))),slF (rI .u32) p334 c335 (Big.digs (V*g0)),atF b30 o31 [.int .u32 ((Big.digs V).getD m 0)],slF (rI .u32) p328 c329 (Big.digs W),atF b24 o25 [.int .u32 ((d:Nat):Int)],slF (rI .u32) pr cr (Big.digs R),slF (rI .u32) p220 c221 (Big.digs R0),slF (rI .u32) (newP p315 c316 ((Big.digs A).length - m) 1) (c316 - ((Big.digs A).length - m)) (((Big.digs A).take ((Big.digs A).length)).drop ((Big.digs A).length - m)),slF (rI .u32) p317 c318 (Big.digs V),slF (rI .u32) p315 c316 (Big.digs A),atF b11 o12 [.int .u32 ((Big.digs b).getD ((Big.digs b).length - 1) 0)],slF (rI .u32) p1 c1 (Big.digs a),slF (rI .u32) p2 c2 (Big.digs b)]) (fun x:Nat×Nat×(Option Addr)×Nat=>x.2.1) (g0,(W - V*g0),p336,c337) (show (W - V*g0)+V*g0=W from by exact Nat.sub_add_cancel hgm) ((.e rfl (by first|rfl|(congr 1;omega)|simp_all) (.of rfl)):SubM _ _) (ho:=((.c (i:=0) rfl .n):PickO _ _ _)) ((.e (j:=0) rfl (by first|rfl|simp_all) (.of [0,1,2,3,4,5,6,7,8,9,10,11,12] rfl)):SelR _ _ _) ?_
    rintro ⟨g,r,p9,c9⟩ hJ
    replace hJ:r+V*g=W:=hJ
    try dsimp only
    have hgb:g<1000000000:=Nat.lt_of_mul_lt_mul_left (a:=V) (by omega)
    have hrl:=Big.ln_mono' (show r≤W by omega)
    refine zi<|zi<|zc<|r_pv rfl rfl (zb rfl)<|r_pv rfl rfl (zb rfl)<|zO rfl rfl (.c rfl (.c rfl .n)) ce70 (zfc (a:=r) (b:=V) (p1:=p9) (c1:=c9) (p2:=p317) (c2:=c318)) (.c (j:=0) rfl (.c (j:=9) rfl .n))<|r_pv rfl rfl (zya rfl rfl)<|zj<|ze<|zD rfl (fun hge=> ?_) (fun hge=> ?_)
    ·
     have hrV:V≤r:=by have h9:=Big.cmp_ge.1 hge;omega
     refine zA<|ze<|zz<|zi<|zc<|r_pv rfl rfl (zb rfl)<|r_pv rfl rfl (zb rfl)<|zB rfl rfl (.c rfl (.c rfl .n)) ce71 (zwb (a:=r) (b:=V) (p1:=p9) (c1:=c9) (p2:=p317) (c2:=c318) (hb1:=by first|rfl|assumption|omega|(simp;done)) (hb2:=by first|rfl|assumption|omega|(simp;done)) (hab:=by first|rfl|assumption|omega|(simp;done))) (.c (j:=0) rfl (.c (j:=9) rfl .n)) ?_
     rintro ⟨p338,c339⟩ -
     dsimp only [List.append_eq,List.nil_append,List.cons_append]
     refine r_pv rfl rfl (zd rfl)<|zj<|ze<|zc<|r_pv rfl rfl (zb rfl)<|r_pv rfl rfl (zy (z:=(((g+1):Nat):Int)) rfl rfl (wu64 (by omega)))<|r_pv rfl rfl (zd rfl)<|zj<|zJ<|zba ((g+1),(r - V),p338,c339) (show (r - V)+V*(g+1)=W from by rw [Nat.mul_succ];omega) (by show r - V<r;omega) ((.e rfl (by first|rfl|(congr 1;omega)|simp_all) (.of rfl)):SubM _ _) (ho:=((.c (i:=0) rfl .n):PickO _ _ _)) ((.e (j:=0) rfl (by first|rfl|simp_all) (.of [2,3,4,5,6,7,8,9,10,11,12,13,14] rfl)):SelR _ _ _)
    ·
     have hrV:r<V:=by have h9:¬(V:Int)≤r:=fun h=>hge (Big.cmp_ge.2 h);omega
     have hst:=hP.step hd (by rw [← hW];exact hJ) hrV
     refine zfa<|zm<|zm<|zv<|ze<|zc<|r_pv rfl rfl (zb rfl)<|r_pv rfl rfl (zb rfl)<|r_pv rfl rfl (zb rfl)<|r_pv rfl rfl (zx (z:=((g:Nat):Int)) rfl (by rw [Try.underlying100];rfl) Try.underlying101 (wu32 (by omega)))<|r_pv rfl rfl (zN (j:=j) Try.underlying41 sz101 rfl rfl rfl (by omega))<|zxa 0 rfl rfl rfl (zR (j:=j) (x0:=((g:Nat):Int)) (γ0:=()) rfl rfl (by first|omega|(rw [List.length_map];omega)|(simp only [List.length_set];omega)|(simp;done)|(simp;omega)) rfl rfl sz101 (fun _ _=>by exact zw.2 (by omega))) (fun _=> .z) (fun _ _=> ?_)
     refine zj<|zJ<|ze<|zc<|r_pv rfl rfl (zb rfl)<|r_pv rfl rfl (zda (z:=(((j:Nat):Int) - 1)) rfl rfl (w64 (by omega)))<|r_pv rfl rfl (zd rfl)<|zj<|zba (j,(((g:Nat):Int) :: qs),r,p9,c9) (show Big.PtI A V j (((g:Nat):Int) :: qs) r∧j+(((g:Nat):Int) :: qs).length=(Big.digs A).length - m from by exact ⟨hst,by rw [List.length_cons];omega⟩) (by show j<j+1;omega) ((.of rfl):SubM _ _) (ho:=((.e (i:=0) rfl (by rw [Big.pad_set]) .n):PickO _ _ _)) ((.of [0,7,8,9,10,11,12,13] rfl):SelR _ _ _)
   ·
    have hj0:jj=0:=by omega
    have hI0:Big.PtI A V 0 qs R:=hj0 ▸ hP
    obtain ⟨hf1,hf2⟩:=hI0.fin
    have hsc:=Big.scale_div (a:=a) (b:=b) hs1
    have hRV:=hI0.lt
    have hRl:=Big.ln_mono' (Nat.le_of_lt hRV)
    have hz4:=Big.made_nat hI0.ok hf1
    have hok5:=hI0.ok
    refine zfa<|zm<|zm<|zv<|ze<|zi<|zc<|r_pv rfl rfl (zb rfl)<|r_pv rfl rfl (zb rfl)<|zB rfl rfl (.c rfl (.c rfl .n)) ce93 (zwc (a:=R) (mm:=s) (p:=pr) (cap:=cr) (hb:=by first|rfl|assumption|omega|(simp;done)) (hm0:=by first|rfl|assumption|omega|(simp;done)) (hm1:=by first|rfl|assumption|omega|(simp;done))) (.c (j:=0) rfl .n) ?_
    rintro ⟨p240,c241⟩ -
    dsimp only [List.append_eq,List.nil_append,List.cons_append]
    refine r_pv rfl rfl (zb rfl)<|r_pv rfl rfl (zp rfl rfl)<|r_pv rfl rfl (zp rfl rfl)<|r_pv rfl rfl (zd rfl)<|r_pv rfl rfl (zd rfl)<|zj<|ze<|zi ?_
    have e42:List.replicate jj 0++qs=qs:=by rw [hj0];rfl
    rw [e42]
    refine zc<|r_pv rfl rfl (zb rfl)<|zea 0 rfl .z<|zB rfl rfl (.c rfl (.c rfl .n)) ce68 (zBa (s:=false) (p:=some ⟨b22,0,none⟩) (n:=((Big.digs A).length - m)) (cap:=((Big.digs A).length - m)) (l:=qs) (hn:=by first|rfl|omega|(simp;done)|(simp;omega)) (ho:=by exact hok5) (hln:=by first|rfl|omega|(simp;done)|(simp;omega))) (.c (j:=0) rfl .n) ?_
    rintro ⟨p243,c244⟩ -
    dsimp only [List.append_eq,List.nil_append,List.cons_append]
    refine r_pv rfl rfl (zsa Try.underlying43 rfl ty41 rfl rfl)<|r_pv rfl rfl (zb rfl)<|r_pv rfl rfl (zd rfl)<|r_pv rfl rfl (zd rfl)<|zj<|ze<|zI ?_
    have hr9:R / s=a%b:=by rw [hf2,hA,hV,hsc.2]
    have hz5:(Big.sg false (Big.valL qs)).natAbs=a / b:=by rw [hz4,hA,hV,hsc.1]
    exact zva Try.results82 (p243,c244,p240,c241) trivial (zq rfl) (zq rfl) (by rw [hz5,hr9]) (ho:=(.n:PickO _ _ _)) ((.e (j:=0) rfl (by rw [hz5]) (.e (j:=2) rfl (by rw [hr9]) .n)):SelR _ _ _)
end Go.Proofs.Ytefbbhiaalcjfaa.Sp
namespace Go.Proofs.Ytefbbhiaalcjfaa.Sp
open Go
set_option linter.unusedVariables false
set_option maxRecDepth 100000
set_option maxHeartbeats 8000000
theorem zJd {s:Bool} {p1:Option Addr} {n1:Nat} {c1:Nat} {l1:List Int} {t:Bool} {p2:Option Addr} {n2:Nat} {c2:Nat} {l2:List Int} (hn1:l1.length=n1) (hn2:l2.length=n2) (hm1:n1≤549755813888) (hm2:n2≤549755813888):Con Try.prog 63 [.agg #[.bool s,.slice p1 n1 c1],.agg #[.bool t,.slice p2 n2 c2]] [] [slF (rI .u32) p1 c1 l1,slF (rI .u32) p2 c2 l2] (Y:=(Option Addr)×Nat) (fun y=>True) (fun y=> .agg #[.bool (decide (((Nat.gcd (Big.raw s l1).natAbs (Big.raw t l2).natAbs:Nat):Int)<0)),.slice (y.1) ((Big.digs (((Nat.gcd (Big.raw s l1).natAbs (Big.raw t l2).natAbs:Nat):Int).natAbs)).length) (y.2)]) (fun y=>[]) (fun y=>[slF (rI .u32) (y.1) (y.2) (Big.digs (((Nat.gcd (Big.raw s l1).natAbs (Big.raw t l2).natAbs:Nat):Int).natAbs))]):=by
 refine zr Try.func63 rfl rfl rfl (fun c=> ?_)
 show RunC _ _ _ _ _ [(0,.agg #[.bool s,.slice p1 n1 c1]),(1,.agg #[.bool t,.slice p2 n2 c2])] [] [slF (rI .u32) p1 c1 l1,slF (rI .u32) p2 c2 l2]
 refine zca 0 rfl (fun hL0=> ?_)
 refine zbb 0 rfl (fun hE0=> ?_)
 refine zca 1 rfl (fun hL1=> ?_)
 refine zbb 1 rfl (fun hE1=> ?_)
 have hnn1:Big.nn l1:=fun g hg=>(zw.1 (hE0 g hg)).1
 have hnn2:Big.nn l2:=fun g hg=>(zw.1 (hE1 g hg)).1
 have hb1:Big.ln (Big.raw s l1)≤n1:=by have:=Big.zab (s:=s) hnn1;omega
 have hb2:Big.ln (Big.raw t l2)≤n2:=by have:=Big.zab (s:=t) hnn2;omega
 unfold Big.ln at hb1 hb2
 refine zi<|zc<|zS rfl rfl (zX rfl rfl) (fun b1=> ?_)
 refine zS rfl rfl (zX rfl rfl) (fun b2=> ?_)
 refine zS rfl rfl (zG zr43 rfl) (fun b3=> ?_)
 refine zj<|ze<|zi<|zja (OW:=[]) (O:=[boxA b3 43 [wz.b,wz.l],boxA b2 43 [.bool t,.slice p2 n2 c2],boxA b1 43 [.bool s,.slice p1 n1 c1]]) 100000 mixed (.then .ret) (by kernel_rfl)<|d_u 0 rfl rfl (by kernel_rfl) (by kernel_rfl) rfl rfl (zh 2 ty43 rfl rfl (.take (.take .nil)))<|d_u 3 rfl rfl (by kernel_rfl) (by kernel_rfl) rfl rfl (zh 1 ty43 rfl rfl (.take (.take .nil)))<|zV 1 (by kernel_rfl) (zT rfl rfl rfl rfl (.c rfl .n) ce67 (zEa (s:=s) (p:=p1) (n:=n1) (cap:=c1) (l:=l1) (hn:=by assumption) (hln:=by first|rfl|assumption|omega)) (.c (j:=0) rfl .n) ?_)
 rintro ⟨p24,c25⟩ -
 dsimp only [List.append_eq,List.nil_append,List.cons_append]
 refine d_pv 2 rfl rfl (by kernel_rfl) (by kernel_rfl) rfl rfl (zsa Try.underlying43 rfl ty41 rfl rfl)<|zV 4 (by kernel_rfl) (zT rfl rfl rfl rfl (.c rfl .n) ce67 (zEa (s:=t) (p:=p2) (n:=n2) (cap:=c2) (l:=l2) (hn:=by assumption) (hln:=by first|rfl|assumption|omega)) (.c (j:=2) rfl .n) ?_)
 rintro ⟨p26,c27⟩ -
 dsimp only [List.append_eq,List.nil_append,List.cons_append]
 refine d_pv 5 rfl rfl (by kernel_rfl) (by kernel_rfl) rfl rfl (zsa Try.underlying43 rfl ty41 rfl rfl)<|d_pv 6 rfl rfl (by kernel_rfl) (by kernel_rfl) rfl rfl (zd rfl)<|d_pv 7 rfl rfl (by kernel_rfl) (by kernel_rfl) rfl rfl (zd rfl)<|zga (by kernel_rfl)<|ze<|zi<|zz<|zma (X:=Nat×Nat×(Option Addr)×Nat×(Option Addr)×Nat) (fun x:Nat×Nat×(Option Addr)×Nat×(Option Addr)×Nat=>Nat.gcd x.1 x.2.1=Nat.gcd (Big.raw s l1).natAbs (Big.raw t l2).natAbs∧(Big.digs x.1).length≤549755813888∧(Big.digs x.2.1).length≤549755813888) (fun x=>[(6,.slice (x.2.2.2.2.1) ((Big.digs (x.2.1)).length) (x.2.2.2.2.2)),(5,.slice (x.2.2.1) ((Big.digs (x.1)).length) (x.2.2.2.1)),(4,.pointer (some ⟨b3,0,none⟩))]) (fun x=>[boxA b3 43 [wz.b,wz.l],boxA b2 43 [.bool t,.slice p2 n2 c2],boxA b1 43 [.bool s,.slice p1 n1 c1]]) (fun x=>[slF (rI .u32) (x.2.2.1) (x.2.2.2.1) (Big.digs (x.1)),slF (rI .u32) (x.2.2.2.2.1) (x.2.2.2.2.2) (Big.digs (x.2.1)),slF (rI .u32) p26 c27 (Big.digs ((Big.raw t l2).natAbs)),slF (rI .u32) p24 c25 (Big.digs ((Big.raw s l1).natAbs)),slF (rI .u32) p1 c1 l1,slF (rI .u32) p2 c2 l2]) (fun x:Nat×Nat×(Option Addr)×Nat×(Option Addr)×Nat=>x.2.1) ((Big.raw s l1).natAbs,(Big.raw t l2).natAbs,p24,c25,p26,c27) (show Nat.gcd ((Big.raw s l1).natAbs) ((Big.raw t l2).natAbs)=Nat.gcd (Big.raw s l1).natAbs (Big.raw t l2).natAbs∧(Big.digs ((Big.raw s l1).natAbs)).length≤549755813888∧(Big.digs ((Big.raw t l2).natAbs)).length≤549755813888 from by exact ⟨rfl,by omega,by omega⟩) ((.of rfl):SubM _ _) (ho:=((.of [0,0,0] rfl):PickO _ _ _)) ((.of [1,0,0,1,2,3] rfl):SelR _ _ _) ?_
 rintro ⟨a,b,pa,ca,pb,cb⟩ hI
 replace hI:Nat.gcd a b=Nat.gcd (Big.raw s l1).natAbs (Big.raw t l2).natAbs∧(Big.digs a).length≤549755813888∧(Big.digs b).length≤549755813888:=hI
 try dsimp only
 obtain ⟨hgc,hba,hbb⟩:=hI
 refine zi<|zFa (X:=Unit) (fun x=>True) (fun x=>[(29,.bool (decide (0<(Big.digs b).length∧(2<(Big.digs a).length∨2<(Big.digs b).length)))),(6,.slice pb ((Big.digs b).length) cb),(5,.slice pa ((Big.digs a).length) ca),(4,.pointer (some ⟨b3,0,none⟩))]) (fun x=>[boxA b3 43 [wz.b,wz.l],boxA b2 43 [.bool t,.slice p2 n2 c2],boxA b1 43 [.bool s,.slice p1 n1 c1]]) (fun x=>[slF (rI .u32) pa ca (Big.digs a),slF (rI .u32) pb cb (Big.digs b),slF (rI .u32) p26 c27 (Big.digs ((Big.raw t l2).natAbs)),slF (rI .u32) p24 c25 (Big.digs ((Big.raw s l1).natAbs)),slF (rI .u32) p1 c1 l1,slF (rI .u32) p2 c2 l2]) ?_ ?_
 ·
  refine zc<|r_pv rfl rfl (zb rfl)<|r_pv rfl rfl (zM Try.underlying41 rfl)<|r_pv rfl rfl (zwa rfl rfl)<|zP rfl rfl (zb rfl) (fun h8=> ?_) (fun h8=> ?_)
  ·
   refine r_pv rfl rfl (zb rfl)<|r_pv rfl rfl (zM Try.underlying41 rfl)<|r_pv rfl rfl (zwa rfl rfl)<|zP rfl rfl (zb rfl) (fun h9=> ?_) (fun h9=> ?_)
   ·
    refine za rfl rfl<|za rfl rfl<|za rfl rfl<|r_pv rfl rfl (zk rfl rfl)<|r_pv rfl rfl (zk rfl rfl)<|zj ?_
    exact zZ () (show True from by first|trivial|omega|simp_all) ((.e rfl (congrArg Value.bool (by first|(simp;omega)|exact decide_eq_decide.2 ⟨fun h=>⟨by omega,.inr (by omega)⟩,fun h=>by omega⟩)) (.of rfl)):SubM _ _) (ho:=((.of [0,0,0] rfl):PickO _ _ _)) ((.of [0,1,2,3,4,5] rfl):SelR _ _ _)
   ·
    refine r_pv rfl rfl (zb rfl)<|r_pv rfl rfl (zM Try.underlying41 rfl)<|r_pv rfl rfl (zwa rfl rfl)<|r_pv rfl rfl (zk rfl rfl)<|r_pv rfl rfl (zk rfl rfl)<|zj ?_
    exact zZ () (show True from by first|trivial|omega|simp_all) ((.e rfl (congrArg Value.bool (by first|(simp;omega)|exact decide_eq_decide.2 ⟨fun h=>⟨by omega,.inr (by omega)⟩,fun h=>by omega⟩)) (.of rfl)):SubM _ _) (ho:=((.of [0,0,0] rfl):PickO _ _ _)) ((.of [0,1,2,3,4,5] rfl):SelR _ _ _)
  ·
   refine za rfl rfl<|za rfl rfl<|za rfl rfl<|za rfl rfl<|za rfl rfl<|za rfl rfl<|za rfl rfl<|za rfl rfl<|r_pv rfl rfl (zk rfl rfl)<|zj ?_
   exact zZ () (show True from by first|trivial|omega|simp_all) ((.e rfl (congrArg Value.bool (by first|(simp;omega)|exact decide_eq_decide.2 ⟨fun h=>⟨by omega,.inr (by omega)⟩,fun h=>by omega⟩)) (.of rfl)):SubM _ _) (ho:=((.of [0,0,0] rfl):PickO _ _ _)) ((.of [0,1,2,3,4,5] rfl):SelR _ _ _)
 ·
  rintro ⟨⟩ -
  try dsimp only
  refine zD rfl (fun hw=> ?_) (fun hw=> ?_)
  ·
   have hb0:0<b:=Nat.pos_of_ne_zero (fun e=>by rw [e] at hw;simp [Big.digs_zero] at hw)
   refine zA<|ze<|zz<|zi<|zc<|r_pv rfl rfl (zb rfl)<|r_pv rfl rfl (zb rfl)<|zB rfl rfl (.c rfl (.c rfl .n)) ce82 (zxc (a:=a) (b:=b) (p1:=pa) (c1:=ca) (p2:=pb) (c2:=cb) (hb1:=by first|rfl|assumption|omega) (hb2:=by first|rfl|assumption|omega) (hb0:=by first|rfl|assumption|omega)) (.c (j:=0) rfl (.c (j:=1) rfl .n)) ?_
   rintro ⟨p310,c311,p412,c413⟩ -
   dsimp only [List.append_eq,List.nil_append,List.cons_append]
   refine r_pv rfl rfl (zb rfl)<|r_pv rfl rfl (zp rfl rfl)<|r_pv rfl rfl (zp rfl rfl)<|r_pv rfl rfl (zd rfl)<|r_pv rfl rfl (zd rfl)<|zj<|ze<|zc<|r_pv rfl rfl (zb rfl)<|r_pv rfl rfl (zb rfl)<|r_pv rfl rfl (zd rfl)<|r_pv rfl rfl (zd rfl)<|zj<|zJ<|zba (b,(a%b),pb,cb,p412,c413) (show Nat.gcd b (a%b)=Nat.gcd (Big.raw s l1).natAbs (Big.raw t l2).natAbs∧(Big.digs b).length≤549755813888∧(Big.digs (a%b)).length≤549755813888 from by exact ⟨by rw [Big.gcd_rest,hgc],hbb,Nat.le_trans (Big.ln_mono' (Nat.le_of_lt (Nat.mod_lt a hb0))) hbb⟩) (by exact Nat.mod_lt a hb0) ((.e rfl (by first|rfl|(congr 1;omega)|simp_all) (.c rfl (.c rfl .n))):SubM _ _) (ho:=((.of [0,0,0] rfl):PickO _ _ _)) ((.c (j:=3) rfl (.e (j:=1) rfl (by first|rfl|simp_all) (.of [4,5,6,7] rfl))):SelR _ _ _)
  ·
   refine zfa<|zm<|zm<|zv<|ze<|zi<|zi<|zc<|r_pv rfl rfl (zb rfl)<|r_pv rfl rfl (zM Try.underlying41 rfl)<|r_pv rfl rfl (zua rfl rfl)<|zj<|ze<|zD rfl (fun hbz=> ?_) (fun hbz=> ?_)
   ·
    have hbz0:b=0:=Big.len_digs_nil.1 (by omega)
    have hfin:a=Nat.gcd (Big.raw s l1).natAbs (Big.raw t l2).natAbs:=by rw [← hgc,hbz0,Nat.gcd_zero_right]
    refine zi<|zc<|r_pv rfl rfl (zb rfl)<|zB rfl rfl (.c rfl (.c rfl .n)) ce68 (zXa (s:=false) (a:=a) (p:=pa) (cap:=ca) (hln:=by first|rfl|assumption|omega)) (.c (j:=0) rfl .n) ?_
    rintro ⟨p214,c215⟩ -
    dsimp only [List.append_eq,List.nil_append,List.cons_append]
    refine zo 0 rfl rfl rfl rfl rfl sz43 rfl (.take (.take .nil)) .z<|zj<|ze<|zI<|zt ?_
    exact zC Try.results63 (p214,c215) trivial (zu 0 ty43 rfl rfl (.take (.take .nil))) (by rw [← hfin];rfl) (ho:=(.n:PickO _ _ _)) ((.e (j:=0) rfl (by rw [← hfin];rfl) .n):SelR _ _ _)
   ·
    have ha2:(Big.digs a).length≤2:=by omega
    have hb2:(Big.digs b).length≤2:=by omega
    have ha18:=Big.two_lt ha2
    have hb18:=Big.two_lt hb2
    refine zA<|ze<|zi<|zc<|r_pv rfl rfl (zb rfl)<|zO rfl rfl (.c rfl .n) ce83 (zad (a:=a) (p:=pa) (cap:=ca) (hb:=by first|rfl|assumption|omega)) (.c (j:=0) rfl .n)<|r_pv rfl rfl (zb rfl)<|zO rfl rfl (.c rfl .n) ce83 (zad (a:=b) (p:=pb) (cap:=cb) (hb:=by first|rfl|assumption|omega)) (.c (j:=1) rfl .n)<|r_pv rfl rfl (zd rfl)<|r_pv rfl rfl (zd rfl)<|zj<|ze<|zi<|zz<|zma (X:=Nat×Nat) (fun x:Nat×Nat=>Nat.gcd x.1 x.2=Nat.gcd a b∧x.1<1000000000000000000∧x.2<1000000000000000000) (fun x=>[(10,.int .u64 ((x.2:Nat):Int)),(9,.int .u64 ((x.1:Nat):Int)),(4,.pointer (some ⟨b3,0,none⟩))]) (fun x=>[boxA b3 43 [wz.b,wz.l],boxA b2 43 [.bool t,.slice p2 n2 c2],boxA b1 43 [.bool s,.slice p1 n1 c1]]) (fun x=>[slF (rI .u32) pa ca (Big.digs a),slF (rI .u32) pb cb (Big.digs b),slF (rI .u32) p26 c27 (Big.digs ((Big.raw t l2).natAbs)),slF (rI .u32) p24 c25 (Big.digs ((Big.raw s l1).natAbs)),slF (rI .u32) p1 c1 l1,slF (rI .u32) p2 c2 l2]) (fun x:Nat×Nat=>x.2) (a,b) (show Nat.gcd a b=Nat.gcd a b∧a<1000000000000000000∧b<1000000000000000000 from by exact ⟨rfl,ha18,hb18⟩) ((.of rfl):SubM _ _) (ho:=((.of [0,0,0] rfl):PickO _ _ _)) ((.of [0,1,2,3,4,5] rfl):SelR _ _ _) ?_
    rintro ⟨q,r⟩ hJ
    replace hJ:Nat.gcd q r=Nat.gcd a b∧q<1000000000000000000∧r<1000000000000000000:=hJ
    try dsimp only
    obtain ⟨hgq,hq18,hr18⟩:=hJ
    have hmr:=Nat.mod_le q r
    refine zi<|zi<|zc<|r_pv rfl rfl (zb rfl)<|r_pv rfl rfl (zwa rfl rfl)<|zj<|ze<|zD rfl (fun hy=> ?_) (fun hy=> ?_)
    ·
     refine zA<|ze<|zz<|zja (OW:=[]) (O:=[boxA b3 43 [wz.b,wz.l],boxA b2 43 [.bool t,.slice p2 n2 c2],boxA b1 43 [.bool s,.slice p1 n1 c1]]) 100000 mixed (.block (.then (.block (.then .ret)))) (by kernel_rfl)<|d_pv 0 rfl rfl (by kernel_rfl) (by kernel_rfl) rfl rfl (zb rfl)<|d_pv 1 rfl rfl (by kernel_rfl) (by kernel_rfl) rfl rfl (zb rfl)<|d_pv 2 rfl rfl (by kernel_rfl) (by kernel_rfl) rfl rfl (zb rfl)<|d_pv 3 rfl rfl (by kernel_rfl) (by kernel_rfl) rfl rfl (zHa (z:=(((q%r):Nat):Int)) rfl rfl (by omega) (remN (by omega) (by omega)))<|d_pv 4 rfl rfl (by kernel_rfl) (by kernel_rfl) rfl rfl (zd rfl)<|d_pv 5 rfl rfl (by kernel_rfl) (by kernel_rfl) rfl rfl (zd rfl)<|zga (by kernel_rfl)<|zJ<|zba (r,(q%r)) (show Nat.gcd r (q%r)=Nat.gcd a b∧r<1000000000000000000∧(q%r)<1000000000000000000 from by exact ⟨by rw [Big.gcd_rest,hgq],hr18,by omega⟩) (by exact Nat.mod_lt q (by omega)) ((.of rfl):SubM _ _) (ho:=((.of [0,0,0] rfl):PickO _ _ _)) ((.of [0,1,2,3,4,5] rfl):SelR _ _ _)
    ·
     have hrz:r=0:=by omega
     have hfin:q=Nat.gcd (Big.raw s l1).natAbs (Big.raw t l2).natAbs:=by rw [← hgc,←hgq,hrz,Nat.gcd_zero_right]
     obtain ⟨ht1,ht2⟩:=Big.two_val hq18
     refine zfa<|zm<|zm<|zv<|ze<|zi<|zc<|r_pv rfl rfl (zb rfl)<|r_pv rfl rfl (zHa (z:=(((q%1000000000):Nat):Int)) rfl rfl (by omega) (remN (by omega) (by omega)))<|r_pv rfl rfl (zx (z:=(((q%1000000000):Nat):Int)) rfl (by rw [Try.underlying100];rfl) Try.underlying101 (wu32 (by omega)))<|r_pv rfl rfl (zb rfl)<|r_pv rfl rfl (zGa (z:=(((q / 1000000000):Nat):Int)) rfl rfl (by omega) (by rw [quoN (z:=(((q / 1000000000):Nat):Int)) (by omega) (by omega)];exact wu64 (by omega)))<|r_pv rfl rfl (zx (z:=(((q / 1000000000):Nat):Int)) rfl (by rw [Try.underlying100];rfl) Try.underlying101 (wu32 (by omega)))<|zta rfl rfl (zE (enc:=fun z:Int=>[.int .u32 z]) (ok:=InK .u32) (h1:=fun _=>rfl) (h2:=fun _=>rfl) (k:=2) Try.underlying41 inf101 rfl (by decide) (by decide) (by decide) (.c (x:=(((q%1000000000):Nat):Int)) rfl rfl (fun _ _=>by exact zw.2 (by omega)) (.c (x:=(((q / 1000000000):Nat):Int)) rfl rfl (fun _ _=>by exact zw.2 (by omega)) .n))) (fun b16 _=> ?_)
     refine zea 0 rfl .z<|zB rfl rfl (.c rfl (.c rfl .n)) ce68 (zBa (s:=false) (p:=some ⟨b16,0,none⟩) (n:=2) (cap:=2) (l:=[(((q%1000000000):Nat):Int),(((q / 1000000000):Nat):Int)]) (hn:=by first|rfl|omega|(simp;done)|(simp;omega)) (ho:=by exact ht1) (hln:=by first|rfl|omega|(simp;done)|(simp;omega))) (.c (j:=0) rfl .n) ?_
     rintro ⟨p217,c218⟩ -
     dsimp only [List.append_eq,List.nil_append,List.cons_append]
     refine zo 1 rfl rfl rfl rfl rfl sz43 rfl (.take (.take .nil)) (.s .z)<|zj<|ze<|zI ?_
     exact zC Try.results63 (p217,c218) trivial (zu 1 ty43 rfl rfl (.take (.take .nil))) (by rw [ht2,←hfin];rfl) (ho:=(.n:PickO _ _ _)) ((.e (j:=0) rfl (by rw [ht2,←hfin];rfl) .n):SelR _ _ _)
theorem zCe {x1:Int} {x2:Int} {p1:Option Addr} {c1:Nat} {p2:Option Addr} {c2:Nat} (hb1:Big.ln x1≤549755813888) (hb2:Big.ln x2≤549755813888):Con Try.prog 63 [.agg #[.bool (decide ((x1)<0)),.slice (p1) ((Big.digs ((x1).natAbs)).length) (c1)],.agg #[.bool (decide ((x2)<0)),.slice (p2) ((Big.digs ((x2).natAbs)).length) (c2)]] [] [slF (rI .u32) (p1) (c1) (Big.digs ((x1).natAbs)),slF (rI .u32) (p2) (c2) (Big.digs ((x2).natAbs))] (Y:=(Option Addr)×(Nat)) (fun y=>True) (fun y=> .agg #[.bool (decide ((((Nat.gcd x1.natAbs x2.natAbs:Nat):Int))<0)),.slice (y.1) ((Big.digs ((((Nat.gcd x1.natAbs x2.natAbs:Nat):Int)).natAbs)).length) (y.2)]) (fun y=>[]) (fun y=>[slF (rI .u32) (y.1) (y.2) (Big.digs ((((Nat.gcd x1.natAbs x2.natAbs:Nat):Int)).natAbs))]):=by
  have h:= @zJd (decide ((x1)<0)) p1 (Big.digs (x1).natAbs).length c1 (Big.digs (x1).natAbs) (decide ((x2)<0)) p2 (Big.digs (x2).natAbs).length c2 (Big.digs (x2).natAbs) rfl rfl hb1 hb2
  rw [Big.raw_big,Big.raw_big] at h
  exact h
theorem zDe {w1:Wd} {w2:Wd} {x1:Int} {x2:Int} (hb1:Big.ln x1≤549755813888) (hb2:Big.ln x2≤549755813888):Con Try.prog 63 [.agg #[w1.b,w1.l],.agg #[w2.b,w2.l]] [] [zF w1 (x1),zF w2 (x2)] (Y:=(Wd)) (fun y=>True) (fun y=> .agg #[y.b,y.l]) (fun y=>[]) (fun y=>[zF y (((Nat.gcd x1.natAbs x2.natAbs:Nat):Int))]):=by
  exact zPb (zsc (fun p1 c1 p2 c2=>zCe hb1 hb2))
theorem zbd {s:Bool} {p1:Option Addr} {n1:Nat} {c1:Nat} {l1:List Int} {t:Bool} {p2:Option Addr} {n2:Nat} {c2:Nat} {l2:List Int} (hn1:l1.length=n1) (hn2:l2.length=n2) (hm1:n1≤549755813888) (hm2:n2≤549755813888):Con Try.prog 79 [.agg #[.bool s,.slice p1 n1 c1],.agg #[.bool t,.slice p2 n2 c2]] [] [slF (rI .u32) p1 c1 l1,slF (rI .u32) p2 c2 l2] (Y:=Unit) (fun y=>True) (fun y=> .int .i64 ((Big.raw s l1 - Big.raw t l2).sign)) (fun y=>[]) (fun y=>[]):=by
 refine zr Try.func79 rfl rfl rfl (fun c=> ?_)
 show RunC _ _ _ _ _ [(0,.agg #[.bool s,.slice p1 n1 c1]),(1,.agg #[.bool t,.slice p2 n2 c2])] [] [slF (rI .u32) p1 c1 l1,slF (rI .u32) p2 c2 l2]
 refine zca 0 rfl (fun hL0=> ?_)
 refine zbb 0 rfl (fun hE0=> ?_)
 refine zca 1 rfl (fun hL1=> ?_)
 refine zbb 1 rfl (fun hE1=> ?_)
 have hnn1:Big.nn l1:=fun g hg=>(zw.1 (hE0 g hg)).1
 have hnn2:Big.nn l2:=fun g hg=>(zw.1 (hE1 g hg)).1
 have hb1:Big.ln (Big.raw s l1)≤n1:=by have:=Big.zab (s:=s) hnn1;omega
 have hb2:Big.ln (Big.raw t l2)≤n2:=by have:=Big.zab (s:=t) hnn2;omega
 unfold Big.ln at hb1 hb2
 have hls:=Big.ln_sub (Big.raw s l1) (Big.raw t l2)
 unfold Big.ln at hls
 refine zi<|zc<|zS rfl rfl (zX rfl rfl) (fun b1=> ?_)
 refine zS rfl rfl (zX rfl rfl) (fun b2=> ?_)
 refine r_pv rfl rfl (zd rfl)<|zj<|ze<|zi<|zc<|r_u rfl rfl (zh 1 ty43 rfl rfl (.take (.take .nil)))<|r_u rfl rfl (zh 0 ty43 rfl rfl (.take (.take .nil)))<|zB rfl rfl (.c rfl (.c rfl .n)) ce84 (zId (s:=s) (p1:=p1) (n1:=n1) (c1:=c1) (l1:=l1) (t:=t) (p2:=p2) (n2:=n2) (c2:=c2) (l2:=l2) (hn1:=by assumption) (hn2:=by assumption) (hm1:=by first|rfl|assumption|omega|(unfold Big.ln;omega)) (hm2:=by first|rfl|assumption|omega|(unfold Big.ln;omega))) (.c (j:=0) rfl (.c (j:=1) rfl .n)) ?_
 rintro ⟨p33,c34⟩ -
 dsimp only [List.append_eq,List.nil_append,List.cons_append]
 refine zO rfl rfl (.c rfl .n) ce64 (zvc (z:=Big.raw s l1 - Big.raw t l2) (p:=p33) (cap:=c34) (hln:=by first|rfl|assumption|omega|(unfold Big.ln;omega))) (.c (j:=0) rfl .n)<|r_pv rfl rfl (zd rfl)<|zj<|ze<|zI ?_
 exact zC Try.results79 () trivial (zq rfl) rfl (ho:=(.n:PickO _ _ _)) (.n:SelR _ _ _)
theorem zFc {x1:Int} {x2:Int} {p1:Option Addr} {c1:Nat} {p2:Option Addr} {c2:Nat} (hb1:Big.ln x1≤549755813888) (hb2:Big.ln x2≤549755813888):Con Try.prog 79 [.agg #[.bool (decide ((x1)<0)),.slice (p1) ((Big.digs ((x1).natAbs)).length) (c1)],.agg #[.bool (decide ((x2)<0)),.slice (p2) ((Big.digs ((x2).natAbs)).length) (c2)]] [] [slF (rI .u32) (p1) (c1) (Big.digs ((x1).natAbs)),slF (rI .u32) (p2) (c2) (Big.digs ((x2).natAbs))] (Y:=Unit) (fun y=>True) (fun y=> .int .i64 ((x1 - x2).sign)) (fun y=>[]) (fun y=>[]):=by
  have h:= @zbd (decide ((x1)<0)) p1 (Big.digs (x1).natAbs).length c1 (Big.digs (x1).natAbs) (decide ((x2)<0)) p2 (Big.digs (x2).natAbs).length c2 (Big.digs (x2).natAbs) rfl rfl hb1 hb2
  rw [Big.raw_big,Big.raw_big] at h
  exact h
theorem zcd {x1:Int} {x2:Int} {p1:Option Addr} {c1:Nat} {p2:Option Addr} {c2:Nat} (hb1:Big.ln x1≤274877906944) (hb2:Big.ln x2≤274877906944) (hy:x2≠0):Con Try.prog 66 [.agg #[.bool (decide (x1<0)),.slice p1 ((Big.digs ((x1).natAbs)).length) c1],.agg #[.bool (decide (x2<0)),.slice p2 ((Big.digs ((x2).natAbs)).length) c2]] [] [slF (rI .u32) p1 c1 (Big.digs ((x1).natAbs)),slF (rI .u32) p2 c2 (Big.digs ((x2).natAbs))] (Y:=(Option Addr)×Nat×(Option Addr)×Nat) (fun y=>True) (fun y=> .tuple #[.agg #[.bool (decide ((Big.fq x1 x2)<0)),.slice (y.1) ((Big.digs ((Big.fq x1 x2).natAbs)).length) (y.2.1)],.agg #[.bool (decide ((Big.fr x1 x2)<0)),.slice (y.2.2.1) ((Big.digs ((Big.fr x1 x2).natAbs)).length) (y.2.2.2)],.int .i64 0]) (fun y=>[]) (fun y=>[slF (rI .u32) (y.1) (y.2.1) (Big.digs ((Big.fq x1 x2).natAbs)),slF (rI .u32) (y.2.2.1) (y.2.2.2) (Big.digs ((Big.fr x1 x2).natAbs))]):=by
 refine zr Try.func66 rfl rfl rfl (fun c=> ?_)
 show RunC _ _ _ _ _ [(0,.agg #[.bool (decide (x1<0)),.slice p1 ((Big.digs ((x1).natAbs)).length) c1]),(1,.agg #[.bool (decide (x2<0)),.slice p2 ((Big.digs ((x2).natAbs)).length) c2])] [] [slF (rI .u32) p1 c1 (Big.digs ((x1).natAbs)),slF (rI .u32) p2 c2 (Big.digs ((x2).natAbs))]
 refine zca 0 rfl (fun hL0=> ?_)
 refine zca 1 rfl (fun hL1=> ?_)
 have hfl:=Big.ln_fq (x:=x1) hy
 have hml:=Big.zOb (Big.fq x1 x2) x2
 unfold Big.ln at hb1 hb2 hfl hml
 have hd1:=Nat.div_le_self x1.natAbs x2.natAbs
 have hd2:=Nat.mod_lt x1.natAbs (show 0<x2.natAbs by omega)
 have hl1:=Big.ln_mono' hd1
 have hl2:=Big.ln_mono' (Nat.le_of_lt hd2)
 refine zi<|zc<|zS rfl rfl (zX rfl rfl) (fun b1=> ?_)
 refine zS rfl rfl (zX rfl rfl) (fun b2=> ?_)
 refine zS rfl rfl (zG zr43 rfl) (fun b3=> ?_)
 refine zS rfl rfl (zG zr43 rfl) (fun b4=> ?_)
 refine r_pv rfl rfl (zd rfl)<|zj<|ze<|zi<|zza (.c (i:=3) rfl (.c (i:=2) rfl (.c (i:=0) rfl (.c (i:=0) rfl .n))))<|zja (OW:=[boxA b1 43 [.bool (decide (x1<0)),.slice p1 ((Big.digs ((x1).natAbs)).length) c1],boxA b2 43 [.bool (decide (x2<0)),.slice p2 ((Big.digs ((x2).natAbs)).length) c2]]) (O:=[boxA b4 43 [wz.b,wz.l],boxA b3 43 [wz.b,wz.l]]) 4 mixed (.then .ret) (by kernel_rfl)<|d_uw 0 rfl rfl (by kernel_rfl) (by kernel_rfl) (by kernel_rfl) rfl rfl (zh 0 ty43 rfl rfl (.take (.take .nil)))<|d_uw 2 rfl rfl (by kernel_rfl) (by kernel_rfl) (by kernel_rfl) rfl rfl (zh 1 ty43 rfl rfl (.take (.take .nil)))<|zV 1 (by kernel_rfl) (zT rfl rfl rfl rfl (.c rfl .n) ce67 (zec (z:=x1) (p:=p1) (cap:=c1) (hln:=by first|rfl|assumption|omega|(unfold Big.ln;omega)|(unfold Big.ln;rw [hsq];omega)|(decide +kernel))) (.c (j:=0) rfl .n) ?_)
 rintro ⟨p25,c26⟩ -
 dsimp only [List.append_eq,List.nil_append,List.cons_append]
 refine zV 3 (by kernel_rfl) (zT rfl rfl rfl rfl (.c rfl .n) ce67 (zec (z:=x2) (p:=p2) (cap:=c2) (hln:=by first|rfl|assumption|omega|(unfold Big.ln;omega)|(unfold Big.ln;rw [hsq];omega)|(decide +kernel))) (.c (j:=2) rfl .n) ?_)
 rintro ⟨p27,c28⟩ -
 dsimp only [List.append_eq,List.nil_append,List.cons_append]
 refine zV 4 (by kernel_rfl) (zL (by kernel_rfl) rfl rfl rfl rfl rfl sz43 rfl (.take (.take .nil)) ?_)
 refine zMa (zna (i:=1) rfl)<|zV 5 (by kernel_rfl) (zL (by kernel_rfl) rfl rfl rfl rfl rfl sz43 rfl (.take (.take .nil)) ?_)
 refine zga (by kernel_rfl)<|ze<|zi<|zi<|zc<|r_pv rfl rfl (zg Try.underlying43 rfl sz41 rfl rfl)<|r_u rfl rfl (zf 0 ty41 rfl rfl rfl)<|r_pv rfl rfl (zM Try.underlying41 rfl)<|r_pv rfl rfl (zua rfl rfl)<|zj<|ze<|zD rfl (fun h9=> ?_) (fun h9=> ?_)
 ·
  exact absurd (Big.len_digs_nil.1 (show (Big.digs x2.natAbs).length=0 by omega)) (by omega)
 ·
  refine zA<|ze<|zi<|zc<|r_pv rfl rfl (zg Try.underlying43 rfl sz41 rfl rfl)<|r_u rfl rfl (zf 1 ty41 rfl rfl rfl)<|r_pv rfl rfl (zg Try.underlying43 rfl sz41 rfl rfl)<|r_u rfl rfl (zf 0 ty41 rfl rfl rfl)<|zB rfl rfl (.c rfl (.c rfl .n)) ce82 (zxc (a:=(x1).natAbs) (b:=(x2).natAbs) (p1:=p25) (c1:=c26) (p2:=p27) (c2:=c28) (hb1:=by first|rfl|assumption|omega|(unfold Big.ln;omega)|(unfold Big.ln;rw [hsq];omega)|(decide +kernel)) (hb2:=by first|rfl|assumption|omega|(unfold Big.ln;omega)|(unfold Big.ln;rw [hsq];omega)|(decide +kernel)) (hb0:=by first|rfl|assumption|omega|(unfold Big.ln;omega)|(unfold Big.ln;rw [hsq];omega)|(decide +kernel))) (.c (j:=1) rfl (.c (j:=0) rfl .n)) ?_
  rintro ⟨p310,c311,p412,c413⟩ -
  dsimp only [List.append_eq,List.nil_append,List.cons_append]
  refine r_pv rfl rfl (zb rfl)<|r_pv rfl rfl (zp rfl rfl)<|r_pv rfl rfl (zp rfl rfl)<|r_pv rfl rfl (zd rfl)<|r_pv rfl rfl (zd rfl)<|zj<|ze<|zi ?_
  obtain ⟨Q,hQ⟩:∃z,z=((x1).natAbs) / ((x2).natAbs):=⟨_,rfl⟩
  rw [← hQ]
  obtain ⟨R0,hR0⟩:∃z,z=((x1).natAbs)%((x2).natAbs):=⟨_,rfl⟩
  rw [← hR0]
  rw [← hQ] at hl1
  rw [← hR0] at hl2
  have hsq:(Big.sg (decide (decide (x1<0)≠decide (x2<0))) (Q:Int)).natAbs=Q:=by rw [Big.sg_abs (by omega)];exact Int.toNat_natCast _
  refine zc<|r_pv rfl rfl (zg Try.underlying43 rfl sz4 rfl rfl)<|r_u rfl rfl (zf 1 ty4 rfl rfl rfl)<|r_pv rfl rfl (zg Try.underlying43 rfl sz4 rfl rfl)<|r_u rfl rfl (zf 0 ty4 rfl rfl rfl)<|r_pv rfl rfl (zLa Try.underlying4 rfl rfl)<|r_pv rfl rfl (zb rfl)<|zB rfl rfl (.c rfl (.c rfl .n)) ce68 (zXa (s:=decide (decide (x1<0)≠decide (x2<0))) (a:=Q) (p:=p310) (cap:=c311) (hln:=by first|rfl|assumption|omega|(unfold Big.ln;omega)|(unfold Big.ln;rw [hsq];omega)|(decide +kernel))) (.c (j:=0) rfl .n) ?_
  rintro ⟨p214,c215⟩ -
  dsimp only [List.append_eq,List.nil_append,List.cons_append]
  refine zS rfl rfl (zG zr43 rfl) (fun b16=> ?_)
  refine zo 0 rfl rfl rfl rfl rfl sz43 rfl (.take (.take .nil)) .z<|zj<|ze<|zi<|zi<|zc<|r_pv rfl rfl (zg Try.underlying43 rfl sz4 rfl rfl)<|r_u rfl rfl (zf 2 ty4 rfl rfl rfl)<|r_pv rfl rfl (zg Try.underlying43 rfl sz4 rfl rfl)<|r_u rfl rfl (zf 1 ty4 rfl rfl rfl)<|r_pv rfl rfl (zLa Try.underlying4 rfl rfl)<|zP rfl rfl (zb rfl) (fun hsd=> ?_) (fun hsd=> ?_)
  ·
   refine r_pv rfl rfl (zb rfl)<|r_pv rfl rfl (zM Try.underlying41 rfl)<|r_pv rfl rfl (zwa rfl rfl)<|r_pv rfl rfl (zk rfl rfl)<|zj<|ze<|zD rfl (fun hadj=> ?_) (fun hadj=> ?_)
   ·
    have hr0:x1.natAbs%x2.natAbs≠0:=fun e=>by rw [hR0,e,Big.digs_zero] at hadj;exact absurd hadj (by decide)
    have hqz:Big.sg (decide (decide (x1<0)≠decide (x2<0))) (Q:Int) - 1=Big.fq x1 x2:=by have h9:=(Big.fq_odd hy hsd hr0).1;rw [← h9,decide_eq_true hsd,hQ,Big.sg_t,Big.sg_t];omega
    refine zja (OW:=[boxA b16 43 [.bool (decide ((Big.sg (decide (decide (x1<0)≠decide (x2<0))) (Q:Int))<0)),.slice p214 ((Big.digs ((Big.sg (decide (decide (x1<0)≠decide (x2<0))) (Q:Int)).natAbs)).length) c215]]) (O:=[boxA b2 43 [.bool (decide (x2<0)),.slice p27 ((Big.digs ((x2).natAbs)).length) c28],boxA b1 43 [.bool (decide (x1<0)),.slice p25 ((Big.digs ((x1).natAbs)).length) c26],boxA b4 43 [wz.b,wz.l],boxA b3 43 [wz.b,wz.l]]) 3 mixed (.then .ret) (by kernel_rfl)<|d_uw 0 rfl rfl (by kernel_rfl) (by kernel_rfl) (by kernel_rfl) rfl rfl (zh 0 ty43 rfl rfl (.take (.take .nil)))<|zV 1 (by kernel_rfl) (zT rfl rfl rfl rfl (.c rfl .n) ce72 (zxe (z:=1) (hz:=by first|rfl|assumption|omega|(unfold Big.ln;omega)|(unfold Big.ln;rw [hsq];omega)|(decide +kernel))) (.n) ?_)
    rintro ⟨p217,c218⟩ -
    dsimp only [List.append_eq,List.nil_append,List.cons_append]
    refine zV 2 (by kernel_rfl) (zT rfl rfl rfl rfl (.c rfl (.c rfl .n)) ce84 (zEb (x1:=Big.sg (decide (decide (x1<0)≠decide (x2<0))) (Q:Int)) (x2:=1) (p1:=p214) (c1:=c215) (p2:=p217) (c2:=c218) (hb1:=by first|rfl|assumption|omega|(unfold Big.ln;omega)|(unfold Big.ln;rw [hsq];omega)|(decide +kernel)) (hb2:=by first|rfl|assumption|omega|(unfold Big.ln;omega)|(unfold Big.ln;rw [hsq];omega)|(decide +kernel))) (.c (j:=1) rfl (.c (j:=0) rfl .n)) ?_)
    rintro ⟨p319,c320⟩ -
    dsimp only [List.append_eq,List.nil_append,List.cons_append]
    refine zV 3 (by kernel_rfl) (zL (by kernel_rfl) rfl rfl rfl rfl rfl sz43 rfl (.take (.take .nil)) ?_)
    refine zga (by kernel_rfl)<|ze<|zi ?_
    have e21:(Big.sg (decide (decide (x1<0)≠decide (x2<0))) (Q:Int)) - 1=Big.fq x1 x2:=by exact hqz
    rw [e21]
    refine zza (.c (i:=4) rfl (.c (i:=3) rfl (.c (i:=0) rfl (.c (i:=0) rfl (.c (i:=0) rfl .n)))))<|zja (OW:=[boxA b3 43 [wz.b,wz.l],boxA b4 43 [wz.b,wz.l]]) (O:=[boxA b16 43 [.bool (decide ((Big.fq x1 x2)<0)),.slice p319 ((Big.digs ((Big.fq x1 x2).natAbs)).length) c320],boxA b2 43 [.bool (decide (x2<0)),.slice p27 ((Big.digs ((x2).natAbs)).length) c28],boxA b1 43 [.bool (decide (x1<0)),.slice p25 ((Big.digs ((x1).natAbs)).length) c26]]) 6 mixed (.then .ret) (by kernel_rfl)<|d_uw 0 rfl rfl (by kernel_rfl) (by kernel_rfl) (by kernel_rfl) rfl rfl (zh 2 ty43 rfl rfl (.take (.take .nil)))<|d_uw 1 rfl rfl (by kernel_rfl) (by kernel_rfl) (by kernel_rfl) rfl rfl (zh 4 ty43 rfl rfl (.take (.take .nil)))<|d_uw 2 rfl rfl (by kernel_rfl) (by kernel_rfl) (by kernel_rfl) rfl rfl (zh 2 ty43 rfl rfl (.take (.take .nil)))<|d_uw 3 rfl rfl (by kernel_rfl) (by kernel_rfl) (by kernel_rfl) rfl rfl (zh 3 ty43 rfl rfl (.take (.take .nil)))<|zV 4 (by kernel_rfl) (zT rfl rfl rfl rfl (.c rfl (.c rfl .n)) ce46 (zFb (x1:=Big.fq x1 x2) (x2:=x2) (p1:=p319) (c1:=c320) (p2:=p27) (c2:=c28) (hb1:=by first|rfl|assumption|omega|(unfold Big.ln;omega)|(unfold Big.ln;rw [hsq];omega)|(decide +kernel)) (hb2:=by first|rfl|assumption|omega|(unfold Big.ln;omega)|(unfold Big.ln;rw [hsq];omega)|(decide +kernel))) (.c (j:=0) rfl (.c (j:=5) rfl .n)) ?_)
    rintro ⟨p322,c323⟩ -
    dsimp only [List.append_eq,List.nil_append,List.cons_append]
    refine zV 5 (by kernel_rfl) (zT rfl rfl rfl rfl (.c rfl (.c rfl .n)) ce84 (zEb (x1:=x1) (x2:=(Big.fq x1 x2)*x2) (p1:=p25) (c1:=c26) (p2:=p322) (c2:=c323) (hb1:=by first|rfl|assumption|omega|(unfold Big.ln;omega)|(unfold Big.ln;rw [hsq];omega)|(decide +kernel)) (hb2:=by first|rfl|assumption|omega|(unfold Big.ln;omega)|(unfold Big.ln;rw [hsq];omega)|(decide +kernel))) (.c (j:=7) rfl (.c (j:=0) rfl .n)) ?_)
    rintro ⟨p324,c325⟩ -
    dsimp only [List.append_eq,List.nil_append,List.cons_append]
    refine zV 6 (by kernel_rfl) (zL (by kernel_rfl) rfl rfl rfl rfl rfl sz43 rfl (.take (.take .nil)) ?_)
    refine zMa (zna (i:=1) rfl)<|zV 7 (by kernel_rfl) (zL (by kernel_rfl) rfl rfl rfl rfl rfl sz43 rfl (.take (.take .nil)) ?_)
    refine d_pv 8 rfl rfl (by kernel_rfl) (by kernel_rfl) rfl rfl (zd rfl)<|zga (by kernel_rfl)<|ze<|zI ?_
    have hz2:x1 - Big.fq x1 x2*x2=Big.fr x1 x2:=by unfold Big.fr;rw [Int.mul_comm]
    exact zoc Try.results66 (p319,c320,p324,c325) trivial (zu 1 ty43 rfl rfl (.take (.take .nil))) (zu 0 ty43 rfl rfl (.take (.take .nil))) (zq rfl) (by rw [hz2]) (ho:=(.n:PickO _ _ _)) ((.c (j:=2) rfl (.e (j:=0) rfl (by rw [hz2]) .n)):SelR _ _ _)
   ·
    have hr0:x1.natAbs%x2.natAbs=0:=Big.len_digs_nil.1 (by rw [← hR0];omega)
    have hqz:Big.sg (decide (decide (x1<0)≠decide (x2<0))) (Q:Int)=Big.fq x1 x2:=by rw [decide_eq_true hsd,hQ];exact (Big.fq_even hy hsd hr0).1
    refine zA<|ze<|zi ?_
    have e26:Big.sg (decide (decide (x1<0)≠decide (x2<0))) (Q:Int)=Big.fq x1 x2:=by exact hqz
    rw [e26]
    refine zza (.c (i:=4) rfl (.c (i:=3) rfl (.c (i:=0) rfl (.c (i:=0) rfl (.c (i:=0) rfl .n)))))<|zja (OW:=[boxA b3 43 [wz.b,wz.l],boxA b4 43 [wz.b,wz.l]]) (O:=[boxA b16 43 [.bool (decide ((Big.fq x1 x2)<0)),.slice p214 ((Big.digs ((Big.fq x1 x2).natAbs)).length) c215],boxA b2 43 [.bool (decide (x2<0)),.slice p27 ((Big.digs ((x2).natAbs)).length) c28],boxA b1 43 [.bool (decide (x1<0)),.slice p25 ((Big.digs ((x1).natAbs)).length) c26]]) 6 mixed (.then .ret) (by kernel_rfl)<|d_uw 0 rfl rfl (by kernel_rfl) (by kernel_rfl) (by kernel_rfl) rfl rfl (zh 2 ty43 rfl rfl (.take (.take .nil)))<|d_uw 1 rfl rfl (by kernel_rfl) (by kernel_rfl) (by kernel_rfl) rfl rfl (zh 4 ty43 rfl rfl (.take (.take .nil)))<|d_uw 2 rfl rfl (by kernel_rfl) (by kernel_rfl) (by kernel_rfl) rfl rfl (zh 2 ty43 rfl rfl (.take (.take .nil)))<|d_uw 3 rfl rfl (by kernel_rfl) (by kernel_rfl) (by kernel_rfl) rfl rfl (zh 3 ty43 rfl rfl (.take (.take .nil)))<|zV 4 (by kernel_rfl) (zT rfl rfl rfl rfl (.c rfl (.c rfl .n)) ce46 (zFb (x1:=Big.fq x1 x2) (x2:=x2) (p1:=p214) (c1:=c215) (p2:=p27) (c2:=c28) (hb1:=by first|rfl|assumption|omega|(unfold Big.ln;omega)|(unfold Big.ln;rw [hsq];omega)|(decide +kernel)) (hb2:=by first|rfl|assumption|omega|(unfold Big.ln;omega)|(unfold Big.ln;rw [hsq];omega)|(decide +kernel))) (.c (j:=0) rfl (.c (j:=3) rfl .n)) ?_)
    rintro ⟨p327,c328⟩ -
    dsimp only [List.append_eq,List.nil_append,List.cons_append]
    refine zV 5 (by kernel_rfl) (zT rfl rfl rfl rfl (.c rfl (.c rfl .n)) ce84 (zEb (x1:=x1) (x2:=(Big.fq x1 x2)*x2) (p1:=p25) (c1:=c26) (p2:=p327) (c2:=c328) (hb1:=by first|rfl|assumption|omega|(unfold Big.ln;omega)|(unfold Big.ln;rw [hsq];omega)|(decide +kernel)) (hb2:=by first|rfl|assumption|omega|(unfold Big.ln;omega)|(unfold Big.ln;rw [hsq];omega)|(decide +kernel))) (.c (j:=5) rfl (.c (j:=0) rfl .n)) ?_)
    rintro ⟨p329,c330⟩ -
    dsimp only [List.append_eq,List.nil_append,List.cons_append]
    refine zV 6 (by kernel_rfl) (zL (by kernel_rfl) rfl rfl rfl rfl rfl sz43 rfl (.take (.take .nil)) ?_)
    refine zMa (zna (i:=1) rfl)<|zV 7 (by kernel_rfl) (zL (by kernel_rfl) rfl rfl rfl rfl rfl sz43 rfl (.take (.take .nil)) ?_)
    refine d_pv 8 rfl rfl (by kernel_rfl) (by kernel_rfl) rfl rfl (zd rfl)<|zga (by kernel_rfl)<|ze<|zI ?_
    have hz2:x1 - Big.fq x1 x2*x2=Big.fr x1 x2:=by unfold Big.fr;rw [Int.mul_comm]
    exact zoc Try.results66 (p214,c215,p329,c330) trivial (zu 1 ty43 rfl rfl (.take (.take .nil))) (zu 0 ty43 rfl rfl (.take (.take .nil))) (zq rfl) (by rw [hz2]) (ho:=(.n:PickO _ _ _)) ((.c (j:=2) rfl (.e (j:=0) rfl (by rw [hz2]) .n)):SelR _ _ _)
  ·
   have hs9:=Decidable.not_not.1 hsd
   have hqz:Big.sg (decide (decide (x1<0)≠decide (x2<0))) (Q:Int)=Big.fq x1 x2:=by rw [decide_eq_false hsd,hQ];exact (Big.fq_same hy hs9).1
   refine za rfl rfl<|za rfl rfl<|za rfl rfl<|r_pv rfl rfl (zk rfl rfl)<|zj<|ze<|zUa rfl rfl<|zA<|ze<|zi ?_
   have e31:Big.sg (decide (decide (x1<0)≠decide (x2<0))) (Q:Int)=Big.fq x1 x2:=by exact hqz
   rw [e31]
   refine zza (.c (i:=4) rfl (.c (i:=3) rfl (.c (i:=0) rfl (.c (i:=0) rfl (.c (i:=0) rfl .n)))))<|zja (OW:=[boxA b3 43 [wz.b,wz.l],boxA b4 43 [wz.b,wz.l]]) (O:=[boxA b16 43 [.bool (decide ((Big.fq x1 x2)<0)),.slice p214 ((Big.digs ((Big.fq x1 x2).natAbs)).length) c215],boxA b2 43 [.bool (decide (x2<0)),.slice p27 ((Big.digs ((x2).natAbs)).length) c28],boxA b1 43 [.bool (decide (x1<0)),.slice p25 ((Big.digs ((x1).natAbs)).length) c26]]) 6 mixed (.then .ret) (by kernel_rfl)<|d_uw 0 rfl rfl (by kernel_rfl) (by kernel_rfl) (by kernel_rfl) rfl rfl (zh 2 ty43 rfl rfl (.take (.take .nil)))<|d_uw 1 rfl rfl (by kernel_rfl) (by kernel_rfl) (by kernel_rfl) rfl rfl (zh 4 ty43 rfl rfl (.take (.take .nil)))<|d_uw 2 rfl rfl (by kernel_rfl) (by kernel_rfl) (by kernel_rfl) rfl rfl (zh 2 ty43 rfl rfl (.take (.take .nil)))<|d_uw 3 rfl rfl (by kernel_rfl) (by kernel_rfl) (by kernel_rfl) rfl rfl (zh 3 ty43 rfl rfl (.take (.take .nil)))<|zV 4 (by kernel_rfl) (zT rfl rfl rfl rfl (.c rfl (.c rfl .n)) ce46 (zFb (x1:=Big.fq x1 x2) (x2:=x2) (p1:=p214) (c1:=c215) (p2:=p27) (c2:=c28) (hb1:=by first|rfl|assumption|omega|(unfold Big.ln;omega)|(unfold Big.ln;rw [hsq];omega)|(decide +kernel)) (hb2:=by first|rfl|assumption|omega|(unfold Big.ln;omega)|(unfold Big.ln;rw [hsq];omega)|(decide +kernel))) (.c (j:=0) rfl (.c (j:=3) rfl .n)) ?_)
   rintro ⟨p332,c333⟩ -
   dsimp only [List.append_eq,List.nil_append,List.cons_append]
   refine zV 5 (by kernel_rfl) (zT rfl rfl rfl rfl (.c rfl (.c rfl .n)) ce84 (zEb (x1:=x1) (x2:=(Big.fq x1 x2)*x2) (p1:=p25) (c1:=c26) (p2:=p332) (c2:=c333) (hb1:=by first|rfl|assumption|omega|(unfold Big.ln;omega)|(unfold Big.ln;rw [hsq];omega)|(decide +kernel)) (hb2:=by first|rfl|assumption|omega|(unfold Big.ln;omega)|(unfold Big.ln;rw [hsq];omega)|(decide +kernel))) (.c (j:=5) rfl (.c (j:=0) rfl .n)) ?_)
   rintro ⟨p334,c335⟩ -
   dsimp only [List.append_eq,List.nil_append,List.cons_append]
   refine zV 6 (by kernel_rfl) (zL (by kernel_rfl) rfl rfl rfl rfl rfl sz43 rfl (.take (.take .nil)) ?_)
   refine zMa (zna (i:=1) rfl)<|zV 7 (by kernel_rfl) (zL (by kernel_rfl) rfl rfl rfl rfl rfl sz43 rfl (.take (.take .nil)) ?_)
   refine d_pv 8 rfl rfl (by kernel_rfl) (by kernel_rfl) rfl rfl (zd rfl)<|zga (by kernel_rfl)<|ze<|zI ?_
   have hz2:x1 - Big.fq x1 x2*x2=Big.fr x1 x2:=by unfold Big.fr;rw [Int.mul_comm]
   exact zoc Try.results66 (p214,c215,p334,c335) trivial (zu 1 ty43 rfl rfl (.take (.take .nil))) (zu 0 ty43 rfl rfl (.take (.take .nil))) (zq rfl) (by rw [hz2]) (ho:=(.n:PickO _ _ _)) ((.c (j:=2) rfl (.e (j:=0) rfl (by rw [hz2]) .n)):SelR _ _ _)
theorem zcb {w1:Wd} {w2:Wd} {x1:Int} {x2:Int} (hb1:Big.ln x1≤274877906944) (hb2:Big.ln x2≤274877906944) (hy:x2≠0):Con Try.prog 66 [.agg #[w1.b,w1.l],.agg #[w2.b,w2.l]] [] [zF w1 (x1),zF w2 (x2)] (Y:=(Wd)×(Wd)) (fun y=>True) (fun y=> .tuple #[.agg #[y.1.b,y.1.l],.agg #[y.2.b,y.2.l],.int .i64 (0)]) (fun y=>[]) (fun y=>[zF y.1 (Big.fq x1 x2),zF y.2 (Big.fr x1 x2)]):=by
  exact zse (zsc (fun p1 c1 p2 c2=>zcd hb1 hb2 hy))
end Go.Proofs.Ytefbbhiaalcjfaa.Sp
