/- Lemmas on the walk and plain lemmas that the claim of this folder uses; each states its own conditions. Lines were printed by a program of ours. -/
import Derived.Test.YtkamccndgblheaaGreatZ6B
set_option linter.unusedVariables false
set_option linter.unusedSimpArgs false
set_option linter.unusedSectionVars false
namespace Go.Proofs.YtkamccndgblheaaGreat.Sp
open Go
set_option linter.unusedVariables false
set_option maxRecDepth 100000
set_option maxHeartbeats 1000000
theorem zPf {p:Option Addr} {n:Nat} {cap:Nat} {l:List Int} (hn:l.length=n) (hb:n≤2199023255552):Con Tryz.prog 113 [.slice p n cap] [] [slF (rI .u32) p cap l] (Y:=(Option Addr)×Nat) (fun y=>True) (fun y=> .slice (y.1) (l.length) (y.2)) (fun y=>[]) (fun y=>[slF (rI .u32) (y.1) (y.2) l]):=by
 refine zq Tryz.func113 rfl rfl rfl (fun c=> ?_)
 show RunC _ _ _ _ _ [(0,.slice p n cap)] [] [slF (rI .u32) p cap l]
 refine zY 0 rfl (fun hL0=> ?_)
 refine c_nil 0 rfl (fun hnil=> ?_)
 refine zi<|zc<|r_pv rfl rfl (zd rfl)<|zj<|ze<|zi<|zi<|zc<|r_pv rfl rfl (za rfl)<|r_pv rfl rfl (zed Tryz.underlying28 rfl rfl)<|zj<|ze<|zyb rfl (fun h0=> ?_) (fun h0=> ?_)
 ·
  refine zi<|zc<|r_pv rfl rfl (zd rfl)<|zj<|ze<|zI<|zp ?_
  obtain rfl:l=[]:=hnil (by simpa using h0)
  refine zdd (rI .u32) ?_
  exact zE Tryz.results113 (none,0) trivial (zo rfl) rfl (ho:=(.n:PickO _ _ _)) ((.c (j:=0) rfl .n):SelR _ _ _)
 ·
  refine zB<|ze<|zi<|zc<|zza rfl rfl (zua (rI .u32) Tryz.underlying28 inf111) (fun b1 _=> ?_)
  refine r_pv rfl rfl (za rfl)<|zDa 0 rfl rfl rfl (zxa 0 rfl Tryz.underlying28 inf111 (by decide) rfl rfl (by first|rfl|assumption|(simp_all;done)|omega) rfl (by first|rfl|assumption|(simp_all;done)|omega) (by first|omega|(simp;omega)) (by first|omega|(simp;omega))) (fun _=> .z) ?_
  rintro ⟨p2,c3⟩ -
  dsimp only [List.append_eq,List.nil_append,List.cons_append]
  refine r_pv rfl rfl (zd rfl)<|zj<|ze<|zI<|zta 0 rfl .z ?_
  exact zE Tryz.results113 (p2,c3) trivial (zo rfl) (by simp [hn]) (ho:=(.n:PickO _ _ _)) ((.c (j:=0) rfl .n):SelR _ _ _)
theorem zgc {a:Nat} {p:Option Addr} {cap:Nat} (hb:(Big.digs (a)).length≤2199023255552):Con Tryz.prog 113 [.slice (p) ((Big.digs (a)).length) (cap)] [] [slF (rI .u32) (p) (cap) (Big.digs (a))] (Y:=(Option Addr)×(Nat)) (fun y=>True) (fun y=> .slice (y.1) ((Big.digs (a)).length) (y.2)) (fun y=>[]) (fun y=>[slF (rI .u32) (y.1) (y.2) (Big.digs (a))]):=by
  exact zPf rfl hb
theorem zhc {a:Nat} {p:Option Addr} {cap:Nat}:Con Tryz.prog 110 [.slice p ((Big.digs a).length) cap] [] [slF (rI .u32) p cap (Big.digs a)] (Y:=Unit) (fun y=>True) (fun y=> .tuple #[.int .u64 (((if (Big.digs a).length≤2 then a else 0):Nat):Int),.bool (decide ((Big.digs a).length≤2))]) (fun y=>[]) (fun y=>[]):=by
 refine zVb Tryz.func110 rfl rfl rfl (fun c=> ?_)
 show RunC _ _ _ _ _ [(0,.slice p ((Big.digs a).length) cap)] [] [slF (rI .u32) p cap (Big.digs a)]
 refine zY 0 rfl (fun hL0=> ?_)
 refine zi<|zc<|r_pv rfl rfl (zd rfl)<|r_pv rfl rfl (zd rfl)<|zj<|ze<|zi<|zi<|zc<|r_pv rfl rfl (za rfl)<|r_pv rfl rfl (zM Tryz.underlying28 rfl)<|r_pv rfl rfl (zoa rfl rfl)<|zj<|ze<|zG rfl (fun hgt=> ?_) (fun hgt=> ?_)
 ·
  refine zi<|zc<|r_pv rfl rfl (zd rfl)<|r_pv rfl rfl (zd rfl)<|zj<|ze<|zI<|zp<|zye ?_
  exact zBa Tryz.results110 () trivial (zo rfl) (zo rfl) (by rw [if_neg (by omega),decide_eq_false (show ¬(Big.digs a).length≤2 by omega)];rfl) (ho:=(.n:PickO _ _ _)) (.n:SelR _ _ _)
 ·
  have hle:(Big.digs a).length≤2:=by omega
  have h18:=Big.two_lt hle
  refine zB<|ze<|zi<|zc<|zJ rfl rfl (zw zr115 rfl) (fun b1=> ?_)
  refine zn 0 rfl rfl rfl rfl rfl sz115 rfl (.take .nil) .z<|zj<|ze<|zi<|zi<|zc<|r_pv rfl rfl (za rfl)<|zy rfl rfl (.c rfl .n) ce127 (zDb (p:=p) (n:=(Big.digs a).length) (cap:=cap)) (.n) ?_
  rintro b2 -
  dsimp only [List.append_eq,List.nil_append,List.cons_append]
  refine zj<|ze<|zA<|zGd (fa:=[atF b2 0 [.slice p ((Big.digs a).length) cap],slF (rI .u32) p cap (Big.digs a)]) (N:=((Big.digs a).length)) (encs:=fun k=>[.int .i64 ((k:Nat):Int),.int .u32 ((Big.digs a).getD k 0)]) rfl ce132 (back_u32 (by first|rfl|assumption|(simp_all;done)|omega)) (fun _=>rfl) rfl (X:=Int) (Y:=Unit) (fun x k=>k≤(Big.digs a).length∧x=Big.valL ((Big.digs a).drop k)∧0≤x∧x*Big.pw k≤(a:Int)) (fun y=>False) (fun x=>[boxA b1 115 [.int .u64 x]]) (fun x=>[]) (fun y=>[]) (fun y=>[]) (fun k=>[(6,.int .u32 ((Big.digs a).getD k 0)),(13,.int .u32 ((Big.digs a).getD k 0)),(12,.int .i64 ((k:Nat):Int)),(11,.func (.func 132) #[] #[.pointer (some ⟨b2,0,none⟩)]),(10,.slice p ((Big.digs a).length) cap),(4,.pointer (some ⟨b1,0,none⟩)),(9,.bool (decide (2<(((Big.digs a).length:Nat):Int)))),(8,.int .i64 (((Big.digs a).length:Nat):Int)),(7,.slice p ((Big.digs a).length) cap),(3,.bool false),(2,.int .u64 0),(0,.slice p ((Big.digs a).length) cap)]) (0:Int) (show ((Big.digs a).length)≤(Big.digs a).length∧(0:Int)=Big.valL ((Big.digs a).drop ((Big.digs a).length))∧0≤(0:Int)∧(0:Int)*Big.pw ((Big.digs a).length)≤(a:Int) from by exact ⟨Nat.le_refl _,by simp [Big.valL],Int.le_refl _,by simp⟩) (ho:=((.e (i:=0) rfl (by first|rfl|(congr 1;omega)|simp_all) .n):PickO _ _ _)) ((.of [0,1] rfl):SelR _ _ _) ?_ ?_ ?_ ?_
  ·
   intro l k O' R' Q' hP
   refine zc<|r_pv rfl rfl (zd rfl)<|zj ?_
   exact hP
  ·
   rintro l3 D4 o5 o6 z k hkN hI
   replace hI:(k+1)≤(Big.digs a).length∧z=Big.valL ((Big.digs a).drop (k+1))∧0≤z∧z*Big.pw (k+1)≤(a:Int):=hI
   try dsimp only
   obtain ⟨hk,hz,hz0,hzp⟩:=hI
   have hg:=Big.okL_getD (Big.digs_ok a) k
   have hlim:=Big.word_lim hle (show k+1≤(Big.digs a).length by omega) hz0 hzp
   refine zA<|zc<|r_u rfl rfl (zh 2 ty115 rfl rfl rfl)<|r_pv rfl rfl (zpa (z:=(z*1000000000)) rfl rfl (wu64 (by omega)))<|r_pv rfl rfl (za rfl)<|r_pv rfl rfl (zC (z:=((Big.digs a).getD k 0)) rfl (by rw [Tryz.underlying111];rfl) Tryz.underlying115 (wu64 (by omega)))<|r_pv rfl rfl (zx (z:=((z*1000000000)+((Big.digs a).getD k 0))) rfl rfl (wu64 (by omega)))<|zn 2 rfl rfl rfl rfl rfl sz115 rfl (.take .nil) (.s (.s .z))<|zj<|zT ?_
   exact zEd (z*1000000000+(Big.digs a).getD k 0) (show k≤(Big.digs a).length∧(z*1000000000+(Big.digs a).getD k 0)=Big.valL ((Big.digs a).drop k)∧0≤(z*1000000000+(Big.digs a).getD k 0)∧(z*1000000000+(Big.digs a).getD k 0)*Big.pw k≤(a:Int) from by exact ⟨by omega,by rw [hz];exact Big.word_step k,by omega,Big.word_keep (show k+1≤(Big.digs a).length by omega) hz⟩) (ho:=((.c (i:=0) rfl (.c (i:=0) rfl (.e (i:=0) rfl (by first|rfl|(congr 1;omega)|simp_all) .n))):PickO _ _ _)) ((.of [0,1] rfl):SelR _ _ _)
  ·
   rintro D7 z hI
   replace hI:0≤(Big.digs a).length∧z=Big.valL ((Big.digs a).drop 0)∧0≤z∧z*Big.pw 0≤(a:Int):=hI
   try dsimp only
   have hz9:z=(a:Int):=by rw [hI.2.1,List.drop_zero,Big.valL_digs]
   refine zT<|ze<|zi<|zc<|r_u rfl rfl (zh 1 ty115 rfl rfl rfl)<|r_pv rfl rfl (zd rfl)<|r_pv rfl rfl (zd rfl)<|zj<|ze<|zI<|zae 0 rfl rfl ?_
   exact zBa Tryz.results110 () trivial (zo rfl) (zo rfl) (by rw [if_pos hle,decide_eq_true hle,hz9]) (ho:=(.n:PickO _ _ _)) (.n:SelR _ _ _)
  ·
   intro _ _ h;exact h.elim
theorem znd {a:Nat} {mm:Nat} {p:Option Addr} {cap:Nat} (hb:(Big.digs a).length≤1099511627776) (hm0:0<mm) (hm1:mm<4294967296):Con Tryz.prog 129 [.slice p ((Big.digs a).length) cap,.int .u32 ((mm:Nat):Int)] [] [slF (rI .u32) p cap (Big.digs a)] (Y:=(Option Addr)×Nat) (fun y=>True) (fun y=> .tuple #[.slice (y.1) ((Big.digs (a / mm)).length) (y.2),.int .u32 (((a%mm):Nat):Int)]) (fun y=>[]) (fun y=>[slF (rI .u32) (y.1) (y.2) (Big.digs (a / mm))]):=by
 refine zVb Tryz.func129 rfl rfl rfl (fun c=> ?_)
 show RunC _ _ _ _ _ [(0,.slice p ((Big.digs a).length) cap),(1,.int .u32 ((mm:Nat):Int))] [] [slF (rI .u32) p cap (Big.digs a)]
 refine zY 0 rfl (fun hL0=> ?_)
 refine zi<|zc<|zJ rfl rfl (zQ rfl rfl) (fun b1=> ?_)
 refine zJ rfl rfl (zw zr28 rfl) (fun b2=> ?_)
 refine r_pv rfl rfl (zd rfl)<|zj<|ze<|zi<|zc<|r_pv rfl rfl (za rfl)<|r_pv rfl rfl (zM Tryz.underlying28 rfl)<|zza rfl rfl (zIa (r:=rI .u32) (k:=(Big.digs a).length) (x0:=0) (γ0:=()) Tryz.underlying28 inf111 rfl rfl rfl rfl (by omega) (by omega) rfl (fun _ _=>by exact zv.2 (by decide)) (by decide)) (fun b3 _=> ?_)
 refine zn 1 rfl rfl rfl rfl rfl sz28 rfl (.take .nil) (.s .z)<|zj<|ze<|zi<|zc<|zJ rfl rfl (zw zr115 rfl) (fun b4=> ?_)
 refine zn 0 rfl rfl rfl rfl rfl sz115 rfl (.take .nil) .z<|zj<|ze<|zi<|zi<|zc<|r_pv rfl rfl (za rfl)<|zy rfl rfl (.c rfl .n) ce127 (zDb (p:=p) (n:=(Big.digs a).length) (cap:=cap)) (.n) ?_
 rintro b5 -
 dsimp only [List.append_eq,List.nil_append,List.cons_append]
 refine zj<|ze<|zA<|zGd (fa:=[atF b5 0 [.slice p ((Big.digs a).length) cap],slF (rI .u32) p cap (Big.digs a)]) (N:=((Big.digs a).length)) (encs:=fun k=>[.int .i64 ((k:Nat):Int),.int .u32 ((Big.digs a).getD k 0)]) rfl ce132 (back_u32 (by first|rfl|assumption|(simp;done)|omega)) (fun _=>rfl) rfl (X:=(List Int)×(List Int)×Int) (Y:=Unit) (fun x k=>x.1=List.replicate k 0++x.2.1∧Big.ShI (Big.digs a) (mm:Int) k x.2.1 x.2.2) (fun y=>False) (fun x=>[boxA b4 115 [.int .u64 (x.2.2)],rowA 111 (rI .u32) (some ⟨b3,0,none⟩) ((Big.digs a).length) (x.1),boxA b2 28 [.slice (some ⟨b3,0,none⟩) ((Big.digs a).length) ((Big.digs a).length)],boxA b1 111 [.int .u32 ((mm:Nat):Int)]]) (fun x=>[]) (fun y=>[]) (fun y=>[]) (fun k=>[(8,.int .u32 ((Big.digs a).getD k 0)),(7,.int .i64 ((k:Nat):Int)),(16,.int .u32 ((Big.digs a).getD k 0)),(15,.int .i64 ((k:Nat):Int)),(14,.func (.func 132) #[] #[.pointer (some ⟨b5,0,none⟩)]),(13,.slice p ((Big.digs a).length) cap),(6,.pointer (some ⟨b4,0,none⟩)),(12,.slice (some ⟨b3,0,none⟩) ((Big.digs a).length) ((Big.digs a).length)),(11,.int .i64 (((Big.digs a).length:Nat):Int)),(10,.slice p ((Big.digs a).length) cap),(5,.int .u32 0),(4,.pointer (some ⟨b2,0,none⟩)),(3,.pointer (some ⟨b1,0,none⟩)),(0,.slice p ((Big.digs a).length) cap),(1,.int .u32 ((mm:Nat):Int))]) ((List.replicate (Big.digs a).length 0),([]:List Int),(0:Int)) (show (List.replicate (Big.digs a).length 0)=List.replicate ((Big.digs a).length) 0++([]:List Int)∧Big.ShI (Big.digs a) (mm:Int) ((Big.digs a).length) ([]:List Int) (0:Int) from by exact ⟨by simp,Big.ShI.start (by omega)⟩) (ho:=((.e (i:=0) rfl (by first|rfl|(congr 1;omega)|simp_all) (.e (i:=0) rfl (by first|rfl|(congr 1;omega)|simp_all) (.of [0,0] rfl))):PickO _ _ _)) ((.of [0,1] rfl):SelR _ _ _) ?_ ?_ ?_ ?_
 ·
  intro l k O' R' Q' hP
  refine zi<|zc<|r_pv rfl rfl (zd rfl)<|zj<|ze<|zc<|r_pv rfl rfl (zd rfl)<|zj ?_
  exact hP
 ·
  rintro l6 D7 o8 o9 ⟨os,qs,z⟩ k hkN hI
  replace hI:os=List.replicate (k+1) 0++qs∧Big.ShI (Big.digs a) (mm:Int) (k+1) qs z:=hI
  try dsimp only
  obtain ⟨hos,hS⟩:=hI
  have hz0:=hS.r0
  have hz1:=hS.r1
  have hkle:=hS.le
  have hosl:os.length=(Big.digs a).length:=by rw [hos,List.length_append,List.length_replicate,hS.len];omega
  have hg:=Big.okL_getD (Big.digs_ok a) k
  have hdg:=Big.sh_digit hz0 hz1 hg
  have hrm:=Int.emod_lt_of_pos (z*1000000000+(Big.digs a).getD k 0) (show 0<(mm:Int) by omega)
  have hrm0:=Int.emod_nonneg (z*1000000000+(Big.digs a).getD k 0) (show (mm:Int)≠0 by omega)
  refine zA<|zi<|zc<|r_u rfl rfl (zh 2 ty115 rfl rfl rfl)<|r_pv rfl rfl (zpa (z:=(z*1000000000)) rfl rfl (wu64 (by omega)))<|r_pv rfl rfl (za rfl)<|r_pv rfl rfl (zC (z:=((Big.digs a).getD k 0)) rfl (by rw [Tryz.underlying111];rfl) Tryz.underlying115 (wu64 (by omega)))<|r_pv rfl rfl (zx (z:=((z*1000000000)+((Big.digs a).getD k 0))) rfl rfl (wu64 (by omega)))<|r_pv rfl rfl (zd rfl)<|zj<|ze<|zsa (.c (i:=3) rfl (.c (i:=2) rfl (.c (i:=0) rfl (.c (i:=0) rfl (.c (i:=0) rfl (.c (i:=0) rfl .n))))))<|zDe (OW:=[rowA 111 (rI .u32) (some ⟨b3,0,none⟩) ((Big.digs a).length) os,boxA b4 115 [.int .u64 z]]) (O:=[objA l6 o8,objA D7 o9,boxA b2 28 [.slice (some ⟨b3,0,none⟩) ((Big.digs a).length) ((Big.digs a).length)],boxA b1 111 [.int .u32 ((mm:Nat):Int)]]) 12 mixed (by kernel_rfl) (by kernel_rfl)<|d_uw 0 rfl rfl (by kernel_rfl) (by kernel_rfl) (by kernel_rfl) rfl rfl (zh 4 ty28 rfl rfl rfl)<|d_pv 1 rfl rfl (by kernel_rfl) (by kernel_rfl) rfl rfl (za rfl)<|d_pv 2 rfl rfl (by kernel_rfl) (by kernel_rfl) rfl rfl (za rfl)<|d_uw 3 rfl rfl (by kernel_rfl) (by kernel_rfl) (by kernel_rfl) rfl rfl (zh 5 ty111 rfl rfl rfl)<|d_pv 4 rfl rfl (by kernel_rfl) (by kernel_rfl) rfl rfl (zC (z:=((mm:Nat):Int)) rfl (by rw [Tryz.underlying111];rfl) Tryz.underlying115 (wu64 (by omega)))<|d_pv 5 rfl rfl (by kernel_rfl) (by kernel_rfl) rfl rfl (zVa (z:=(((z*1000000000)+((Big.digs a).getD k 0)) / ((mm:Nat):Int))) rfl rfl (by omega) (by rw [quoN (z:=(((z*1000000000)+((Big.digs a).getD k 0)) / ((mm:Nat):Int))) (by omega) (by omega)];exact wu64 (by omega)))<|d_pv 6 rfl rfl (by kernel_rfl) (by kernel_rfl) rfl rfl (zC (z:=(((z*1000000000)+((Big.digs a).getD k 0)) / ((mm:Nat):Int))) rfl (by rw [Tryz.underlying115];rfl) Tryz.underlying111 (wu32 (by omega)))<|d_pv 7 rfl rfl (by kernel_rfl) (by kernel_rfl) rfl rfl (za rfl)<|d_u 8 rfl rfl (by kernel_rfl) (by kernel_rfl) rfl rfl (zh 3 ty111 rfl rfl rfl)<|d_pv 9 rfl rfl (by kernel_rfl) (by kernel_rfl) rfl rfl (zC (z:=((mm:Nat):Int)) rfl (by rw [Tryz.underlying111];rfl) Tryz.underlying115 (wu64 (by omega)))<|d_pv 10 rfl rfl (by kernel_rfl) (by kernel_rfl) rfl rfl (zWa (z:=(((z*1000000000)+((Big.digs a).getD k 0))%((mm:Nat):Int))) rfl rfl (by omega) (remN (by omega) (by omega)))<|d_pv 11 rfl rfl (by kernel_rfl) (by kernel_rfl) rfl rfl (zX (j:=k) Tryz.underlying28 sz111 rfl rfl rfl (by omega))<|zL 12 (by kernel_rfl) (zBd (A':=fun _=>rowA 111 (rI .u32) (some ⟨b3,0,none⟩) ((Big.digs a).length) (os.set k (((z*1000000000)+((Big.digs a).getD k 0)) / ((mm:Nat):Int)))) (by kernel_rfl) rfl rfl rfl (zW (j:=k) (x0:=(((z*1000000000)+((Big.digs a).getD k 0)) / ((mm:Nat):Int))) (γ0:=()) rfl rfl (by first|omega|(rw [List.length_map];omega)|(simp only [List.length_set];omega)|(simp;done)|(simp;omega)) rfl rfl sz111 (fun _ _=>by exact zv.2 (by omega))) (fun _ _=> ?_))
  refine zJa (zma (i:=1) rfl)<|zL 13 (by kernel_rfl) (zD (by kernel_rfl) rfl rfl rfl rfl rfl sz115 rfl (.take .nil) ?_)
  refine zEe (by kernel_rfl)<|zT ?_
  exact zEd ((os.set k (((z*1000000000)+((Big.digs a).getD k 0)) / ((mm:Nat):Int))),((z*1000000000+(Big.digs a).getD k 0) / (mm:Int) :: qs),((z*1000000000+(Big.digs a).getD k 0)%(mm:Int))) (show (os.set k (((z*1000000000)+((Big.digs a).getD k 0)) / ((mm:Nat):Int)))=List.replicate k 0++((z*1000000000+(Big.digs a).getD k 0) / (mm:Int) :: qs)∧Big.ShI (Big.digs a) (mm:Int) k ((z*1000000000+(Big.digs a).getD k 0) / (mm:Int) :: qs) ((z*1000000000+(Big.digs a).getD k 0)%(mm:Int)) from by exact ⟨by rw [hos];exact Big.pad_set _,hS.step (Big.digs_ok a)⟩) (ho:=((.c (i:=2) rfl (.c (i:=2) rfl (.e (i:=0) rfl (by first|rfl|(congr 1;omega)|simp_all) (.of [0,0,0] rfl)))):PickO _ _ _)) ((.of [0,1] rfl):SelR _ _ _)
 ·
  rintro D10 ⟨os,qs,z⟩ hI
  replace hI:os=List.replicate 0 0++qs∧Big.ShI (Big.digs a) (mm:Int) 0 qs z:=hI
  try dsimp only
  obtain ⟨hos,hS⟩:=hI
  obtain ⟨hf1,hf2⟩:=hS.fin
  have hoq:os=qs:=by simpa using hos
  have htr:Big.trimL os=Big.digs (a / mm):=by rw [hoq];exact hf1
  have hosl:os.length=(Big.digs a).length:=by rw [hoq,hS.len];omega
  have hzr:=hS.r1
  have hzr0:=hS.r0
  refine zT<|ze<|zi<|zsa (.c (i:=3) rfl (.c (i:=0) rfl (.c (i:=0) rfl (.c (i:=0) rfl (.c (i:=0) rfl .n)))))<|zDe (OW:=[boxA b2 28 [.slice (some ⟨b3,0,none⟩) ((Big.digs a).length) ((Big.digs a).length)]]) (O:=[objA D10 (.deferred (some [])),boxA b4 115 [.int .u64 z],rowA 111 (rI .u32) (some ⟨b3,0,none⟩) ((Big.digs a).length) os,boxA b1 111 [.int .u32 ((mm:Nat):Int)]]) 4 mixed (by kernel_rfl) (by kernel_rfl)<|d_uw 0 rfl rfl (by kernel_rfl) (by kernel_rfl) (by kernel_rfl) rfl rfl (zh 0 ty28 rfl rfl rfl)<|d_u 2 rfl rfl (by kernel_rfl) (by kernel_rfl) rfl rfl (zh 1 ty115 rfl rfl rfl)<|d_pv 3 rfl rfl (by kernel_rfl) (by kernel_rfl) rfl rfl (zC (z:=z) rfl (by rw [Tryz.underlying115];rfl) Tryz.underlying111 (wu32 (by omega)))<|zOc 2 rfl (.s (.s .z))<|zL 1 (by kernel_rfl) (zH rfl rfl rfl rfl (.c rfl .n) ce124 (zrb (p:=some ⟨b3,0,none⟩) (n:=(Big.digs a).length) (cap:=(Big.digs a).length) (l:=os) (hn:=by first|rfl|assumption|omega|(simp;done)|(simp;omega)|(simp_all;done))) (.c (j:=0) rfl .n) ?_)
  rintro ⟨⟩ -
  dsimp only [List.append_eq,List.nil_append,List.cons_append]
  refine zL 4 (by kernel_rfl) (zD (by kernel_rfl) rfl rfl rfl rfl rfl sz28 rfl (.take .nil) ?_)
  refine d_pv 5 rfl rfl (by kernel_rfl) (by kernel_rfl) rfl rfl (zd rfl)<|zEe (by kernel_rfl)<|ze<|zI<|zae 1 rfl rfl ?_
  exact zBa Tryz.results129 ((some ⟨b3,0,none⟩),((Big.digs a).length)) trivial (zpb 0 ty28 rfl rfl rfl) (zo rfl) (by rw [htr,hf2]) (ho:=(.n:PickO _ _ _)) ((.e (j:=0) rfl (by rw [htr]) .n):SelR _ _ _)
 ·
  intro _ _ h;exact h.elim
theorem zQe {p:Option Addr} {n:Nat} {cap:Nat} {l:List Int} (hn:l.length=n):Con Tryz.prog 124 [.slice p n cap] [rowA 111 (rI .u32) p cap l] [] (Y:=Unit) (fun y=>True) (fun y=> .slice p ((Big.trimL l).length) cap) (fun y=>[rowA 111 (rI .u32) p cap (Big.trimL l)]) (fun y=>[]):=by
 refine zq Tryz.func124 rfl rfl rfl (fun c=> ?_)
 show RunC _ _ _ _ _ [(0,.slice p n cap)] [rowA 111 (rI .u32) p cap l] []
 refine zlf 0 rfl (fun hcl=> ?_)
 refine zi<|zc<|r_pv rfl rfl (zd rfl)<|zj<|ze<|zi<|zA<|zka (X:=Nat) (fun x:Nat=>x≤l.length∧Big.trimL (l.take x)=Big.trimL l) (fun x=>[(0,.slice p x cap),(2,.slice none 0 0)]) (fun x=>[rowA 111 (rI .u32) p cap l]) (fun x=>[]) (fun x:Nat=>x) n (show n≤l.length∧Big.trimL (l.take n)=Big.trimL l from by exact ⟨by omega,by rw [List.take_of_length_le (by omega)]⟩) ((.c rfl (.c rfl .n)):SubM _ _) (ho:=((.c (i:=0) rfl .n):PickO _ _ _)) (.n:SelR _ _ _) ?_
 rintro k hI
 replace hI:k≤l.length∧Big.trimL (l.take k)=Big.trimL l:=hI
 try dsimp only
 obtain ⟨hk,hT⟩:=hI
 refine zi<|zGa (X:=Unit) (fun x=>True) (fun x=>[(14,.bool (decide (0<k∧l.getD (k - 1) 0=0))),(0,.slice p k cap),(2,.slice none 0 0)]) (fun x=>[rowA 111 (rI .u32) p cap l]) (fun x=>[]) ?_ ?_
 ·
  refine zc<|r_pv rfl rfl (za rfl)<|r_pv rfl rfl (zM Tryz.underlying28 rfl)<|r_pv rfl rfl (zoa rfl rfl)<|zP rfl rfl (za rfl) (fun h1=> ?_) (fun h1=> ?_)
  ·
   refine r_pv rfl rfl (za rfl)<|r_pv rfl rfl (za rfl)<|r_pv rfl rfl (zM Tryz.underlying28 rfl)<|r_pv rfl rfl (zaa (z:=(((k - 1):Nat):Int)) rfl rfl (w64 (by omega)))<|r_u rfl rfl (zPc 0 (k - 1) rfl Tryz.underlying28 sz111 rfl (by first|rfl|assumption|omega) rfl rfl (by omega))<|r_vl rfl rfl (zfa 0 (k - 1) rfl ty111 rfl rfl (gD (d:=0) (by omega)) rfl) (fun _ hok2=> ?_)
   replace hok2:=zv.1 hok2
   refine r_pv rfl rfl (zva rfl rfl)<|r_pv rfl rfl (zm rfl rfl)<|zj ?_
   exact zca () (show True from by first|trivial|omega|simp_all) ((.e rfl (congrArg Value.bool (by have h1:0<k:=(by omega);have h2:((k:Int) - 1).toNat=k - 1:=(by omega);simp [h1,h2])) (.c rfl (.c rfl .n))):SubM _ _) (ho:=((.c (i:=0) rfl .n):PickO _ _ _)) (.n:SelR _ _ _)
  ·
   refine zb rfl rfl<|zb rfl rfl<|zb rfl rfl<|zb rfl rfl<|zb rfl rfl<|zb rfl rfl<|zb rfl rfl<|r_pv rfl rfl (zm rfl rfl)<|zj ?_
   exact zca () (show True from by first|trivial|omega|simp_all) ((.e rfl (congrArg Value.bool (by have h1:¬0<k:=(by omega);simp [h1])) (.c rfl (.c rfl .n))):SubM _ _) (ho:=((.c (i:=0) rfl .n):PickO _ _ _)) (.n:SelR _ _ _)
 ·
  rintro ⟨⟩ -
  try dsimp only
  refine zG rfl (fun hc=> ?_) (fun hc=> ?_)
  ·
   refine zB<|ze<|zA<|zc<|r_pv rfl rfl (za rfl)<|r_pv rfl rfl (za rfl)<|r_pv rfl rfl (zM Tryz.underlying28 rfl)<|r_pv rfl rfl (zaa (z:=(((k - 1):Nat):Int)) rfl rfl (w64 (by omega)))<|r_pv rfl rfl (zBb (hi:=(k - 1)) Tryz.underlying28 sz111 rfl (.s rfl) (.inr ⟨_,rfl⟩) (by omega))<|r_pv rfl rfl (zd rfl)<|zj<|zT<|zha (k - 1) (show (k - 1)≤l.length∧Big.trimL (l.take (k - 1))=Big.trimL l from by exact ⟨by omega,by rw [← hT,Big.trim_go l hc.1 hk hc.2]⟩) (by show k - 1<k;omega) ((.e rfl (by first|rfl|(congr 1;omega)|simp_all) (.c rfl .n)):SubM _ _) (ho:=((.c (i:=0) rfl .n):PickO _ _ _)) (.n:SelR _ _ _)
  ·
   refine zja<|zl<|zl<|zu<|ze<|zi<|zc<|r_pv rfl rfl (za rfl)<|r_pv rfl rfl (zd rfl)<|zj<|ze<|zI ?_
   have hfin:l.take k=Big.trimL l:=by rw [← hT];exact (Big.trim_stop l hk hc).symm
   have hlk:(l.take k).length=k:=by rw [List.length_take];omega
   refine zIf (fun w mm=>mm.rowTake 0 rfl k) ?_
   dsimp only [List.set]
   have e3:l.take k=Big.trimL l:=by exact hfin
   rw [e3]
   exact zE Tryz.results124 () trivial (zo rfl) (by rw [← hfin,hlk]) (ho:=((.c (i:=0) rfl .n):PickO _ _ _)) (.n:SelR _ _ _)
theorem zpe {a:Nat} {b:Nat} {p1:Option Addr} {c1:Nat} {p2:Option Addr} {c2:Nat} (hb1:(Big.digs a).length≤1099511627776) (hb2:(Big.digs b).length≤1099511627776):Con Tryz.prog 105 [.slice p1 ((Big.digs a).length) c1,.slice p2 ((Big.digs b).length) c2] [] [slF (rI .u32) p1 c1 (Big.digs a),slF (rI .u32) p2 c2 (Big.digs b)] (Y:=(Option Addr)×Nat) (fun y=>True) (fun y=> .slice (y.1) ((Big.digs (a*b)).length) (y.2)) (fun y=>[rowA 111 (rI .u32) (y.1) (y.2) (Big.digs (a*b))]) (fun y=>[]):=by
 refine zq Tryz.func105 rfl rfl rfl (fun c=> ?_)
 show RunC _ _ _ _ _ [(0,.slice p1 ((Big.digs a).length) c1),(1,.slice p2 ((Big.digs b).length) c2)] [] [slF (rI .u32) p1 c1 (Big.digs a),slF (rI .u32) p2 c2 (Big.digs b)]
 refine zY 0 rfl (fun hL0=> ?_)
 refine zY 1 rfl (fun hL1=> ?_)
 have hoa:=Big.digs_ok a
 have hob:=Big.digs_ok b
 refine zi<|zc<|r_pv rfl rfl (zd rfl)<|zj<|ze<|zi<|zc<|r_pv rfl rfl (za rfl)<|r_pv rfl rfl (zM Tryz.underlying28 rfl)<|r_pv rfl rfl (za rfl)<|r_pv rfl rfl (zM Tryz.underlying28 rfl)<|r_pv rfl rfl (zx (z:=(((((Big.digs a).length)+((Big.digs b).length)):Nat):Int)) rfl rfl (w64 (by omega)))<|zza rfl rfl (zIa (r:=rI .u32) (k:=(((Big.digs a).length)+((Big.digs b).length))) (x0:=0) (γ0:=()) Tryz.underlying28 inf111 rfl rfl rfl rfl (by omega) (by omega) rfl (fun _ _=>by exact zv.2 (by decide)) (by decide)) (fun b1 _=> ?_)
 refine r_pv rfl rfl (zd rfl)<|zj<|ze<|zi<|zi<|zc<|r_pv rfl rfl (za rfl)<|r_pv rfl rfl (zM Tryz.underlying28 rfl)<|r_pv rfl rfl (za rfl)<|zj<|ze<|zA<|zka (X:=Nat×(List Int)) (fun x:Nat×(List Int)=>x.1≤(Big.digs a).length∧x.2.length=(Big.digs a).length+(Big.digs b).length∧Big.okL x.2∧(∀k,x.1+(Big.digs b).length≤k→x.2.getD k 0=0)∧Big.valL x.2=Big.valL ((Big.digs a).take x.1)*Big.valL (Big.digs b)) (fun x=>[(20,.int .i64 ((x.1:Nat):Int)),(19,.int .i64 (((Big.digs a).length:Nat):Int)),(18,.slice p1 ((Big.digs a).length) c1),(5,.slice (some ⟨b1,0,none⟩) (((Big.digs a).length)+((Big.digs b).length)) (((Big.digs a).length)+((Big.digs b).length))),(4,.slice none 0 0),(1,.slice p2 ((Big.digs b).length) c2)]) (fun x=>[rowA 111 (rI .u32) (some ⟨b1,0,none⟩) (((Big.digs a).length)+((Big.digs b).length)) (x.2)]) (fun x=>[slF (rI .u32) p1 c1 (Big.digs a),slF (rI .u32) p2 c2 (Big.digs b)]) (fun x:Nat×(List Int)=>(Big.digs a).length - x.1) (0,List.replicate ((Big.digs a).length+(Big.digs b).length) 0) (show 0≤(Big.digs a).length∧(List.replicate ((Big.digs a).length+(Big.digs b).length) 0).length=(Big.digs a).length+(Big.digs b).length∧Big.okL (List.replicate ((Big.digs a).length+(Big.digs b).length) 0)∧(∀k,0+(Big.digs b).length≤k→(List.replicate ((Big.digs a).length+(Big.digs b).length) 0).getD k 0=0)∧Big.valL (List.replicate ((Big.digs a).length+(Big.digs b).length) 0)=Big.valL ((Big.digs a).take 0)*Big.valL (Big.digs b) from by exact ⟨by omega,by simp,Big.okL_zeros _,fun k _=>Big.getD_zeros _ k,by simp [Big.valL_zeros,Big.valL]⟩) ((.e rfl (by first|rfl|(congr 1;omega)|simp_all) (.of rfl)):SubM _ _) (ho:=((.e (i:=0) rfl (by first|rfl|(congr 1;omega)|simp_all) .n):PickO _ _ _)) ((.of [0,1] rfl):SelR _ _ _) ?_
 rintro ⟨i,os⟩ hI
 replace hI:i≤(Big.digs a).length∧os.length=(Big.digs a).length+(Big.digs b).length∧Big.okL os∧(∀k,i+(Big.digs b).length≤k→os.getD k 0=0)∧Big.valL os=Big.valL ((Big.digs a).take i)*Big.valL (Big.digs b):=hI
 try dsimp only
 obtain ⟨hi,hol,hok,hz,hv⟩:=hI
 have hg1:=Big.okL_getD hoa i
 refine zi<|zc<|r_pv rfl rfl (zda rfl rfl)<|zj<|ze<|zi<|zG rfl (fun h2=> ?_) (fun h2=> ?_)
 ·
  refine zB<|ze<|zi<|zA<|zi<|zc<|r_pv rfl rfl (za rfl)<|zU (x0:=((Big.digs a).getD i 0)) 0 i rfl Tryz.underlying28 sz111 rfl rfl rfl (by first|rfl|assumption|(simp;omega)|omega) rfl rfl (gD (d:=0) (by omega)) (fun b3 o4 hok5=> ?_)
  replace hok5:=zv.1 hok5
  refine r_u rfl rfl (zk (j:=0) 0 ty111 rfl rfl rfl rfl)<|r_pv rfl rfl (zd rfl)<|r_pv rfl rfl (zd rfl)<|zj<|ze<|zi<|zc<|r_pv rfl rfl (zd rfl)<|zj<|ze<|zi<|zi<|zc<|r_pv rfl rfl (za rfl)<|r_pv rfl rfl (zM Tryz.underlying28 rfl)<|r_pv rfl rfl (za rfl)<|zj<|ze<|zA<|zka (X:=Nat×(List Int)×Int) (fun x:Nat×(List Int)×Int=>x.1≤(Big.digs b).length∧x.2.1.length=(Big.digs a).length+(Big.digs b).length∧Big.okL x.2.1∧0≤x.2.2∧x.2.2<1000000000∧(∀k,i+(Big.digs b).length≤k→x.2.1.getD k 0=0)∧Big.valL x.2.1+Big.pw (i+x.1)*x.2.2=Big.valL ((Big.digs a).take i)*Big.valL (Big.digs b)+Big.pw i*(Big.digs a).getD i 0*Big.valL ((Big.digs b).take x.1)) (fun x=>[(8,.int .u64 (x.2.2)),(27,.int .i64 ((x.1:Nat):Int)),(26,.int .i64 (((Big.digs b).length:Nat):Int)),(25,.slice p2 ((Big.digs b).length) c2),(7,.int .u32 ((Big.digs a).getD i 0)),(6,.int .i64 ((i:Nat):Int)),(20,.int .i64 ((i:Nat):Int)),(19,.int .i64 (((Big.digs a).length:Nat):Int)),(18,.slice p1 ((Big.digs a).length) c1),(5,.slice (some ⟨b1,0,none⟩) (((Big.digs a).length)+((Big.digs b).length)) (((Big.digs a).length)+((Big.digs b).length))),(4,.slice none 0 0),(1,.slice p2 ((Big.digs b).length) c2)]) (fun x=>[rowA 111 (rI .u32) (some ⟨b1,0,none⟩) (((Big.digs a).length)+((Big.digs b).length)) (x.2.1)]) (fun x=>[atF b3 o4 [.int .u32 ((Big.digs a).getD i 0)],slF (rI .u32) p1 c1 (Big.digs a),slF (rI .u32) p2 c2 (Big.digs b)]) (fun x:Nat×(List Int)×Int=>(Big.digs b).length - x.1) (0,os,0) (show 0≤(Big.digs b).length∧os.length=(Big.digs a).length+(Big.digs b).length∧Big.okL os∧0≤0∧0<1000000000∧(∀k,i+(Big.digs b).length≤k→os.getD k 0=0)∧Big.valL os+Big.pw (i+0)*0=Big.valL ((Big.digs a).take i)*Big.valL (Big.digs b)+Big.pw i*(Big.digs a).getD i 0*Big.valL ((Big.digs b).take 0) from by exact ⟨by omega,hol,hok,by decide,by decide,hz,by rw [hv];simp [Big.valL]⟩) ((.c rfl (.e rfl (by first|rfl|(congr 1;omega)|simp_all) (.of rfl))):SubM _ _) (ho:=((.c (i:=0) rfl .n):PickO _ _ _)) ((.of [0,1,2] rfl):SelR _ _ _) ?_
  rintro ⟨j,os2,cy⟩ hJ
  replace hJ:j≤(Big.digs b).length∧os2.length=(Big.digs a).length+(Big.digs b).length∧Big.okL os2∧0≤cy∧cy<1000000000∧(∀k,i+(Big.digs b).length≤k→os2.getD k 0=0)∧Big.valL os2+Big.pw (i+j)*cy=Big.valL ((Big.digs a).take i)*Big.valL (Big.digs b)+Big.pw i*(Big.digs a).getD i 0*Big.valL ((Big.digs b).take j):=hJ
  try dsimp only
  obtain ⟨hj,hol2,hok2,hcy0,hcy1,hz2,hv2⟩:=hJ
  have hg2:=Big.okL_getD hob j
  have hg3:=Big.okL_getD hok2 (i+j)
  have hpq:=Big.mul_lim hg1 hg2
  refine zi<|zc<|r_pv rfl rfl (zda rfl rfl)<|zj<|ze<|zi<|zG rfl (fun h6=> ?_) (fun h6=> ?_)
  ·
   refine zB<|ze<|zi<|zA<|zi<|zc<|r_pv rfl rfl (za rfl)<|zU (x0:=((Big.digs b).getD j 0)) 2 j rfl Tryz.underlying28 sz111 rfl rfl rfl (by first|rfl|assumption|(simp;omega)|omega) rfl rfl (gD (d:=0) (by omega)) (fun b7 o8 hok9=> ?_)
   replace hok9:=zv.1 hok9
   refine r_u rfl rfl (zk (j:=0) 0 ty111 rfl rfl rfl rfl)<|r_pv rfl rfl (zd rfl)<|r_pv rfl rfl (zd rfl)<|zj<|ze<|zi<|zc<|r_pv rfl rfl (za rfl)<|r_pv rfl rfl (za rfl)<|r_pv rfl rfl (za rfl)<|r_pv rfl rfl (zx (z:=(((i+j):Nat):Int)) rfl rfl (w64 (by omega)))<|r_pv rfl rfl (zX (j:=(i+j)) Tryz.underlying28 sz111 rfl rfl rfl (by omega))<|r_vl rfl rfl (zfa 0 (i+j) rfl ty111 rfl rfl (gD (d:=0) (by omega)) rfl) (fun _ hok10=> ?_)
   replace hok10:=zv.1 hok10
   refine r_pv rfl rfl (zC (z:=(os2.getD (i+j) 0)) rfl (by rw [Tryz.underlying111];rfl) Tryz.underlying115 (wu64 (by omega)))<|r_pv rfl rfl (za rfl)<|r_pv rfl rfl (zC (z:=((Big.digs a).getD i 0)) rfl (by rw [Tryz.underlying111];rfl) Tryz.underlying115 (wu64 (by omega)))<|r_pv rfl rfl (za rfl)<|r_pv rfl rfl (zC (z:=((Big.digs b).getD j 0)) rfl (by rw [Tryz.underlying111];rfl) Tryz.underlying115 (wu64 (by omega)))<|r_pv rfl rfl (zpa (z:=(((Big.digs a).getD i 0)*((Big.digs b).getD j 0))) rfl rfl (wu64 (by omega)))<|r_pv rfl rfl (zx (z:=((os2.getD (i+j) 0)+(((Big.digs a).getD i 0)*((Big.digs b).getD j 0)))) rfl rfl (wu64 (by omega)))<|r_pv rfl rfl (za rfl)<|r_pv rfl rfl (zx (z:=(((os2.getD (i+j) 0)+(((Big.digs a).getD i 0)*((Big.digs b).getD j 0)))+cy)) rfl rfl (wu64 (by omega)))<|r_pv rfl rfl (zd rfl)<|zj<|ze<|zc<|r_pv rfl rfl (za rfl)<|r_pv rfl rfl (za rfl)<|r_pv rfl rfl (za rfl)<|r_pv rfl rfl (zx (z:=(((i+j):Nat):Int)) rfl rfl (w64 (by omega)))<|r_pv rfl rfl (za rfl)<|r_pv rfl rfl (zWa (z:=((((os2.getD (i+j) 0)+(((Big.digs a).getD i 0)*((Big.digs b).getD j 0)))+cy)%1000000000)) rfl rfl (by omega) (remN (by omega) (by omega)))<|r_pv rfl rfl (zC (z:=((((os2.getD (i+j) 0)+(((Big.digs a).getD i 0)*((Big.digs b).getD j 0)))+cy)%1000000000)) rfl (by rw [Tryz.underlying115];rfl) Tryz.underlying111 (wu32 (by omega)))<|r_pv rfl rfl (za rfl)<|r_pv rfl rfl (zVa (z:=((((os2.getD (i+j) 0)+(((Big.digs a).getD i 0)*((Big.digs b).getD j 0)))+cy) / 1000000000)) rfl rfl (by omega) (by rw [quoN (z:=((((os2.getD (i+j) 0)+(((Big.digs a).getD i 0)*((Big.digs b).getD j 0)))+cy) / 1000000000)) (by omega) (by omega)];exact wu64 (by omega)))<|r_pv rfl rfl (zX (j:=(i+j)) Tryz.underlying28 sz111 rfl rfl rfl (by omega))<|zDa 0 rfl rfl rfl (zW (j:=(i+j)) (x0:=((((os2.getD (i+j) 0)+(((Big.digs a).getD i 0)*((Big.digs b).getD j 0)))+cy)%1000000000)) (γ0:=()) rfl rfl (by first|omega|(rw [List.length_map];omega)|(simp only [List.length_set];omega)|(simp;done)|(simp;omega)) rfl rfl sz111 (fun _ _=>by exact zv.2 (by omega))) (fun _=> .z) (fun _ _=> ?_)
   refine r_pv rfl rfl (zd rfl)<|zj<|zT<|ze<|zc<|r_pv rfl rfl (zx (z:=(((j+1):Nat):Int)) rfl rfl (w64 (by omega)))<|r_pv rfl rfl (za rfl)<|zj<|zha ((j+1),os2.set (i+j) ((os2.getD (i+j) 0+(Big.digs a).getD i 0*(Big.digs b).getD j 0+cy)%1000000000),(os2.getD (i+j) 0+(Big.digs a).getD i 0*(Big.digs b).getD j 0+cy) / 1000000000) (show (j+1)≤(Big.digs b).length∧(os2.set (i+j) ((os2.getD (i+j) 0+(Big.digs a).getD i 0*(Big.digs b).getD j 0+cy)%1000000000)).length=(Big.digs a).length+(Big.digs b).length∧Big.okL (os2.set (i+j) ((os2.getD (i+j) 0+(Big.digs a).getD i 0*(Big.digs b).getD j 0+cy)%1000000000))∧0≤((os2.getD (i+j) 0+(Big.digs a).getD i 0*(Big.digs b).getD j 0+cy) / 1000000000)∧((os2.getD (i+j) 0+(Big.digs a).getD i 0*(Big.digs b).getD j 0+cy) / 1000000000)<1000000000∧(∀k,i+(Big.digs b).length≤k→(os2.set (i+j) ((os2.getD (i+j) 0+(Big.digs a).getD i 0*(Big.digs b).getD j 0+cy)%1000000000)).getD k 0=0)∧Big.valL (os2.set (i+j) ((os2.getD (i+j) 0+(Big.digs a).getD i 0*(Big.digs b).getD j 0+cy)%1000000000))+Big.pw (i+(j+1))*((os2.getD (i+j) 0+(Big.digs a).getD i 0*(Big.digs b).getD j 0+cy) / 1000000000)=Big.valL ((Big.digs a).take i)*Big.valL (Big.digs b)+Big.pw i*(Big.digs a).getD i 0*Big.valL ((Big.digs b).take (j+1)) from by exact ⟨by omega,by simpa using hol2,Big.okL_set hok2 (by omega) (by omega),by omega,by omega,fun k hk=>by rw [Big.getD_set_ne (by omega)];exact hz2 k (by omega),Big.mul_step hv2 (by omega) (by omega)⟩) (by show (Big.digs b).length - (j+1)<(Big.digs b).length - j;omega) ((.e rfl (by first|rfl|(congr 1;omega)|simp_all) (.of rfl)):SubM _ _) (ho:=((.e (i:=0) rfl (by first|rfl|(congr 1;omega)|simp_all) .n):PickO _ _ _)) ((.of [1,2,3] rfl):SelR _ _ _)
  ·
   have hjb:j=(Big.digs b).length:=by omega
   subst hjb
   have hv3:=hv2
   refine zja<|zl<|zl<|zu<|ze<|zc<|r_pv rfl rfl (za rfl)<|r_pv rfl rfl (za rfl)<|r_pv rfl rfl (za rfl)<|r_pv rfl rfl (zM Tryz.underlying28 rfl)<|r_pv rfl rfl (zx (z:=(((i+((Big.digs b).length)):Nat):Int)) rfl rfl (w64 (by omega)))<|r_pv rfl rfl (za rfl)<|r_pv rfl rfl (zC (z:=cy) rfl (by rw [Tryz.underlying115];rfl) Tryz.underlying111 (wu32 (by omega)))<|r_pv rfl rfl (zX (j:=(i+((Big.digs b).length))) Tryz.underlying28 sz111 rfl rfl rfl (by omega))<|zDa 0 rfl rfl rfl (zW (j:=(i+((Big.digs b).length))) (x0:=cy) (γ0:=()) rfl rfl (by first|omega|(rw [List.length_map];omega)|(simp only [List.length_set];omega)|(simp;done)|(simp;omega)) rfl rfl sz111 (fun _ _=>by exact zv.2 (by omega))) (fun _=> .z) (fun _ _=> ?_)
   refine zj<|zT<|ze<|zc<|r_pv rfl rfl (zx (z:=(((i+1):Nat):Int)) rfl rfl (w64 (by omega)))<|r_pv rfl rfl (za rfl)<|zj<|zha ((i+1),os2.set (i+(Big.digs b).length) cy) (show (i+1)≤(Big.digs a).length∧(os2.set (i+(Big.digs b).length) cy).length=(Big.digs a).length+(Big.digs b).length∧Big.okL (os2.set (i+(Big.digs b).length) cy)∧(∀k,(i+1)+(Big.digs b).length≤k→(os2.set (i+(Big.digs b).length) cy).getD k 0=0)∧Big.valL (os2.set (i+(Big.digs b).length) cy)=Big.valL ((Big.digs a).take (i+1))*Big.valL (Big.digs b) from by exact ⟨by omega,by simpa using hol2,Big.okL_set hok2 (by omega) (by omega),fun k hk=>by rw [Big.getD_set_ne (by omega)];exact hz2 k (by omega),Big.mul_round hv3 (by omega) (hz2 _ (Nat.le_refl _))⟩) (by show (Big.digs a).length - (i+1)<(Big.digs a).length - i;omega) ((.of rfl):SubM _ _) (ho:=((.e (i:=0) rfl (by first|rfl|(congr 1;omega)|simp_all) .n):PickO _ _ _)) ((.of [1,2] rfl):SelR _ _ _)
 ·
  have hia:i=(Big.digs a).length:=by omega
  have hfin:Big.trimL os=Big.digs (a*b):=Big.trimL_of hok (by rw [hv,hia,List.take_length,Big.valL_digs,Big.valL_digs,Int.natCast_mul])
  refine zja<|zl<|zl<|zu<|ze<|zi<|zc<|r_pv rfl rfl (za rfl)<|zKf (A:=[rowA 111 (rI .u32) (some ⟨b1,0,none⟩) (((Big.digs a).length)+((Big.digs b).length)) os]) (F:=[]) (first:=[]) (cap:=[]) rfl rfl rfl (.c rfl .n) ce124 (zQe (p:=some ⟨b1,0,none⟩) (n:=(((Big.digs a).length)+((Big.digs b).length))) (cap:=(((Big.digs a).length)+((Big.digs b).length))) (l:=os) (hn:=by first|rfl|assumption|omega|(simp;done)|(simp;omega)|(simp_all;done))) (.n) ?_
  rintro ⟨⟩ -
  dsimp only [List.append_eq,List.nil_append,List.cons_append]
  refine r_pv rfl rfl (zd rfl)<|zj<|ze<|zI ?_
  have e11:Big.trimL os=Big.digs (a*b):=by exact hfin
  rw [e11]
  exact zE Tryz.results105 ((some ⟨b1,0,none⟩),(((Big.digs a).length)+((Big.digs b).length))) trivial (zo rfl) rfl (ho:=((.c (i:=0) rfl .n):PickO _ _ _)) (.n:SelR _ _ _)
end Go.Proofs.YtkamccndgblheaaGreat.Sp
namespace Go.Proofs.YtkamccndgblheaaGreat.Sp
open Go
set_option linter.unusedVariables false
set_option maxRecDepth 100000
set_option maxHeartbeats 1000000
theorem zqf {a:Nat} {b:Nat} {p1:Option Addr} {c1:Nat} {p2:Option Addr} {c2:Nat} (hb1:(Big.digs a).length≤1099511627776) (hb2:(Big.digs b).length≤1099511627776) (hb3:2≤(Big.digs b).length) (hab:b≤a):Con Tryz.prog 130 [.slice p1 ((Big.digs a).length) c1,.slice p2 ((Big.digs b).length) c2] [] [slF (rI .u32) p1 c1 (Big.digs a),slF (rI .u32) p2 c2 (Big.digs b)] (Y:=(Option Addr)×Nat×(Option Addr)×Nat) (fun y=>True) (fun y=> .tuple #[.slice (y.1) ((Big.digs (a / b)).length) (y.2.1),.slice (y.2.2.1) ((Big.digs (a%b)).length) (y.2.2.2)]) (fun y=>[]) (fun y=>[slF (rI .u32) (y.1) (y.2.1) (Big.digs (a / b)),slF (rI .u32) (y.2.2.1) (y.2.2.2) (Big.digs (a%b))]):=by
 refine zq Tryz.func130 rfl rfl rfl (fun c=> ?_)
 show RunC _ _ _ _ _ [(0,.slice p1 ((Big.digs a).length) c1),(1,.slice p2 ((Big.digs b).length) c2)] [] [slF (rI .u32) p1 c1 (Big.digs a),slF (rI .u32) p2 c2 (Big.digs b)]
 refine zY 0 rfl (fun hL0=> ?_)
 refine zY 1 rfl (fun hL1=> ?_)
 have hob:=Big.digs_ok b
 have htop:=Big.okL_getD hob ((Big.digs b).length - 1)
 have hdt:=Big.digs_top (b:=b) (n:=(Big.digs b).length - 1) (by omega)
 have hab2:=Big.ln_mono' hab
 have hq1:0≤1000000000 / ((Big.digs b).getD ((Big.digs b).length - 1) 0+1):=Int.ediv_nonneg (by omega) (by omega)
 have hq2:1000000000 / ((Big.digs b).getD ((Big.digs b).length - 1) 0+1)≤500000000:=Int.ediv_le_of_le_mul (by omega) (by omega)
 refine zi<|zc<|r_pv rfl rfl (zd rfl)<|r_pv rfl rfl (zd rfl)<|zj<|ze<|zi<|zc<|r_pv rfl rfl (za rfl)<|r_pv rfl rfl (za rfl)<|r_pv rfl rfl (zM Tryz.underlying28 rfl)<|r_pv rfl rfl (zaa (z:=((((Big.digs b).length - 1):Nat):Int)) rfl rfl (w64 (by omega)))<|zU (x0:=((Big.digs b).getD ((Big.digs b).length - 1) 0)) 1 ((Big.digs b).length - 1) rfl Tryz.underlying28 sz111 rfl rfl rfl (by first|rfl|assumption|(simp;done)|omega) rfl rfl (gD (d:=0) (by omega)) (fun b1 o2 hok3=> ?_)
 replace hok3:=zv.1 hok3
 refine r_u rfl rfl (zk (j:=0) 0 ty111 rfl rfl rfl rfl)<|r_pv rfl rfl (zC (z:=((Big.digs b).getD ((Big.digs b).length - 1) 0)) rfl (by rw [Tryz.underlying111];rfl) Tryz.underlying115 (wu64 (by omega)))<|r_pv rfl rfl (zx (z:=(((Big.digs b).getD ((Big.digs b).length - 1) 0)+1)) rfl rfl (wu64 (by omega)))<|r_pv rfl rfl (zVa (z:=(1000000000 / (((Big.digs b).getD ((Big.digs b).length - 1) 0)+1))) rfl rfl (by omega) (by rw [quoN (z:=(1000000000 / (((Big.digs b).getD ((Big.digs b).length - 1) 0)+1))) (by omega) (by omega)];exact wu64 (by omega)))<|r_pv rfl rfl (zC (z:=(1000000000 / (((Big.digs b).getD ((Big.digs b).length - 1) 0)+1))) rfl (by rw [Tryz.underlying115];rfl) Tryz.underlying111 (wu32 (by omega)))<|r_pv rfl rfl (zd rfl)<|zj<|ze<|zi ?_
 obtain ⟨s,hs⟩:∃s:Nat,s=(1000000000 / ((Big.digs b).getD ((Big.digs b).length - 1) 0+1)).toNat:=⟨_,rfl⟩
 obtain ⟨hs1,hs2,hs3⟩:=Big.scale_len (n:=(Big.digs b).length - 1) (by omega) hs
 have hsd:=Big.digs_one hs1 (by omega:s<1000000000)
 have hsl:(Big.digs s).length=1:=by rw [hsd];rfl
 have e4:((1000000000 / (((Big.digs b).getD ((Big.digs b).length - 1) 0)+1)):Int)=((s:Nat):Int):=by omega
 rw [e4]
 refine zc<|r_pv rfl rfl (za rfl)<|r_pv rfl rfl (za rfl)<|zza rfl rfl (zV (enc:=fun z:Int=>[.int .u32 z]) (ok:=InK .u32) (h1:=fun _=>rfl) (h2:=fun _=>rfl) (k:=1) Tryz.underlying28 inf111 rfl (by decide) (by decide) (by decide) (.c (x:=((s:Nat):Int)) rfl rfl (fun _ _=>by exact zv.2 (by omega)) .n)) (fun b5 _=> ?_)
 refine zna 0 rfl .z ?_
 have e6:[((s:Nat):Int)]=Big.digs s:=by exact hsd.symm
 rw [e6]
 have e7:(.slice (some ⟨b5,0,none⟩) 1 1:Value)= .slice (some ⟨b5,0,none⟩) ((Big.digs s).length) 1:=by rw [hsl]
 rw [e7]
 refine zy rfl rfl (.c rfl (.c rfl .n)) ce105 (zpe (a:=a) (b:=s) (p1:=p1) (c1:=c1) (p2:=some ⟨b5,0,none⟩) (c2:=1) (hb1:=by assumption) (hb2:=by first|rfl|assumption|omega|(simp;done)|(simp;omega)|(simp_all;done))) (.c (j:=2) rfl (.c (j:=0) rfl .n)) ?_
 rintro ⟨p38,c39⟩ -
 dsimp only [List.append_eq,List.nil_append,List.cons_append]
 refine r_pv rfl rfl (zd rfl)<|zj<|ze<|zi<|zc<|r_pv rfl rfl (za rfl)<|r_pv rfl rfl (za rfl)<|zza rfl rfl (zV (enc:=fun z:Int=>[.int .u32 z]) (ok:=InK .u32) (h1:=fun _=>rfl) (h2:=fun _=>rfl) (k:=1) Tryz.underlying28 inf111 rfl (by decide) (by decide) (by decide) (.c (x:=((s:Nat):Int)) rfl rfl (fun _ _=>by exact zv.2 (by omega)) .n)) (fun b10 _=> ?_)
 refine zna 0 rfl .z ?_
 have e11:[((s:Nat):Int)]=Big.digs s:=by exact hsd.symm
 rw [e11]
 have e12:(.slice (some ⟨b10,0,none⟩) 1 1:Value)= .slice (some ⟨b10,0,none⟩) ((Big.digs s).length) 1:=by rw [hsl]
 rw [e12]
 refine zy rfl rfl (.c rfl (.c rfl .n)) ce105 (zld (a:=b) (b:=s) (p1:=p2) (c1:=c2) (p2:=some ⟨b10,0,none⟩) (c2:=1) (hb1:=by assumption) (hb2:=by first|rfl|assumption|omega|(simp;done)|(simp;omega)|(simp_all;done))) (.c (j:=4) rfl (.c (j:=0) rfl .n)) ?_
 rintro ⟨p313,c314⟩ -
 dsimp only [List.append_eq,List.nil_append,List.cons_append]
 refine r_pv rfl rfl (zd rfl)<|zj<|ze<|zi ?_
 obtain ⟨A,hA⟩:∃z,z=a*s:=⟨_,rfl⟩
 rw [← hA]
 obtain ⟨V,hV⟩:∃z,z=b*s:=⟨_,rfl⟩
 rw [← hV]
 have hAl:(Big.digs a).length≤(Big.digs A).length:=by rw [hA];exact Big.len_mul_ge hs1
 have hAl2:(Big.digs A).length≤(Big.digs a).length+1:=by have h8:=Big.len_mul_le a s;rw [hsl] at h8;rw [hA];exact h8
 obtain ⟨m,hm⟩:∃z,(Big.digs V).length=z+2:=⟨(Big.digs b).length - 2,by rw [hV,hs3];omega⟩
 have hmb:(Big.digs b).length=m+2:=by rw [hV,hs3] at hm;omega
 have e15:(Big.digs V).length=(m+2):=by exact hm
 rw [e15]
 refine zc<|r_pv rfl rfl (za rfl)<|r_pv rfl rfl (zM Tryz.underlying28 rfl)<|r_pv rfl rfl (zd rfl)<|zj<|ze<|zi<|zc<|r_pv rfl rfl (za rfl)<|zza rfl rfl (zV (enc:=fun z:Int=>[.int .u32 z]) (ok:=InK .u32) (h1:=fun _=>rfl) (h2:=fun _=>rfl) (k:=1) Tryz.underlying28 inf111 rfl (by decide) (by decide) (by decide) (.c (x:=0) rfl rfl (fun _ _=>by exact zv.2 (by omega)) .n)) (fun b16 _=> ?_)
 refine zna 0 rfl .z<|zDa 2 rfl rfl rfl (zxa 0 rfl Tryz.underlying28 inf111 (by decide) rfl rfl (by first|rfl|assumption|(simp;done)|omega) rfl (by first|rfl|assumption|(simp;done)|omega) (by omega) (by omega)) (fun _=>(.s (.s .z))) ?_
 rintro ⟨p17,c18⟩ -
 dsimp only [List.append_eq,List.nil_append,List.cons_append]
 refine r_pv rfl rfl (zd rfl)<|zj<|ze<|zi<|zi<|zc<|r_pv rfl rfl (za rfl)<|r_pv rfl rfl (zM Tryz.underlying28 rfl)<|r_pv rfl rfl (za rfl)<|r_pv rfl rfl (zM Tryz.underlying28 rfl)<|r_pv rfl rfl (zdb rfl rfl)<|zj<|ze<|zG rfl (fun h19=> ?_) (fun h19=> ?_)
 ·
  exact absurd ‹_› (by omega)
 ·
  refine zB<|ze<|zi ?_
  obtain ⟨M,hM⟩:∃z,z=((Big.digs A).length)+1:=⟨_,rfl⟩
  rw [← hM]
  refine zc<|r_pv rfl rfl (za rfl)<|r_pv rfl rfl (zM Tryz.underlying28 rfl)<|r_pv rfl rfl (za rfl)<|r_pv rfl rfl (zaa (z:=(((M - (m+2)):Nat):Int)) rfl rfl (w64 (by omega)))<|zza rfl rfl (zIa (r:=rI .u32) (k:=(M - (m+2))) (x0:=0) (γ0:=()) Tryz.underlying28 inf111 rfl rfl rfl rfl (by omega) (by omega) rfl (fun _ _=>by exact zv.2 (by decide)) (by decide)) (fun b20 _=> ?_)
  refine r_pv rfl rfl (zd rfl)<|zj<|ze<|zi<|zi ?_
  have hMl:m+3≤M:=by omega
  have hLg:Big.LgI M (m+2) ((A:Nat):Int) ((V:Nat):Int) (M - (m+2)) (Big.digs A++[0]) []:=Big.LgI.start (Big.okL_snoc (Big.digs_ok A) (by decide) (by decide)) (by simp [hM]) (by rw [Big.valL_snoc,Big.valL_digs];simp) hm (by omega) (by rw [Big.valL_snoc,Big.valL_digs,hM,Nat.add_sub_cancel];simpa using Big.digs_lt A) (by omega)
  refine zc<|r_pv rfl rfl (za rfl)<|r_pv rfl rfl (zM Tryz.underlying28 rfl)<|r_pv rfl rfl (za rfl)<|r_pv rfl rfl (zaa (z:=(((M:Nat):Int) - (((m+2):Nat):Int))) rfl rfl (w64 (by omega)))<|r_pv rfl rfl (zaa (z:=((((M:Nat):Int) - (((m+2):Nat):Int)) - 1)) rfl rfl (w64 (by omega)))<|r_pv rfl rfl (zd rfl)<|zj<|ze<|zA<|zka (X:=Nat×(List Int)×(List Int)) (fun x:Nat×(List Int)×(List Int)=>Big.LgI M (m+2) ((A:Nat):Int) ((V:Nat):Int) x.1 x.2.1 x.2.2) (fun x=>[(10,.int .i64 (((x.1:Nat):Int) - 1)),(4,.slice (some ⟨b20,0,none⟩) (M - (m+2)) (M - (m+2))),(7,.slice p17 M c18),(9,.int .i64 (((m+2):Nat):Int)),(8,.slice p313 (m+2) c314),(6,.int .u32 ((s:Nat):Int)),(5,.slice none 0 0)]) (fun x=>[rowA 111 (rI .u32) (some ⟨b20,0,none⟩) (M - (m+2)) (List.replicate x.1 0++x.2.2),rowA 111 (rI .u32) p17 c18 (x.2.1)]) (fun x=>[slF (rI .u32) (some ⟨b16,0,none⟩) 1 ([0]),slF (rI .u32) p313 c314 (Big.digs V),slF (rI .u32) (some ⟨b10,0,none⟩) 1 (Big.digs s),slF (rI .u32) (some ⟨b5,0,none⟩) 1 (Big.digs s),atF b1 o2 [.int .u32 ((Big.digs b).getD ((Big.digs b).length - 1) 0)],slF (rI .u32) p1 c1 (Big.digs a),slF (rI .u32) p2 c2 (Big.digs b)]) (fun x:Nat×(List Int)×(List Int)=>x.1) ((M - (m+2)),(Big.digs A++[0]),([]:List Int)) (show Big.LgI M (m+2) ((A:Nat):Int) ((V:Nat):Int) (M - (m+2)) (Big.digs A++[0]) ([]:List Int) from by exact hLg) ((.e rfl (congrArg (Value.int .i64) (by omega)) (.of rfl)):SubM _ _) (ho:=((.e (i:=0) rfl (by simp) (.e (i:=2) rfl (by simp) .n)):PickO _ _ _)) ((.of [0,1,2,3,4,5,6] rfl):SelR _ _ _) ?_
  rintro ⟨jj,u,qs⟩ hI
  replace hI:Big.LgI M (m+2) ((A:Nat):Int) ((V:Nat):Int) jj u qs:=hI
  try dsimp only
  refine zi<|zi<|zc<|r_pv rfl rfl (za rfl)<|r_pv rfl rfl (zMa rfl rfl)<|zj<|ze<|zG rfl (fun hj=> ?_) (fun hj=> ?_)
  ·
   obtain ⟨j,rfl⟩:∃j,jj=j+1:=⟨jj - 1,by omega⟩
   have e21:(((((j+1):Nat):Int) - 1):Int)=((j:Nat):Int):=by omega
   rw [e21]
   have hjM:=hI.jle
   have hul:=hI.ul
   have hT:=hI.tp hm
   have hu2:=hT.a2
   have hu1:=hT.a1
   have hu0:=hT.a0
   have hvt1:=hT.vt1
   have hvt2:=hT.vt2
   have hvs0:=hT.vs0
   have hvs1:=hT.vs1
   have hgst:=hT.start
   have hgl0:=Big.Gs.le hT hgst
   have hg00:=hgst.g0
   have hg01:=hgst.r0
   have hrlt:=Int.emod_lt_of_pos ((u.getD (j+(m+2)) 0)*1000000000+(u.getD (j+(m+1)) 0)) (show 0<((Big.digs V).getD (m+1) 0) by omega)
   refine zB<|ze<|zi<|zA<|zi<|zea (OW:=[]) (O:=[rowA 111 (rI .u32) (some ⟨b20,0,none⟩) (M - (m+2)) (List.replicate (j+1) 0++qs),rowA 111 (rI .u32) p17 c18 u]) 100000 mixed (.then (.block (.then (.then (.block (.then .ret)))))) (by kernel_rfl)<|d_pv 0 rfl rfl (by kernel_rfl) (by kernel_rfl) rfl rfl (za rfl)<|d_pv 1 rfl rfl (by kernel_rfl) (by kernel_rfl) rfl rfl (za rfl)<|d_pv 2 rfl rfl (by kernel_rfl) (by kernel_rfl) rfl rfl (za rfl)<|d_pv 3 rfl rfl (by kernel_rfl) (by kernel_rfl) rfl rfl (zx (z:=(((j+(m+2)):Nat):Int)) rfl rfl (w64 (by omega)))<|d_pv 7 rfl rfl (by kernel_rfl) (by kernel_rfl) rfl rfl (za rfl)<|d_pv 8 rfl rfl (by kernel_rfl) (by kernel_rfl) rfl rfl (za rfl)<|d_pv 9 rfl rfl (by kernel_rfl) (by kernel_rfl) rfl rfl (za rfl)<|d_pv 10 rfl rfl (by kernel_rfl) (by kernel_rfl) rfl rfl (zx (z:=(((j+(m+2)):Nat):Int)) rfl rfl (w64 (by omega)))<|d_pv 11 rfl rfl (by kernel_rfl) (by kernel_rfl) rfl rfl (zaa (z:=(((j+(m+1)):Nat):Int)) rfl rfl (w64 (by omega)))<|d_u 12 rfl rfl (by kernel_rfl) (by kernel_rfl) rfl rfl (zqa 1 (j+(m+1)) rfl Tryz.underlying28 sz111 rfl (by first|rfl|assumption|(simp;done)|omega) rfl rfl (by omega))<|d_vl 13 rfl rfl (by kernel_rfl) (by kernel_rfl) rfl rfl (zfa 1 (j+(m+1)) rfl ty111 rfl rfl (gD (d:=0) (by omega)) rfl) (fun _ hok22=> ?_)
   replace hok22:=zv.1 hok22
   refine d_pv 14 rfl rfl (by kernel_rfl) (by kernel_rfl) rfl rfl (zC (z:=(u.getD (j+(m+1)) 0)) rfl (by rw [Tryz.underlying111];rfl) Tryz.underlying115 (wu64 (by omega)))<|zL 4 (by kernel_rfl) (zmf 1 rfl rfl rfl rfl rfl (.c rfl (.c rfl .n)) ce131 (zce (p:=p17) (n:=M) (cap:=c18) (l:=u) (i:=(j+(m+2))) (hn:=by first|rfl|assumption|omega|(simp;done)|(simp;omega)|(simp_all;done)) (hi:=by first|rfl|assumption|omega|(simp;done)|(simp;omega)|(simp_all;done))) (.c (j:=0) rfl .n) ?_)
   refine d_pv 5 rfl rfl (by kernel_rfl) (by kernel_rfl) rfl rfl (zC (z:=u.getD (j+(m+2)) 0) rfl (by rw [Tryz.underlying111];rfl) Tryz.underlying115 (wu64 (by omega)))<|d_pv 6 rfl rfl (by kernel_rfl) (by kernel_rfl) rfl rfl (zpa (z:=(u.getD (j+(m+2)) 0*1000000000)) rfl rfl (wu64 (by omega)))<|d_pv 15 rfl rfl (by kernel_rfl) (by kernel_rfl) rfl rfl (zx (z:=((u.getD (j+(m+2)) 0*1000000000)+(u.getD (j+(m+1)) 0))) rfl rfl (wu64 (by omega)))<|d_pv 16 rfl rfl (by kernel_rfl) (by kernel_rfl) rfl rfl (zd rfl)<|zba (by kernel_rfl)<|ze<|zi<|zea (OW:=[]) (O:=[rowA 111 (rI .u32) (some ⟨b20,0,none⟩) (M - (m+2)) (List.replicate (j+1) 0++qs),rowA 111 (rI .u32) p17 c18 u]) 100000 mixed (.then (.block (.then (.then (.block (.then .ret)))))) (by kernel_rfl)<|d_pv 0 rfl rfl (by kernel_rfl) (by kernel_rfl) rfl rfl (za rfl)<|d_pv 1 rfl rfl (by kernel_rfl) (by kernel_rfl) rfl rfl (za rfl)<|d_pv 2 rfl rfl (by kernel_rfl) (by kernel_rfl) rfl rfl (za rfl)<|d_pv 3 rfl rfl (by kernel_rfl) (by kernel_rfl) rfl rfl (zaa (z:=(((m+1):Nat):Int)) rfl rfl (w64 (by omega)))<|zga (x0:=((Big.digs V).getD (m+1) 0)) 4 rfl rfl (by kernel_rfl) (by kernel_rfl) 1 (m+1) rfl Tryz.underlying28 sz111 rfl rfl rfl (by first|rfl|assumption|(simp;done)|omega) rfl rfl (gD (d:=0) (by omega)) (fun b23 o24 hok25=> ?_)
   replace hok25:=zv.1 hok25
   refine d_u 5 rfl rfl (by kernel_rfl) (by kernel_rfl) rfl rfl (zk (j:=0) 0 ty111 rfl rfl rfl rfl)<|d_pv 6 rfl rfl (by kernel_rfl) (by kernel_rfl) rfl rfl (zC (z:=((Big.digs V).getD (m+1) 0)) rfl (by rw [Tryz.underlying111];rfl) Tryz.underlying115 (wu64 (by omega)))<|d_pv 7 rfl rfl (by kernel_rfl) (by kernel_rfl) rfl rfl (zVa (z:=(((u.getD (j+(m+2)) 0*1000000000)+(u.getD (j+(m+1)) 0)) / ((Big.digs V).getD (m+1) 0))) rfl rfl (by omega) (by rw [quoN (z:=(((u.getD (j+(m+2)) 0*1000000000)+(u.getD (j+(m+1)) 0)) / ((Big.digs V).getD (m+1) 0))) (by omega) (by omega)];exact wu64 (by omega)))<|d_pv 8 rfl rfl (by kernel_rfl) (by kernel_rfl) rfl rfl (za rfl)<|d_pv 9 rfl rfl (by kernel_rfl) (by kernel_rfl) rfl rfl (za rfl)<|d_pv 10 rfl rfl (by kernel_rfl) (by kernel_rfl) rfl rfl (za rfl)<|d_pv 11 rfl rfl (by kernel_rfl) (by kernel_rfl) rfl rfl (zaa (z:=(((m+1):Nat):Int)) rfl rfl (w64 (by omega)))<|zga (x0:=((Big.digs V).getD (m+1) 0)) 12 rfl rfl (by kernel_rfl) (by kernel_rfl) 2 (m+1) rfl Tryz.underlying28 sz111 rfl rfl rfl (by first|rfl|assumption|(simp;done)|omega) rfl rfl (gD (d:=0) (by omega)) (fun b26 o27 hok28=> ?_)
   replace hok28:=zv.1 hok28
   refine d_u 13 rfl rfl (by kernel_rfl) (by kernel_rfl) rfl rfl (zk (j:=0) 0 ty111 rfl rfl rfl rfl)<|d_pv 14 rfl rfl (by kernel_rfl) (by kernel_rfl) rfl rfl (zC (z:=((Big.digs V).getD (m+1) 0)) rfl (by rw [Tryz.underlying111];rfl) Tryz.underlying115 (wu64 (by omega)))<|d_pv 15 rfl rfl (by kernel_rfl) (by kernel_rfl) rfl rfl (zWa (z:=(((u.getD (j+(m+2)) 0*1000000000)+(u.getD (j+(m+1)) 0))%((Big.digs V).getD (m+1) 0))) rfl rfl (by omega) (remN (by omega) (by omega)))<|d_pv 16 rfl rfl (by kernel_rfl) (by kernel_rfl) rfl rfl (zd rfl)<|d_pv 17 rfl rfl (by kernel_rfl) (by kernel_rfl) rfl rfl (zd rfl)<|zba (by kernel_rfl)<|ze<|zGa (X:=Int) (fun x=>(0≤x∧x<1000000000)∧(Big.valL (u.drop j))<(x+1)*(V:Int)∧x*(V:Int)<(Big.valL (u.drop j))+(V:Int)) (fun x=>[(12,.int .u64 x),(10,.int .i64 ((j:Nat):Int)),(4,.slice (some ⟨b20,0,none⟩) (M - (m+2)) (M - (m+2))),(7,.slice p17 M c18),(9,.int .i64 (((m+2):Nat):Int)),(8,.slice p313 (m+2) c314),(6,.int .u32 ((s:Nat):Int)),(5,.slice none 0 0)]) (fun x=>[rowA 111 (rI .u32) (some ⟨b20,0,none⟩) (M - (m+2)) (List.replicate (j+1) 0++qs),rowA 111 (rI .u32) p17 c18 u]) (fun x=>[atF b26 o27 [.int .u32 ((Big.digs V).getD (m+1) 0)],atF b23 o24 [.int .u32 ((Big.digs V).getD (m+1) 0)],slF (rI .u32) (some ⟨b16,0,none⟩) 1 ([0]),slF (rI .u32) p313 c314 (Big.digs V),slF (rI .u32) (some ⟨b10,0,none⟩) 1 (Big.digs s),slF (rI .u32) (some ⟨b5,0,none⟩) 1 (Big.digs s),atF b1 o2 [.int .u32 ((Big.digs b).getD ((Big.digs b).length - 1) 0)],slF (rI .u32) p1 c1 (Big.digs a),slF (rI .u32) p2 c2 (Big.digs b)]) ?_ ?_
   ·
    refine zA<|zka (X:=Int×Int) (fun x:Int×Int=>Big.Gs (Big.valL (u.drop j)) (V:Int) ((Big.digs V).getD (m+1) 0) ((u.getD (j+(m+2)) 0)*1000000000+(u.getD (j+(m+1)) 0)) x.1 x.2∧x.2<1000000000) (fun x=>[(13,.int .u64 (x.2)),(12,.int .u64 (x.1)),(10,.int .i64 ((j:Nat):Int)),(4,.slice (some ⟨b20,0,none⟩) (M - (m+2)) (M - (m+2))),(7,.slice p17 M c18),(9,.int .i64 (((m+2):Nat):Int)),(8,.slice p313 (m+2) c314),(6,.int .u32 ((s:Nat):Int)),(5,.slice none 0 0)]) (fun x=>[rowA 111 (rI .u32) (some ⟨b20,0,none⟩) (M - (m+2)) (List.replicate (j+1) 0++qs),rowA 111 (rI .u32) p17 c18 u]) (fun x=>[atF b26 o27 [.int .u32 ((Big.digs V).getD (m+1) 0)],atF b23 o24 [.int .u32 ((Big.digs V).getD (m+1) 0)],slF (rI .u32) (some ⟨b16,0,none⟩) 1 ([0]),slF (rI .u32) p313 c314 (Big.digs V),slF (rI .u32) (some ⟨b10,0,none⟩) 1 (Big.digs s),slF (rI .u32) (some ⟨b5,0,none⟩) 1 (Big.digs s),atF b1 o2 [.int .u32 ((Big.digs b).getD ((Big.digs b).length - 1) 0)],slF (rI .u32) p1 c1 (Big.digs a),slF (rI .u32) p2 c2 (Big.digs b)]) (fun x:Int×Int=>x.1.toNat) ((((u.getD (j+(m+2)) 0*1000000000)+(u.getD (j+(m+1)) 0)) / ((Big.digs V).getD (m+1) 0)),(((u.getD (j+(m+2)) 0*1000000000)+(u.getD (j+(m+1)) 0))%((Big.digs V).getD (m+1) 0))) (show Big.Gs (Big.valL (u.drop j)) (V:Int) ((Big.digs V).getD (m+1) 0) ((u.getD (j+(m+2)) 0)*1000000000+(u.getD (j+(m+1)) 0)) (((u.getD (j+(m+2)) 0*1000000000)+(u.getD (j+(m+1)) 0)) / ((Big.digs V).getD (m+1) 0)) (((u.getD (j+(m+2)) 0*1000000000)+(u.getD (j+(m+1)) 0))%((Big.digs V).getD (m+1) 0))∧(((u.getD (j+(m+2)) 0*1000000000)+(u.getD (j+(m+1)) 0))%((Big.digs V).getD (m+1) 0))<1000000000 from by exact ⟨hgst,by omega⟩) ((.of rfl):SubM _ _) (ho:=((.of [0,0] rfl):PickO _ _ _)) ((.of [0,1,2,3,4,5,6,7,8] rfl):SelR _ _ _) ?_
    rintro ⟨g,r⟩ hG
    replace hG:Big.Gs (Big.valL (u.drop j)) (V:Int) ((Big.digs V).getD (m+1) 0) ((u.getD (j+(m+2)) 0)*1000000000+(u.getD (j+(m+1)) 0)) g r∧r<1000000000:=hG
    try dsimp only
    obtain ⟨hGs,hr9⟩:=hG
    have hgl:=Big.Gs.le hT hGs
    have hg0:=hGs.g0
    have hr0:=hGs.r0
    have hgm:=Big.mul_lim3 hg0 hgl.1 hvs0 hvs1
    refine zi<|zGa (X:=Unit) (fun x=>True) (fun x=>[(123,.bool (decide ((1000000000≤g)∨(((r*1000000000)+(u.getD (j+m) 0))<(g*((Big.digs V).getD m 0)))))),(13,.int .u64 r),(12,.int .u64 g),(10,.int .i64 ((j:Nat):Int)),(4,.slice (some ⟨b20,0,none⟩) (M - (m+2)) (M - (m+2))),(7,.slice p17 M c18),(9,.int .i64 (((m+2):Nat):Int)),(8,.slice p313 (m+2) c314),(6,.int .u32 ((s:Nat):Int)),(5,.slice none 0 0)]) (fun x=>[rowA 111 (rI .u32) (some ⟨b20,0,none⟩) (M - (m+2)) (List.replicate (j+1) 0++qs),rowA 111 (rI .u32) p17 c18 u]) (fun x=>[atF b26 o27 [.int .u32 ((Big.digs V).getD (m+1) 0)],atF b23 o24 [.int .u32 ((Big.digs V).getD (m+1) 0)],slF (rI .u32) (some ⟨b16,0,none⟩) 1 ([0]),slF (rI .u32) p313 c314 (Big.digs V),slF (rI .u32) (some ⟨b10,0,none⟩) 1 (Big.digs s),slF (rI .u32) (some ⟨b5,0,none⟩) 1 (Big.digs s),atF b1 o2 [.int .u32 ((Big.digs b).getD ((Big.digs b).length - 1) 0)],slF (rI .u32) p1 c1 (Big.digs a),slF (rI .u32) p2 c2 (Big.digs b)]) ?_ ?_
    ·
     refine zea (OW:=[]) (O:=[rowA 111 (rI .u32) (some ⟨b20,0,none⟩) (M - (m+2)) (List.replicate (j+1) 0++qs),rowA 111 (rI .u32) p17 c18 u]) 100000 mixed (.then (.then (.then (.block (.then (.block (.then (.then (.block (.then .ret)))))))))) (by kernel_rfl)<|d_pv 0 rfl rfl (by kernel_rfl) (by kernel_rfl) rfl rfl (za rfl)<|d_pv 1 rfl rfl (by kernel_rfl) (by kernel_rfl) rfl rfl (zMa rfl rfl)<|zOb 2 rfl rfl (by kernel_rfl) (by kernel_rfl) rfl rfl (za rfl) (fun hge=> ?_) (fun hge=> ?_)
     ·
      refine zS 3 rfl rfl (by kernel_rfl) (by kernel_rfl) rfl rfl<|zS 4 rfl rfl (by kernel_rfl) (by kernel_rfl) rfl rfl<|zS 5 rfl rfl (by kernel_rfl) (by kernel_rfl) rfl rfl<|zS 6 rfl rfl (by kernel_rfl) (by kernel_rfl) rfl rfl<|zS 7 rfl rfl (by kernel_rfl) (by kernel_rfl) rfl rfl<|zS 8 rfl rfl (by kernel_rfl) (by kernel_rfl) rfl rfl<|zS 9 rfl rfl (by kernel_rfl) (by kernel_rfl) rfl rfl<|zS 10 rfl rfl (by kernel_rfl) (by kernel_rfl) rfl rfl<|zS 11 rfl rfl (by kernel_rfl) (by kernel_rfl) rfl rfl<|zS 12 rfl rfl (by kernel_rfl) (by kernel_rfl) rfl rfl<|zS 13 rfl rfl (by kernel_rfl) (by kernel_rfl) rfl rfl<|zS 14 rfl rfl (by kernel_rfl) (by kernel_rfl) rfl rfl<|zS 15 rfl rfl (by kernel_rfl) (by kernel_rfl) rfl rfl<|zS 16 rfl rfl (by kernel_rfl) (by kernel_rfl) rfl rfl<|zS 17 rfl rfl (by kernel_rfl) (by kernel_rfl) rfl rfl<|zS 18 rfl rfl (by kernel_rfl) (by kernel_rfl) rfl rfl<|zS 19 rfl rfl (by kernel_rfl) (by kernel_rfl) rfl rfl<|zS 20 rfl rfl (by kernel_rfl) (by kernel_rfl) rfl rfl<|zS 21 rfl rfl (by kernel_rfl) (by kernel_rfl) rfl rfl<|zS 22 rfl rfl (by kernel_rfl) (by kernel_rfl) rfl rfl<|d_pv 23 rfl rfl (by kernel_rfl) (by kernel_rfl) rfl rfl (zm rfl rfl)<|zba (by kernel_rfl) ?_
      exact zca () (show True from by first|trivial|omega|simp_all) ((.e rfl (congrArg Value.bool (by exact (decide_eq_true (.inl hge)).symm)) (.of rfl)):SubM _ _) (ho:=((.of [0,0] rfl):PickO _ _ _)) ((.of [0,1,2,3,4,5,6,7,8] rfl):SelR _ _ _)
     ·
      refine d_pv 3 rfl rfl (by kernel_rfl) (by kernel_rfl) rfl rfl (za rfl)<|d_pv 4 rfl rfl (by kernel_rfl) (by kernel_rfl) rfl rfl (za rfl)<|d_pv 5 rfl rfl (by kernel_rfl) (by kernel_rfl) rfl rfl (za rfl)<|d_pv 6 rfl rfl (by kernel_rfl) (by kernel_rfl) rfl rfl (zaa (z:=((m:Nat):Int)) rfl rfl (w64 (by omega)))<|zga (x0:=((Big.digs V).getD m 0)) 7 rfl rfl (by kernel_rfl) (by kernel_rfl) 3 m rfl Tryz.underlying28 sz111 rfl rfl rfl (by first|rfl|assumption|(simp;done)|omega) rfl rfl (gD (d:=0) (by omega)) (fun b29 o30 hok31=> ?_)
      replace hok31:=zv.1 hok31
      refine d_u 8 rfl rfl (by kernel_rfl) (by kernel_rfl) rfl rfl (zk (j:=0) 0 ty111 rfl rfl rfl rfl)<|d_pv 9 rfl rfl (by kernel_rfl) (by kernel_rfl) rfl rfl (zC (z:=((Big.digs V).getD m 0)) rfl (by rw [Tryz.underlying111];rfl) Tryz.underlying115 (wu64 (by omega)))<|d_pv 10 rfl rfl (by kernel_rfl) (by kernel_rfl) rfl rfl (zpa (z:=(g*((Big.digs V).getD m 0))) rfl rfl (wu64 (by omega)))<|d_pv 11 rfl rfl (by kernel_rfl) (by kernel_rfl) rfl rfl (za rfl)<|d_pv 12 rfl rfl (by kernel_rfl) (by kernel_rfl) rfl rfl (zpa (z:=(r*1000000000)) rfl rfl (wu64 (by omega)))<|d_pv 13 rfl rfl (by kernel_rfl) (by kernel_rfl) rfl rfl (za rfl)<|d_pv 14 rfl rfl (by kernel_rfl) (by kernel_rfl) rfl rfl (za rfl)<|d_pv 15 rfl rfl (by kernel_rfl) (by kernel_rfl) rfl rfl (za rfl)<|d_pv 16 rfl rfl (by kernel_rfl) (by kernel_rfl) rfl rfl (zx (z:=(((j+(m+2)):Nat):Int)) rfl rfl (w64 (by omega)))<|d_pv 17 rfl rfl (by kernel_rfl) (by kernel_rfl) rfl rfl (zaa (z:=(((j+m):Nat):Int)) rfl rfl (w64 (by omega)))<|d_u 18 rfl rfl (by kernel_rfl) (by kernel_rfl) rfl rfl (zqa 1 (j+m) rfl Tryz.underlying28 sz111 rfl (by first|rfl|assumption|(simp;done)|omega) rfl rfl (by omega))<|d_vl 19 rfl rfl (by kernel_rfl) (by kernel_rfl) rfl rfl (zfa 1 (j+m) rfl ty111 rfl rfl (gD (d:=0) (by omega)) rfl) (fun _ hok32=> ?_)
      replace hok32:=zv.1 hok32
      refine d_pv 20 rfl rfl (by kernel_rfl) (by kernel_rfl) rfl rfl (zC (z:=(u.getD (j+m) 0)) rfl (by rw [Tryz.underlying111];rfl) Tryz.underlying115 (wu64 (by omega)))<|d_pv 21 rfl rfl (by kernel_rfl) (by kernel_rfl) rfl rfl (zx (z:=((r*1000000000)+(u.getD (j+m) 0))) rfl rfl (wu64 (by omega)))<|d_pv 22 rfl rfl (by kernel_rfl) (by kernel_rfl) rfl rfl (zoa rfl rfl)<|d_pv 23 rfl rfl (by kernel_rfl) (by kernel_rfl) rfl rfl (zm rfl rfl)<|zba (by kernel_rfl) ?_
      exact zca () (show True from by first|trivial|omega|simp_all) ((.e rfl (congrArg Value.bool (by exact decide_eq_decide.2 ⟨fun h=> .inr h,fun h=>h.resolve_left hge⟩)) (.of rfl)):SubM _ _) (ho:=((.of [0,0] rfl):PickO _ _ _)) ((.of [1,2,3,4,5,6,7,8,9] rfl):SelR _ _ _)
    ·
     rintro ⟨⟩ -
     try dsimp only
     refine zG rfl (fun hgs=> ?_) (fun hgs=> ?_)
     ·
      have hst:=hGs.step hT hgs
      have hst1:=hst.1
      refine zB<|ze<|zA<|zi<|zc<|r_pv rfl rfl (za rfl)<|r_pv rfl rfl (zaa (z:=(g - 1)) rfl rfl (wu64 (by omega)))<|r_pv rfl rfl (zd rfl)<|zj<|ze<|zi<|zc<|r_pv rfl rfl (za rfl)<|r_pv rfl rfl (za rfl)<|r_pv rfl rfl (za rfl)<|r_pv rfl rfl (zaa (z:=(((m+1):Nat):Int)) rfl rfl (w64 (by omega)))<|zU (x0:=((Big.digs V).getD (m+1) 0)) 3 (m+1) rfl Tryz.underlying28 sz111 rfl rfl rfl (by first|rfl|assumption|(simp;done)|omega) rfl rfl (gD (d:=0) (by omega)) (fun b33 o34 hok35=> ?_)
      replace hok35:=zv.1 hok35
      refine r_u rfl rfl (zk (j:=0) 0 ty111 rfl rfl rfl rfl)<|r_pv rfl rfl (zC (z:=((Big.digs V).getD (m+1) 0)) rfl (by rw [Tryz.underlying111];rfl) Tryz.underlying115 (wu64 (by omega)))<|r_pv rfl rfl (zx (z:=(r+((Big.digs V).getD (m+1) 0))) rfl rfl (wu64 (by omega)))<|r_pv rfl rfl (zd rfl)<|zj<|ze<|zi<|zc<|r_pv rfl rfl (za rfl)<|r_pv rfl rfl (zMa rfl rfl)<|zj<|ze<|zG rfl (fun hbr=> ?_) (fun hbr=> ?_)
      ·
       refine zja<|zUc rfl<|zl<|zu ?_
       exact zca (g - 1) (show (0≤(g - 1)∧(g - 1)<1000000000)∧(Big.valL (u.drop j))<((g - 1)+1)*(V:Int)∧(g - 1)*(V:Int)<(Big.valL (u.drop j))+(V:Int) from by have hs9:=(hGs.step hT hgs).2;have hb9:=Big.Gs.broke hT hs9 hbr;exact ⟨⟨hs9.g0,hb9.1⟩,hs9.up,Big.Gs.fin hT hs9 hb9.1 hb9.2⟩) ((.of rfl):SubM _ _) (ho:=((.of [0,0] rfl):PickO _ _ _)) ((.of [1,2,3,4,5,6,7,8,9] rfl):SelR _ _ _)
      ·
       refine zB<|zT<|zha ((g - 1),(r+((Big.digs V).getD (m+1) 0))) (show Big.Gs (Big.valL (u.drop j)) (V:Int) ((Big.digs V).getD (m+1) 0) ((u.getD (j+(m+2)) 0)*1000000000+(u.getD (j+(m+1)) 0)) (g - 1) (r+((Big.digs V).getD (m+1) 0))∧(r+((Big.digs V).getD (m+1) 0))<1000000000 from by exact ⟨(hGs.step hT hgs).2,by omega⟩) (by have:=(hGs.step hT hgs).1;show (g - 1).toNat<g.toNat;omega) ((.of rfl):SubM _ _) (ho:=((.of [0,0] rfl):PickO _ _ _)) ((.of [1,2,3,4,5,6,7,8,9] rfl):SelR _ _ _)
     ·
      refine zja<|zl<|zl<|zu ?_
      exact zca g (show (0≤g∧g<1000000000)∧(Big.valL (u.drop j))<(g+1)*(V:Int)∧g*(V:Int)<(Big.valL (u.drop j))+(V:Int) from by exact ⟨⟨hg0,by omega⟩,hGs.up,Big.Gs.fin hT hGs (by omega) (by omega)⟩) ((.of rfl):SubM _ _) (ho:=((.of [0,0] rfl):PickO _ _ _)) ((.of [0,1,2,3,4,5,6,7,8] rfl):SelR _ _ _)
   ·
    rintro g hC
    replace hC:(0≤g∧g<1000000000)∧(Big.valL (u.drop j))<(g+1)*(V:Int)∧g*(V:Int)<(Big.valL (u.drop j))+(V:Int):=hC
    try dsimp only
    obtain ⟨⟨hg0,hg1⟩,hup,hdn⟩:=hC
    refine zi<|zc<|r_pv rfl rfl (zd rfl)<|r_pv rfl rfl (zd rfl)<|zj<|ze<|zi<|zi<|zc<|r_pv rfl rfl (za rfl)<|r_pv rfl rfl (za rfl)<|zj<|ze<|zA<|zka (X:=Nat×(List Int)×Int×Int) (fun x:Nat×(List Int)×Int×Int=>x.1≤m+2∧Big.MsI u j g (Big.digs V) x.1 x.2.1 x.2.2.1 x.2.2.2) (fun x=>[(15,.int .u64 (x.2.2.2)),(14,.int .i64 (x.2.2.1)),(137,.int .i64 ((x.1:Nat):Int)),(136,.int .i64 (((m+2):Nat):Int)),(12,.int .u64 g),(10,.int .i64 ((j:Nat):Int)),(4,.slice (some ⟨b20,0,none⟩) (M - (m+2)) (M - (m+2))),(7,.slice p17 M c18),(9,.int .i64 (((m+2):Nat):Int)),(8,.slice p313 (m+2) c314),(6,.int .u32 ((s:Nat):Int)),(5,.slice none 0 0)]) (fun x=>[rowA 111 (rI .u32) (some ⟨b20,0,none⟩) (M - (m+2)) (List.replicate (j+1) 0++qs),rowA 111 (rI .u32) p17 c18 (x.2.1)]) (fun x=>[atF b26 o27 [.int .u32 ((Big.digs V).getD (m+1) 0)],atF b23 o24 [.int .u32 ((Big.digs V).getD (m+1) 0)],slF (rI .u32) (some ⟨b16,0,none⟩) 1 ([0]),slF (rI .u32) p313 c314 (Big.digs V),slF (rI .u32) (some ⟨b10,0,none⟩) 1 (Big.digs s),slF (rI .u32) (some ⟨b5,0,none⟩) 1 (Big.digs s),atF b1 o2 [.int .u32 ((Big.digs b).getD ((Big.digs b).length - 1) 0)],slF (rI .u32) p1 c1 (Big.digs a),slF (rI .u32) p2 c2 (Big.digs b)]) (fun x:Nat×(List Int)×Int×Int=>(m+2) - x.1) (0,u,0,0) (show 0≤m+2∧Big.MsI u j g (Big.digs V) 0 u 0 0 from by exact ⟨Nat.zero_le _,Big.MsI.start hI.uo j g _⟩) ((.c rfl (.c rfl (.e rfl (by first|rfl|(congr 1;omega)|simp_all) (.of rfl)))):SubM _ _) (ho:=((.of [0,0] rfl):PickO _ _ _)) ((.of [0,1,2,3,4,5,6,7,8] rfl):SelR _ _ _) ?_
    rintro ⟨i,w,bo,ca⟩ hMM
    replace hMM:i≤m+2∧Big.MsI u j g (Big.digs V) i w bo ca:=hMM
    try dsimp only
    obtain ⟨hile,hM2⟩:=hMM
    have hb0:=hM2.b0
    have hb1:=hM2.b1
    have hc0:=hM2.c0
    have hc1:=hM2.c1
    have hwl:=hM2.len
    have hwo:=Big.okL_getD hM2.ok (j+i)
    have hvi:=Big.okL_getD (Big.digs_ok V) i
    have hca:=Big.ms_carry ⟨hg0,hg1⟩ hvi ⟨hc0,hc1⟩
    have hgx:=Int.mul_nonneg hg0 hvi.1
    refine zi<|zc<|r_pv rfl rfl (zda rfl rfl)<|zj<|ze<|zi<|zG rfl (fun hi=> ?_) (fun hi=> ?_)
    ·
     refine zB<|ze<|zi<|zA<|zi<|zc<|r_pv rfl rfl (za rfl)<|r_pv rfl rfl (zd rfl)<|zj<|ze<|zi<|zc<|r_pv rfl rfl (za rfl)<|r_pv rfl rfl (za rfl)<|r_pv rfl rfl (za rfl)<|zU (x0:=((Big.digs V).getD i 0)) 3 i rfl Tryz.underlying28 sz111 rfl rfl rfl (by first|rfl|assumption|(simp;done)|omega) rfl rfl (gD (d:=0) (by omega)) (fun b36 o37 hok38=> ?_)
     replace hok38:=zv.1 hok38
     refine r_u rfl rfl (zk (j:=0) 0 ty111 rfl rfl rfl rfl)<|r_pv rfl rfl (zC (z:=((Big.digs V).getD i 0)) rfl (by rw [Tryz.underlying111];rfl) Tryz.underlying115 (wu64 (by omega)))<|r_pv rfl rfl (zpa (z:=(g*((Big.digs V).getD i 0))) rfl rfl (wu64 (by omega)))<|r_pv rfl rfl (za rfl)<|r_pv rfl rfl (zx (z:=((g*((Big.digs V).getD i 0))+ca)) rfl rfl (wu64 (by omega)))<|r_pv rfl rfl (zd rfl)<|zj<|ze<|zi<|zc<|r_pv rfl rfl (za rfl)<|r_pv rfl rfl (zVa (z:=(((g*((Big.digs V).getD i 0))+ca) / 1000000000)) rfl rfl (by omega) (by rw [quoN (z:=(((g*((Big.digs V).getD i 0))+ca) / 1000000000)) (by omega) (by omega)];exact wu64 (by omega)))<|r_pv rfl rfl (zd rfl)<|zj<|ze<|zi<|zc<|r_pv rfl rfl (za rfl)<|r_pv rfl rfl (za rfl)<|r_pv rfl rfl (za rfl)<|r_pv rfl rfl (zx (z:=(((j+i):Nat):Int)) rfl rfl (w64 (by omega)))<|r_u rfl rfl (zqa 1 (j+i) rfl Tryz.underlying28 sz111 rfl (by first|rfl|assumption|(simp;done)|omega) rfl rfl (by omega))<|r_vl rfl rfl (zfa 1 (j+i) rfl ty111 rfl rfl (gD (d:=0) (by omega)) rfl) (fun _ hok39=> ?_)
     replace hok39:=zv.1 hok39
     refine r_pv rfl rfl (zC (z:=(w.getD (j+i) 0)) rfl (by rw [Tryz.underlying111];rfl) Tryz.underlying2 (w64 (by omega)))<|r_pv rfl rfl (za rfl)<|r_pv rfl rfl (zaa (z:=((w.getD (j+i) 0) - bo)) rfl rfl (w64 (by omega)))<|r_pv rfl rfl (za rfl)<|r_pv rfl rfl (zWa (z:=(((g*((Big.digs V).getD i 0))+ca)%1000000000)) rfl rfl (by omega) (remN (by omega) (by omega)))<|r_pv rfl rfl (zC (z:=(((g*((Big.digs V).getD i 0))+ca)%1000000000)) rfl (by rw [Tryz.underlying115];rfl) Tryz.underlying2 (w64 (by omega)))<|r_pv rfl rfl (zaa (z:=(((w.getD (j+i) 0) - bo) - (((g*((Big.digs V).getD i 0))+ca)%1000000000))) rfl rfl (w64 (by omega)))<|r_pv rfl rfl (zd rfl)<|zj<|ze<|zi<|zc<|r_pv rfl rfl (zd rfl)<|zj<|ze<|zi<|zi<|zc<|r_pv rfl rfl (za rfl)<|r_pv rfl rfl (zda rfl rfl)<|zj<|ze<|zG rfl (fun hneg=> ?_) (fun hneg=> ?_)
     ·
      refine zc<|r_pv rfl rfl (za rfl)<|r_pv rfl rfl (zx (z:=((((w.getD (j+i) 0) - bo) - (((g*((Big.digs V).getD i 0))+ca)%1000000000))+1000000000)) rfl rfl (w64 (by omega)))<|r_pv rfl rfl (zd rfl)<|r_pv rfl rfl (zd rfl)<|zj<|ze<|zc<|r_pv rfl rfl (za rfl)<|r_pv rfl rfl (za rfl)<|r_pv rfl rfl (za rfl)<|r_pv rfl rfl (zx (z:=(((j+i):Nat):Int)) rfl rfl (w64 (by omega)))<|r_pv rfl rfl (za rfl)<|r_pv rfl rfl (zC (z:=((((w.getD (j+i) 0) - bo) - (((g*((Big.digs V).getD i 0))+ca)%1000000000))+1000000000)) rfl (by rw [Tryz.underlying2];rfl) Tryz.underlying111 (wu32 (by omega)))<|r_u rfl rfl (zqa 1 (j+i) rfl Tryz.underlying28 sz111 rfl (by first|rfl|assumption|(simp;done)|omega) rfl rfl (by omega))<|zDa 1 rfl rfl rfl (zW (j:=(j+i)) (x0:=((((w.getD (j+i) 0) - bo) - (((g*((Big.digs V).getD i 0))+ca)%1000000000))+1000000000)) (γ0:=()) rfl rfl (by first|omega|(rw [List.length_map];omega)|(simp only [List.length_set];omega)|(simp;done)|(simp;omega)) rfl rfl sz111 (fun _ _=>by exact zv.2 (by omega))) (fun _=>(.s .z)) (fun _ _=> ?_)
      refine zj<|zT<|ze<|zc<|r_pv rfl rfl (zx (z:=(((i+1):Nat):Int)) rfl rfl (w64 (by omega)))<|r_pv rfl rfl (za rfl)<|zj<|zha ((i+1),(w.set (j+i) ((((w.getD (j+i) 0) - bo) - (((g*((Big.digs V).getD i 0))+ca)%1000000000))+1000000000)),1,(((g*((Big.digs V).getD i 0))+ca) / 1000000000)) (show (i+1)≤m+2∧Big.MsI u j g (Big.digs V) (i+1) (w.set (j+i) ((((w.getD (j+i) 0) - bo) - (((g*((Big.digs V).getD i 0))+ca)%1000000000))+1000000000)) 1 (((g*((Big.digs V).getD i 0))+ca) / 1000000000) from by exact ⟨by omega,hM2.step ⟨hg0,hg1⟩ (Big.digs_ok V) (by omega) (by omega) ⟨by omega,by omega⟩ ⟨by decide,by decide⟩⟩) (by show (m+2) - (i+1)<(m+2) - i;omega) ((.of rfl):SubM _ _) (ho:=((.of [0,0] rfl):PickO _ _ _)) ((.of [1,2,3,4,5,6,7,8,9] rfl):SelR _ _ _)
     ·
      refine zB<|ze<|zc<|r_pv rfl rfl (za rfl)<|r_pv rfl rfl (za rfl)<|r_pv rfl rfl (za rfl)<|r_pv rfl rfl (zx (z:=(((j+i):Nat):Int)) rfl rfl (w64 (by omega)))<|r_pv rfl rfl (za rfl)<|r_pv rfl rfl (zC (z:=(((w.getD (j+i) 0) - bo) - (((g*((Big.digs V).getD i 0))+ca)%1000000000))) rfl (by rw [Tryz.underlying2];rfl) Tryz.underlying111 (wu32 (by omega)))<|r_u rfl rfl (zqa 1 (j+i) rfl Tryz.underlying28 sz111 rfl (by first|rfl|assumption|(simp;done)|omega) rfl rfl (by omega))<|zDa 1 rfl rfl rfl (zW (j:=(j+i)) (x0:=(((w.getD (j+i) 0) - bo) - (((g*((Big.digs V).getD i 0))+ca)%1000000000))) (γ0:=()) rfl rfl (by first|omega|(rw [List.length_map];omega)|(simp only [List.length_set];omega)|(simp;done)|(simp;omega)) rfl rfl sz111 (fun _ _=>by exact zv.2 (by omega))) (fun _=>(.s .z)) (fun _ _=> ?_)
      refine zj<|zT<|ze<|zc<|r_pv rfl rfl (zx (z:=(((i+1):Nat):Int)) rfl rfl (w64 (by omega)))<|r_pv rfl rfl (za rfl)<|zj<|zha ((i+1),(w.set (j+i) (((w.getD (j+i) 0) - bo) - (((g*((Big.digs V).getD i 0))+ca)%1000000000))),0,(((g*((Big.digs V).getD i 0))+ca) / 1000000000)) (show (i+1)≤m+2∧Big.MsI u j g (Big.digs V) (i+1) (w.set (j+i) (((w.getD (j+i) 0) - bo) - (((g*((Big.digs V).getD i 0))+ca)%1000000000))) 0 (((g*((Big.digs V).getD i 0))+ca) / 1000000000) from by exact ⟨by omega,hM2.step ⟨hg0,hg1⟩ (Big.digs_ok V) (by omega) (by omega) ⟨by omega,by omega⟩ ⟨by decide,by decide⟩⟩) (by show (m+2) - (i+1)<(m+2) - i;omega) ((.of rfl):SubM _ _) (ho:=((.of [0,0] rfl):PickO _ _ _)) ((.of [1,2,3,4,5,6,7,8,9] rfl):SelR _ _ _)
    ·
     have hM3:Big.MsI u j g (Big.digs V) (m+2) w bo ca:=by have h8:i=m+2:=(by omega);exact h8 ▸ hM2
     have hwo2:=Big.okL_getD hM2.ok (j+(m+2))
     refine zja<|zl<|zl<|zu<|ze<|zi<|zc<|r_pv rfl rfl (za rfl)<|r_pv rfl rfl (za rfl)<|r_pv rfl rfl (za rfl)<|r_pv rfl rfl (zx (z:=(((j+(m+2)):Nat):Int)) rfl rfl (w64 (by omega)))<|r_u rfl rfl (zqa 1 (j+(m+2)) rfl Tryz.underlying28 sz111 rfl (by first|rfl|assumption|(simp;done)|omega) rfl rfl (by omega))<|r_vl rfl rfl (zfa 1 (j+(m+2)) rfl ty111 rfl rfl (gD (d:=0) (by omega)) rfl) (fun _ hok40=> ?_)
     replace hok40:=zv.1 hok40
     refine r_pv rfl rfl (zC (z:=(w.getD (j+(m+2)) 0)) rfl (by rw [Tryz.underlying111];rfl) Tryz.underlying2 (w64 (by omega)))<|r_pv rfl rfl (za rfl)<|r_pv rfl rfl (zaa (z:=((w.getD (j+(m+2)) 0) - bo)) rfl rfl (w64 (by omega)))<|r_pv rfl rfl (za rfl)<|r_pv rfl rfl (zC (z:=ca) rfl (by rw [Tryz.underlying115];rfl) Tryz.underlying2 (w64 (by omega)))<|r_pv rfl rfl (zaa (z:=(((w.getD (j+(m+2)) 0) - bo) - ca)) rfl rfl (w64 (by omega)))<|r_pv rfl rfl (zd rfl)<|zj<|ze<|zi<|zi<|zc<|r_pv rfl rfl (za rfl)<|r_pv rfl rfl (zda rfl rfl)<|zj<|ze<|zG rfl (fun hd=> ?_) (fun hd=> ?_)
     ·
      have hg9:=hI.neg1 hM3 hm hd
      refine zi<|zc<|r_pv rfl rfl (za rfl)<|r_pv rfl rfl (za rfl)<|r_pv rfl rfl (za rfl)<|r_pv rfl rfl (zx (z:=(((j+(m+2)):Nat):Int)) rfl rfl (w64 (by omega)))<|r_pv rfl rfl (za rfl)<|r_pv rfl rfl (zx (z:=((((w.getD (j+(m+2)) 0) - bo) - ca)+1000000000)) rfl rfl (w64 (by omega)))<|r_pv rfl rfl (zC (z:=((((w.getD (j+(m+2)) 0) - bo) - ca)+1000000000)) rfl (by rw [Tryz.underlying2];rfl) Tryz.underlying111 (wu32 (by omega)))<|r_u rfl rfl (zqa 1 (j+(m+2)) rfl Tryz.underlying28 sz111 rfl (by first|rfl|assumption|(simp;done)|omega) rfl rfl (by omega))<|zDa 1 rfl rfl rfl (zW (j:=(j+(m+2))) (x0:=((((w.getD (j+(m+2)) 0) - bo) - ca)+1000000000)) (γ0:=()) rfl rfl (by first|omega|(rw [List.length_map];omega)|(simp only [List.length_set];omega)|(simp;done)|(simp;omega)) rfl rfl sz111 (fun _ _=>by exact zv.2 (by omega))) (fun _=>(.s .z)) (fun _ _=> ?_)
      refine zj<|ze<|zi<|zc<|r_pv rfl rfl (za rfl)<|r_pv rfl rfl (zaa (z:=(g - 1)) rfl rfl (wu64 (by omega)))<|r_pv rfl rfl (zd rfl)<|zj<|ze<|zi<|zc<|r_pv rfl rfl (zd rfl)<|zj<|ze<|zi<|zi<|zc<|r_pv rfl rfl (za rfl)<|r_pv rfl rfl (za rfl)<|zj<|ze<|zA<|zka (X:=Nat×(List Int)×Int) (fun x:Nat×(List Int)×Int=>x.1≤m+2∧Big.AbI (w.set (j+(m+2)) ((((w.getD (j+(m+2)) 0) - bo) - ca)+1000000000)) j (Big.digs V) x.1 x.2.1 x.2.2) (fun x=>[(20,.int .u32 (x.2.2)),(201,.int .i64 ((x.1:Nat):Int)),(200,.int .i64 (((m+2):Nat):Int)),(12,.int .u64 (g - 1)),(10,.int .i64 ((j:Nat):Int)),(4,.slice (some ⟨b20,0,none⟩) (M - (m+2)) (M - (m+2))),(7,.slice p17 M c18),(9,.int .i64 (((m+2):Nat):Int)),(8,.slice p313 (m+2) c314),(6,.int .u32 ((s:Nat):Int)),(5,.slice none 0 0)]) (fun x=>[rowA 111 (rI .u32) (some ⟨b20,0,none⟩) (M - (m+2)) (List.replicate (j+1) 0++qs),rowA 111 (rI .u32) p17 c18 (x.2.1)]) (fun x=>[atF b26 o27 [.int .u32 ((Big.digs V).getD (m+1) 0)],atF b23 o24 [.int .u32 ((Big.digs V).getD (m+1) 0)],slF (rI .u32) (some ⟨b16,0,none⟩) 1 ([0]),slF (rI .u32) p313 c314 (Big.digs V),slF (rI .u32) (some ⟨b10,0,none⟩) 1 (Big.digs s),slF (rI .u32) (some ⟨b5,0,none⟩) 1 (Big.digs s),atF b1 o2 [.int .u32 ((Big.digs b).getD ((Big.digs b).length - 1) 0)],slF (rI .u32) p1 c1 (Big.digs a),slF (rI .u32) p2 c2 (Big.digs b)]) (fun x:Nat×(List Int)×Int=>(m+2) - x.1) (0,(w.set (j+(m+2)) ((((w.getD (j+(m+2)) 0) - bo) - ca)+1000000000)),0) (show 0≤m+2∧Big.AbI (w.set (j+(m+2)) ((((w.getD (j+(m+2)) 0) - bo) - ca)+1000000000)) j (Big.digs V) 0 (w.set (j+(m+2)) ((((w.getD (j+(m+2)) 0) - bo) - ca)+1000000000)) 0 from by exact ⟨Nat.zero_le _,Big.AbI.start (Big.okL_set hM2.ok (by omega) (by omega)) _ _⟩) ((.c rfl (.e rfl (by first|rfl|(congr 1;omega)|simp_all) (.of rfl))):SubM _ _) (ho:=((.c (i:=0) rfl (.e (i:=0) rfl (by first|rfl|(congr 1;omega)|simp_all) .n)):PickO _ _ _)) ((.of [0,1,2,3,4,5,6,7,8] rfl):SelR _ _ _) ?_
      rintro ⟨i2,xs,cc⟩ hAA
      replace hAA:i2≤m+2∧Big.AbI (w.set (j+(m+2)) ((((w.getD (j+(m+2)) 0) - bo) - ca)+1000000000)) j (Big.digs V) i2 xs cc:=hAA
      try dsimp only
      obtain ⟨hile2,hA2⟩:=hAA
      have hk0:=hA2.c0
      have hk1:=hA2.c1
      have hxl:=hA2.len
      rw [List.length_set] at hxl
      have hxo:=Big.okL_getD hA2.ok (j+i2)
      have hvi2:=Big.okL_getD (Big.digs_ok V) i2
      refine zi<|zc<|r_pv rfl rfl (zda rfl rfl)<|zj<|ze<|zi<|zG rfl (fun hi=> ?_) (fun hi=> ?_)
      ·
       refine zB<|ze<|zi<|zA<|zi<|zc<|r_pv rfl rfl (za rfl)<|r_pv rfl rfl (zd rfl)<|zj<|ze<|zi<|zea (OW:=[]) (O:=[rowA 111 (rI .u32) (some ⟨b20,0,none⟩) (M - (m+2)) (List.replicate (j+1) 0++qs),rowA 111 (rI .u32) p17 c18 xs]) 100000 mixed (.then (.block (.then (.then (.block (.then (.then (.block (.then (.then (.block (.then .ret)))))))))))) (by kernel_rfl)<|d_pv 0 rfl rfl (by kernel_rfl) (by kernel_rfl) rfl rfl (za rfl)<|d_pv 1 rfl rfl (by kernel_rfl) (by kernel_rfl) rfl rfl (za rfl)<|d_pv 2 rfl rfl (by kernel_rfl) (by kernel_rfl) rfl rfl (za rfl)<|d_pv 3 rfl rfl (by kernel_rfl) (by kernel_rfl) rfl rfl (zx (z:=(((j+i2):Nat):Int)) rfl rfl (w64 (by omega)))<|d_u 4 rfl rfl (by kernel_rfl) (by kernel_rfl) rfl rfl (zqa 1 (j+i2) rfl Tryz.underlying28 sz111 rfl (by first|rfl|assumption|(simp;done)|omega) rfl rfl (by omega))<|d_vl 5 rfl rfl (by kernel_rfl) (by kernel_rfl) rfl rfl (zfa 1 (j+i2) rfl ty111 rfl rfl (gD (d:=0) (by omega)) rfl) (fun _ hok41=> ?_)
       replace hok41:=zv.1 hok41
       refine d_pv 6 rfl rfl (by kernel_rfl) (by kernel_rfl) rfl rfl (za rfl)<|d_pv 7 rfl rfl (by kernel_rfl) (by kernel_rfl) rfl rfl (za rfl)<|zga (x0:=((Big.digs V).getD i2 0)) 8 rfl rfl (by kernel_rfl) (by kernel_rfl) 3 i2 rfl Tryz.underlying28 sz111 rfl rfl rfl (by first|rfl|assumption|(simp;done)|omega) rfl rfl (gD (d:=0) (by omega)) (fun b42 o43 hok44=> ?_)
       replace hok44:=zv.1 hok44
       refine d_u 9 rfl rfl (by kernel_rfl) (by kernel_rfl) rfl rfl (zk (j:=0) 0 ty111 rfl rfl rfl rfl)<|d_pv 10 rfl rfl (by kernel_rfl) (by kernel_rfl) rfl rfl (zx (z:=((xs.getD (j+i2) 0)+((Big.digs V).getD i2 0))) rfl rfl (wu32 (by omega)))<|d_pv 11 rfl rfl (by kernel_rfl) (by kernel_rfl) rfl rfl (za rfl)<|d_pv 12 rfl rfl (by kernel_rfl) (by kernel_rfl) rfl rfl (zx (z:=(((xs.getD (j+i2) 0)+((Big.digs V).getD i2 0))+cc)) rfl rfl (wu32 (by omega)))<|d_pv 13 rfl rfl (by kernel_rfl) (by kernel_rfl) rfl rfl (zd rfl)<|zba (by kernel_rfl)<|ze<|zi<|zc<|r_pv rfl rfl (zd rfl)<|zj<|ze<|zi<|zi<|zc<|r_pv rfl rfl (za rfl)<|r_pv rfl rfl (zMa rfl rfl)<|zj<|ze<|zG rfl (fun hcy=> ?_) (fun hcy=> ?_)
       ·
        refine zc<|r_pv rfl rfl (za rfl)<|r_pv rfl rfl (zaa (z:=((((xs.getD (j+i2) 0)+((Big.digs V).getD i2 0))+cc) - 1000000000)) rfl rfl (wu32 (by omega)))<|r_pv rfl rfl (zd rfl)<|r_pv rfl rfl (zd rfl)<|zj<|ze<|zc<|r_pv rfl rfl (za rfl)<|r_pv rfl rfl (za rfl)<|r_pv rfl rfl (za rfl)<|r_pv rfl rfl (zx (z:=(((j+i2):Nat):Int)) rfl rfl (w64 (by omega)))<|r_pv rfl rfl (za rfl)<|r_u rfl rfl (zqa 1 (j+i2) rfl Tryz.underlying28 sz111 rfl (by first|rfl|assumption|(simp;done)|omega) rfl rfl (by omega))<|zDa 1 rfl rfl rfl (zW (j:=(j+i2)) (x0:=((((xs.getD (j+i2) 0)+((Big.digs V).getD i2 0))+cc) - 1000000000)) (γ0:=()) rfl rfl (by first|omega|(rw [List.length_map];omega)|(simp only [List.length_set];omega)|(simp;done)|(simp;omega)) rfl rfl sz111 (fun _ _=>by exact zv.2 (by omega))) (fun _=>(.s .z)) (fun _ _=> ?_)
        refine zj<|zT<|ze<|zc<|r_pv rfl rfl (zx (z:=(((i2+1):Nat):Int)) rfl rfl (w64 (by omega)))<|r_pv rfl rfl (za rfl)<|zj<|zha ((i2+1),(xs.set (j+i2) ((((xs.getD (j+i2) 0)+((Big.digs V).getD i2 0))+cc) - 1000000000)),1) (show (i2+1)≤m+2∧Big.AbI (w.set (j+(m+2)) ((((w.getD (j+(m+2)) 0) - bo) - ca)+1000000000)) j (Big.digs V) (i2+1) (xs.set (j+i2) ((((xs.getD (j+i2) 0)+((Big.digs V).getD i2 0))+cc) - 1000000000)) 1 from by exact ⟨by omega,hA2.step (by rw [List.length_set];omega) (by omega) ⟨by omega,by omega⟩ ⟨by decide,by decide⟩⟩) (by show (m+2) - (i2+1)<(m+2) - i2;omega) ((.of rfl):SubM _ _) (ho:=((.of [0,0] rfl):PickO _ _ _)) ((.of [1,2,3,4,5,6,7,8,9] rfl):SelR _ _ _)
       ·
        refine zB<|ze<|zc<|r_pv rfl rfl (za rfl)<|r_pv rfl rfl (za rfl)<|r_pv rfl rfl (za rfl)<|r_pv rfl rfl (zx (z:=(((j+i2):Nat):Int)) rfl rfl (w64 (by omega)))<|r_pv rfl rfl (za rfl)<|r_u rfl rfl (zqa 1 (j+i2) rfl Tryz.underlying28 sz111 rfl (by first|rfl|assumption|(simp;done)|omega) rfl rfl (by omega))<|zDa 1 rfl rfl rfl (zW (j:=(j+i2)) (x0:=(((xs.getD (j+i2) 0)+((Big.digs V).getD i2 0))+cc)) (γ0:=()) rfl rfl (by first|omega|(rw [List.length_map];omega)|(simp only [List.length_set];omega)|(simp;done)|(simp;omega)) rfl rfl sz111 (fun _ _=>by exact zv.2 (by omega))) (fun _=>(.s .z)) (fun _ _=> ?_)
        refine zj<|zT<|ze<|zc<|r_pv rfl rfl (zx (z:=(((i2+1):Nat):Int)) rfl rfl (w64 (by omega)))<|r_pv rfl rfl (za rfl)<|zj<|zha ((i2+1),(xs.set (j+i2) (((xs.getD (j+i2) 0)+((Big.digs V).getD i2 0))+cc)),0) (show (i2+1)≤m+2∧Big.AbI (w.set (j+(m+2)) ((((w.getD (j+(m+2)) 0) - bo) - ca)+1000000000)) j (Big.digs V) (i2+1) (xs.set (j+i2) (((xs.getD (j+i2) 0)+((Big.digs V).getD i2 0))+cc)) 0 from by exact ⟨by omega,hA2.step (by rw [List.length_set];omega) (by omega) ⟨by omega,by omega⟩ ⟨by decide,by decide⟩⟩) (by show (m+2) - (i2+1)<(m+2) - i2;omega) ((.of rfl):SubM _ _) (ho:=((.of [0,0] rfl):PickO _ _ _)) ((.of [1,2,3,4,5,6,7,8,9] rfl):SelR _ _ _)
      ·
       have hA3:Big.AbI (w.set (j+(m+2)) ((((w.getD (j+(m+2)) 0) - bo) - ca)+1000000000)) j (Big.digs V) (m+2) xs cc:=by have h8:i2=m+2:=(by omega);exact h8 ▸ hA2
       have hxo2:=Big.okL_getD hA2.ok (j+(m+2))
       refine zja<|zl<|zl<|zu<|ze<|zc<|r_pv rfl rfl (za rfl)<|r_pv rfl rfl (za rfl)<|r_pv rfl rfl (za rfl)<|r_pv rfl rfl (zx (z:=(((j+(m+2)):Nat):Int)) rfl rfl (w64 (by omega)))<|r_pv rfl rfl (za rfl)<|r_pv rfl rfl (za rfl)<|r_pv rfl rfl (za rfl)<|r_pv rfl rfl (zx (z:=(((j+(m+2)):Nat):Int)) rfl rfl (w64 (by omega)))<|r_u rfl rfl (zqa 1 (j+(m+2)) rfl Tryz.underlying28 sz111 rfl (by first|rfl|assumption|(simp;done)|omega) rfl rfl (by omega))<|r_vl rfl rfl (zfa 1 (j+(m+2)) rfl ty111 rfl rfl (gD (d:=0) (by omega)) rfl) (fun _ hok45=> ?_)
       replace hok45:=zv.1 hok45
       refine r_pv rfl rfl (za rfl)<|r_pv rfl rfl (zx (z:=((xs.getD (j+(m+2)) 0)+cc)) rfl rfl (wu32 (by omega)))<|r_pv rfl rfl (zWa (z:=(((xs.getD (j+(m+2)) 0)+cc)%1000000000)) rfl rfl (by omega) (remN (by omega) (by omega)))<|r_u rfl rfl (zqa 1 (j+(m+2)) rfl Tryz.underlying28 sz111 rfl (by first|rfl|assumption|(simp;done)|omega) rfl rfl (by omega))<|zDa 1 rfl rfl rfl (zW (j:=(j+(m+2))) (x0:=(((xs.getD (j+(m+2)) 0)+cc)%1000000000)) (γ0:=()) rfl rfl (by first|omega|(rw [List.length_map];omega)|(simp only [List.length_set];omega)|(simp;done)|(simp;omega)) rfl rfl sz111 (fun _ _=>by exact zv.2 (by omega))) (fun _=>(.s .z)) (fun _ _=> ?_)
       refine zj<|ze<|zc<|r_pv rfl rfl (za rfl)<|r_pv rfl rfl (za rfl)<|r_pv rfl rfl (za rfl)<|r_pv rfl rfl (zC (z:=(g - 1)) rfl (by rw [Tryz.underlying115];rfl) Tryz.underlying111 (wu32 (by omega)))<|r_pv rfl rfl (zX (j:=j) Tryz.underlying28 sz111 rfl rfl rfl (by omega))<|zDa 0 rfl rfl rfl (zW (j:=j) (x0:=(g - 1)) (γ0:=()) rfl rfl (by first|omega|(rw [List.length_map];omega)|(simp only [List.length_set];omega)|(simp;done)|(simp;omega)) rfl rfl sz111 (fun _ _=>by exact zv.2 (by omega))) (fun _=> .z) (fun _ _=> ?_)
       refine zj<|zT<|ze<|zc<|r_pv rfl rfl (za rfl)<|r_pv rfl rfl (zaa (z:=(((j:Nat):Int) - 1)) rfl rfl (w64 (by omega)))<|r_pv rfl rfl (zd rfl)<|zj<|zha (j,(xs.set (j+(m+2)) (((xs.getD (j+(m+2)) 0)+cc)%1000000000)),((g - 1) :: qs)) (show Big.LgI M (m+2) ((A:Nat):Int) ((V:Nat):Int) j (xs.set (j+(m+2)) (((xs.getD (j+(m+2)) 0)+cc)%1000000000)) ((g - 1) :: qs) from by exact (hI.neg ⟨hg0,hg1⟩ hdn hup hM3 hm hd hA3).2) (by show j<j+1;omega) ((.of rfl):SubM _ _) (ho:=((.e (i:=0) rfl (by rw [Big.pad_set]) (.c (i:=0) rfl .n)):PickO _ _ _)) ((.of [2,3,4,5,6,7,8] rfl):SelR _ _ _)
     ·
      refine zc<|r_pv rfl rfl (za rfl)<|r_pv rfl rfl (za rfl)<|r_pv rfl rfl (za rfl)<|r_pv rfl rfl (zx (z:=(((j+(m+2)):Nat):Int)) rfl rfl (w64 (by omega)))<|r_pv rfl rfl (za rfl)<|r_pv rfl rfl (zC (z:=(((w.getD (j+(m+2)) 0) - bo) - ca)) rfl (by rw [Tryz.underlying2];rfl) Tryz.underlying111 (wu32 (by omega)))<|r_u rfl rfl (zqa 1 (j+(m+2)) rfl Tryz.underlying28 sz111 rfl (by first|rfl|assumption|(simp;done)|omega) rfl rfl (by omega))<|zDa 1 rfl rfl rfl (zW (j:=(j+(m+2))) (x0:=(((w.getD (j+(m+2)) 0) - bo) - ca)) (γ0:=()) rfl rfl (by first|omega|(rw [List.length_map];omega)|(simp only [List.length_set];omega)|(simp;done)|(simp;omega)) rfl rfl sz111 (fun _ _=>by exact zv.2 (by omega))) (fun _=>(.s .z)) (fun _ _=> ?_)
      refine zj<|ze<|zc<|r_pv rfl rfl (za rfl)<|r_pv rfl rfl (za rfl)<|r_pv rfl rfl (za rfl)<|r_pv rfl rfl (zC (z:=g) rfl (by rw [Tryz.underlying115];rfl) Tryz.underlying111 (wu32 (by omega)))<|r_pv rfl rfl (zX (j:=j) Tryz.underlying28 sz111 rfl rfl rfl (by omega))<|zDa 0 rfl rfl rfl (zW (j:=j) (x0:=g) (γ0:=()) rfl rfl (by first|omega|(rw [List.length_map];omega)|(simp only [List.length_set];omega)|(simp;done)|(simp;omega)) rfl rfl sz111 (fun _ _=>by exact zv.2 (by omega))) (fun _=> .z) (fun _ _=> ?_)
      refine zj<|zT<|ze<|zc<|r_pv rfl rfl (za rfl)<|r_pv rfl rfl (zaa (z:=(((j:Nat):Int) - 1)) rfl rfl (w64 (by omega)))<|r_pv rfl rfl (zd rfl)<|zj<|zha (j,(w.set (j+(m+2)) (((w.getD (j+(m+2)) 0) - bo) - ca)),(g :: qs)) (show Big.LgI M (m+2) ((A:Nat):Int) ((V:Nat):Int) j (w.set (j+(m+2)) (((w.getD (j+(m+2)) 0) - bo) - ca)) (g :: qs) from by exact hI.pos ⟨hg0,hg1⟩ hup hM3 hm (by omega)) (by show j<j+1;omega) ((.of rfl):SubM _ _) (ho:=((.e (i:=0) rfl (by rw [Big.pad_set]) (.c (i:=0) rfl .n)):PickO _ _ _)) ((.of [2,3,4,5,6,7,8] rfl):SelR _ _ _)
  ·
   have hj0:jj=0:=by omega
   have hI0:Big.LgI M (m+2) ((A:Nat):Int) ((V:Nat):Int) 0 u qs:=hj0 ▸ hI
   obtain ⟨hf1,hf2⟩:=hI0.fin hm
   have hsc:=Big.scale_div (a:=a) (b:=b) hs1
   have hql:qs.length=M - (m+2):=by have h8:=hI0.ql;omega
   have hul0:=hI0.ul
   refine zja<|zl<|zl<|zu<|ze<|zi<|zWd 1 rfl (.s .z)<|zY 0 rfl (fun hcu=> ?_)
   have hAV:(Big.digs (A%V)).length≤1099511627776:=Nat.le_trans (Big.ln_mono' (Nat.le_of_lt (Nat.mod_lt A (Nat.pos_of_ne_zero (fun e=>by rw [e] at hm;cases hm))))) (by omega)
   have e46:List.replicate jj 0++qs=qs:=by rw [hj0];rfl
   rw [e46]
   refine zc<|r_pv rfl rfl (za rfl)<|r_pv rfl rfl (za rfl)<|r_pv rfl rfl (zBb (hi:=(m+2)) Tryz.underlying28 sz111 rfl (.s rfl) (.inr ⟨_,rfl⟩) (by omega))<|zkc (zfc 0 rfl (m+2) (by omega)) (fun _ _=> ?_)
   refine zy rfl rfl (.c rfl .n) ce124 (zrb (p:=p17) (n:=(m+2)) (cap:=c18) (l:=(u.take (m+2))) (hn:=by first|rfl|assumption|omega|(simp;done)|(simp;omega)|(simp_all;done))) (.c (j:=0) rfl .n) ?_
   rintro ⟨⟩ -
   dsimp only [List.append_eq,List.nil_append,List.cons_append]
   refine r_pv rfl rfl (za rfl) ?_
   have e47:Big.trimL (u.take (m+2))=Big.digs (A%V):=by exact hf2
   rw [e47]
   refine zy rfl rfl (.c rfl (.c rfl .n)) ce129 (znd (a:=A%V) (mm:=s) (p:=p17) (cap:=c18) (hb:=by omega) (hm0:=by omega) (hm1:=by omega)) (.c (j:=0) rfl .n) ?_
   rintro ⟨p248,c249⟩ -
   dsimp only [List.append_eq,List.nil_append,List.cons_append]
   refine r_pv rfl rfl (za rfl)<|r_pv rfl rfl (zr rfl rfl)<|r_pv rfl rfl (zr rfl rfl)<|r_pv rfl rfl (zd rfl)<|zj<|ze<|zi<|zc<|r_pv rfl rfl (za rfl)<|zna 0 rfl .z<|zy rfl rfl (.c rfl .n) ce124 (zrb (p:=some ⟨b20,0,none⟩) (n:=(M - (m+2))) (cap:=(M - (m+2))) (l:=qs) (hn:=by first|rfl|assumption|omega|(simp;done)|(simp;omega)|(simp_all;done))) (.c (j:=0) rfl .n) ?_
   rintro ⟨⟩ -
   dsimp only [List.append_eq,List.nil_append,List.cons_append]
   refine r_pv rfl rfl (za rfl)<|r_pv rfl rfl (zd rfl)<|r_pv rfl rfl (zd rfl)<|zj<|ze<|zI ?_
   have e50:Big.trimL qs=Big.digs (A / V):=by exact hf1
   rw [e50]
   exact zBa Tryz.results130 ((some ⟨b20,0,none⟩),(M - (m+2)),p248,c249) trivial (zo rfl) (zo rfl) (by rw [hA,hV,hsc.1,hsc.2]) (ho:=(.n:PickO _ _ _)) ((.e (j:=0) rfl (by rw [hA,hV,hsc.1]) (.e (j:=2) rfl (by rw [hA,hV,hsc.2]) .n)):SelR _ _ _)
end Go.Proofs.YtkamccndgblheaaGreat.Sp
namespace Go.Proofs.YtkamccndgblheaaGreat.Sp
open Go
set_option linter.unusedVariables false
set_option maxRecDepth 100000
set_option maxHeartbeats 1000000
theorem zee {a:Nat} {b:Nat} {p1:Option Addr} {c1:Nat} {p2:Option Addr} {c2:Nat} (hb1:(Big.digs a).length≤1099511627776) (hb2:(Big.digs b).length≤1099511627776) (hb0:0<b):Con Tryz.prog 112 [.slice p1 ((Big.digs a).length) c1,.slice p2 ((Big.digs b).length) c2] [] [slF (rI .u32) p1 c1 (Big.digs a),slF (rI .u32) p2 c2 (Big.digs b)] (Y:=(Option Addr)×Nat×(Option Addr)×Nat) (fun y=>True) (fun y=> .tuple #[.slice (y.1) ((Big.digs (a / b)).length) (y.2.1),.slice (y.2.2.1) ((Big.digs (a%b)).length) (y.2.2.2)]) (fun y=>[]) (fun y=>[slF (rI .u32) (y.1) (y.2.1) (Big.digs (a / b)),slF (rI .u32) (y.2.2.1) (y.2.2.2) (Big.digs (a%b))]):=by
 refine zq Tryz.func112 rfl rfl rfl (fun c=> ?_)
 show RunC _ _ _ _ _ [(0,.slice p1 ((Big.digs a).length) c1),(1,.slice p2 ((Big.digs b).length) c2)] [] [slF (rI .u32) p1 c1 (Big.digs a),slF (rI .u32) p2 c2 (Big.digs b)]
 refine zY 0 rfl (fun hL0=> ?_)
 refine zY 1 rfl (fun hL1=> ?_)
 have hd1:=Nat.div_le_self a b
 have hd2:=Nat.mod_le a b
 have hob:=Big.okL_getD (Big.digs_ok b) 0
 refine zi<|zc<|r_pv rfl rfl (zd rfl)<|r_pv rfl rfl (zd rfl)<|zj<|ze<|zi<|zi<|zc<|r_pv rfl rfl (za rfl)<|r_pv rfl rfl (za rfl)<|zN rfl rfl (.c rfl (.c rfl .n)) ce109 (zrc (a:=a) (b:=b) (p1:=p1) (c1:=c1) (p2:=p2) (c2:=c2)) (.c (j:=0) rfl (.c (j:=1) rfl .n))<|r_pv rfl rfl (zda rfl rfl)<|zj<|ze<|zG rfl (fun hlt=> ?_) (fun hlt=> ?_)
 ·
  have hab9:¬(b:Int)≤a:=fun h=>by have:=Big.cmp_ge.2 h;omega
  have hab:a<b:=by omega
  refine zi<|zc<|r_pv rfl rfl (za rfl)<|r_pv rfl rfl (zd rfl)<|r_pv rfl rfl (zd rfl)<|zj<|ze<|zI<|zp ?_
  have hz1:a / b=0:=Nat.div_eq_of_lt hab
  have hz2:a%b=a:=Nat.mod_eq_of_lt hab
  refine zdd (rI .u32) ?_
  exact zBa Tryz.results112 (none,0,p1,c1) trivial (zo rfl) (zo rfl) (by rw [hz1,hz2];rfl) (ho:=(.n:PickO _ _ _)) ((.e (j:=0) rfl (by rw [hz1];rfl) (.e (j:=1) rfl (by rw [hz2]) .n)):SelR _ _ _)
 ·
  have hab:b≤a:=by have h9:=Big.cmp_ge.1 (by omega:0≤Big.cmp (a:Int) (b:Int));omega
  refine zB<|ze<|zi<|zc<|r_pv rfl rfl (za rfl)<|zN rfl rfl (.c rfl .n) ce110 (zhc (a:=a) (p:=p1) (cap:=c1)) (.c (j:=0) rfl .n)<|r_pv rfl rfl (za rfl)<|r_pv rfl rfl (zr rfl rfl)<|r_pv rfl rfl (zr rfl rfl)<|r_pv rfl rfl (zd rfl)<|r_pv rfl rfl (zd rfl)<|zj<|ze<|zi<|zc<|r_pv rfl rfl (za rfl)<|zN rfl rfl (.c rfl .n) ce110 (zhc (a:=b) (p:=p2) (cap:=c2)) (.c (j:=1) rfl .n)<|r_pv rfl rfl (za rfl)<|r_pv rfl rfl (zr rfl rfl)<|r_pv rfl rfl (zr rfl rfl)<|r_pv rfl rfl (zd rfl)<|r_pv rfl rfl (zd rfl)<|zj<|ze<|zi<|zGa (X:=Unit) (fun x=>True) (fun x=>[(30,.bool (decide (((Big.digs a).length≤2)∧((Big.digs b).length≤2)))),(8,.int .u64 (((if (Big.digs b).length≤2 then b else 0):Nat):Int)),(6,.int .u64 (((if (Big.digs a).length≤2 then a else 0):Nat):Int)),(5,.slice none 0 0),(4,.slice none 0 0),(0,.slice p1 ((Big.digs a).length) c1),(1,.slice p2 ((Big.digs b).length) c2)]) (fun x=>[]) (fun x=>[slF (rI .u32) p1 c1 (Big.digs a),slF (rI .u32) p2 c2 (Big.digs b)]) ?_ ?_
  ·
   refine zc<|r_pv rfl rfl (za rfl)<|zP rfl rfl (za rfl) (fun h1=> ?_) (fun h1=> ?_)
   ·
    refine r_pv rfl rfl (za rfl)<|r_pv rfl rfl (zm rfl rfl)<|zj ?_
    exact zca () (show True from by first|trivial|omega|simp_all) ((.e rfl (congrArg Value.bool (by first|(simp_all;done)|(simp_all;omega)|(simp;omega)|omega)) (.of rfl)):SubM _ _) (ho:=(.n:PickO _ _ _)) ((.of [0,1] rfl):SelR _ _ _)
   ·
    refine zb rfl rfl<|r_pv rfl rfl (zm rfl rfl)<|zj ?_
    exact zca () (show True from by first|trivial|omega|simp_all) ((.e rfl (congrArg Value.bool (by first|(simp_all;done)|(simp_all;omega)|(simp;omega)|omega)) (.of rfl)):SubM _ _) (ho:=(.n:PickO _ _ _)) ((.of [0,1] rfl):SelR _ _ _)
  ·
   rintro ⟨⟩ -
   try dsimp only
   refine zG rfl (fun hw=> ?_) (fun hw=> ?_)
   ·
    have ha18:=Big.two_lt hw.1
    have hb18:=Big.two_lt hw.2
    have hdn0:(0:Int)≤(a:Int) / (b:Int):=Int.ediv_nonneg (by omega) (by omega)
    have hdn1:(a:Int) / (b:Int)≤a:=Int.ediv_le_self _ (by omega)
    have hdm0:(0:Int)≤(a:Int)%(b:Int):=Int.emod_nonneg _ (by omega)
    have hdm1:(a:Int)%(b:Int)<b:=Int.emod_lt_of_pos _ (by omega)
    refine zi ?_
    have e2:(if (Big.digs a).length≤2 then a else 0)=a:=by rw [if_pos hw.1]
    rw [e2]
    have e3:(if (Big.digs b).length≤2 then b else 0)=b:=by rw [if_pos hw.2]
    rw [e3]
    refine zea (OW:=[]) (O:=[]) 100000 mixed (.then (.then .ret)) (by kernel_rfl)<|d_pv 0 rfl rfl (by kernel_rfl) (by kernel_rfl) rfl rfl (za rfl)<|d_pv 1 rfl rfl (by kernel_rfl) (by kernel_rfl) rfl rfl (za rfl)<|d_pv 2 rfl rfl (by kernel_rfl) (by kernel_rfl) rfl rfl (zVa (z:=(((a / b):Nat):Int)) rfl rfl (by omega) (by rw [quoN (z:=(((a / b):Nat):Int)) (by omega) (by omega)];exact wu64 (by omega)))<|d_pv 4 rfl rfl (by kernel_rfl) (by kernel_rfl) rfl rfl (za rfl)<|d_pv 5 rfl rfl (by kernel_rfl) (by kernel_rfl) rfl rfl (za rfl)<|d_pv 6 rfl rfl (by kernel_rfl) (by kernel_rfl) rfl rfl (zWa (z:=(((a%b):Nat):Int)) rfl rfl (by omega) (remN (by omega) (by omega)))<|zL 3 (by kernel_rfl) (zH rfl rfl rfl rfl (.c rfl .n) ce111 (zmb (n0:=(a / b)) (hn0:=by first|rfl|assumption|omega)) (.n) ?_)
    rintro ⟨p24,c25⟩ -
    dsimp only [List.append_eq,List.nil_append,List.cons_append]
    refine zL 7 (by kernel_rfl) (zH rfl rfl rfl rfl (.c rfl .n) ce111 (zmb (n0:=(a%b)) (hn0:=by first|rfl|assumption|omega)) (.n) ?_)
    rintro ⟨p26,c27⟩ -
    dsimp only [List.append_eq,List.nil_append,List.cons_append]
    refine d_pv 8 rfl rfl (by kernel_rfl) (by kernel_rfl) rfl rfl (zd rfl)<|d_pv 9 rfl rfl (by kernel_rfl) (by kernel_rfl) rfl rfl (zd rfl)<|zba (by kernel_rfl)<|ze<|zI<|zp ?_
    exact zBa Tryz.results112 (p24,c25,p26,c27) trivial (zo rfl) (zo rfl) rfl (ho:=(.n:PickO _ _ _)) ((.of [1,0] rfl):SelR _ _ _)
   ·
    refine zB<|ze<|zi<|zi<|zc<|r_pv rfl rfl (za rfl)<|r_pv rfl rfl (zM Tryz.underlying28 rfl)<|r_pv rfl rfl (zva rfl rfl)<|zj<|ze<|zG rfl (fun hl1=> ?_) (fun hl1=> ?_)
    ·
     have hbd:=Big.one_digit (by omega:(Big.digs b).length=1)
     have hln0:=Big.zHe hb0
     have hmlt:=Nat.mod_lt a hb0
     have hdm0:(0:Int)≤(a:Int)%(b:Int):=Int.emod_nonneg _ (by omega)
     have hdm1:(a:Int)%(b:Int)<b:=Int.emod_lt_of_pos _ (by omega)
     refine zi<|zc<|r_pv rfl rfl (za rfl)<|r_pv rfl rfl (za rfl)<|zU (x0:=((Big.digs b).getD 0 0)) 1 0 rfl Tryz.underlying28 sz111 rfl rfl rfl (by first|rfl|assumption|(simp;done)|omega) rfl rfl (gD (d:=0) (by omega)) (fun b8 o9 hok10=> ?_)
     replace hok10:=zv.1 hok10
     refine r_u rfl rfl (zk (j:=0) 0 ty111 rfl rfl rfl rfl) ?_
     have e11:(((Big.digs b).getD 0 0):Int)=((b:Nat):Int):=by exact hbd
     rw [e11]
     refine zy rfl rfl (.c rfl (.c rfl .n)) ce129 (znd (a:=a) (mm:=b) (p:=p1) (cap:=c1) (hb:=by assumption) (hm0:=by assumption) (hm1:=by first|rfl|assumption|omega)) (.c (j:=1) rfl .n) ?_
     rintro ⟨p212,c213⟩ -
     dsimp only [List.append_eq,List.nil_append,List.cons_append]
     refine r_pv rfl rfl (za rfl)<|r_pv rfl rfl (zr rfl rfl)<|r_pv rfl rfl (zr rfl rfl)<|r_pv rfl rfl (zd rfl)<|r_pv rfl rfl (zd rfl)<|zj<|ze<|zi<|zc<|r_pv rfl rfl (za rfl)<|r_pv rfl rfl (za rfl)<|r_pv rfl rfl (zC (z:=(((a%b):Nat):Int)) rfl (by rw [Tryz.underlying111];rfl) Tryz.underlying115 (wu64 (by omega)))<|zy rfl rfl (.c rfl .n) ce111 (zmb (n0:=(a%b)) (hn0:=by first|rfl|assumption|omega)) (.n) ?_
     rintro ⟨p214,c215⟩ -
     dsimp only [List.append_eq,List.nil_append,List.cons_append]
     refine r_pv rfl rfl (zd rfl)<|r_pv rfl rfl (zd rfl)<|zj<|ze<|zI<|zp ?_
     exact zBa Tryz.results112 (p212,c213,p214,c215) trivial (zo rfl) (zo rfl) rfl (ho:=(.n:PickO _ _ _)) ((.of [1,0] rfl):SelR _ _ _)
    ·
     have hln0:=Big.zHe hb0
     refine zB<|ze<|zi<|zc<|r_pv rfl rfl (za rfl)<|r_pv rfl rfl (za rfl)<|zy rfl rfl (.c rfl (.c rfl .n)) ce130 (zqf (a:=a) (b:=b) (p1:=p1) (c1:=c1) (p2:=p2) (c2:=c2) (hb1:=by assumption) (hb2:=by assumption) (hb3:=by first|rfl|assumption|omega) (hab:=by first|rfl|assumption|omega)) (.c (j:=0) rfl (.c (j:=1) rfl .n)) ?_
     rintro ⟨p316,c317,p418,c419⟩ -
     dsimp only [List.append_eq,List.nil_append,List.cons_append]
     refine r_pv rfl rfl (zr rfl rfl)<|r_pv rfl rfl (zr rfl rfl)<|r_pv rfl rfl (zd rfl)<|r_pv rfl rfl (zd rfl)<|zj<|ze<|zI ?_
     exact zBa Tryz.results112 (p316,c317,p418,c419) trivial (zo rfl) (zo rfl) rfl (ho:=(.n:PickO _ _ _)) ((.of [0,1] rfl):SelR _ _ _)
theorem zRe {s:Bool} {p1:Option Addr} {n1:Nat} {c1:Nat} {l1:List Int} {t:Bool} {p2:Option Addr} {n2:Nat} {c2:Nat} {l2:List Int} (hn1:l1.length=n1) (hn2:l2.length=n2) (hb1:Big.ln (Big.raw s l1)≤1099511627776) (hb2:Big.ln (Big.raw t l2)≤1099511627776):Con Tryz.prog 83 [.agg #[.bool s,.slice p1 n1 c1],.agg #[.bool t,.slice p2 n2 c2]] [] [slF (rI .u32) p1 c1 l1,slF (rI .u32) p2 c2 l2] (Y:=(Option Addr)×Nat) (fun y=>True) (fun y=> .agg #[.bool (decide (((Nat.gcd (Big.raw s l1).natAbs (Big.raw t l2).natAbs:Nat):Int)<0)),.slice (y.1) ((Big.digs (((Nat.gcd (Big.raw s l1).natAbs (Big.raw t l2).natAbs:Nat):Int).natAbs)).length) (y.2)]) (fun y=>[]) (fun y=>[slF (rI .u32) (y.1) (y.2) (Big.digs (((Nat.gcd (Big.raw s l1).natAbs (Big.raw t l2).natAbs:Nat):Int).natAbs))]):=by
 refine zq Tryz.func83 rfl rfl rfl (fun c=> ?_)
 show RunC _ _ _ _ _ [(0,.agg #[.bool s,.slice p1 n1 c1]),(1,.agg #[.bool t,.slice p2 n2 c2])] [] [slF (rI .u32) p1 c1 l1,slF (rI .u32) p2 c2 l2]
 refine zY 0 rfl (fun hL0=> ?_)
 refine zNa 0 rfl (fun hE0=> ?_)
 refine zY 1 rfl (fun hL1=> ?_)
 refine zNa 1 rfl (fun hE1=> ?_)
 have hnn1:Big.nn l1:=fun g hg=>(zv.1 (hE0 g hg)).1
 have hnn2:Big.nn l2:=fun g hg=>(zv.1 (hE1 g hg)).1
 obtain ⟨x1,hx1⟩:∃z,z=Big.raw s l1:=⟨_,rfl⟩
 obtain ⟨x2,hx2⟩:∃z,z=Big.raw t l2:=⟨_,rfl⟩
 unfold Big.ln at hb1 hb2
 refine zi<|zc<|zJ rfl rfl (zQ rfl rfl) (fun b1=> ?_)
 refine zJ rfl rfl (zQ rfl rfl) (fun b2=> ?_)
 refine zJ rfl rfl (zw zr30 rfl) (fun b3=> ?_)
 refine zj<|ze<|zi<|zea (OW:=[]) (O:=[boxA b3 30 [.bool false,.slice none 0 0],boxA b2 30 [.bool t,.slice p2 n2 c2],boxA b1 30 [.bool s,.slice p1 n1 c1]]) 100000 mixed (.then .ret) (by kernel_rfl)<|d_u 0 rfl rfl (by kernel_rfl) (by kernel_rfl) rfl rfl (zf 2 ty30 rfl rfl (.take (.take .nil)))<|d_u 2 rfl rfl (by kernel_rfl) (by kernel_rfl) rfl rfl (zf 1 ty30 rfl rfl (.take (.take .nil)))<|zL 1 (by kernel_rfl) (zH rfl rfl rfl rfl (.c rfl .n) ce103 (zRa (s:=s) (p:=p1) (n:=n1) (cap:=c1) (l:=l1) (hn:=by assumption)) (.c (j:=0) rfl .n) ?_)
 rintro ⟨p24,c25⟩ -
 dsimp only [List.append_eq,List.nil_append,List.cons_append]
 refine zL 3 (by kernel_rfl) (zH rfl rfl rfl rfl (.c rfl .n) ce103 (zRa (s:=t) (p:=p2) (n:=n2) (cap:=c2) (l:=l2) (hn:=by assumption)) (.c (j:=2) rfl .n) ?_)
 rintro ⟨p26,c27⟩ -
 dsimp only [List.append_eq,List.nil_append,List.cons_append]
 refine d_pv 4 rfl rfl (by kernel_rfl) (by kernel_rfl) rfl rfl (zd rfl)<|d_pv 5 rfl rfl (by kernel_rfl) (by kernel_rfl) rfl rfl (zd rfl)<|zba (by kernel_rfl)<|ze<|zi<|zA<|zka (X:=Nat×Nat×(Option Addr)×Nat×(Option Addr)×Nat) (fun x:Nat×Nat×(Option Addr)×Nat×(Option Addr)×Nat=>Nat.gcd x.1 x.2.1=Nat.gcd (Big.raw s l1).natAbs (Big.raw t l2).natAbs∧(Big.digs x.1).length≤1099511627776∧(Big.digs x.2.1).length≤1099511627776) (fun x=>[(6,.slice (x.2.2.2.2.1) ((Big.digs (x.2.1)).length) (x.2.2.2.2.2)),(5,.slice (x.2.2.1) ((Big.digs (x.1)).length) (x.2.2.2.1)),(4,.pointer (some ⟨b3,0,none⟩))]) (fun x=>[boxA b3 30 [.bool false,.slice none 0 0],boxA b2 30 [.bool t,.slice p2 n2 c2],boxA b1 30 [.bool s,.slice p1 n1 c1]]) (fun x=>[slF (rI .u32) (x.2.2.1) (x.2.2.2.1) (Big.digs (x.1)),slF (rI .u32) (x.2.2.2.2.1) (x.2.2.2.2.2) (Big.digs (x.2.1)),slF (rI .u32) p26 c27 (Big.digs ((Big.raw t l2).natAbs)),slF (rI .u32) p24 c25 (Big.digs ((Big.raw s l1).natAbs)),slF (rI .u32) p1 c1 l1,slF (rI .u32) p2 c2 l2]) (fun x:Nat×Nat×(Option Addr)×Nat×(Option Addr)×Nat=>x.2.1) ((Big.raw s l1).natAbs,(Big.raw t l2).natAbs,p24,c25,p26,c27) (show Nat.gcd ((Big.raw s l1).natAbs) ((Big.raw t l2).natAbs)=Nat.gcd (Big.raw s l1).natAbs (Big.raw t l2).natAbs∧(Big.digs ((Big.raw s l1).natAbs)).length≤1099511627776∧(Big.digs ((Big.raw t l2).natAbs)).length≤1099511627776 from by exact ⟨rfl,hb1,hb2⟩) ((.of rfl):SubM _ _) (ho:=((.of [0,0,0] rfl):PickO _ _ _)) ((.of [1,0,0,1,2,3] rfl):SelR _ _ _) ?_
 rintro ⟨a,b,pa,ca,pb,cb⟩ hI
 replace hI:Nat.gcd a b=Nat.gcd (Big.raw s l1).natAbs (Big.raw t l2).natAbs∧(Big.digs a).length≤1099511627776∧(Big.digs b).length≤1099511627776:=hI
 try dsimp only
 obtain ⟨hgc,hba,hbb⟩:=hI
 refine zi<|zi<|zc<|r_pv rfl rfl (za rfl)<|r_pv rfl rfl (zM Tryz.underlying28 rfl)<|r_pv rfl rfl (zoa rfl rfl)<|zj<|ze<|zG rfl (fun hne=> ?_) (fun hne=> ?_)
 ·
  have hb0:0<b:=Nat.pos_of_ne_zero (fun e=>by rw [e] at hne;simp [Big.digs_zero] at hne)
  refine zB<|ze<|zA<|zi<|zc<|r_pv rfl rfl (za rfl)<|zN rfl rfl (.c rfl .n) ce110 (zhc (a:=a) (p:=pa) (cap:=ca)) (.c (j:=0) rfl .n)<|r_pv rfl rfl (za rfl)<|r_pv rfl rfl (zr rfl rfl)<|r_pv rfl rfl (zr rfl rfl)<|r_pv rfl rfl (zd rfl)<|r_pv rfl rfl (zd rfl)<|zj<|ze<|zi<|zc<|r_pv rfl rfl (za rfl)<|zN rfl rfl (.c rfl .n) ce110 (zhc (a:=b) (p:=pb) (cap:=cb)) (.c (j:=1) rfl .n)<|r_pv rfl rfl (za rfl)<|r_pv rfl rfl (zr rfl rfl)<|r_pv rfl rfl (zr rfl rfl)<|r_pv rfl rfl (zd rfl)<|r_pv rfl rfl (zd rfl)<|zj<|ze<|zi<|zGa (X:=Unit) (fun x=>True) (fun x=>[(33,.bool (decide (((Big.digs a).length≤2)∧((Big.digs b).length≤2)))),(9,.int .u64 (((if (Big.digs b).length≤2 then b else 0):Nat):Int)),(7,.int .u64 (((if (Big.digs a).length≤2 then a else 0):Nat):Int)),(6,.slice pb ((Big.digs b).length) cb),(5,.slice pa ((Big.digs a).length) ca),(4,.pointer (some ⟨b3,0,none⟩))]) (fun x=>[boxA b3 30 [.bool false,.slice none 0 0],boxA b2 30 [.bool t,.slice p2 n2 c2],boxA b1 30 [.bool s,.slice p1 n1 c1]]) (fun x=>[slF (rI .u32) pa ca (Big.digs a),slF (rI .u32) pb cb (Big.digs b),slF (rI .u32) p26 c27 (Big.digs ((Big.raw t l2).natAbs)),slF (rI .u32) p24 c25 (Big.digs ((Big.raw s l1).natAbs)),slF (rI .u32) p1 c1 l1,slF (rI .u32) p2 c2 l2]) ?_ ?_
  ·
   refine zc<|r_pv rfl rfl (za rfl)<|zP rfl rfl (za rfl) (fun hw1=> ?_) (fun hw1=> ?_)
   ·
    refine r_pv rfl rfl (za rfl)<|r_pv rfl rfl (zm rfl rfl)<|zj ?_
    exact zca () (show True from by first|trivial|omega|simp_all) ((.e rfl (congrArg Value.bool (by first|(simp_all;done)|(simp_all;omega)|(simp;omega)|omega)) (.of rfl)):SubM _ _) (ho:=((.of [0,0,0] rfl):PickO _ _ _)) ((.of [0,1,2,3,4,5] rfl):SelR _ _ _)
   ·
    refine zb rfl rfl<|r_pv rfl rfl (zm rfl rfl)<|zj ?_
    exact zca () (show True from by first|trivial|omega|simp_all) ((.e rfl (congrArg Value.bool (by first|(simp_all;done)|(simp_all;omega)|(simp;omega)|omega)) (.of rfl)):SubM _ _) (ho:=((.of [0,0,0] rfl):PickO _ _ _)) ((.of [0,1,2,3,4,5] rfl):SelR _ _ _)
  ·
   rintro ⟨⟩ -
   try dsimp only
   refine zG rfl (fun hw=> ?_) (fun hw=> ?_)
   ·
    have ha18:=Big.two_lt hw.1
    have hb18:=Big.two_lt hw.2
    have e8:(if (Big.digs a).length≤2 then a else 0)=a:=by rw [if_pos hw.1]
    rw [e8]
    have e9:(if (Big.digs b).length≤2 then b else 0)=b:=by rw [if_pos hw.2]
    rw [e9]
    refine zi<|zA<|zka (X:=Nat×Nat) (fun x:Nat×Nat=>Nat.gcd x.1 x.2=Nat.gcd a b∧x.1<1000000000000000000∧x.2<1000000000000000000) (fun x=>[(9,.int .u64 ((x.2:Nat):Int)),(7,.int .u64 ((x.1:Nat):Int)),(6,.slice pb ((Big.digs b).length) cb),(5,.slice pa ((Big.digs a).length) ca),(4,.pointer (some ⟨b3,0,none⟩))]) (fun x=>[boxA b3 30 [.bool false,.slice none 0 0],boxA b2 30 [.bool t,.slice p2 n2 c2],boxA b1 30 [.bool s,.slice p1 n1 c1]]) (fun x=>[slF (rI .u32) pa ca (Big.digs a),slF (rI .u32) pb cb (Big.digs b),slF (rI .u32) p26 c27 (Big.digs ((Big.raw t l2).natAbs)),slF (rI .u32) p24 c25 (Big.digs ((Big.raw s l1).natAbs)),slF (rI .u32) p1 c1 l1,slF (rI .u32) p2 c2 l2]) (fun x:Nat×Nat=>x.2) (a,b) (show Nat.gcd a b=Nat.gcd a b∧a<1000000000000000000∧b<1000000000000000000 from by exact ⟨rfl,ha18,hb18⟩) ((.of rfl):SubM _ _) (ho:=((.of [0,0,0] rfl):PickO _ _ _)) ((.of [0,1,2,3,4,5] rfl):SelR _ _ _) ?_
    rintro ⟨q,r⟩ hJ
    replace hJ:Nat.gcd q r=Nat.gcd a b∧q<1000000000000000000∧r<1000000000000000000:=hJ
    try dsimp only
    obtain ⟨hgq,hq18,hr18⟩:=hJ
    have hmr:=Nat.mod_le q r
    refine zi<|zi<|zc<|r_pv rfl rfl (za rfl)<|r_pv rfl rfl (zoa rfl rfl)<|zj<|ze<|zG rfl (fun hy=> ?_) (fun hy=> ?_)
    ·
     refine zB<|ze<|zA<|zea (OW:=[]) (O:=[boxA b3 30 [.bool false,.slice none 0 0],boxA b2 30 [.bool t,.slice p2 n2 c2],boxA b1 30 [.bool s,.slice p1 n1 c1]]) 100000 mixed (.block (.then (.block (.then (.then (.block (.then (.block (.then .ret))))))))) (by kernel_rfl)<|d_pv 0 rfl rfl (by kernel_rfl) (by kernel_rfl) rfl rfl (za rfl)<|d_pv 1 rfl rfl (by kernel_rfl) (by kernel_rfl) rfl rfl (za rfl)<|d_pv 2 rfl rfl (by kernel_rfl) (by kernel_rfl) rfl rfl (za rfl)<|d_pv 3 rfl rfl (by kernel_rfl) (by kernel_rfl) rfl rfl (zWa (z:=(((q%r):Nat):Int)) rfl rfl (by omega) (remN (by omega) (by omega)))<|d_pv 4 rfl rfl (by kernel_rfl) (by kernel_rfl) rfl rfl (zd rfl)<|d_pv 5 rfl rfl (by kernel_rfl) (by kernel_rfl) rfl rfl (zd rfl)<|zba (by kernel_rfl)<|zT<|zha (r,(q%r)) (show Nat.gcd r (q%r)=Nat.gcd a b∧r<1000000000000000000∧(q%r)<1000000000000000000 from by exact ⟨by rw [Big.gcd_rest,hgq],hr18,by omega⟩) (by exact Nat.mod_lt q (by omega)) ((.of rfl):SubM _ _) (ho:=((.of [0,0,0] rfl):PickO _ _ _)) ((.of [0,1,2,3,4,5] rfl):SelR _ _ _)
    ·
     have hrz:r=0:=by omega
     have hfin:q=Nat.gcd (Big.raw s l1).natAbs (Big.raw t l2).natAbs:=by rw [← hgc,←hgq,hrz,Nat.gcd_zero_right]
     refine zja<|zl<|zl<|zu<|ze<|zi<|zc<|r_pv rfl rfl (za rfl)<|zy rfl rfl (.c rfl .n) ce111 (zmb (n0:=q) (hn0:=by first|rfl|assumption|omega)) (.n) ?_
     rintro ⟨p210,c211⟩ -
     dsimp only [List.append_eq,List.nil_append,List.cons_append]
     refine zy rfl rfl (.c rfl (.c rfl .n)) ce104 (zAa (s:=false) (a:=q) (p:=p210) (cap:=c211)) (.c (j:=0) rfl .n) ?_
     rintro ⟨p212,c213⟩ -
     dsimp only [List.append_eq,List.nil_append,List.cons_append]
     refine zn 0 rfl rfl rfl rfl rfl sz30 rfl (.take (.take .nil)) .z<|zj<|ze<|zI<|zp<|zZ<|zp<|zZ<|zp ?_
     exact zE Tryz.results83 (p212,c213) trivial (zt 0 ty30 rfl rfl (.take (.take .nil))) (by rw [← hfin];rfl) (ho:=(.n:PickO _ _ _)) ((.e (j:=0) rfl (by rw [← hfin];rfl) .n):SelR _ _ _)
   ·
    refine zB<|ze<|zi<|zc<|r_pv rfl rfl (za rfl)<|r_pv rfl rfl (za rfl)<|zy rfl rfl (.c rfl (.c rfl .n)) ce112 (zee (a:=a) (b:=b) (p1:=pa) (c1:=ca) (p2:=pb) (c2:=cb) (hb1:=by first|rfl|assumption|omega) (hb2:=by first|rfl|assumption|omega) (hb0:=by first|rfl|assumption|omega)) (.c (j:=0) rfl (.c (j:=1) rfl .n)) ?_
    rintro ⟨p314,c315,p416,c417⟩ -
    dsimp only [List.append_eq,List.nil_append,List.cons_append]
    refine r_pv rfl rfl (za rfl)<|r_pv rfl rfl (zr rfl rfl)<|r_pv rfl rfl (zr rfl rfl)<|r_pv rfl rfl (zd rfl)<|r_pv rfl rfl (zd rfl)<|zj<|ze<|zc<|r_pv rfl rfl (za rfl)<|r_pv rfl rfl (za rfl)<|r_pv rfl rfl (zd rfl)<|r_pv rfl rfl (zd rfl)<|zj<|zT<|zha (b,(a%b),pb,cb,p416,c417) (show Nat.gcd b (a%b)=Nat.gcd (Big.raw s l1).natAbs (Big.raw t l2).natAbs∧(Big.digs b).length≤1099511627776∧(Big.digs (a%b)).length≤1099511627776 from by exact ⟨by rw [Big.gcd_rest,hgc],hbb,Nat.le_trans (Big.ln_mono' (Nat.le_of_lt (Nat.mod_lt a hb0))) hbb⟩) (by exact Nat.mod_lt a hb0) ((.e rfl (by first|rfl|(congr 1;omega)|simp_all) (.c rfl (.c rfl .n))):SubM _ _) (ho:=((.of [0,0,0] rfl):PickO _ _ _)) ((.c (j:=3) rfl (.e (j:=1) rfl (by first|rfl|simp_all) (.of [4,5,6,7] rfl))):SelR _ _ _)
 ·
  have hbz:b=0:=Big.len_digs_nil.1 (by omega)
  have hfin:a=Nat.gcd (Big.raw s l1).natAbs (Big.raw t l2).natAbs:=by rw [← hgc,hbz,Nat.gcd_zero_right]
  refine zja<|zl<|zl<|zu<|ze<|zi<|zc<|r_pv rfl rfl (za rfl)<|zy rfl rfl (.c rfl .n) ce113 (zgc (a:=a) (p:=pa) (cap:=ca) (hb:=by first|rfl|assumption|omega)) (.c (j:=0) rfl .n) ?_
  rintro ⟨p218,c219⟩ -
  dsimp only [List.append_eq,List.nil_append,List.cons_append]
  refine zy rfl rfl (.c rfl (.c rfl .n)) ce104 (zAa (s:=false) (a:=a) (p:=p218) (cap:=c219)) (.c (j:=0) rfl .n) ?_
  rintro ⟨p220,c221⟩ -
  dsimp only [List.append_eq,List.nil_append,List.cons_append]
  refine zn 0 rfl rfl rfl rfl rfl sz30 rfl (.take (.take .nil)) .z<|zj<|ze<|zI ?_
  exact zE Tryz.results83 (p220,c221) trivial (zt 0 ty30 rfl rfl (.take (.take .nil))) (by rw [← hfin];rfl) (ho:=(.n:PickO _ _ _)) ((.e (j:=0) rfl (by rw [← hfin];rfl) .n):SelR _ _ _)
theorem zrf {x1:Int} {x2:Int} {p1:Option Addr} {c1:Nat} {p2:Option Addr} {c2:Nat} (hb1:Big.ln x1≤1099511627776) (hb2:Big.ln x2≤1099511627776):Con Tryz.prog 83 [.agg #[.bool (decide ((x1)<0)),.slice (p1) ((Big.digs ((x1).natAbs)).length) (c1)],.agg #[.bool (decide ((x2)<0)),.slice (p2) ((Big.digs ((x2).natAbs)).length) (c2)]] [] [slF (rI .u32) (p1) (c1) (Big.digs ((x1).natAbs)),slF (rI .u32) (p2) (c2) (Big.digs ((x2).natAbs))] (Y:=(Option Addr)×(Nat)) (fun y=>True) (fun y=> .agg #[.bool (decide ((((Nat.gcd x1.natAbs x2.natAbs:Nat):Int))<0)),.slice (y.1) ((Big.digs ((((Nat.gcd x1.natAbs x2.natAbs:Nat):Int)).natAbs)).length) (y.2)]) (fun y=>[]) (fun y=>[slF (rI .u32) (y.1) (y.2) (Big.digs ((((Nat.gcd x1.natAbs x2.natAbs:Nat):Int)).natAbs))]):=by
  have h:= @zRe (decide ((x1)<0)) p1 (Big.digs (x1).natAbs).length c1 (Big.digs (x1).natAbs) (decide ((x2)<0)) p2 (Big.digs (x2).natAbs).length c2 (Big.digs (x2).natAbs) rfl rfl (by rw [Big.raw_big];exact hb1) (by rw [Big.raw_big];exact hb2)
  rw [Big.raw_big,Big.raw_big] at h
  exact h
theorem zfe {w1:Wd} {w2:Wd} {x1:Int} {x2:Int} (hb1:Big.ln x1≤1099511627776) (hb2:Big.ln x2≤1099511627776):Con Tryz.prog 83 [.agg #[w1.b,w1.l],.agg #[w2.b,w2.l]] [] [zF w1 (x1),zF w2 (x2)] (Y:=(Wd)) (fun y=>True) (fun y=> .agg #[y.b,y.l]) (fun y=>[]) (fun y=>[zF y (((Nat.gcd x1.natAbs x2.natAbs:Nat):Int))]):=by
  exact zJb (zcc (fun p1 c1 p2 c2=>zrf hb1 hb2))
end Go.Proofs.YtkamccndgblheaaGreat.Sp
namespace Go.Proofs.YtkamccndgblheaaGreat.Sp
open Go
set_option linter.unusedVariables false
set_option maxRecDepth 100000
set_option maxHeartbeats 1000000
theorem zLd {x1:Int} {x2:Int} {p1:Option Addr} {c1:Nat} {p2:Option Addr} {c2:Nat} (hb1:Big.ln x1≤1099511627776) (hb2:Big.ln x2≤1099511627776) (hy:x2≠0):Con Tryz.prog 101 [.agg #[.bool (decide (x1<0)),.slice p1 ((Big.digs ((x1).natAbs)).length) c1],.agg #[.bool (decide (x2<0)),.slice p2 ((Big.digs ((x2).natAbs)).length) c2]] [] [slF (rI .u32) p1 c1 (Big.digs ((x1).natAbs)),slF (rI .u32) p2 c2 (Big.digs ((x2).natAbs))] (Y:=(Option Addr)×Nat×(Option Addr)×Nat) (fun y=>True) (fun y=> .tuple #[.agg #[.bool (decide ((Big.fq x1 x2)<0)),.slice (y.1) ((Big.digs ((Big.fq x1 x2).natAbs)).length) (y.2.1)],.agg #[.bool (decide ((Big.fr x1 x2)<0)),.slice (y.2.2.1) ((Big.digs ((Big.fr x1 x2).natAbs)).length) (y.2.2.2)],.int .i64 0]) (fun y=>[]) (fun y=>[slF (rI .u32) (y.1) (y.2.1) (Big.digs ((Big.fq x1 x2).natAbs)),slF (rI .u32) (y.2.2.1) (y.2.2.2) (Big.digs ((Big.fr x1 x2).natAbs))]):=by
 refine zq Tryz.func101 rfl rfl rfl (fun c=> ?_)
 show RunC _ _ _ _ _ [(0,.agg #[.bool (decide (x1<0)),.slice p1 ((Big.digs ((x1).natAbs)).length) c1]),(1,.agg #[.bool (decide (x2<0)),.slice p2 ((Big.digs ((x2).natAbs)).length) c2])] [] [slF (rI .u32) p1 c1 (Big.digs ((x1).natAbs)),slF (rI .u32) p2 c2 (Big.digs ((x2).natAbs))]
 refine zY 0 rfl (fun hL0=> ?_)
 refine zY 1 rfl (fun hL1=> ?_)
 unfold Big.ln at hb1 hb2
 have hd1:=Nat.div_le_self x1.natAbs x2.natAbs
 have hd2:=Nat.mod_lt x1.natAbs (show 0<x2.natAbs by omega)
 have hl1:=Big.ln_mono' hd1
 have hl2:=Big.ln_mono' (Nat.le_of_lt hd2)
 refine zi<|zc<|zJ rfl rfl (zQ rfl rfl) (fun b1=> ?_)
 refine zJ rfl rfl (zQ rfl rfl) (fun b2=> ?_)
 refine zJ rfl rfl (zw zr30 rfl) (fun b3=> ?_)
 refine zJ rfl rfl (zw zr30 rfl) (fun b4=> ?_)
 refine r_pv rfl rfl (zd rfl)<|zj<|ze<|zi<|zea (OW:=[]) (O:=[boxA b4 30 [.bool false,.slice none 0 0],boxA b3 30 [.bool false,.slice none 0 0],boxA b2 30 [.bool (decide (x2<0)),.slice p2 ((Big.digs ((x2).natAbs)).length) c2],boxA b1 30 [.bool (decide (x1<0)),.slice p1 ((Big.digs ((x1).natAbs)).length) c1]]) 100000 mixed (.then .ret) (by kernel_rfl)<|d_u 0 rfl rfl (by kernel_rfl) (by kernel_rfl) rfl rfl (zf 3 ty30 rfl rfl (.take (.take .nil)))<|d_u 2 rfl rfl (by kernel_rfl) (by kernel_rfl) rfl rfl (zf 2 ty30 rfl rfl (.take (.take .nil)))<|zL 1 (by kernel_rfl) (zH rfl rfl rfl rfl (.c rfl .n) ce103 (zsb (z:=x1) (p:=p1) (cap:=c1)) (.c (j:=0) rfl .n) ?_)
 rintro ⟨p25,c26⟩ -
 dsimp only [List.append_eq,List.nil_append,List.cons_append]
 refine zL 3 (by kernel_rfl) (zH rfl rfl rfl rfl (.c rfl .n) ce103 (zsb (z:=x2) (p:=p2) (cap:=c2)) (.c (j:=2) rfl .n) ?_)
 rintro ⟨p27,c28⟩ -
 dsimp only [List.append_eq,List.nil_append,List.cons_append]
 refine d_pv 4 rfl rfl (by kernel_rfl) (by kernel_rfl) rfl rfl (zd rfl)<|d_pv 5 rfl rfl (by kernel_rfl) (by kernel_rfl) rfl rfl (zd rfl)<|zba (by kernel_rfl)<|ze<|zi<|zi<|zc<|r_pv rfl rfl (za rfl)<|r_pv rfl rfl (zM Tryz.underlying28 rfl)<|r_pv rfl rfl (zva rfl rfl)<|zj<|ze<|zG rfl (fun h9=> ?_) (fun h9=> ?_)
 ·
  exact absurd (Big.len_digs_nil.1 (show (Big.digs x2.natAbs).length=0 by omega)) (by omega)
 ·
  refine zB<|ze<|zi<|zc<|r_pv rfl rfl (za rfl)<|r_pv rfl rfl (za rfl)<|zy rfl rfl (.c rfl (.c rfl .n)) ce112 (zee (a:=(x1).natAbs) (b:=(x2).natAbs) (p1:=p25) (c1:=c26) (p2:=p27) (c2:=c28) (hb1:=by first|rfl|assumption|omega|(decide +kernel)) (hb2:=by first|rfl|assumption|omega|(decide +kernel)) (hb0:=by first|rfl|assumption|omega|(decide +kernel))) (.c (j:=1) rfl (.c (j:=0) rfl .n)) ?_
  rintro ⟨p310,c311,p412,c413⟩ -
  dsimp only [List.append_eq,List.nil_append,List.cons_append]
  refine r_pv rfl rfl (za rfl)<|r_pv rfl rfl (zr rfl rfl)<|r_pv rfl rfl (zr rfl rfl)<|r_pv rfl rfl (zd rfl)<|r_pv rfl rfl (zd rfl)<|zj<|ze<|zi<|zc<|r_pv rfl rfl (za rfl)<|zy rfl rfl (.c rfl .n) ce113 (zgc (a:=((x1).natAbs)%((x2).natAbs)) (p:=p412) (cap:=c413) (hb:=by first|rfl|assumption|omega|(decide +kernel))) (.c (j:=1) rfl .n) ?_
  rintro ⟨p214,c215⟩ -
  dsimp only [List.append_eq,List.nil_append,List.cons_append]
  refine r_pv rfl rfl (zd rfl)<|zj<|ze<|zi<|zi<|zc<|r_pv rfl rfl (za rfl)<|r_pv rfl rfl (zM Tryz.underlying28 rfl)<|r_pv rfl rfl (zoa rfl rfl)<|zP rfl rfl (za rfl) (fun hpos=> ?_) (fun hpos=> ?_)
  ·
   refine r_pv rfl rfl (zg Tryz.underlying30 rfl sz4 rfl rfl)<|r_u rfl rfl (zh 3 ty4 rfl rfl rfl)<|r_pv rfl rfl (zg Tryz.underlying30 rfl sz4 rfl rfl)<|r_u rfl rfl (zh 2 ty4 rfl rfl rfl)<|r_pv rfl rfl (zFa Tryz.underlying4 rfl rfl)<|r_pv rfl rfl (zm rfl rfl)<|zj<|ze<|zG rfl (fun hadj=> ?_) (fun hadj=> ?_)
   ·
    have hsg:(decide (decide (x1<0)≠decide (x2<0)))=true:=decide_eq_true hadj
    have hr0:x1.natAbs%x2.natAbs≠0:=fun e=>by have h9:=hpos;rw [e,Big.digs_zero] at h9;exact absurd h9 (by decide)
    refine zc<|r_pv rfl rfl (za rfl)<|zza rfl rfl (zV (enc:=fun z:Int=>[.int .u32 z]) (ok:=InK .u32) (h1:=fun _=>rfl) (h2:=fun _=>rfl) (k:=1) Tryz.underlying28 inf111 rfl (by decide) (by decide) (by decide) (.c (x:=1) rfl rfl (fun _ _=>by exact zv.2 (by omega)) .n)) (fun b16 _=> ?_)
    refine zna 0 rfl .z ?_
    have e17:[1]=Big.digs 1:=by exact (Big.digs_one (s:=1) (by decide) (by decide)).symm
    rw [e17]
    have e18:(.slice (some ⟨b16,0,none⟩) 1 1:Value)= .slice (some ⟨b16,0,none⟩) ((Big.digs 1).length) 1:=by rfl
    rw [e18]
    refine zy rfl rfl (.c rfl (.c rfl .n)) ce122 (zNe (a:=((x1).natAbs) / ((x2).natAbs)) (b:=1) (p1:=p310) (c1:=c311) (p2:=some ⟨b16,0,none⟩) (c2:=1) (hb1:=by first|rfl|assumption|omega|(decide +kernel)) (hb2:=by first|rfl|assumption|omega|(decide +kernel))) (.c (j:=2) rfl (.c (j:=0) rfl .n)) ?_
    rintro ⟨p319,c320⟩ -
    dsimp only [List.append_eq,List.nil_append,List.cons_append]
    refine r_pv rfl rfl (za rfl)<|r_pv rfl rfl (za rfl)<|zy rfl rfl (.c rfl (.c rfl .n)) ce123 (zPe (a:=(x2).natAbs) (b:=(((x1).natAbs)%((x2).natAbs))) (p1:=p27) (c1:=c28) (p2:=p214) (c2:=c215) (hb1:=by first|rfl|assumption|omega|(decide +kernel)) (hb2:=by first|rfl|assumption|omega|(decide +kernel)) (hab:=by first|rfl|assumption|omega|(decide +kernel))) (.c (j:=5) rfl (.c (j:=2) rfl .n)) ?_
    rintro ⟨p321,c322⟩ -
    dsimp only [List.append_eq,List.nil_append,List.cons_append]
    refine r_pv rfl rfl (zd rfl)<|r_pv rfl rfl (zd rfl)<|zj<|ze<|zi<|zsa (.c (i:=2) rfl (.c (i:=1) rfl (.c (i:=0) rfl (.c (i:=0) rfl (.c (i:=0) rfl .n)))))<|zea (OW:=[boxA b3 30 [.bool false,.slice none 0 0],boxA b4 30 [.bool false,.slice none 0 0]]) (O:=[emA,boxA b2 30 [.bool (decide (x2<0)),.slice p2 ((Big.digs ((x2).natAbs)).length) c2],boxA b1 30 [.bool (decide (x1<0)),.slice p1 ((Big.digs ((x1).natAbs)).length) c1]]) 11 mixed (.then .ret) (by kernel_rfl)<|d_pv 0 rfl rfl (by kernel_rfl) (by kernel_rfl) rfl rfl (zg Tryz.underlying30 rfl sz4 rfl rfl)<|d_uw 1 rfl rfl (by kernel_rfl) (by kernel_rfl) (by kernel_rfl) rfl rfl (zh 4 ty4 rfl rfl rfl)<|d_pv 2 rfl rfl (by kernel_rfl) (by kernel_rfl) rfl rfl (zg Tryz.underlying30 rfl sz4 rfl rfl)<|d_uw 3 rfl rfl (by kernel_rfl) (by kernel_rfl) (by kernel_rfl) rfl rfl (zh 3 ty4 rfl rfl rfl)<|d_pv 4 rfl rfl (by kernel_rfl) (by kernel_rfl) rfl rfl (zFa Tryz.underlying4 rfl rfl)<|d_pv 5 rfl rfl (by kernel_rfl) (by kernel_rfl) rfl rfl (za rfl)<|d_pv 7 rfl rfl (by kernel_rfl) (by kernel_rfl) rfl rfl (zg Tryz.underlying30 rfl sz4 rfl rfl)<|d_uw 8 rfl rfl (by kernel_rfl) (by kernel_rfl) (by kernel_rfl) rfl rfl (zh 3 ty4 rfl rfl rfl)<|d_pv 9 rfl rfl (by kernel_rfl) (by kernel_rfl) rfl rfl (za rfl)<|zL 6 (by kernel_rfl) (zH rfl rfl rfl rfl (.c rfl (.c rfl .n)) ce104 (zAa (s:=decide (decide (x1<0)≠decide (x2<0))) (a:=(((x1).natAbs) / ((x2).natAbs))+1) (p:=p319) (cap:=c320)) (.c (j:=1) rfl .n) ?_)
    rintro ⟨p223,c224⟩ -
    dsimp only [List.append_eq,List.nil_append,List.cons_append]
    refine zL 10 (by kernel_rfl) (zH rfl rfl rfl rfl (.c rfl (.c rfl .n)) ce104 (zAa (s:=decide (x2<0)) (a:=((x2).natAbs) - (((x1).natAbs)%((x2).natAbs))) (p:=p321) (cap:=c322)) (.c (j:=1) rfl .n) ?_)
    rintro ⟨p225,c226⟩ -
    dsimp only [List.append_eq,List.nil_append,List.cons_append]
    refine zL 11 (by kernel_rfl) (zD (by kernel_rfl) rfl rfl rfl rfl rfl sz30 rfl (.take (.take .nil)) ?_)
    refine zJa (zma (i:=1) rfl)<|zL 12 (by kernel_rfl) (zD (by kernel_rfl) rfl rfl rfl rfl rfl sz30 rfl (.take (.take .nil)) ?_)
    refine d_pv 13 rfl rfl (by kernel_rfl) (by kernel_rfl) rfl rfl (zd rfl)<|zba (by kernel_rfl)<|ze<|zI ?_
    have hz1:Big.sg (decide (decide (x1<0)≠decide (x2<0))) ((x1.natAbs / x2.natAbs+1:Nat):Int)=Big.fq x1 x2:=by rw [hsg];exact (Big.fq_odd hy hadj hr0).1
    have hz2:Big.sg (decide (x2<0)) ((x2.natAbs - x1.natAbs%x2.natAbs:Nat):Int)=Big.fr x1 x2:=(Big.fq_odd hy hadj hr0).2
    exact zzb Tryz.results101 (p223,c224,p225,c226) trivial (zt 1 ty30 rfl rfl (.take (.take .nil))) (zt 0 ty30 rfl rfl (.take (.take .nil))) (zo rfl) (by rw [hz1,hz2]) (ho:=(.n:PickO _ _ _)) ((.e (j:=1) rfl (by rw [hz1]) (.e (j:=0) rfl (by rw [hz2]) .n)):SelR _ _ _)
   ·
    refine zB<|ze<|zi<|zsa (.c (i:=1) rfl (.c (i:=0) rfl (.c (i:=0) rfl (.c (i:=0) rfl .n))))<|zea (OW:=[boxA b3 30 [.bool false,.slice none 0 0],boxA b4 30 [.bool false,.slice none 0 0]]) (O:=[boxA b2 30 [.bool (decide (x2<0)),.slice p2 ((Big.digs ((x2).natAbs)).length) c2],boxA b1 30 [.bool (decide (x1<0)),.slice p1 ((Big.digs ((x1).natAbs)).length) c1]]) 11 mixed (.then .ret) (by kernel_rfl)<|d_pv 0 rfl rfl (by kernel_rfl) (by kernel_rfl) rfl rfl (zg Tryz.underlying30 rfl sz4 rfl rfl)<|d_uw 1 rfl rfl (by kernel_rfl) (by kernel_rfl) (by kernel_rfl) rfl rfl (zh 3 ty4 rfl rfl rfl)<|d_pv 2 rfl rfl (by kernel_rfl) (by kernel_rfl) rfl rfl (zg Tryz.underlying30 rfl sz4 rfl rfl)<|d_uw 3 rfl rfl (by kernel_rfl) (by kernel_rfl) (by kernel_rfl) rfl rfl (zh 2 ty4 rfl rfl rfl)<|d_pv 4 rfl rfl (by kernel_rfl) (by kernel_rfl) rfl rfl (zFa Tryz.underlying4 rfl rfl)<|d_pv 5 rfl rfl (by kernel_rfl) (by kernel_rfl) rfl rfl (za rfl)<|d_pv 7 rfl rfl (by kernel_rfl) (by kernel_rfl) rfl rfl (zg Tryz.underlying30 rfl sz4 rfl rfl)<|d_uw 8 rfl rfl (by kernel_rfl) (by kernel_rfl) (by kernel_rfl) rfl rfl (zh 2 ty4 rfl rfl rfl)<|d_pv 9 rfl rfl (by kernel_rfl) (by kernel_rfl) rfl rfl (za rfl)<|zL 6 (by kernel_rfl) (zH rfl rfl rfl rfl (.c rfl (.c rfl .n)) ce104 (zAa (s:=decide (decide (x1<0)≠decide (x2<0))) (a:=((x1).natAbs) / ((x2).natAbs)) (p:=p310) (cap:=c311)) (.c (j:=1) rfl .n) ?_)
    rintro ⟨p227,c228⟩ -
    dsimp only [List.append_eq,List.nil_append,List.cons_append]
    refine zL 10 (by kernel_rfl) (zH rfl rfl rfl rfl (.c rfl (.c rfl .n)) ce104 (zAa (s:=decide (x2<0)) (a:=(((x1).natAbs)%((x2).natAbs))) (p:=p214) (cap:=c215)) (.c (j:=1) rfl .n) ?_)
    rintro ⟨p229,c230⟩ -
    dsimp only [List.append_eq,List.nil_append,List.cons_append]
    refine zL 11 (by kernel_rfl) (zD (by kernel_rfl) rfl rfl rfl rfl rfl sz30 rfl (.take (.take .nil)) ?_)
    refine zJa (zma (i:=1) rfl)<|zL 12 (by kernel_rfl) (zD (by kernel_rfl) rfl rfl rfl rfl rfl sz30 rfl (.take (.take .nil)) ?_)
    refine d_pv 13 rfl rfl (by kernel_rfl) (by kernel_rfl) rfl rfl (zd rfl)<|zba (by kernel_rfl)<|ze<|zI ?_
    have hsg:(decide (decide (x1<0)≠decide (x2<0)))=false:=decide_eq_false hadj
    have hz1:Big.sg (decide (decide (x1<0)≠decide (x2<0))) ((x1.natAbs / x2.natAbs:Nat):Int)=Big.fq x1 x2:=by rw [hsg];exact (Big.fq_same hy (Decidable.not_not.1 hadj)).1
    have hz2:Big.sg (decide (x2<0)) ((x1.natAbs%x2.natAbs:Nat):Int)=Big.fr x1 x2:=(Big.fq_same hy (Decidable.not_not.1 hadj)).2
    exact zzb Tryz.results101 (p227,c228,p229,c230) trivial (zt 1 ty30 rfl rfl (.take (.take .nil))) (zt 0 ty30 rfl rfl (.take (.take .nil))) (zo rfl) (by rw [hz1,hz2]) (ho:=(.n:PickO _ _ _)) ((.e (j:=1) rfl (by rw [hz1]) (.e (j:=0) rfl (by rw [hz2]) .n)):SelR _ _ _)
  ·
   refine zb rfl rfl<|zb rfl rfl<|zb rfl rfl<|zb rfl rfl<|zb rfl rfl<|r_pv rfl rfl (zm rfl rfl)<|zj<|ze<|zZa rfl rfl<|zB<|ze<|zi<|zsa (.c (i:=1) rfl (.c (i:=0) rfl (.c (i:=0) rfl (.c (i:=0) rfl .n))))<|zea (OW:=[boxA b3 30 [.bool false,.slice none 0 0],boxA b4 30 [.bool false,.slice none 0 0]]) (O:=[boxA b2 30 [.bool (decide (x2<0)),.slice p2 ((Big.digs ((x2).natAbs)).length) c2],boxA b1 30 [.bool (decide (x1<0)),.slice p1 ((Big.digs ((x1).natAbs)).length) c1]]) 11 mixed (.then .ret) (by kernel_rfl)<|d_pv 0 rfl rfl (by kernel_rfl) (by kernel_rfl) rfl rfl (zg Tryz.underlying30 rfl sz4 rfl rfl)<|d_uw 1 rfl rfl (by kernel_rfl) (by kernel_rfl) (by kernel_rfl) rfl rfl (zh 3 ty4 rfl rfl rfl)<|d_pv 2 rfl rfl (by kernel_rfl) (by kernel_rfl) rfl rfl (zg Tryz.underlying30 rfl sz4 rfl rfl)<|d_uw 3 rfl rfl (by kernel_rfl) (by kernel_rfl) (by kernel_rfl) rfl rfl (zh 2 ty4 rfl rfl rfl)<|d_pv 4 rfl rfl (by kernel_rfl) (by kernel_rfl) rfl rfl (zFa Tryz.underlying4 rfl rfl)<|d_pv 5 rfl rfl (by kernel_rfl) (by kernel_rfl) rfl rfl (za rfl)<|d_pv 7 rfl rfl (by kernel_rfl) (by kernel_rfl) rfl rfl (zg Tryz.underlying30 rfl sz4 rfl rfl)<|d_uw 8 rfl rfl (by kernel_rfl) (by kernel_rfl) (by kernel_rfl) rfl rfl (zh 2 ty4 rfl rfl rfl)<|d_pv 9 rfl rfl (by kernel_rfl) (by kernel_rfl) rfl rfl (za rfl)<|zL 6 (by kernel_rfl) (zH rfl rfl rfl rfl (.c rfl (.c rfl .n)) ce104 (zAa (s:=decide (decide (x1<0)≠decide (x2<0))) (a:=((x1).natAbs) / ((x2).natAbs)) (p:=p310) (cap:=c311)) (.c (j:=1) rfl .n) ?_)
   rintro ⟨p231,c232⟩ -
   dsimp only [List.append_eq,List.nil_append,List.cons_append]
   refine zL 10 (by kernel_rfl) (zH rfl rfl rfl rfl (.c rfl (.c rfl .n)) ce104 (zAa (s:=decide (x2<0)) (a:=(((x1).natAbs)%((x2).natAbs))) (p:=p214) (cap:=c215)) (.c (j:=1) rfl .n) ?_)
   rintro ⟨p233,c234⟩ -
   dsimp only [List.append_eq,List.nil_append,List.cons_append]
   refine zL 11 (by kernel_rfl) (zD (by kernel_rfl) rfl rfl rfl rfl rfl sz30 rfl (.take (.take .nil)) ?_)
   refine zJa (zma (i:=1) rfl)<|zL 12 (by kernel_rfl) (zD (by kernel_rfl) rfl rfl rfl rfl rfl sz30 rfl (.take (.take .nil)) ?_)
   refine d_pv 13 rfl rfl (by kernel_rfl) (by kernel_rfl) rfl rfl (zd rfl)<|zba (by kernel_rfl)<|ze<|zI ?_
   have hr0:x1.natAbs%x2.natAbs=0:=Big.len_digs_nil.1 (by omega)
   have hz:Big.sg (decide (decide (x1<0)≠decide (x2<0))) ((x1.natAbs / x2.natAbs:Nat):Int)=Big.fq x1 x2∧Big.sg (decide (x2<0)) ((x1.natAbs%x2.natAbs:Nat):Int)=Big.fr x1 x2:=by by_cases h:decide (x1<0)=decide (x2<0);rw [decide_eq_false (not_not_intro h)];exact Big.fq_same hy h;rw [decide_eq_true h];exact Big.fq_even hy h hr0
   exact zzb Tryz.results101 (p231,c232,p233,c234) trivial (zt 1 ty30 rfl rfl (.take (.take .nil))) (zt 0 ty30 rfl rfl (.take (.take .nil))) (zo rfl) (by rw [hz.1,hz.2]) (ho:=(.n:PickO _ _ _)) ((.e (j:=1) rfl (by rw [hz.1]) (.e (j:=0) rfl (by rw [hz.2]) .n)):SelR _ _ _)
theorem ztb {w1:Wd} {w2:Wd} {x1:Int} {x2:Int} (hb1:Big.ln x1≤1099511627776) (hb2:Big.ln x2≤1099511627776) (hy:x2≠0):Con Tryz.prog 101 [.agg #[w1.b,w1.l],.agg #[w2.b,w2.l]] [] [zF w1 (x1),zF w2 (x2)] (Y:=(Wd)×(Wd)) (fun y=>True) (fun y=> .tuple #[.agg #[y.1.b,y.1.l],.agg #[y.2.b,y.2.l],.int .i64 (0)]) (fun y=>[]) (fun y=>[zF y.1 (Big.fq x1 x2),zF y.2 (Big.fr x1 x2)]):=by
  exact zJe (zcc (fun p1 c1 p2 c2=>zLd hb1 hb2 hy))
theorem zdc {x1:Int} {x2:Int} {p1:Option Addr} {c1:Nat} {p2:Option Addr} {c2:Nat}:Con Tryz.prog 82 [.agg #[.bool (decide (x1<0)),.slice p1 ((Big.digs ((x1).natAbs)).length) c1],.agg #[.bool (decide (x2<0)),.slice p2 ((Big.digs ((x2).natAbs)).length) c2]] [] [slF (rI .u32) p1 c1 (Big.digs ((x1).natAbs)),slF (rI .u32) p2 c2 (Big.digs ((x2).natAbs))] (Y:=Unit) (fun y=>True) (fun y=> .int .i64 (Big.cmp x1 x2)) (fun y=>[]) (fun y=>[]):=by
 refine zq Tryz.func82 rfl rfl rfl (fun c=> ?_)
 show RunC _ _ _ _ _ [(0,.agg #[.bool (decide (x1<0)),.slice p1 ((Big.digs ((x1).natAbs)).length) c1]),(1,.agg #[.bool (decide (x2<0)),.slice p2 ((Big.digs ((x2).natAbs)).length) c2])] [] [slF (rI .u32) p1 c1 (Big.digs ((x1).natAbs)),slF (rI .u32) p2 c2 (Big.digs ((x2).natAbs))]
 refine zY 0 rfl (fun hL0=> ?_)
 refine zY 1 rfl (fun hL1=> ?_)
 have hcb:=Big.cmp_b (x1.natAbs:Int) (x2.natAbs:Int)
 refine zi<|zc<|zJ rfl rfl (zQ rfl rfl) (fun b1=> ?_)
 refine zJ rfl rfl (zQ rfl rfl) (fun b2=> ?_)
 refine r_pv rfl rfl (zd rfl)<|zj<|ze<|zi<|zi<|zea (OW:=[]) (O:=[boxA b2 30 [.bool (decide (x2<0)),.slice p2 ((Big.digs ((x2).natAbs)).length) c2],boxA b1 30 [.bool (decide (x1<0)),.slice p1 ((Big.digs ((x1).natAbs)).length) c1]]) 100000 mixed (.then (.then .ret)) (by kernel_rfl)<|d_u 0 rfl rfl (by kernel_rfl) (by kernel_rfl) rfl rfl (zf 1 ty30 rfl rfl (.take (.take .nil)))<|d_u 2 rfl rfl (by kernel_rfl) (by kernel_rfl) rfl rfl (zf 0 ty30 rfl rfl (.take (.take .nil)))<|zL 1 (by kernel_rfl) (zib rfl rfl rfl rfl (.c rfl .n) ce79 (ztc (z:=x1) (p:=p1) (cap:=c1)) (.c (j:=0) rfl .n) ?_)
 refine zL 3 (by kernel_rfl) (zib rfl rfl rfl rfl (.c rfl .n) ce79 (ztc (z:=x2) (p:=p2) (cap:=c2)) (.c (j:=1) rfl .n) ?_)
 refine d_pv 4 rfl rfl (by kernel_rfl) (by kernel_rfl) rfl rfl (zd rfl)<|d_pv 5 rfl rfl (by kernel_rfl) (by kernel_rfl) rfl rfl (zd rfl)<|zba (by kernel_rfl)<|ze<|zi<|zc<|r_pv rfl rfl (za rfl)<|r_pv rfl rfl (za rfl)<|r_pv rfl rfl (zKa rfl rfl)<|zj<|ze<|zG rfl (fun hs=> ?_) (fun hs=> ?_)
 ·
  refine zi<|zc<|r_pv rfl rfl (za rfl)<|r_pv rfl rfl (za rfl)<|zN rfl rfl (.c rfl (.c rfl .n)) ce108 (zqc (u:=(x1).sign) (v:=(x2).sign)) (.n)<|r_pv rfl rfl (zd rfl)<|zj<|ze<|zI<|zp ?_
  exact zE Tryz.results82 () trivial (zo rfl) (by rw [Big.cmp_signs hs]) (ho:=(.n:PickO _ _ _)) (.n:SelR _ _ _)
 ·
  refine zB<|ze<|zi<|zea (OW:=[]) (O:=[boxA b2 30 [.bool (decide (x2<0)),.slice p2 ((Big.digs ((x2).natAbs)).length) c2],boxA b1 30 [.bool (decide (x1<0)),.slice p1 ((Big.digs ((x1).natAbs)).length) c1]]) 100000 mixed (.then .ret) (by kernel_rfl)<|d_u 0 rfl rfl (by kernel_rfl) (by kernel_rfl) rfl rfl (zf 1 ty30 rfl rfl (.take (.take .nil)))<|d_u 2 rfl rfl (by kernel_rfl) (by kernel_rfl) rfl rfl (zf 0 ty30 rfl rfl (.take (.take .nil)))<|zL 1 (by kernel_rfl) (zH rfl rfl rfl rfl (.c rfl .n) ce103 (zsb (z:=x1) (p:=p1) (cap:=c1)) (.c (j:=0) rfl .n) ?_)
  rintro ⟨p23,c24⟩ -
  dsimp only [List.append_eq,List.nil_append,List.cons_append]
  refine zL 3 (by kernel_rfl) (zH rfl rfl rfl rfl (.c rfl .n) ce103 (zsb (z:=x2) (p:=p2) (cap:=c2)) (.c (j:=2) rfl .n) ?_)
  rintro ⟨p25,c26⟩ -
  dsimp only [List.append_eq,List.nil_append,List.cons_append]
  refine zL 4 (by kernel_rfl) (zib rfl rfl rfl rfl (.c rfl (.c rfl .n)) ce109 (zrc (a:=(x1).natAbs) (b:=(x2).natAbs) (p1:=p23) (c1:=c24) (p2:=p25) (c2:=c26)) (.c (j:=1) rfl (.c (j:=0) rfl .n)) ?_)
  refine d_pv 5 rfl rfl (by kernel_rfl) (by kernel_rfl) rfl rfl (zd rfl)<|zba (by kernel_rfl)<|ze<|zi<|zi<|zc<|r_pv rfl rfl (zg Tryz.underlying30 rfl sz4 rfl rfl)<|r_u rfl rfl (zh 1 ty4 rfl rfl rfl)<|zj<|ze<|zyb rfl (fun hn=> ?_) (fun hn=> ?_)
  ·
   refine zi<|zc<|r_pv rfl rfl (za rfl)<|r_pv rfl rfl (zBc (z:=(-(Big.cmp (((x1).natAbs):Int) (((x2).natAbs):Int)))) rfl (w64 (by omega)))<|r_pv rfl rfl (zd rfl)<|zj<|ze<|zI<|zp ?_
   exact zE Tryz.results82 () trivial (zo rfl) (by rw [Big.cmp_neg hs (by simpa using hn)]) (ho:=(.n:PickO _ _ _)) (.n:SelR _ _ _)
  ·
   refine zB<|ze<|zi<|zc<|r_pv rfl rfl (za rfl)<|r_pv rfl rfl (zd rfl)<|zj<|ze<|zI ?_
   exact zE Tryz.results82 () trivial (zo rfl) (by rw [Big.cmp_pos hs (by simpa using hn)]) (ho:=(.n:PickO _ _ _)) (.n:SelR _ _ _)
theorem zod {w1:Wd} {w2:Wd} {x1:Int} {x2:Int}:Con Tryz.prog 82 [.agg #[w1.b,w1.l],.agg #[w2.b,w2.l]] [] [zF w1 (x1),zF w2 (x2)] (Y:=Unit) (fun y=>True) (fun y=> .int .i64 (Big.cmp x1 x2)) (fun y=>[]) (fun y=>[]):=by
  exact zcc (fun p1 c1 p2 c2=>zdc)
theorem zMd {s:Bool} {p:Option Addr} {n:Nat} {cap:Nat} {l:List Int} (hn:l.length=n) (hln:Big.ln (Big.raw s l)≤1099511627776):Con Tryz.prog 100 [.agg #[.bool s,.slice p n cap]] [] [slF (rI .u32) p cap l] (Y:=(Option Addr)×Nat) (fun y=>True) (fun y=> .agg #[.bool (decide ((- Big.raw s l)<0)),.slice (y.1) ((Big.digs ((- Big.raw s l).natAbs)).length) (y.2)]) (fun y=>[]) (fun y=>[slF (rI .u32) (y.1) (y.2) (Big.digs ((- Big.raw s l).natAbs))]):=by
 refine zq Tryz.func100 rfl rfl rfl (fun c=> ?_)
 show RunC _ _ _ _ _ [(0,.agg #[.bool s,.slice p n cap])] [] [slF (rI .u32) p cap l]
 refine zY 0 rfl (fun hL0=> ?_)
 refine zNa 0 rfl (fun hE0=> ?_)
 have hnn:Big.nn l:=fun g hg=>(zv.1 (hE0 g hg)).1
 unfold Big.ln at hln
 refine zi<|zc<|zJ rfl rfl (zQ rfl rfl) (fun b1=> ?_)
 refine zJ rfl rfl (zw zr30 rfl) (fun b2=> ?_)
 refine zj<|ze<|zi<|zea (OW:=[boxA b2 30 [.bool false,.slice none 0 0]]) (O:=[boxA b1 30 [.bool s,.slice p n cap]]) 7 mixed (.then .ret) (by kernel_rfl)<|d_pv 0 rfl rfl (by kernel_rfl) (by kernel_rfl) rfl rfl (zg Tryz.underlying30 rfl sz4 rfl rfl)<|d_uw 1 rfl rfl (by kernel_rfl) (by kernel_rfl) (by kernel_rfl) rfl rfl (zh 1 ty4 rfl rfl rfl)<|d_pv 2 rfl rfl (by kernel_rfl) (by kernel_rfl) rfl rfl (zjb rfl)<|d_uw 3 rfl rfl (by kernel_rfl) (by kernel_rfl) (by kernel_rfl) rfl rfl (zf 1 ty30 rfl rfl (.take (.take .nil)))<|zL 4 (by kernel_rfl) (zH rfl rfl rfl rfl (.c rfl .n) ce103 (zRa (s:=s) (p:=p) (n:=n) (cap:=cap) (l:=l) (hn:=by assumption)) (.c (j:=0) rfl .n) ?_)
 rintro ⟨p23,c24⟩ -
 dsimp only [List.append_eq,List.nil_append,List.cons_append]
 refine zL 5 (by kernel_rfl) (zH rfl rfl rfl rfl (.c rfl .n) ce113 (zgc (a:=(Big.raw s l).natAbs) (p:=p23) (cap:=c24) (hb:=by first|rfl|assumption|omega|(simp;done)|(simp;omega)|(simp_all;done))) (.c (j:=0) rfl .n) ?_)
 rintro ⟨p25,c26⟩ -
 dsimp only [List.append_eq,List.nil_append,List.cons_append]
 refine zL 6 (by kernel_rfl) (zH rfl rfl rfl rfl (.c rfl (.c rfl .n)) ce104 (zAa (s:= !s) (a:=((Big.raw s l).natAbs)) (p:=p25) (cap:=c26)) (.c (j:=0) rfl .n) ?_)
 rintro ⟨p27,c28⟩ -
 dsimp only [List.append_eq,List.nil_append,List.cons_append]
 refine zL 7 (by kernel_rfl) (zD (by kernel_rfl) rfl rfl rfl rfl rfl sz30 rfl (.take (.take .nil)) ?_)
 refine zba (by kernel_rfl)<|ze<|zI ?_
 have hz:Big.sg (!s) ((Big.raw s l).natAbs:Int)= - Big.raw s l:=by rw [Big.sg_not,Big.sg_raw hnn]
 exact zE Tryz.results100 (p27,c28) trivial (zt 0 ty30 rfl rfl (.take (.take .nil))) (by rw [hz]) (ho:=(.n:PickO _ _ _)) ((.e (j:=0) rfl (by rw [hz]) .n):SelR _ _ _)
theorem zQc {z:Int} {p:Option Addr} {cap:Nat} (hln:Big.ln z≤1099511627776):Con Tryz.prog 100 [.agg #[.bool (decide ((z)<0)),.slice (p) ((Big.digs ((z).natAbs)).length) (cap)]] [] [slF (rI .u32) (p) (cap) (Big.digs ((z).natAbs))] (Y:=(Option Addr)×(Nat)) (fun y=>True) (fun y=> .agg #[.bool (decide ((- z)<0)),.slice (y.1) ((Big.digs ((- z).natAbs)).length) (y.2)]) (fun y=>[]) (fun y=>[slF (rI .u32) (y.1) (y.2) (Big.digs ((- z).natAbs))]):=by
  have h:= @zMd (decide ((z)<0)) p (Big.digs (z).natAbs).length cap (Big.digs (z).natAbs) rfl (by rw [Big.raw_big];exact hln)
  rw [Big.raw_big] at h
  exact h
theorem zge {w1:Wd} {x1:Int} (hln:Big.ln x1≤1099511627776):Con Tryz.prog 100 [.agg #[w1.b,w1.l]] [] [zF w1 (x1)] (Y:=(Wd)) (fun y=>True) (fun y=> .agg #[y.b,y.l]) (fun y=>[]) (fun y=>[zF y (- x1)]):=by
  exact zJb (zid (fun p c=>zQc hln))
end Go.Proofs.YtkamccndgblheaaGreat.Sp
namespace Go.Proofs.YtkamccndgblheaaGreat.Sp
open Go
set_option linter.unusedVariables false
set_option maxRecDepth 100000
set_option maxHeartbeats 1000000
theorem zEc {s:Bool} {p1:Option Addr} {n1:Nat} {c1:Nat} {l1:List Int} {t:Bool} {p2:Option Addr} {n2:Nat} {c2:Nat} {l2:List Int} (hn1:l1.length=n1) (hn2:l2.length=n2) (hm1:n1≤1048576) (hm2:n2≤1048576):Con Tryz.prog 53 [.agg #[.bool s,.slice p1 n1 c1,.bool t,.slice p2 n2 c2]] [] [slF (rI .u32) p1 c1 l1,slF (rI .u32) p2 c2 l2] (Y:=Unit) (fun y=>True) (fun y=> .bool (decide (Big.qok ((s,l1),(t,l2))))) (fun y=>[]) (fun y=>[]):=by
 refine zq Tryz.func53 rfl rfl rfl (fun c=> ?_)
 show RunC _ _ _ _ _ [(0,.agg #[.bool s,.slice p1 n1 c1,.bool t,.slice p2 n2 c2])] [] [slF (rI .u32) p1 c1 l1,slF (rI .u32) p2 c2 l2]
 refine zY 0 rfl (fun hL0=> ?_)
 refine zNa 0 rfl (fun hE0=> ?_)
 refine zY 1 rfl (fun hL1=> ?_)
 refine zNa 1 rfl (fun hE1=> ?_)
 have hnn1:Big.nn l1:=fun g hg=>(zv.1 (hE0 g hg)).1
 have hnn2:Big.nn l2:=fun g hg=>(zv.1 (hE1 g hg)).1
 have hb1:Big.ln (Big.raw s l1)≤n1:=by have:=Big.zOa (s:=s) hnn1;omega
 have hb2:Big.ln (Big.raw t l2)≤n2:=by have:=Big.zOa (s:=t) hnn2;omega
 refine zi<|zc<|zJ rfl rfl (zQ rfl rfl) (fun b1=> ?_)
 refine r_pv rfl rfl (zd rfl)<|zj<|ze<|zi<|zGa (X:=Unit) (fun x=>True) (fun x=>[(18,.bool (decide (¬(Big.canon s l1∧Big.canon t l2∧0<Big.raw t l2)))),(2,.bool false),(1,.pointer (some ⟨b1,0,none⟩))]) (fun x=>[boxA b1 32 [.bool s,.slice p1 n1 c1,.bool t,.slice p2 n2 c2]]) (fun x=>[slF (rI .u32) p1 c1 l1,slF (rI .u32) p2 c2 l2]) ?_ ?_
 ·
  refine zc<|r_pv rfl rfl (zg Tryz.underlying32 rfl sz30 rfl rfl)<|r_u rfl rfl (zf 0 ty30 rfl rfl (.take (.take .nil)))<|zN rfl rfl (.c rfl .n) ce81 (zsc (s:=s) (p:=p1) (n:=n1) (cap:=c1) (l:=l1) (hn:=by assumption)) (.c (j:=0) rfl .n)<|r_pv rfl rfl (zXa rfl)<|zP rfl rfl (za rfl) (fun h2=> ?_) (fun h2=> ?_)
  ·
   refine zb rfl rfl<|zb rfl rfl<|zb rfl rfl<|zb rfl rfl<|r_pv rfl rfl (zm rfl rfl)<|r_pv rfl rfl (za rfl)<|zb rfl rfl<|zb rfl rfl<|zb rfl rfl<|zb rfl rfl<|r_pv rfl rfl (zm rfl rfl)<|zj ?_
   exact zca () (show True from by first|trivial|omega|simp_all) ((.e rfl (congrArg Value.bool (by simp_all)) (.c rfl (.c rfl .n))):SubM _ _) (ho:=((.c (i:=0) rfl .n):PickO _ _ _)) ((.of [0,1] rfl):SelR _ _ _)
  ·
   refine r_pv rfl rfl (zg Tryz.underlying32 rfl sz30 rfl rfl)<|r_u rfl rfl (zf 0 ty30 rfl rfl (.skip (.skip (.take (.take .nil)))))<|zN rfl rfl (.c rfl .n) ce81 (zsc (s:=t) (p:=p2) (n:=n2) (cap:=c2) (l:=l2) (hn:=by assumption)) (.c (j:=1) rfl .n)<|r_pv rfl rfl (zXa rfl)<|r_pv rfl rfl (zm rfl rfl)<|zP rfl rfl (za rfl) (fun h3=> ?_) (fun h3=> ?_)
   ·
    refine zb rfl rfl<|zb rfl rfl<|zb rfl rfl<|zb rfl rfl<|r_pv rfl rfl (zm rfl rfl)<|zj ?_
    exact zca () (show True from by first|trivial|omega|simp_all) ((.e rfl (congrArg Value.bool (by simp_all)) (.c rfl (.c rfl .n))):SubM _ _) (ho:=((.c (i:=0) rfl .n):PickO _ _ _)) ((.of [0,1] rfl):SelR _ _ _)
   ·
    refine r_pv rfl rfl (zg Tryz.underlying32 rfl sz30 rfl rfl)<|r_u rfl rfl (zf 0 ty30 rfl rfl (.skip (.skip (.take (.take .nil)))))<|zN rfl rfl (.c rfl .n) ce79 (zde (s:=t) (p:=p2) (n:=n2) (cap:=c2) (l:=l2) (hn:=by assumption)) (.c (j:=1) rfl .n)<|r_pv rfl rfl (zdb rfl rfl)<|r_pv rfl rfl (zm rfl rfl)<|zj ?_
    exact zca () (show True from by first|trivial|omega|simp_all) ((.e rfl (congrArg Value.bool (by exact decide_eq_decide.2 (Big.sgn_le (Decidable.not_not.1 ‹_›) (Decidable.not_not.1 ‹_›)))) (.c rfl (.c rfl .n))):SubM _ _) (ho:=((.c (i:=0) rfl .n):PickO _ _ _)) ((.of [0,1] rfl):SelR _ _ _)
 ·
  rintro ⟨⟩ -
  try dsimp only
  refine zG rfl (fun hc=> ?_) (fun hc=> ?_)
  ·
   refine zi<|zc<|r_pv rfl rfl (zd rfl)<|zj<|ze<|zI<|zp ?_
   exact zE Tryz.results53 () trivial (zo rfl) (congrArg Value.bool (decide_eq_false (fun h=>hc ⟨h.1,h.2.1,h.2.2.1⟩))) (ho:=(.n:PickO _ _ _)) (.n:SelR _ _ _)
  ·
   refine zB<|ze<|zi<|zc<|r_pv rfl rfl (zg Tryz.underlying32 rfl sz30 rfl rfl)<|r_u rfl rfl (zf 0 ty30 rfl rfl (.take (.take .nil)))<|r_pv rfl rfl (zg Tryz.underlying32 rfl sz30 rfl rfl)<|r_u rfl rfl (zf 0 ty30 rfl rfl (.skip (.skip (.take (.take .nil)))))<|zy rfl rfl (.c rfl (.c rfl .n)) ce83 (zRe (s:=s) (p1:=p1) (n1:=n1) (c1:=c1) (l1:=l1) (t:=t) (p2:=p2) (n2:=n2) (c2:=c2) (l2:=l2) (hn1:=by assumption) (hn2:=by assumption) (hb1:=by first|rfl|assumption|omega|(rw [Big.zO];omega)|(decide +kernel)) (hb2:=by first|rfl|assumption|omega|(rw [Big.zO];omega)|(decide +kernel))) (.c (j:=0) rfl (.c (j:=1) rfl .n)) ?_
   rintro ⟨p34,c35⟩ -
   dsimp only [List.append_eq,List.nil_append,List.cons_append]
   refine zy rfl rfl (.c rfl .n) ce84 (zEf (z:=1) (hz:=by first|rfl|assumption|omega|(rw [Big.zO];omega)|(decide +kernel))) (.n) ?_
   rintro ⟨p26,c27⟩ -
   dsimp only [List.append_eq,List.nil_append,List.cons_append]
   refine zN rfl rfl (.c rfl (.c rfl .n)) ce82 (zdc (x1:=((Nat.gcd (Big.raw s l1).natAbs (Big.raw t l2).natAbs:Nat):Int)) (x2:=1) (p1:=p34) (c1:=c35) (p2:=p26) (c2:=c27)) (.c (j:=1) rfl (.c (j:=0) rfl .n))<|r_pv rfl rfl (zva rfl rfl)<|r_pv rfl rfl (zd rfl)<|zj<|ze<|zI ?_
   exact zE Tryz.results53 () trivial (zo rfl) (congrArg Value.bool (decide_eq_decide.2 (Big.qok_gcd (x:=((s,l1),(t,l2))) (Decidable.not_not.1 hc)).symm)) (ho:=(.n:PickO _ _ _)) (.n:SelR _ _ _)
theorem zuc {w1:Wd} {w2:Wd} {x1:Int} {x2:Int} (hl1:Big.ln x1≤1048576) (hl2:Big.ln x2≤1048576) (hd:x2≠0):Con Tryz.prog 75 [.agg #[w1.b,w1.l],.agg #[w2.b,w2.l]] [] [zF w1 x1,zF w2 x2] (Y:=Wd×Wd) (fun y=>True) (fun y=> .agg #[y.1.b,y.1.l,y.2.b,y.2.l]) (fun y=>[]) (fun y=>[qF true y.1 y.2 (Rat.divInt x1 x2)]):=by
 refine zq Tryz.func75 rfl rfl rfl (fun c=> ?_)
 show RunC _ _ _ _ _ [(0,.agg #[w1.b,w1.l]),(1,.agg #[w2.b,w2.l])] [] [zF w1 x1,zF w2 x2]
 refine zi<|zc<|zJ rfl rfl (zQ rfl rfl) (fun b1=> ?_)
 refine zJ rfl rfl (zQ rfl rfl) (fun b2=> ?_)
 refine zJ rfl rfl (zw zr32 rfl) (fun b3=> ?_)
 refine zj<|ze<|zi<|zi<|zc<|r_u rfl rfl (zf 1 ty30 rfl rfl (.take (.take .nil)))<|zN rfl rfl (.c rfl .n) ce79 (zmd (w1:=w2) (x1:=x2)) (.c (j:=1) rfl .n)<|r_pv rfl rfl (zda rfl rfl)<|zj<|ze<|zG rfl (fun hneg=> ?_) (fun hneg=> ?_)
 ·
  have hs:x2<0:=by rcases Big.sign_le (x:=x2) with h|h|h <;> omega
  have hgp:=Big.gcd_pos_right (n:= -x1) (d:= -x2) (by omega)
  have hgl:=Big.zjd (n:= -x1) (d:= -x2) (by omega)
  rw [Big.zO] at hgl
  obtain ⟨hr1,hr2⟩:=Big.red_flip (n:=x1) hs
  refine zsa (.c (i:=2) rfl (.c (i:=1) rfl (.c (i:=0) rfl .n)))<|zea (OW:=[boxA b1 30 [w1.b,w1.l],boxA b2 30 [w2.b,w2.l]]) (O:=[boxA b3 32 [.bool false,.slice none 0 0,.bool false,.slice none 0 0]]) 4 mixed (.then .ret) (by kernel_rfl)<|d_uw 0 rfl rfl (by kernel_rfl) (by kernel_rfl) (by kernel_rfl) rfl rfl (zf 0 ty30 rfl rfl (.take (.take .nil)))<|d_uw 2 rfl rfl (by kernel_rfl) (by kernel_rfl) (by kernel_rfl) rfl rfl (zf 1 ty30 rfl rfl (.take (.take .nil)))<|zL 1 (by kernel_rfl) (zH rfl rfl rfl rfl (.c rfl .n) ce100 (zge (w1:=w1) (x1:=x1) (hln:=by first|rfl|assumption|omega|(rw [Big.zO];omega)|(decide +kernel))) (.c (j:=0) rfl .n) ?_)
  rintro w34 -
  dsimp only [List.append_eq,List.nil_append,List.cons_append]
  refine zL 3 (by kernel_rfl) (zH rfl rfl rfl rfl (.c rfl .n) ce100 (zge (w1:=w2) (x1:=x2) (hln:=by first|rfl|assumption|omega|(rw [Big.zO];omega)|(decide +kernel))) (.c (j:=2) rfl .n) ?_)
  rintro w35 -
  dsimp only [List.append_eq,List.nil_append,List.cons_append]
  refine zL 4 (by kernel_rfl) (zD (by kernel_rfl) rfl rfl rfl rfl rfl sz30 rfl (.take (.take .nil)) ?_)
  refine zJa (zma (i:=1) rfl)<|zL 5 (by kernel_rfl) (zD (by kernel_rfl) rfl rfl rfl rfl rfl sz30 rfl (.take (.take .nil)) ?_)
  refine zba (by kernel_rfl)<|ze<|zi<|zc<|r_u rfl rfl (zf 1 ty30 rfl rfl (.take (.take .nil)))<|r_u rfl rfl (zf 0 ty30 rfl rfl (.take (.take .nil)))<|zy rfl rfl (.c rfl (.c rfl .n)) ce83 (zfe (w1:=w34) (w2:=w35) (x1:= - x1) (x2:= - x2) (hb1:=by first|rfl|assumption|omega|(rw [Big.zO];omega)|(decide +kernel)) (hb2:=by first|rfl|assumption|omega|(rw [Big.zO];omega)|(decide +kernel))) (.c (j:=1) rfl (.c (j:=0) rfl .n)) ?_
  rintro w36 -
  dsimp only [List.append_eq,List.nil_append,List.cons_append]
  refine zJ rfl rfl (zw zr30 rfl) (fun b7=> ?_)
  refine zn 0 rfl rfl rfl rfl rfl sz30 rfl (.take (.take .nil)) .z<|zj<|ze<|zi<|zc<|r_u rfl rfl (zf 2 ty30 rfl rfl (.take (.take .nil)))<|r_u rfl rfl (zf 0 ty30 rfl rfl (.take (.take .nil)))<|zy rfl rfl (.c rfl (.c rfl .n)) ce101 (ztb (w1:=w34) (w2:=w36) (x1:= - x1) (x2:=((Nat.gcd (- x1).natAbs (- x2).natAbs:Nat):Int)) (hb1:=by first|rfl|assumption|omega|(rw [Big.zO];omega)|(decide +kernel)) (hb2:=by first|rfl|assumption|omega|(rw [Big.zO];omega)|(decide +kernel)) (hy:=by first|rfl|assumption|omega|(rw [Big.zO];omega)|(decide +kernel))) (.c (j:=2) rfl (.c (j:=0) rfl .n)) ?_
  rintro ⟨w38,w49⟩ -
  dsimp only [List.append_eq,List.nil_append,List.cons_append]
  refine r_pv rfl rfl (za rfl)<|r_pv rfl rfl (zr rfl rfl)<|r_pv rfl rfl (zr rfl rfl)<|r_pv rfl rfl (zr rfl rfl)<|zn 2 rfl rfl rfl rfl rfl sz30 rfl (.take (.take .nil)) (.s (.s .z))<|zj<|ze<|zi<|zc<|r_u rfl rfl (zf 1 ty30 rfl rfl (.take (.take .nil)))<|r_u rfl rfl (zf 0 ty30 rfl rfl (.take (.take .nil)))<|zy rfl rfl (.c rfl (.c rfl .n)) ce101 (ztb (w1:=w35) (w2:=w36) (x1:= - x2) (x2:=((Nat.gcd (- x1).natAbs (- x2).natAbs:Nat):Int)) (hb1:=by first|rfl|assumption|omega|(rw [Big.zO];omega)|(decide +kernel)) (hb2:=by first|rfl|assumption|omega|(rw [Big.zO];omega)|(decide +kernel)) (hy:=by first|rfl|assumption|omega|(rw [Big.zO];omega)|(decide +kernel))) (.c (j:=3) rfl (.c (j:=2) rfl .n)) ?_
  rintro ⟨w310,w411⟩ -
  dsimp only [List.append_eq,List.nil_append,List.cons_append]
  refine r_pv rfl rfl (za rfl)<|r_pv rfl rfl (zr rfl rfl)<|r_pv rfl rfl (zr rfl rfl)<|r_pv rfl rfl (zr rfl rfl)<|zn 1 rfl rfl rfl rfl rfl sz30 rfl (.take (.take .nil)) (.s .z)<|zj<|ze<|zi<|zc<|r_u rfl rfl (zf 2 ty30 rfl rfl (.take (.take .nil)))<|r_u rfl rfl (zf 1 ty30 rfl rfl (.take (.take .nil)))<|r_pv rfl rfl (zK zr32 rfl Tryz.underlying32 (.c sz30 (.c sz30 .n)) (.c rfl (.c rfl .n)) (.c rfl rfl rfl (.take (.take .nil)) (.c rfl rfl rfl (.skip (.skip (.take (.take .nil)))) .n)))<|zn 3 rfl rfl rfl rfl rfl sz32 rfl (.take (.take (.take (.take .nil)))) (.s (.s (.s .z)))<|zj<|ze<|zI<|zab (qF true w38 w310 (Rat.divInt x1 x2)) (qF_close 2 0 rfl rfl (by exact ⟨hr1,hr2,Nat.le_trans (Big.hq_divInt hd) (by omega)⟩)) ?_
  exact zE Tryz.results75 (w38,w310) trivial (zt 3 ty32 rfl rfl (.take (.take (.take (.take .nil))))) rfl (ho:=(.n:PickO _ _ _)) ((.c (j:=0) rfl .n):SelR _ _ _)
 ·
  have hs:0<x2:=by rcases Big.sign_le (x:=x2) with h|h|h <;> omega
  have hgp:=Big.gcd_pos_right (n:=x1) (d:=x2) (by omega)
  have hgl:=Big.zjd (n:=x1) (d:=x2) (by omega)
  obtain ⟨hr1,hr2⟩:=Big.red_pos (n:=x1) hs
  refine zB<|ze<|zi<|zc<|r_u rfl rfl (zf 2 ty30 rfl rfl (.take (.take .nil)))<|r_u rfl rfl (zf 1 ty30 rfl rfl (.take (.take .nil)))<|zy rfl rfl (.c rfl (.c rfl .n)) ce83 (zfe (w1:=w1) (w2:=w2) (x1:=x1) (x2:=x2) (hb1:=by first|rfl|assumption|omega|(rw [Big.zO];omega)|(decide +kernel)) (hb2:=by first|rfl|assumption|omega|(rw [Big.zO];omega)|(decide +kernel))) (.c (j:=0) rfl (.c (j:=1) rfl .n)) ?_
  rintro w312 -
  dsimp only [List.append_eq,List.nil_append,List.cons_append]
  refine zJ rfl rfl (zw zr30 rfl) (fun b13=> ?_)
  refine zn 0 rfl rfl rfl rfl rfl sz30 rfl (.take (.take .nil)) .z<|zj<|ze<|zi<|zc<|r_u rfl rfl (zf 3 ty30 rfl rfl (.take (.take .nil)))<|r_u rfl rfl (zf 0 ty30 rfl rfl (.take (.take .nil)))<|zy rfl rfl (.c rfl (.c rfl .n)) ce101 (ztb (w1:=w1) (w2:=w312) (x1:=x1) (x2:=((Nat.gcd x1.natAbs x2.natAbs:Nat):Int)) (hb1:=by first|rfl|assumption|omega|(rw [Big.zO];omega)|(decide +kernel)) (hb2:=by first|rfl|assumption|omega|(rw [Big.zO];omega)|(decide +kernel)) (hy:=by first|rfl|assumption|omega|(rw [Big.zO];omega)|(decide +kernel))) (.c (j:=1) rfl (.c (j:=0) rfl .n)) ?_
  rintro ⟨w314,w415⟩ -
  dsimp only [List.append_eq,List.nil_append,List.cons_append]
  refine r_pv rfl rfl (za rfl)<|r_pv rfl rfl (zr rfl rfl)<|r_pv rfl rfl (zr rfl rfl)<|r_pv rfl rfl (zr rfl rfl)<|zn 3 rfl rfl rfl rfl rfl sz30 rfl (.take (.take .nil)) (.s (.s (.s .z)))<|zj<|ze<|zi<|zc<|r_u rfl rfl (zf 2 ty30 rfl rfl (.take (.take .nil)))<|r_u rfl rfl (zf 0 ty30 rfl rfl (.take (.take .nil)))<|zy rfl rfl (.c rfl (.c rfl .n)) ce101 (ztb (w1:=w2) (w2:=w312) (x1:=x2) (x2:=((Nat.gcd x1.natAbs x2.natAbs:Nat):Int)) (hb1:=by first|rfl|assumption|omega|(rw [Big.zO];omega)|(decide +kernel)) (hb2:=by first|rfl|assumption|omega|(rw [Big.zO];omega)|(decide +kernel)) (hy:=by first|rfl|assumption|omega|(rw [Big.zO];omega)|(decide +kernel))) (.c (j:=4) rfl (.c (j:=2) rfl .n)) ?_
  rintro ⟨w316,w417⟩ -
  dsimp only [List.append_eq,List.nil_append,List.cons_append]
  refine r_pv rfl rfl (za rfl)<|r_pv rfl rfl (zr rfl rfl)<|r_pv rfl rfl (zr rfl rfl)<|r_pv rfl rfl (zr rfl rfl)<|zn 2 rfl rfl rfl rfl rfl sz30 rfl (.take (.take .nil)) (.s (.s .z))<|zj<|ze<|zi<|zc<|r_u rfl rfl (zf 3 ty30 rfl rfl (.take (.take .nil)))<|r_u rfl rfl (zf 2 ty30 rfl rfl (.take (.take .nil)))<|r_pv rfl rfl (zK zr32 rfl Tryz.underlying32 (.c sz30 (.c sz30 .n)) (.c rfl (.c rfl .n)) (.c rfl rfl rfl (.take (.take .nil)) (.c rfl rfl rfl (.skip (.skip (.take (.take .nil)))) .n)))<|zn 1 rfl rfl rfl rfl rfl sz32 rfl (.take (.take (.take (.take .nil)))) (.s .z)<|zj<|ze<|zI<|zab (qF true w314 w316 (Rat.divInt x1 x2)) (qF_close 2 0 rfl rfl (by exact ⟨hr1,hr2,Nat.le_trans (Big.hq_divInt hd) (by omega)⟩)) ?_
  exact zE Tryz.results75 (w314,w316) trivial (zt 1 ty32 rfl rfl (.take (.take (.take (.take .nil))))) rfl (ho:=(.n:PickO _ _ _)) ((.c (j:=0) rfl .n):SelR _ _ _)
theorem zqe {s:Bool} {p1:Option Addr} {n1:Nat} {c1:Nat} {l1:List Int} {t:Bool} {p2:Option Addr} {n2:Nat} {c2:Nat} {l2:List Int} (hn1:l1.length=n1) (hn2:l2.length=n2) (hm1:n1≤1048576) (hm2:n2≤1048576) (hq:Big.qok ((s,l1),(t,l2))):Con Tryz.prog 99 [.agg #[.bool s,.slice p1 n1 c1,.bool t,.slice p2 n2 c2]] [] [slF (rI .u32) p1 c1 l1,slF (rI .u32) p2 c2 l2] (Y:=(Option Addr)×Nat×(Option Addr)×Nat) (fun y=>True) (fun y=> .agg #[.bool (decide (((Big.qv ((s,l1),(t,l2))).num)<0)),.slice (y.1) ((Big.digs (((Big.qv ((s,l1),(t,l2))).num).natAbs)).length) (y.2.1),.bool (decide ((((Big.qv ((s,l1),(t,l2))).den:Nat):Int)<0)),.slice (y.2.2.1) ((Big.digs ((((Big.qv ((s,l1),(t,l2))).den:Nat):Int).natAbs)).length) (y.2.2.2)]) (fun y=>[]) (fun y=>[slF (rI .u32) (y.1) (y.2.1) (Big.digs (((Big.qv ((s,l1),(t,l2))).num).natAbs)),slF (rI .u32) (y.2.2.1) (y.2.2.2) (Big.digs ((((Big.qv ((s,l1),(t,l2))).den:Nat):Int).natAbs))]):=by
 refine zq Tryz.func99 rfl rfl rfl (fun c=> ?_)
 show RunC _ _ _ _ _ [(0,.agg #[.bool s,.slice p1 n1 c1,.bool t,.slice p2 n2 c2])] [] [slF (rI .u32) p1 c1 l1,slF (rI .u32) p2 c2 l2]
 refine zY 0 rfl (fun hL0=> ?_)
 refine zNa 0 rfl (fun hE0=> ?_)
 refine zY 1 rfl (fun hL1=> ?_)
 refine zNa 1 rfl (fun hE1=> ?_)
 have hnn1:Big.nn l1:=fun g hg=>(zv.1 (hE0 g hg)).1
 have hnn2:Big.nn l2:=fun g hg=>(zv.1 (hE1 g hg)).1
 have hb1:Big.ln (Big.raw s l1)≤n1:=by have:=Big.zOa (s:=s) hnn1;omega
 have hb2:Big.ln (Big.raw t l2)≤n2:=by have:=Big.zOa (s:=t) hnn2;omega
 refine zi<|zc<|zJ rfl rfl (zQ rfl rfl) (fun b1=> ?_)
 refine zJ rfl rfl (zw zr32 rfl) (fun b2=> ?_)
 refine zj<|ze<|zi<|zea (OW:=[boxA b2 32 [.bool false,.slice none 0 0,.bool false,.slice none 0 0]]) (O:=[boxA b1 32 [.bool s,.slice p1 n1 c1,.bool t,.slice p2 n2 c2]]) 9 mixed (.then .ret) (by kernel_rfl)<|d_pv 0 rfl rfl (by kernel_rfl) (by kernel_rfl) rfl rfl (zg Tryz.underlying32 rfl sz30 rfl rfl)<|d_uw 1 rfl rfl (by kernel_rfl) (by kernel_rfl) (by kernel_rfl) rfl rfl (zf 1 ty30 rfl rfl (.take (.take .nil)))<|d_pv 4 rfl rfl (by kernel_rfl) (by kernel_rfl) rfl rfl (zg Tryz.underlying32 rfl sz30 rfl rfl)<|d_uw 5 rfl rfl (by kernel_rfl) (by kernel_rfl) (by kernel_rfl) rfl rfl (zf 1 ty30 rfl rfl (.skip (.skip (.take (.take .nil)))))<|zL 2 (by kernel_rfl) (zH rfl rfl rfl rfl (.c rfl .n) ce100 (zMd (s:=s) (p:=p1) (n:=n1) (cap:=c1) (l:=l1) (hn:=by assumption) (hln:=by first|rfl|assumption|omega|(rw [Big.zO];omega)|(decide +kernel))) (.c (j:=0) rfl .n) ?_)
 rintro ⟨p23,c24⟩ -
 dsimp only [List.append_eq,List.nil_append,List.cons_append]
 refine zL 3 (by kernel_rfl) (zH rfl rfl rfl rfl (.c rfl .n) ce100 (zQc (z:= - Big.raw s l1) (p:=p23) (cap:=c24) (hln:=by first|rfl|assumption|omega|(rw [Big.zO];omega)|(decide +kernel))) (.c (j:=0) rfl .n) ?_)
 rintro ⟨p25,c26⟩ -
 dsimp only [List.append_eq,List.nil_append,List.cons_append]
 refine zL 6 (by kernel_rfl) (zH rfl rfl rfl rfl (.c rfl .n) ce100 (zMd (s:=t) (p:=p2) (n:=n2) (cap:=c2) (l:=l2) (hn:=by assumption) (hln:=by first|rfl|assumption|omega|(rw [Big.zO];omega)|(decide +kernel))) (.c (j:=3) rfl .n) ?_)
 rintro ⟨p27,c28⟩ -
 dsimp only [List.append_eq,List.nil_append,List.cons_append]
 refine zL 7 (by kernel_rfl) (zH rfl rfl rfl rfl (.c rfl .n) ce100 (zQc (z:= - Big.raw t l2) (p:=p27) (cap:=c28) (hln:=by first|rfl|assumption|omega|(rw [Big.zO];omega)|(decide +kernel))) (.c (j:=0) rfl .n) ?_)
 rintro ⟨p29,c210⟩ -
 dsimp only [List.append_eq,List.nil_append,List.cons_append]
 refine d_pv 8 rfl rfl (by kernel_rfl) (by kernel_rfl) rfl rfl (zK zr32 rfl Tryz.underlying32 (.c sz30 (.c sz30 .n)) (.c rfl (.c rfl .n)) (.c rfl rfl rfl (.take (.take .nil)) (.c rfl rfl rfl (.skip (.skip (.take (.take .nil)))) .n)))<|zL 9 (by kernel_rfl) (zD (by kernel_rfl) rfl rfl rfl rfl rfl sz32 rfl (.take (.take (.take (.take .nil)))) ?_)
 refine zba (by kernel_rfl)<|ze<|zI ?_
 have hz1: - - Big.raw s l1=(Big.qv ((s,l1),(t,l2))).num:=by rw [Int.neg_neg];exact (Big.qv_parts hq).1.symm
 have hz2: - - Big.raw t l2=(((Big.qv ((s,l1),(t,l2))).den:Nat):Int):=by rw [Int.neg_neg];exact (Big.qv_parts hq).2.symm
 exact zE Tryz.results99 (p25,c26,p29,c210) trivial (zt 0 ty32 rfl rfl (.take (.take (.take (.take .nil))))) (by rw [hz1,hz2]) (ho:=(.n:PickO _ _ _)) ((.e (j:=2) rfl (by rw [hz1]) (.e (j:=0) rfl (by rw [hz2]) .n)):SelR _ _ _)
theorem zNd {s:Bool} {p1:Option Addr} {n1:Nat} {c1:Nat} {l1:List Int} {t:Bool} {p2:Option Addr} {n2:Nat} {c2:Nat} {l2:List Int} (hn1:l1.length=n1) (hn2:l2.length=n2) (hm1:n1≤1048576) (hm2:n2≤1048576) (hq:Big.qok ((s,l1),(t,l2))) (hl:Big.hq (Big.qv ((s,l1),(t,l2)))≤1048576):Con Tryz.prog 99 [.agg #[.bool (s),.slice (p1) (n1) (c1),.bool (t),.slice (p2) (n2) (c2)]] [] [slF (rI .u32) (p1) (c1) (l1),slF (rI .u32) (p2) (c2) (l2)] (Y:=(Wd)×(Wd)) (fun y=>True) (fun y=> .agg #[y.1.b,y.1.l,y.2.b,y.2.l]) (fun y=>[]) (fun y=>[qF true y.1 y.2 (Big.qv ((s,l1),(t,l2)))]):=by
  exact con_qr (zqe hn1 hn2 hm1 hm2 hq) rfl rfl hl
theorem zfb {z:Int} (hz: -9223372036854775808≤z∧z≤9223372036854775807):Con Tryz.prog 65 [.int .i64 z] [] [] (Y:=Wd×Wd) (fun y=>True) (fun y=> .agg #[y.1.b,y.1.l,y.2.b,y.2.l]) (fun y=>[]) (fun y=>[qF true y.1 y.2 ((z:Int):Rat)]):=by
 refine zq Tryz.func65 rfl rfl rfl (fun c=> ?_)
 show RunC _ _ _ _ _ [(0,.int .i64 z)] [] []
 refine zi<|zc<|zJ rfl rfl (zw zr32 rfl) (fun b1=> ?_)
 refine zj<|ze<|zi<|zc<|r_pv rfl rfl (za rfl)<|zy rfl rfl (.c rfl .n) ce84 (zOe (z:=z) (hz:=by assumption)) (.n) ?_
 rintro w32 -
 dsimp only [List.append_eq,List.nil_append,List.cons_append]
 refine zy rfl rfl (.c rfl .n) ce84 (zOe (z:=1) (hz:=by first|rfl|assumption|omega|(rw [Big.zO];omega)|(decide +kernel))) (.n) ?_
 rintro w33 -
 dsimp only [List.append_eq,List.nil_append,List.cons_append]
 refine r_pv rfl rfl (zK zr32 rfl Tryz.underlying32 (.c sz30 (.c sz30 .n)) (.c rfl (.c rfl .n)) (.c rfl rfl rfl (.take (.take .nil)) (.c rfl rfl rfl (.skip (.skip (.take (.take .nil)))) .n)))<|zn 0 rfl rfl rfl rfl rfl sz32 rfl (.take (.take (.take (.take .nil)))) .z<|zj<|ze<|zI<|zab (qF true w32 w33 ((z:Int):Rat)) (qF_close 1 0 rfl rfl (by exact ⟨(Rat.num_intCast z).symm,by rw [Rat.den_intCast];rfl,Nat.le_trans (Big.hq_64 hz.1 hz.2) (by decide)⟩)) ?_
 exact zE Tryz.results65 (w32,w33) trivial (zt 0 ty32 rfl rfl (.take (.take (.take (.take .nil))))) rfl (ho:=(.n:PickO _ _ _)) ((.c (j:=0) rfl .n):SelR _ _ _)
theorem zre {s:Bool} {p1:Option Addr} {n1:Nat} {c1:Nat} {l1:List Int} {t:Bool} {p2:Option Addr} {n2:Nat} {c2:Nat} {l2:List Int} (hn1:l1.length=n1) (hn2:l2.length=n2) (hm1:n1≤1048576) (hm2:n2≤1048576):Con Tryz.prog 74 [.agg #[.bool s,.slice p1 n1 c1,.bool t,.slice p2 n2 c2]] [] [slF (rI .u32) p1 c1 l1,slF (rI .u32) p2 c2 l2] (Y:=Wd×Wd) (fun y=>True) (fun y=> .agg #[y.1.b,y.1.l,y.2.b,y.2.l]) (fun y=>[]) (fun y=>[qF true y.1 y.2 (Big.qv ((s,l1),(t,l2)))]):=by
 refine zq Tryz.func74 rfl rfl rfl (fun c=> ?_)
 show RunC _ _ _ _ _ [(0,.agg #[.bool s,.slice p1 n1 c1,.bool t,.slice p2 n2 c2])] [] [slF (rI .u32) p1 c1 l1,slF (rI .u32) p2 c2 l2]
 refine zY 0 rfl (fun hL0=> ?_)
 refine zNa 0 rfl (fun hE0=> ?_)
 refine zY 1 rfl (fun hL1=> ?_)
 refine zNa 1 rfl (fun hE1=> ?_)
 have hnn1:Big.nn l1:=fun g hg=>(zv.1 (hE0 g hg)).1
 have hnn2:Big.nn l2:=fun g hg=>(zv.1 (hE1 g hg)).1
 have hb1:Big.ln (Big.raw s l1)≤n1:=by have:=Big.zOa (s:=s) hnn1;omega
 have hb2:Big.ln (Big.raw t l2)≤n2:=by have:=Big.zOa (s:=t) hnn2;omega
 refine zi<|zc<|zJ rfl rfl (zQ rfl rfl) (fun b1=> ?_)
 refine zJ rfl rfl (zw zr32 rfl) (fun b2=> ?_)
 refine zj<|ze<|zi<|zi<|zc<|r_u rfl rfl (zf 1 ty32 rfl rfl (.take (.take (.take (.take .nil)))))<|zN rfl rfl (.c rfl .n) ce53 (zEc (s:=s) (p1:=p1) (n1:=n1) (c1:=c1) (l1:=l1) (t:=t) (p2:=p2) (n2:=n2) (c2:=c2) (l2:=l2) (hn1:=by assumption) (hn2:=by assumption) (hm1:=by assumption) (hm2:=by assumption)) (.c (j:=0) rfl (.c (j:=1) rfl .n))<|zj<|ze<|zG rfl (fun hq=> ?_) (fun hq=> ?_)
 ·
  have hrp:=Big.raw_parts (x:=((s,l1),(t,l2))) hnn1 hnn2 hq
  have hqp:=Big.qv_parts (x:=((s,l1),(t,l2))) hq
  have hl:Big.hq (Big.qv ((s,l1),(t,l2)))≤1048576:=by unfold Big.hq;rw [hqp.1,hqp.2];dsimp only;omega
  refine zi<|zc<|r_u rfl rfl (zf 1 ty32 rfl rfl (.take (.take (.take (.take .nil)))))<|zy rfl rfl (.c rfl .n) ce99 (zNd (s:=s) (p1:=p1) (n1:=n1) (c1:=c1) (l1:=l1) (t:=t) (p2:=p2) (n2:=n2) (c2:=c2) (l2:=l2) (hn1:=by assumption) (hn2:=by assumption) (hm1:=by assumption) (hm2:=by assumption) (hq:=by first|rfl|assumption|omega|(rw [Big.zO];omega)|(decide +kernel)) (hl:=by first|rfl|assumption|omega|(rw [Big.zO];omega)|(decide +kernel))) (.c (j:=0) rfl (.c (j:=1) rfl .n)) ?_
  rintro ⟨w33,w44⟩ -
  dsimp only [List.append_eq,List.nil_append,List.cons_append]
  refine zn 0 rfl rfl rfl rfl rfl sz32 rfl (.take (.take (.take (.take .nil)))) .z<|zj<|ze<|zI<|zp ?_
  exact zE Tryz.results74 (w33,w44) trivial (zt 0 ty32 rfl rfl (.take (.take (.take (.take .nil))))) rfl (ho:=(.n:PickO _ _ _)) ((.c (j:=0) rfl .n):SelR _ _ _)
 ·
  have hz:=Big.qv_not (x:=((s,l1),(t,l2))) hq
  refine zB<|ze<|zi<|zc<|zy rfl rfl (.c rfl .n) ce65 (zfb (z:=0) (hz:=by first|rfl|assumption|omega|(rw [Big.zO];omega)|(decide +kernel))) (.n) ?_
  rintro ⟨w35,w46⟩ -
  dsimp only [List.append_eq,List.nil_append,List.cons_append]
  refine zn 0 rfl rfl rfl rfl rfl sz32 rfl (.take (.take (.take (.take .nil)))) .z<|zj<|ze<|zI ?_
  exact zE Tryz.results74 (w35,w46) trivial (zt 0 ty32 rfl rfl (.take (.take (.take (.take .nil))))) rfl (ho:=(.n:PickO _ _ _)) ((.e (j:=0) rfl (by rw [hz];rfl) .n):SelR _ _ _)
theorem zQa {k1:Bool} {u1:Wd} {v1:Wd} {q1:Rat}:Con Tryz.prog 74 [.agg #[u1.b,u1.l,v1.b,v1.l]] [] [qF k1 u1 v1 (q1)] (Y:=(Wd)×(Wd)) (fun y=>True) (fun y=> .agg #[y.1.b,y.1.l,y.2.b,y.2.l]) (fun y=>[]) (fun y=>[qF true y.1 y.2 (q1)]):=by
  exact zIe (fun x hx hk h1 h2 hl=>by subst hx;exact zre rfl rfl h1 h2)
theorem zic {k1:Bool} {u1:Wd} {v1:Wd} {q1:Rat} {k2:Bool} {u2:Wd} {v2:Wd} {q2:Rat} (hl:Big.hq q1+Big.hq q2+1≤1048576):Con Tryz.prog 66 [.agg #[u1.b,u1.l,v1.b,v1.l],.agg #[u2.b,u2.l,v2.b,v2.l]] [] [qF k1 u1 v1 q1,qF k2 u2 v2 q2] (Y:=Wd×Wd) (fun y=>True) (fun y=> .agg #[y.1.b,y.1.l,y.2.b,y.2.l]) (fun y=>[]) (fun y=>[qF true y.1 y.2 (q1*q2)]):=by
 refine zq Tryz.func66 rfl rfl rfl (fun c=> ?_)
 show RunC _ _ _ _ _ [(0,.agg #[u1.b,u1.l,v1.b,v1.l]),(1,.agg #[u2.b,u2.l,v2.b,v2.l])] [] [qF k1 u1 v1 q1,qF k2 u2 v2 q2]
 have a1:=Big.hq_num q1
 have a2:=Big.hq_den q1
 have a3:=Big.hq_num q2
 have a4:=Big.hq_den q2
 have b1:=Big.zCa q1.num q2.den
 have b2:=Big.zCa q2.num q1.den
 have b3:=Big.zoc (q1.num*q2.den) (q2.num*q1.den)
 have b4:=Big.zCa (q1.den:Int) q2.den
 have b5:=Big.zCa q1.num q2.num
 refine zi<|zc<|zJ rfl rfl (zQ rfl rfl) (fun b1=> ?_)
 refine zJ rfl rfl (zQ rfl rfl) (fun b2=> ?_)
 refine zJ rfl rfl (zw zr32 rfl) (fun b3=> ?_)
 refine zj<|ze<|zi<|zsa (.c (i:=2) rfl (.c (i:=1) rfl (.c (i:=0) rfl .n)))<|zea (OW:=[boxA b1 32 [u1.b,u1.l,v1.b,v1.l],boxA b2 32 [u2.b,u2.l,v2.b,v2.l]]) (O:=[boxA b3 32 [.bool false,.slice none 0 0,.bool false,.slice none 0 0]]) 4 mixed (.then .ret) (by kernel_rfl)<|d_uw 0 rfl rfl (by kernel_rfl) (by kernel_rfl) (by kernel_rfl) rfl rfl (zf 0 ty32 rfl rfl (.take (.take (.take (.take .nil)))))<|d_uw 2 rfl rfl (by kernel_rfl) (by kernel_rfl) (by kernel_rfl) rfl rfl (zf 1 ty32 rfl rfl (.take (.take (.take (.take .nil)))))<|zL 1 (by kernel_rfl) (zH rfl rfl rfl rfl (.c rfl .n) ce74 (zQa (k1:=k1) (u1:=u1) (v1:=v1) (q1:=q1)) (.c (j:=0) rfl .n) ?_)
 rintro ⟨w34,w45⟩ -
 dsimp only [List.append_eq,List.nil_append,List.cons_append]
 refine zL 3 (by kernel_rfl) (zH rfl rfl rfl rfl (.c rfl .n) ce74 (zQa (k1:=k2) (u1:=u2) (v1:=v2) (q1:=q2)) (.c (j:=2) rfl .n) ?_)
 rintro ⟨w36,w47⟩ -
 dsimp only [List.append_eq,List.nil_append,List.cons_append]
 refine zL 4 (by kernel_rfl) (zD (by kernel_rfl) rfl rfl rfl rfl rfl sz32 rfl (.take (.take (.take (.take .nil)))) ?_)
 refine zJa (zma (i:=1) rfl)<|zL 5 (by kernel_rfl) (zD (by kernel_rfl) rfl rfl rfl rfl rfl sz32 rfl (.take (.take (.take (.take .nil)))) ?_)
 refine zba (by kernel_rfl)<|ze<|zi<|zsa (.c (i:=2) rfl (.c (i:=0) rfl (.c (i:=0) rfl .n)))<|zea (OW:=[boxA b3 32 [.bool false,.slice none 0 0,.bool false,.slice none 0 0]]) (O:=[boxA b2 32 [w36.b,w36.l,w47.b,w47.l],boxA b1 32 [w34.b,w34.l,w45.b,w45.l]]) 11 mixed (.then .ret) (by kernel_rfl)<|d_pv 0 rfl rfl (by kernel_rfl) (by kernel_rfl) rfl rfl (zg Tryz.underlying32 rfl sz30 rfl rfl)<|d_uw 1 rfl rfl (by kernel_rfl) (by kernel_rfl) (by kernel_rfl) rfl rfl (zf 2 ty30 rfl rfl (.take (.take .nil)))<|d_pv 2 rfl rfl (by kernel_rfl) (by kernel_rfl) rfl rfl (zg Tryz.underlying32 rfl sz30 rfl rfl)<|d_uw 3 rfl rfl (by kernel_rfl) (by kernel_rfl) (by kernel_rfl) rfl rfl (zf 1 ty30 rfl rfl (.take (.take .nil)))<|d_pv 5 rfl rfl (by kernel_rfl) (by kernel_rfl) rfl rfl (zg Tryz.underlying32 rfl sz30 rfl rfl)<|d_uw 6 rfl rfl (by kernel_rfl) (by kernel_rfl) (by kernel_rfl) rfl rfl (zf 2 ty30 rfl rfl (.skip (.skip (.take (.take .nil)))))<|d_pv 7 rfl rfl (by kernel_rfl) (by kernel_rfl) rfl rfl (zg Tryz.underlying32 rfl sz30 rfl rfl)<|d_uw 8 rfl rfl (by kernel_rfl) (by kernel_rfl) (by kernel_rfl) rfl rfl (zf 1 ty30 rfl rfl (.skip (.skip (.take (.take .nil)))))<|zxb (qF_open 1 rfl) (fun _ _=> ?_)
 refine zxb (qF_open 2 rfl) (fun _ _=> ?_)
 refine zL 4 (by kernel_rfl) (zH rfl rfl rfl rfl (.c rfl (.c rfl .n)) ce77 (zGb (w1:=w34) (w2:=w36) (x1:=(q1).num) (x2:=(q2).num) (hb1:=by first|rfl|assumption|omega|(rw [Big.zO];omega)|(decide +kernel)) (hb2:=by first|rfl|assumption|omega|(rw [Big.zO];omega)|(decide +kernel))) (.c (j:=2) rfl (.c (j:=0) rfl .n)) ?_)
 rintro w38 -
 dsimp only [List.append_eq,List.nil_append,List.cons_append]
 refine zL 9 (by kernel_rfl) (zH rfl rfl rfl rfl (.c rfl (.c rfl .n)) ce77 (zGb (w1:=w45) (w2:=w47) (x1:=(((q1).den:Nat):Int)) (x2:=(((q2).den:Nat):Int)) (hb1:=by first|rfl|assumption|omega|(rw [Big.zO];omega)|(decide +kernel)) (hb2:=by first|rfl|assumption|omega|(rw [Big.zO];omega)|(decide +kernel))) (.c (j:=4) rfl (.c (j:=2) rfl .n)) ?_)
 rintro w39 -
 dsimp only [List.append_eq,List.nil_append,List.cons_append]
 refine zL 10 (by kernel_rfl) (zH rfl rfl rfl rfl (.c rfl (.c rfl .n)) ce75 (zuc (w1:=w38) (w2:=w39) (x1:=((q1).num)*((q2).num)) (x2:=(((q1).den:Nat):Int)*(((q2).den:Nat):Int)) (hl1:=by first|rfl|assumption|omega|(rw [Big.zO];omega)|(decide +kernel)) (hl2:=by first|rfl|assumption|omega|(rw [Big.zO];omega)|(decide +kernel)) (hd:=by exact Int.mul_ne_zero (Big.den_ne q1) (Big.den_ne q2))) (.c (j:=1) rfl (.c (j:=0) rfl .n)) ?_)
 rintro ⟨w310,w411⟩ -
 dsimp only [List.append_eq,List.nil_append,List.cons_append]
 refine zL 11 (by kernel_rfl) (zD (by kernel_rfl) rfl rfl rfl rfl rfl sz32 rfl (.take (.take (.take (.take .nil)))) ?_)
 refine zba (by kernel_rfl)<|ze<|zI ?_
 exact zE Tryz.results66 (w310,w411) trivial (zt 0 ty32 rfl rfl (.take (.take (.take (.take .nil))))) rfl (ho:=(.n:PickO _ _ _)) ((.e (j:=0) rfl (by rw [Big.mul_parts]) .n):SelR _ _ _)
theorem zpd {k1:Bool} {u1:Wd} {v1:Wd} {q1:Rat} {k2:Bool} {u2:Wd} {v2:Wd} {q2:Rat} (hl:Big.hq q1+Big.hq q2+1≤1048576):Con Tryz.prog 73 [.agg #[u1.b,u1.l,v1.b,v1.l],.agg #[u2.b,u2.l,v2.b,v2.l]] [] [qF k1 u1 v1 q1,qF k2 u2 v2 q2] (Y:=Unit) (fun y=>True) (fun y=> .int .i64 (Big.sgq (q1 - q2))) (fun y=>[]) (fun y=>[]):=by
 refine zq Tryz.func73 rfl rfl rfl (fun c=> ?_)
 show RunC _ _ _ _ _ [(0,.agg #[u1.b,u1.l,v1.b,v1.l]),(1,.agg #[u2.b,u2.l,v2.b,v2.l])] [] [qF k1 u1 v1 q1,qF k2 u2 v2 q2]
 have a1:=Big.hq_num q1
 have a2:=Big.hq_den q1
 have a3:=Big.hq_num q2
 have a4:=Big.hq_den q2
 have b1:=Big.zCa q1.num q2.den
 have b2:=Big.zCa q2.num q1.den
 have b3:=Big.zoc (q1.num*q2.den) (q2.num*q1.den)
 have b4:=Big.zCa (q1.den:Int) q2.den
 have b5:=Big.zCa q1.num q2.num
 refine zi<|zc<|zJ rfl rfl (zQ rfl rfl) (fun b1=> ?_)
 refine zJ rfl rfl (zQ rfl rfl) (fun b2=> ?_)
 refine r_pv rfl rfl (zd rfl)<|zj<|ze<|zi<|zsa (.c (i:=1) rfl (.c (i:=0) rfl .n))<|zea (OW:=[boxA b1 32 [u1.b,u1.l,v1.b,v1.l],boxA b2 32 [u2.b,u2.l,v2.b,v2.l]]) (O:=[]) 4 mixed (.then .ret) (by kernel_rfl)<|d_uw 0 rfl rfl (by kernel_rfl) (by kernel_rfl) (by kernel_rfl) rfl rfl (zf 0 ty32 rfl rfl (.take (.take (.take (.take .nil)))))<|d_uw 2 rfl rfl (by kernel_rfl) (by kernel_rfl) (by kernel_rfl) rfl rfl (zf 1 ty32 rfl rfl (.take (.take (.take (.take .nil)))))<|zL 1 (by kernel_rfl) (zH rfl rfl rfl rfl (.c rfl .n) ce74 (zQa (k1:=k1) (u1:=u1) (v1:=v1) (q1:=q1)) (.c (j:=0) rfl .n) ?_)
 rintro ⟨w33,w44⟩ -
 dsimp only [List.append_eq,List.nil_append,List.cons_append]
 refine zL 3 (by kernel_rfl) (zH rfl rfl rfl rfl (.c rfl .n) ce74 (zQa (k1:=k2) (u1:=u2) (v1:=v2) (q1:=q2)) (.c (j:=2) rfl .n) ?_)
 rintro ⟨w35,w46⟩ -
 dsimp only [List.append_eq,List.nil_append,List.cons_append]
 refine zL 4 (by kernel_rfl) (zD (by kernel_rfl) rfl rfl rfl rfl rfl sz32 rfl (.take (.take (.take (.take .nil)))) ?_)
 refine zJa (zma (i:=1) rfl)<|zL 5 (by kernel_rfl) (zD (by kernel_rfl) rfl rfl rfl rfl rfl sz32 rfl (.take (.take (.take (.take .nil)))) ?_)
 refine zba (by kernel_rfl)<|ze<|zi<|zea (OW:=[]) (O:=[boxA b2 32 [w35.b,w35.l,w46.b,w46.l],boxA b1 32 [w33.b,w33.l,w44.b,w44.l]]) 100000 mixed (.then .ret) (by kernel_rfl)<|d_pv 0 rfl rfl (by kernel_rfl) (by kernel_rfl) rfl rfl (zg Tryz.underlying32 rfl sz30 rfl rfl)<|d_u 1 rfl rfl (by kernel_rfl) (by kernel_rfl) rfl rfl (zf 1 ty30 rfl rfl (.take (.take .nil)))<|d_pv 2 rfl rfl (by kernel_rfl) (by kernel_rfl) rfl rfl (zg Tryz.underlying32 rfl sz30 rfl rfl)<|d_u 3 rfl rfl (by kernel_rfl) (by kernel_rfl) rfl rfl (zf 0 ty30 rfl rfl (.skip (.skip (.take (.take .nil)))))<|d_pv 5 rfl rfl (by kernel_rfl) (by kernel_rfl) rfl rfl (zg Tryz.underlying32 rfl sz30 rfl rfl)<|d_u 6 rfl rfl (by kernel_rfl) (by kernel_rfl) rfl rfl (zf 0 ty30 rfl rfl (.take (.take .nil)))<|d_pv 7 rfl rfl (by kernel_rfl) (by kernel_rfl) rfl rfl (zg Tryz.underlying32 rfl sz30 rfl rfl)<|d_u 8 rfl rfl (by kernel_rfl) (by kernel_rfl) rfl rfl (zf 1 ty30 rfl rfl (.skip (.skip (.take (.take .nil)))))<|zxb (qF_open 1 rfl) (fun _ _=> ?_)
 refine zxb (qF_open 2 rfl) (fun _ _=> ?_)
 refine zL 4 (by kernel_rfl) (zH rfl rfl rfl rfl (.c rfl (.c rfl .n)) ce77 (zGb (w1:=w33) (w2:=w46) (x1:=(q1).num) (x2:=(((q2).den:Nat):Int)) (hb1:=by first|rfl|assumption|omega|(rw [Big.zO];omega)|(decide +kernel)) (hb2:=by first|rfl|assumption|omega|(rw [Big.zO];omega)|(decide +kernel))) (.c (j:=2) rfl (.c (j:=1) rfl .n)) ?_)
 rintro w37 -
 dsimp only [List.append_eq,List.nil_append,List.cons_append]
 refine zL 9 (by kernel_rfl) (zH rfl rfl rfl rfl (.c rfl (.c rfl .n)) ce77 (zGb (w1:=w35) (w2:=w44) (x1:=(q2).num) (x2:=(((q1).den:Nat):Int)) (hb1:=by first|rfl|assumption|omega|(rw [Big.zO];omega)|(decide +kernel)) (hb2:=by first|rfl|assumption|omega|(rw [Big.zO];omega)|(decide +kernel))) (.c (j:=1) rfl (.c (j:=4) rfl .n)) ?_)
 rintro w38 -
 dsimp only [List.append_eq,List.nil_append,List.cons_append]
 refine zL 10 (by kernel_rfl) (zib rfl rfl rfl rfl (.c rfl (.c rfl .n)) ce82 (zod (w1:=w37) (w2:=w38) (x1:=((q1).num)*(((q2).den:Nat):Int)) (x2:=((q2).num)*(((q1).den:Nat):Int))) (.c (j:=1) rfl (.c (j:=0) rfl .n)) ?_)
 refine d_pv 11 rfl rfl (by kernel_rfl) (by kernel_rfl) rfl rfl (zd rfl)<|zba (by kernel_rfl)<|ze<|zI ?_
 exact zE Tryz.results73 () trivial (zo rfl) (by rw [Big.cmp_rat]) (ho:=(.n:PickO _ _ _)) (.n:SelR _ _ _)
theorem zOd {k1:Bool} {u1:Wd} {v1:Wd} {q1:Rat} {k2:Bool} {u2:Wd} {v2:Wd} {q2:Rat} (hl:Big.hq q1+Big.hq q2+1≤1048576):Con Tryz.prog 50 [.agg #[u1.b,u1.l,v1.b,v1.l],.agg #[u2.b,u2.l,v2.b,v2.l]] [] [qF k1 u1 v1 q1,qF k2 u2 v2 q2] (Y:=Wd×Wd) (fun y=>True) (fun y=> .tuple #[.agg #[y.1.b,y.1.l,y.2.b,y.2.l],.int .i64 (if q2=0 then 14 else 0)]) (fun y=>[]) (fun y=>[qF (decide (q2≠0)) y.1 y.2 (q1 / q2)]):=by
 refine zq Tryz.func50 rfl rfl rfl (fun c=> ?_)
 show RunC _ _ _ _ _ [(0,.agg #[u1.b,u1.l,v1.b,v1.l]),(1,.agg #[u2.b,u2.l,v2.b,v2.l])] [] [qF k1 u1 v1 q1,qF k2 u2 v2 q2]
 have a1:=Big.hq_num q1
 have a2:=Big.hq_den q1
 have a3:=Big.hq_num q2
 have a4:=Big.hq_den q2
 have b1:=Big.zCa q1.num q2.den
 have b2:=Big.zCa (q1.den:Int) q2.num
 refine zi<|zc<|zJ rfl rfl (zQ rfl rfl) (fun b1=> ?_)
 refine zJ rfl rfl (zQ rfl rfl) (fun b2=> ?_)
 refine zJ rfl rfl (zw zr32 rfl) (fun b3=> ?_)
 refine r_pv rfl rfl (zd rfl)<|zj<|ze<|zi<|zsa (.c (i:=2) rfl (.c (i:=1) rfl (.c (i:=0) rfl .n)))<|zea (OW:=[boxA b1 32 [u1.b,u1.l,v1.b,v1.l],boxA b2 32 [u2.b,u2.l,v2.b,v2.l]]) (O:=[boxA b3 32 [.bool false,.slice none 0 0,.bool false,.slice none 0 0]]) 4 mixed (.then .ret) (by kernel_rfl)<|d_uw 0 rfl rfl (by kernel_rfl) (by kernel_rfl) (by kernel_rfl) rfl rfl (zf 0 ty32 rfl rfl (.take (.take (.take (.take .nil)))))<|d_uw 2 rfl rfl (by kernel_rfl) (by kernel_rfl) (by kernel_rfl) rfl rfl (zf 1 ty32 rfl rfl (.take (.take (.take (.take .nil)))))<|zL 1 (by kernel_rfl) (zH rfl rfl rfl rfl (.c rfl .n) ce74 (zQa (k1:=k1) (u1:=u1) (v1:=v1) (q1:=q1)) (.c (j:=0) rfl .n) ?_)
 rintro ⟨w34,w45⟩ -
 dsimp only [List.append_eq,List.nil_append,List.cons_append]
 refine zL 3 (by kernel_rfl) (zH rfl rfl rfl rfl (.c rfl .n) ce74 (zQa (k1:=k2) (u1:=u2) (v1:=v2) (q1:=q2)) (.c (j:=2) rfl .n) ?_)
 rintro ⟨w36,w47⟩ -
 dsimp only [List.append_eq,List.nil_append,List.cons_append]
 refine zL 4 (by kernel_rfl) (zD (by kernel_rfl) rfl rfl rfl rfl rfl sz32 rfl (.take (.take (.take (.take .nil)))) ?_)
 refine zJa (zma (i:=1) rfl)<|zL 5 (by kernel_rfl) (zD (by kernel_rfl) rfl rfl rfl rfl rfl sz32 rfl (.take (.take (.take (.take .nil)))) ?_)
 refine zba (by kernel_rfl)<|ze<|zi<|zi<|zc<|r_pv rfl rfl (zg Tryz.underlying32 rfl sz30 rfl rfl)<|r_u rfl rfl (zf 0 ty30 rfl rfl (.take (.take .nil)))<|zkc (qF_open 0 rfl) (fun _ _=> ?_)
 refine zN rfl rfl (.c rfl .n) ce79 (zmd (w1:=w36) (x1:=(q2).num)) (.c (j:=0) rfl .n)<|r_pv rfl rfl (zva rfl rfl)<|zj<|ze<|zG rfl (fun hz0=> ?_) (fun hz0=> ?_)
 ·
  have hx0:q2=0:=Rat.num_eq_zero.1 (Big.sign_zero.1 hz0)
  refine zi<|zc<|r_pv rfl rfl (zK zr32 rfl Tryz.underlying32 (.c sz30 (.c sz30 .n)) .n .n)<|zn 2 rfl rfl rfl rfl rfl sz32 rfl (.take (.take (.take (.take .nil)))) (.s (.s .z))<|r_pv rfl rfl (zd rfl)<|zj<|ze<|zI<|zp<|zab (qF false wz wz 0) (fun g _=>qF_none g) ?_
  exact zBa Tryz.results50 (wz,wz) trivial (zt 2 ty32 rfl rfl (.take (.take (.take (.take .nil))))) (zo rfl) (by rw [if_pos hx0];rfl) (ho:=(.n:PickO _ _ _)) ((.e (j:=0) rfl (by rw [Big.div_nil hx0,decide_eq_false (not_not_intro hx0)]) .n):SelR _ _ _)
 ·
  have hx1:q2.num≠0:=fun e=>hz0 (Big.sign_zero.2 e)
  have hx0:q2≠0:=fun e=>hx1 (Rat.num_eq_zero.2 e)
  refine zB<|ze<|zi<|zsa (.c (i:=2) rfl (.c (i:=0) rfl (.c (i:=0) rfl .n)))<|zea (OW:=[boxA b3 32 [.bool false,.slice none 0 0,.bool false,.slice none 0 0]]) (O:=[boxA b2 32 [w36.b,w36.l,w47.b,w47.l],boxA b1 32 [w34.b,w34.l,w45.b,w45.l]]) 11 mixed (.then .ret) (by kernel_rfl)<|d_pv 0 rfl rfl (by kernel_rfl) (by kernel_rfl) rfl rfl (zg Tryz.underlying32 rfl sz30 rfl rfl)<|d_uw 1 rfl rfl (by kernel_rfl) (by kernel_rfl) (by kernel_rfl) rfl rfl (zf 2 ty30 rfl rfl (.take (.take .nil)))<|d_pv 2 rfl rfl (by kernel_rfl) (by kernel_rfl) rfl rfl (zg Tryz.underlying32 rfl sz30 rfl rfl)<|d_uw 3 rfl rfl (by kernel_rfl) (by kernel_rfl) (by kernel_rfl) rfl rfl (zf 1 ty30 rfl rfl (.skip (.skip (.take (.take .nil)))))<|d_pv 5 rfl rfl (by kernel_rfl) (by kernel_rfl) rfl rfl (zg Tryz.underlying32 rfl sz30 rfl rfl)<|d_uw 6 rfl rfl (by kernel_rfl) (by kernel_rfl) (by kernel_rfl) rfl rfl (zf 2 ty30 rfl rfl (.skip (.skip (.take (.take .nil)))))<|d_pv 7 rfl rfl (by kernel_rfl) (by kernel_rfl) rfl rfl (zg Tryz.underlying32 rfl sz30 rfl rfl)<|d_uw 8 rfl rfl (by kernel_rfl) (by kernel_rfl) (by kernel_rfl) rfl rfl (zf 1 ty30 rfl rfl (.take (.take .nil)))<|zxb (qF_open 3 rfl) (fun _ _=> ?_)
  refine zL 4 (by kernel_rfl) (zH rfl rfl rfl rfl (.c rfl (.c rfl .n)) ce77 (zGb (w1:=w34) (w2:=w47) (x1:=(q1).num) (x2:=(((q2).den:Nat):Int)) (hb1:=by first|rfl|assumption|omega|(rw [Big.zO];omega)|(decide +kernel)) (hb2:=by first|rfl|assumption|omega|(rw [Big.zO];omega)|(decide +kernel))) (.c (j:=0) rfl (.c (j:=3) rfl .n)) ?_)
  rintro w38 -
  dsimp only [List.append_eq,List.nil_append,List.cons_append]
  refine zL 9 (by kernel_rfl) (zH rfl rfl rfl rfl (.c rfl (.c rfl .n)) ce77 (zGb (w1:=w45) (w2:=w36) (x1:=(((q1).den:Nat):Int)) (x2:=(q2).num) (hb1:=by first|rfl|assumption|omega|(rw [Big.zO];omega)|(decide +kernel)) (hb2:=by first|rfl|assumption|omega|(rw [Big.zO];omega)|(decide +kernel))) (.c (j:=2) rfl (.c (j:=3) rfl .n)) ?_)
  rintro w39 -
  dsimp only [List.append_eq,List.nil_append,List.cons_append]
  refine zL 10 (by kernel_rfl) (zH rfl rfl rfl rfl (.c rfl (.c rfl .n)) ce75 (zuc (w1:=w38) (w2:=w39) (x1:=((q1).num)*(((q2).den:Nat):Int)) (x2:=(((q1).den:Nat):Int)*((q2).num)) (hl1:=by first|rfl|assumption|omega|(rw [Big.zO];omega)|(decide +kernel)) (hl2:=by first|rfl|assumption|omega|(rw [Big.zO];omega)|(decide +kernel)) (hd:=by exact Int.mul_ne_zero (Big.den_ne q1) hx1)) (.c (j:=1) rfl (.c (j:=0) rfl .n)) ?_)
  rintro ⟨w310,w411⟩ -
  dsimp only [List.append_eq,List.nil_append,List.cons_append]
  refine zL 11 (by kernel_rfl) (zD (by kernel_rfl) rfl rfl rfl rfl rfl sz32 rfl (.take (.take (.take (.take .nil)))) ?_)
  refine d_pv 12 rfl rfl (by kernel_rfl) (by kernel_rfl) rfl rfl (zd rfl)<|zba (by kernel_rfl)<|ze<|zI ?_
  exact zBa Tryz.results50 (w310,w411) trivial (zt 0 ty32 rfl rfl (.take (.take (.take (.take .nil))))) (zo rfl) (by rw [if_neg hx0]) (ho:=(.n:PickO _ _ _)) ((.e (j:=0) rfl (by rw [decide_eq_true hx0,Big.div_parts hx1]) .n):SelR _ _ _)
theorem zSb {k1:Bool} {u1:Wd} {v1:Wd} {q1:Rat} {k2:Bool} {u2:Wd} {v2:Wd} {q2:Rat} (hl:Big.hq q1+Big.hq q2+1≤1048576) (hy:q2≠0):Con Tryz.prog 50 [.agg #[u1.b,u1.l,v1.b,v1.l],.agg #[u2.b,u2.l,v2.b,v2.l]] [] [qF k1 u1 v1 (q1),qF k2 u2 v2 (q2)] (Y:=(Wd)×(Wd)) (fun y=>True) (fun y=> .tuple #[.agg #[y.1.b,y.1.l,y.2.b,y.2.l],.int .i64 (0)]) (fun y=>[]) (fun y=>[qF true y.1 y.2 (q1 / q2)]):=by
  have h:= @zOd k1 u1 v1 q1 k2 u2 v2 q2 hl
  rw [if_neg hy,decide_eq_true hy] at h
  exact h
end Go.Proofs.YtkamccndgblheaaGreat.Sp
namespace Go.Proofs.YtkamccndgblheaaGreat.Sp
open Go
set_option linter.unusedVariables false
set_option maxRecDepth 100000
set_option maxHeartbeats 1000000
theorem zQf {s:Bool} {p:Option Addr} {n:Nat} {cap:Nat} {l:List Int} (hn:l.length=n) (hln:Big.ln (Big.raw s l)≤1099511627776):Con Tryz.prog 96 [.agg #[.bool s,.slice p n cap]] [] [slF (rI .u32) p cap l] (Y:=(Option Addr)×Nat) (fun y=>True) (fun y=> .agg #[.bool (decide ((((Big.raw s l).natAbs:Nat):Int)<0)),.slice (y.1) ((Big.digs ((((Big.raw s l).natAbs:Nat):Int).natAbs)).length) (y.2)]) (fun y=>[]) (fun y=>[slF (rI .u32) (y.1) (y.2) (Big.digs ((((Big.raw s l).natAbs:Nat):Int).natAbs))]):=by
 refine zq Tryz.func96 rfl rfl rfl (fun c=> ?_)
 show RunC _ _ _ _ _ [(0,.agg #[.bool s,.slice p n cap])] [] [slF (rI .u32) p cap l]
 refine zY 0 rfl (fun hL0=> ?_)
 refine zNa 0 rfl (fun hE0=> ?_)
 have hnn:Big.nn l:=fun g hg=>(zv.1 (hE0 g hg)).1
 unfold Big.ln at hln
 refine zi<|zc<|zJ rfl rfl (zQ rfl rfl) (fun b1=> ?_)
 refine zJ rfl rfl (zw zr30 rfl) (fun b2=> ?_)
 refine zj<|ze<|zi<|zc<|r_u rfl rfl (zf 1 ty30 rfl rfl (.take (.take .nil)))<|zy rfl rfl (.c rfl .n) ce103 (zRa (s:=s) (p:=p) (n:=n) (cap:=cap) (l:=l) (hn:=by assumption)) (.c (j:=0) rfl .n) ?_
 rintro ⟨p23,c24⟩ -
 dsimp only [List.append_eq,List.nil_append,List.cons_append]
 refine zy rfl rfl (.c rfl .n) ce113 (zgc (a:=(Big.raw s l).natAbs) (p:=p23) (cap:=c24) (hb:=by first|rfl|assumption|omega|(simp;done)|(simp;omega)|(simp_all;done))) (.c (j:=0) rfl .n) ?_
 rintro ⟨p25,c26⟩ -
 dsimp only [List.append_eq,List.nil_append,List.cons_append]
 refine zy rfl rfl (.c rfl (.c rfl .n)) ce104 (zAa (s:=false) (a:=((Big.raw s l).natAbs)) (p:=p25) (cap:=c26)) (.c (j:=0) rfl .n) ?_
 rintro ⟨p27,c28⟩ -
 dsimp only [List.append_eq,List.nil_append,List.cons_append]
 refine zn 0 rfl rfl rfl rfl rfl sz30 rfl (.take (.take .nil)) .z<|zj<|ze<|zI ?_
 have hz:Big.sg false ((Big.raw s l).natAbs:Int)=(((Big.raw s l).natAbs:Nat):Int):=rfl
 exact zE Tryz.results96 (p27,c28) trivial (zt 0 ty30 rfl rfl (.take (.take .nil))) (by rw [hz]) (ho:=(.n:PickO _ _ _)) ((.e (j:=0) rfl (by rw [hz]) .n):SelR _ _ _)
theorem zsf {z:Int} {p:Option Addr} {cap:Nat} (hln:Big.ln z≤1099511627776):Con Tryz.prog 96 [.agg #[.bool (decide ((z)<0)),.slice (p) ((Big.digs ((z).natAbs)).length) (cap)]] [] [slF (rI .u32) (p) (cap) (Big.digs ((z).natAbs))] (Y:=(Option Addr)×(Nat)) (fun y=>True) (fun y=> .agg #[.bool (decide ((((z.natAbs:Nat):Int))<0)),.slice (y.1) ((Big.digs ((((z.natAbs:Nat):Int)).natAbs)).length) (y.2)]) (fun y=>[]) (fun y=>[slF (rI .u32) (y.1) (y.2) (Big.digs ((((z.natAbs:Nat):Int)).natAbs))]):=by
  have h:= @zQf (decide ((z)<0)) p (Big.digs (z).natAbs).length cap (Big.digs (z).natAbs) rfl (by rw [Big.raw_big];exact hln)
  rw [Big.raw_big] at h
  exact h
theorem ztf {w1:Wd} {x1:Int} (hln:Big.ln x1≤1099511627776):Con Tryz.prog 96 [.agg #[w1.b,w1.l]] [] [zF w1 (x1)] (Y:=(Wd)) (fun y=>True) (fun y=> .agg #[y.b,y.l]) (fun y=>[]) (fun y=>[zF y (((x1.natAbs:Nat):Int))]):=by
  exact zJb (zid (fun p c=>zsf hln))
end Go.Proofs.YtkamccndgblheaaGreat.Sp
namespace Go.Proofs.YtkamccndgblheaaGreat.Sp
open Go
set_option linter.unusedVariables false
set_option maxRecDepth 100000
set_option maxHeartbeats 1000000
theorem zhe {k1:Bool} {u1:Wd} {v1:Wd} {q1:Rat} (hl:Big.hq q1≤1048576):Con Tryz.prog 67 [.agg #[u1.b,u1.l,v1.b,v1.l]] [] [qF k1 u1 v1 q1] (Y:=Wd×Wd) (fun y=>True) (fun y=> .agg #[y.1.b,y.1.l,y.2.b,y.2.l]) (fun y=>[]) (fun y=>[qF true y.1 y.2 (Big.qabs q1)]):=by
 refine zq Tryz.func67 rfl rfl rfl (fun c=> ?_)
 show RunC _ _ _ _ _ [(0,.agg #[u1.b,u1.l,v1.b,v1.l])] [] [qF k1 u1 v1 q1]
 have a1:=Big.hq_num q1
 have a2:=Big.hq_den q1
 refine zi<|zc<|zJ rfl rfl (zQ rfl rfl) (fun b1=> ?_)
 refine zJ rfl rfl (zw zr32 rfl) (fun b2=> ?_)
 refine zj<|ze<|zi<|zc<|r_u rfl rfl (zf 1 ty32 rfl rfl (.take (.take (.take (.take .nil)))))<|zy rfl rfl (.c rfl .n) ce74 (zQa (k1:=k1) (u1:=u1) (v1:=v1) (q1:=q1)) (.c (j:=0) rfl .n) ?_
 rintro ⟨w33,w44⟩ -
 dsimp only [List.append_eq,List.nil_append,List.cons_append]
 refine zn 1 rfl rfl rfl rfl rfl sz32 rfl (.take (.take (.take (.take .nil)))) (.s .z)<|zj<|ze<|zi<|zea (OW:=[boxA b2 32 [.bool false,.slice none 0 0,.bool false,.slice none 0 0]]) (O:=[boxA b1 32 [w33.b,w33.l,w44.b,w44.l]]) 6 mixed (.then .ret) (by kernel_rfl)<|d_pv 0 rfl rfl (by kernel_rfl) (by kernel_rfl) rfl rfl (zg Tryz.underlying32 rfl sz30 rfl rfl)<|d_uw 1 rfl rfl (by kernel_rfl) (by kernel_rfl) (by kernel_rfl) rfl rfl (zf 1 ty30 rfl rfl (.take (.take .nil)))<|d_pv 3 rfl rfl (by kernel_rfl) (by kernel_rfl) rfl rfl (zg Tryz.underlying32 rfl sz30 rfl rfl)<|d_uw 4 rfl rfl (by kernel_rfl) (by kernel_rfl) (by kernel_rfl) rfl rfl (zf 1 ty30 rfl rfl (.skip (.skip (.take (.take .nil)))))<|zxb (qF_open 0 rfl) (fun _ _=> ?_)
 refine zL 2 (by kernel_rfl) (zH rfl rfl rfl rfl (.c rfl .n) ce96 (ztf (w1:=w33) (x1:=(q1).num) (hln:=by first|rfl|assumption|omega|(rw [Big.zO];omega)|(decide +kernel))) (.c (j:=0) rfl .n) ?_)
 rintro w35 -
 dsimp only [List.append_eq,List.nil_append,List.cons_append]
 refine d_pv 5 rfl rfl (by kernel_rfl) (by kernel_rfl) rfl rfl (zK zr32 rfl Tryz.underlying32 (.c sz30 (.c sz30 .n)) (.c rfl (.c rfl .n)) (.c rfl rfl rfl (.take (.take .nil)) (.c rfl rfl rfl (.skip (.skip (.take (.take .nil)))) .n)))<|zL 6 (by kernel_rfl) (zD (by kernel_rfl) rfl rfl rfl rfl rfl sz32 rfl (.take (.take (.take (.take .nil)))) ?_)
 refine zba (by kernel_rfl)<|ze<|zI<|zab (qF true w35 w44 (Big.qabs q1)) (qF_close 0 2 rfl rfl (by exact ⟨(Big.qabs_num q1).symm,by rw [Big.qabs_den],by rw [Big.hq_qabs];exact hl⟩)) ?_
 exact zE Tryz.results67 (w35,w44) trivial (zt 0 ty32 rfl rfl (.take (.take (.take (.take .nil))))) rfl (ho:=(.n:PickO _ _ _)) ((.c (j:=0) rfl .n):SelR _ _ _)
end Go.Proofs.YtkamccndgblheaaGreat.Sp
namespace Go.Proofs.YtkamccndgblheaaGreat.Cr
theorem rokN {w h m:Int} {l:List Int} {n:Nat} (k:Bl.rok w h m l) (hn:l.length=n):∃u v:Nat,w=(u:Int)∧h=(v:Int)∧(1≤u∧u≤64)∧(1≤v∧v≤64)∧n=u*v∧n≤4096∧∀i,i<n→0≤l.getD i 0∧l.getD i 0≤65535:=by
  obtain ⟨hw,hh,hm,hl,hx⟩:=k
  refine ⟨w.toNat,h.toNat,by omega,by omega,by omega,by omega,?_,?_,?_⟩
  · have e : ((w.toNat * h.toNat : Nat) : Int) = w * h := by rw [Int.natCast_mul, Int.toNat_of_nonneg (by omega), Int.toNat_of_nonneg (by omega)]
    omega
  · have:=Bl.mul_b (x:=w) (y:=h) (m:=64) (n:=64) (by omega) (by omega);omega
  · intro i hi
    have hm2:=Big.getD_mem (l:=l) (i:=i) (by omega)
    have:¬(l.getD i 0<0∨m<l.getD i 0):=fun e=>hx ⟨_,hm2,e⟩
    omega
def pos (w1 h1 w2 h2 x y:Int):Prop:=0≤x∧0≤y∧x≤w2 - w1∧y≤h2 - h1
instance (w1 h1 w2 h2 x y:Int):Decidable (pos w1 h1 w2 h2 x y):=inferInstanceAs (Decidable (_∧_))
def rk2 (w1 h1 m1:Int) (l1:List Int) (w2 h2 m2:Int) (l2:List Int):Prop:=Bl.rok w1 h1 m1 l1∧Bl.rok w2 h2 m2 l2
instance (w1 h1 m1:Int) (l1:List Int) (w2 h2 m2:Int) (l2:List Int):Decidable (rk2 w1 h1 m1 l1 w2 h2 m2 l2):=inferInstanceAs (Decidable (_∧_))
def sok (w1 h1 m1:Int) (l1:List Int) (w2 h2 m2:Int) (l2:List Int) (x y:Int):Prop:=rk2 w1 h1 m1 l1 w2 h2 m2 l2∧pos w1 h1 w2 h2 x y
instance (w1 h1 m1:Int) (l1:List Int) (w2 h2 m2:Int) (l2:List Int) (x y:Int):Decidable (sok w1 h1 m1 l1 w2 h2 m2 l2 x y):=inferInstanceAs (Decidable (_∧_))
def scq (l1 l2:List Int) (w1 h1 w2 x y:Int):Rat:=scr l1 l2 w1.toNat h1.toNat l1.length w2.toNat y.toNat x.toNat
theorem scq_nat {l1 l2:List Int} {w1 h1 n1 w2 x y:Nat} (hn:l1.length=n1):scr l1 l2 w1 h1 n1 w2 y x=scq l1 l2 w1 h1 w2 x y:=by subst hn;rfl
theorem sub_pos {a b:Rat}:0<a - b↔b<a:=by grind
theorem getD_memG {α:Type} {l:List α} {i:Nat} {d:α} (h:i<l.length):l.getD i d∈l:=by rw [List.getD_eq_getElem?_getD,List.getElem?_eq_getElem h];exact List.getElem_mem h
theorem mem_getDG {α:Type} {l:List α} {d g:α} (h:g∈l):∃i,i<l.length∧l.getD i d=g:=by
  obtain ⟨i,hi,e⟩:=List.getElem_of_mem h
  exact ⟨i,hi,by rw [List.getD_eq_getElem?_getD,List.getElem?_eq_getElem hi];exact e⟩
abbrev Pk:=Option (Int×Int×Rat)
theorem bnt {b:Bool} (h:(!b)=true):b=false:=by cases b;rfl;cases h
theorem bnf {b:Bool} (h:(!b)=false):b=true:=by cases b;cases h;rfl
theorem none_of {a:Pk} (h:a.isSome=false):a=none:=by cases a;rfl;cases h
def pX:Pk→Int|none=>0|some b=>b.1
def pY:Pk→Int|none=>0|some b=>b.2.1
def pQ:Pk→Rat|none=>0|some b=>b.2.2
def stp (f:Int→Int→Option Rat) (a:Pk) (x y:Int):Pk:=
  match f x y with
  |none=>a
  |some q=>if a.isSome=false∨pQ a<q then some (x,y,q) else a
def rowP (f:Int→Int→Option Rat) (le y:Int) (a:Pk):Nat→Pk
  |0=>a
  |k+1=>stp f (rowP f le y a k) (le+k) y
def allP (f:Int→Int→Option Rat) (le tp:Int) (k:Nat):Nat→Pk
  |0=>none
  |j+1=>rowP f le (tp+j) (allP f le tp k j) k
theorem stp_none {f:Int→Int→Option Rat} {a:Pk} {x y:Int} (h:f x y=none):stp f a x y=a:=by unfold stp;rw [h]
theorem stp_new {f:Int→Int→Option Rat} {a:Pk} {x y:Int} {q:Rat} (h:f x y=some q) (k:a.isSome=false∨pQ a<q):stp f a x y=some (x,y,q):=by unfold stp;rw [h];exact if_pos k
theorem stp_old {f:Int→Int→Option Rat} {a:Pk} {x y:Int} {q:Rat} (h:f x y=some q) (k:¬(a.isSome=false∨pQ a<q)):stp f a x y=a:=by unfold stp;rw [h];exact if_neg k
def pat (l1 l2:List Int) (w1 h1 w2 h2 x y:Int):Option Rat:=if pos w1 h1 w2 h2 x y then some (scq l1 l2 w1 h1 w2 x y) else none
theorem pat_some {l1 l2:List Int} {w1 h1 n1 w2 h2:Nat} {x y:Int} (hn:l1.length=n1) (h:pos w1 h1 w2 h2 x y):pat l1 l2 w1 h1 w2 h2 x y=some (scr l1 l2 w1 h1 n1 w2 y.toNat x.toNat):=by
  unfold pat;rw [if_pos h];subst hn;rfl
theorem pat_none {l1 l2:List Int} {w1 h1 w2 h2 x y:Int} (h:¬pos w1 h1 w2 h2 x y):pat l1 l2 w1 h1 w2 h2 x y=none:=if_neg h
def best (l1 l2:List Int) (w1 h1 w2 h2:Int):Pk:=allP (pat l1 l2 w1 h1 w2 h2) 0 0 (w2 - 0+1).toNat (h2 - 0+1).toNat
theorem I64.of {z:Int} (h: -9223372036854775808≤z∧z≤9223372036854775807):I64 z:=h
section
variable {l1 l2 : List Int} {w1 h1 n1 w2 h2 n2 yy xx : Nat} (hg1 : ∀ i, i < n1 → 0 ≤ l1.getD i 0 ∧ l1.getD i 0 ≤ 65535) (hg2 : ∀ i, i < n2 → 0 ≤ l2.getD i 0 ∧ l2.getD i 0 ≤ 65535) (hw : 1 ≤ w1 ∧ w1 ≤ 64) (hh : 1 ≤ h1 ∧ h1 ≤ 64) (h1n : n1 = w1 * h1) (h2n : n2 = w2 * h2) (hb : n1 ≤ 4096) (hx : xx + w1 ≤ w2) (hy : yy + h1 ≤ h2)
include hg1 hg2 hw hh h1n h2n hb hx hy
theorem scr_hq:Big.hq (scr l1 l2 w1 h1 n1 w2 yy xx)≤6:=by
  have hcb:=crs_b hg1 hg2 hw h1n h2n hb hx hy (Nat.le_refl n1)
  have hbp:=boxp_b hg2 hw hh h1n h2n hx hy
  have hbq:=boxq_b hg2 hw hh h1n h2n hx hy
  have hs1:=px_sum (l:=l1) hg1 hb (Nat.le_refl n1)
  have hs2:=sq_sum (l:=l1) hg1 hb (Nat.le_refl n1)
  have hq1:=Bl.mul_b (x:=((n1:Nat):Int)) (m:=4096) (by omega) hcb
  have hq2:=Bl.mul_b (x:=((n1:Nat):Int)) (m:=4096) (by omega) hbq
  have hq3:=Bl.mul_b (x:=((n1:Nat):Int)) (m:=4096) (by omega) hs2
  have hq4:=Bl.mul_b hbp hbp
  have hq5:=Bl.mul_b hs1 hbp
  have hq6:=Bl.mul_b hs1 hs1
  unfold scr
  refine sc_hq ?_ ?_ ?_
  · unfold cc;omega
  · unfold va;omega
  · unfold vb;omega
end
theorem allP_hq {f:Int→Int→Option Rat} (h:∀x y q,f x y=some q→Big.hq q≤6) (le tp:Int) (k j:Nat):Big.hq (pQ (allP f le tp k j))≤6:=by
  have hr:∀(y:Int) (a:Pk) (i:Nat),Big.hq (pQ a)≤6→Big.hq (pQ (rowP f le y a i))≤6:=fun y a i ha=>by
    induction i with
    |zero=>exact ha
    |succ i ih=>
      rw [rowP];unfold stp
      split
      · exact ih
      · rename_i q e; split
        · exact h _ _ _ e
        · exact ih
  induction j with
  |zero=>show Big.hq (0:Rat)≤6;decide
  |succ j ih=>exact hr _ _ _ ih
theorem best_hq {l1 l2:List Int} {w1 h1 n1 w2 h2 n2:Nat} (hn1:l1.length=n1) (hg1:∀i,i<n1→0≤l1.getD i 0∧l1.getD i 0≤65535) (hg2:∀i,i<n2→0≤l2.getD i 0∧l2.getD i 0≤65535) (hw:1≤w1∧w1≤64) (hh:1≤h1∧h1≤64) (h1n:n1=w1*h1) (h2n:n2=w2*h2) (hb:n1≤4096):Big.hq (pQ (best l1 l2 w1 h1 w2 h2))≤6:=by
  refine allP_hq (fun x y q e=> ?_) _ _ _ _
  by_cases hp:pos w1 h1 w2 h2 x y
  · rw [pat_some hn1 hp] at e
    obtain rfl:=Option.some.inj e
    obtain ⟨a,b,c,d⟩:=hp
    exact scr_hq hg1 hg2 hw hh h1n h2n hb (by omega) (by omega)
  · rw [pat_none hp] at e;cases e
end Go.Proofs.YtkamccndgblheaaGreat.Cr
namespace Go.Proofs.YtkamccndgblheaaGreat.Sp
open Go
set_option linter.unusedVariables false
set_option maxRecDepth 100000
set_option maxHeartbeats 1000000
theorem zqd {w1:Nat} {vh1:Nat} {m1:Int} {p1:Option Addr} {n1:Nat} {c1:Nat} {l1:List Int} {w2:Nat} {vh2:Nat} {m2:Int} {p2:Option Addr} {n2:Nat} {c2:Nat} {l2:List Int} {bm:Nat} {ps:Option Addr} {cs:Nat} {pq:Option Addr} {cq:Nat} {xx:Nat} {yy:Nat} (hn1:l1.length=n1) (hw1:1≤w1∧w1≤64) (hh1:1≤vh1∧vh1≤64) (hwh1:n1=w1*vh1) (hb1:n1≤4096) (hg1:∀i,i<n1→0≤l1.getD i 0∧l1.getD i 0≤65535) (hn2:l2.length=n2) (hw2:1≤w2∧w2≤64) (hh2:1≤vh2∧vh2≤64) (hwh2:n2=w2*vh2) (hb2:n2≤4096) (hg2:∀i,i<n2→0≤l2.getD i 0∧l2.getD i 0≤65535) (hx:xx+w1≤w2) (hy:yy+vh1≤vh2):Con Tryz.prog 37 [.pointer (some ⟨bm,0,none⟩),.int .i64 ((xx:Nat):Int),.int .i64 ((yy:Nat):Int)] [] [atF bm 0 [.int .i64 ((w1:Nat):Int),.int .i64 ((vh1:Nat):Int),.int .i64 m1,.slice p1 n1 c1,.int .i64 ((w2:Nat):Int),.int .i64 ((vh2:Nat):Int),.int .i64 m2,.slice p2 n2 c2,.slice ps (vh2+1) cs,.slice pq (vh2+1) cq,.int .i64 (Cr.sumN (Cr.px l1) n1),.int .i64 ((((n1:Nat):Int)*(Cr.sumN (Cr.sq l1) n1)) - ((Cr.sumN (Cr.px l1) n1)*(Cr.sumN (Cr.px l1) n1)))],slF (rI .i64) p1 c1 l1,slF (rI .i64) p2 c2 l2,slF (rS (rI .i64)) ps cs (Cr.tab (Cr.px l2) w2 (vh2+1)),slF (rS (rI .i64)) pq cq (Cr.tab (Cr.sq l2) w2 (vh2+1))] (Y:=Wd×Wd) (fun y=>True) (fun y=> .agg #[y.1.b,y.1.l,y.2.b,y.2.l]) (fun y=>[]) (fun y=>[qF true y.1 y.2 (Cr.scr l1 l2 w1 vh1 n1 w2 yy xx)]):=by
 refine zq Tryz.func37 rfl rfl rfl (fun c=> ?_)
 show RunC _ _ _ _ _ [(0,.pointer (some ⟨bm,0,none⟩)),(1,.int .i64 ((xx:Nat):Int)),(2,.int .i64 ((yy:Nat):Int))] [] [atF bm 0 [.int .i64 ((w1:Nat):Int),.int .i64 ((vh1:Nat):Int),.int .i64 m1,.slice p1 n1 c1,.int .i64 ((w2:Nat):Int),.int .i64 ((vh2:Nat):Int),.int .i64 m2,.slice p2 n2 c2,.slice ps (vh2+1) cs,.slice pq (vh2+1) cq,.int .i64 (Cr.sumN (Cr.px l1) n1),.int .i64 ((((n1:Nat):Int)*(Cr.sumN (Cr.sq l1) n1)) - ((Cr.sumN (Cr.px l1) n1)*(Cr.sumN (Cr.px l1) n1)))],slF (rI .i64) p1 c1 l1,slF (rI .i64) p2 c2 l2,slF (rS (rI .i64)) ps cs (Cr.tab (Cr.px l2) w2 (vh2+1)),slF (rS (rI .i64)) pq cq (Cr.tab (Cr.sq l2) w2 (vh2+1))]
 refine zY 1 rfl (fun hL1=> ?_)
 refine zY 2 rfl (fun hL2=> ?_)
 refine zY 3 rfl (fun hL3=> ?_)
 refine zY 4 rfl (fun hL4=> ?_)
 refine zi<|zc<|zJ rfl rfl (zw zr32 rfl) (fun b1=> ?_)
 refine zj<|ze<|zi<|zc<|r_pv rfl rfl (za rfl)<|r_pv rfl rfl (zia rfl)<|r_pv rfl rfl (zg Tryz.underlying103 rfl sz24 rfl rfl)<|r_pv rfl rfl (zg Tryz.underlying24 rfl sz3 rfl rfl)<|r_u rfl rfl (zk (j:=0) 0 ty3 rfl rfl rfl rfl)<|r_pv rfl rfl (zd rfl)<|zj<|ze<|zi<|zc<|r_pv rfl rfl (zd rfl)<|zj<|ze<|zi<|zi<|zc<|r_pv rfl rfl (za rfl)<|r_pv rfl rfl (zia rfl)<|r_pv rfl rfl (zg Tryz.underlying103 rfl sz24 rfl rfl)<|r_pv rfl rfl (zg Tryz.underlying24 rfl sz22 rfl rfl)<|r_u rfl rfl (zk (j:=3) 0 ty22 rfl rfl rfl rfl)<|r_pv rfl rfl (zM Tryz.underlying22 rfl)<|r_pv rfl rfl (za rfl)<|zj<|ze<|zA<|zka (X:=Nat) (fun x:Nat=>x≤n1) (fun x=>[(8,.int .i64 (Cr.crs l1 l2 w1 w2 yy xx x)),(28,.int .i64 ((x:Nat):Int)),(27,.int .i64 ((n1:Nat):Int)),(26,.slice p1 n1 c1),(7,.int .i64 ((w1:Nat):Int)),(6,.pointer (some ⟨b1,0,none⟩)),(0,.pointer (some ⟨bm,0,none⟩)),(1,.int .i64 ((xx:Nat):Int)),(2,.int .i64 ((yy:Nat):Int))]) (fun x=>[boxA b1 32 [.bool false,.slice none 0 0,.bool false,.slice none 0 0]]) (fun x=>[atF bm 0 [.int .i64 ((w1:Nat):Int),.int .i64 ((vh1:Nat):Int),.int .i64 m1,.slice p1 n1 c1,.int .i64 ((w2:Nat):Int),.int .i64 ((vh2:Nat):Int),.int .i64 m2,.slice p2 n2 c2,.slice ps (vh2+1) cs,.slice pq (vh2+1) cq,.int .i64 (Cr.sumN (Cr.px l1) n1),.int .i64 ((((n1:Nat):Int)*(Cr.sumN (Cr.sq l1) n1)) - ((Cr.sumN (Cr.px l1) n1)*(Cr.sumN (Cr.px l1) n1)))],slF (rI .i64) p1 c1 l1,slF (rI .i64) p2 c2 l2,slF (rS (rI .i64)) ps cs (Cr.tab (Cr.px l2) w2 (vh2+1)),slF (rS (rI .i64)) pq cq (Cr.tab (Cr.sq l2) w2 (vh2+1))]) (fun x:Nat=>n1 - x) 0 (show 0≤n1 from by exact Nat.zero_le _) ((.e rfl (by rfl) (.e rfl (by first|rfl|(congr 1;omega)|simp_all) (.of rfl))):SubM _ _) (ho:=((.c (i:=0) rfl .n):PickO _ _ _)) ((.of [0,1,2,3,4] rfl):SelR _ _ _) ?_
 rintro i hI
 replace hI:i≤n1:=hI
 try dsimp only
 refine zi<|zc<|r_pv rfl rfl (zda rfl rfl)<|zj<|ze<|zi<|zG rfl (fun h2=> ?_) (fun h2=> ?_)
 ·
  have hd1:i / w1<vh1:=Nat.div_lt_of_lt_mul (by rw [← hwh1];omega)
  have hlt:(yy+i / w1)*w2+xx+i%w1<n2:=by rw [hwh2];exact Cr.win_lt hw1.1 hx hy (by rw [← hwh1];omega)
  have hpq:=Cr.mul_g (hg1 i (by omega)) (hg2 _ hlt)
  have hd0:(0:Int)≤(i:Int) / (w1:Int):=Int.ediv_nonneg (by omega) (by omega)
  have hd2:(0:Int)≤(i:Int)%(w1:Int):=Int.emod_nonneg _ (by omega)
  have hcb:=Cr.crs_b hg1 hg2 hw1 hwh1 hwh2 hb1 hx hy (show i≤n1 by omega)
  have hyw:(yy+i / w1)*w2≤64*64:=Nat.mul_le_mul (by omega) hw2.2
  have hmo:i%w1<w1:=Nat.mod_lt _ hw1.1
  refine zB<|ze<|zi<|zA<|zi<|zc<|r_pv rfl rfl (za rfl)<|zU (x0:=(l1.getD i 0)) 1 i rfl Tryz.underlying22 sz3 rfl rfl rfl (by first|rfl|assumption|omega) rfl rfl (gD (d:=0) (by omega)) (fun b3 o4 hok5=> ?_)
  replace hok5:=zR.1 hok5
  refine r_u rfl rfl (zk (j:=0) 0 ty3 rfl rfl rfl rfl)<|r_pv rfl rfl (zd rfl)<|r_pv rfl rfl (zd rfl)<|zj<|ze<|zea (OW:=[]) (O:=[boxA b1 32 [.bool false,.slice none 0 0,.bool false,.slice none 0 0]]) 100000 mixed (.block (.then (.then (.block (.then .ret))))) (by kernel_rfl)<|d_pv 0 rfl rfl (by kernel_rfl) (by kernel_rfl) rfl rfl (za rfl)<|d_pv 1 rfl rfl (by kernel_rfl) (by kernel_rfl) rfl rfl (za rfl)<|d_pv 2 rfl rfl (by kernel_rfl) (by kernel_rfl) rfl rfl (za rfl)<|d_pv 3 rfl rfl (by kernel_rfl) (by kernel_rfl) rfl rfl (zia rfl)<|d_pv 4 rfl rfl (by kernel_rfl) (by kernel_rfl) rfl rfl (zg Tryz.underlying103 rfl sz24 rfl rfl)<|d_pv 5 rfl rfl (by kernel_rfl) (by kernel_rfl) rfl rfl (zg Tryz.underlying24 rfl sz22 rfl rfl)<|d_u 6 rfl rfl (by kernel_rfl) (by kernel_rfl) rfl rfl (zk (j:=7) 1 ty22 rfl rfl rfl rfl)<|d_pv 7 rfl rfl (by kernel_rfl) (by kernel_rfl) rfl rfl (za rfl)<|d_pv 8 rfl rfl (by kernel_rfl) (by kernel_rfl) rfl rfl (za rfl)<|d_pv 9 rfl rfl (by kernel_rfl) (by kernel_rfl) rfl rfl (za rfl)<|d_pv 10 rfl rfl (by kernel_rfl) (by kernel_rfl) rfl rfl (zVa (z:=(((i / w1):Nat):Int)) rfl rfl (by omega) (by rw [quoN (z:=(((i / w1):Nat):Int)) (by omega) (by omega)];exact w64 (by omega)))<|d_pv 11 rfl rfl (by kernel_rfl) (by kernel_rfl) rfl rfl (zx (z:=(((yy+(i / w1)):Nat):Int)) rfl rfl (w64 (by omega)))<|d_pv 12 rfl rfl (by kernel_rfl) (by kernel_rfl) rfl rfl (za rfl)<|d_pv 13 rfl rfl (by kernel_rfl) (by kernel_rfl) rfl rfl (zia rfl)<|d_pv 14 rfl rfl (by kernel_rfl) (by kernel_rfl) rfl rfl (zg Tryz.underlying103 rfl sz24 rfl rfl)<|d_pv 15 rfl rfl (by kernel_rfl) (by kernel_rfl) rfl rfl (zg Tryz.underlying24 rfl sz3 rfl rfl)<|d_u 16 rfl rfl (by kernel_rfl) (by kernel_rfl) rfl rfl (zk (j:=4) 1 ty3 rfl rfl rfl rfl)<|d_pv 17 rfl rfl (by kernel_rfl) (by kernel_rfl) rfl rfl (zpa (z:=((((yy+(i / w1))*w2):Nat):Int)) rfl rfl (w64 (by omega)))<|d_pv 18 rfl rfl (by kernel_rfl) (by kernel_rfl) rfl rfl (za rfl)<|d_pv 19 rfl rfl (by kernel_rfl) (by kernel_rfl) rfl rfl (zx (z:=(((((yy+(i / w1))*w2)+xx):Nat):Int)) rfl rfl (w64 (by omega)))<|d_pv 20 rfl rfl (by kernel_rfl) (by kernel_rfl) rfl rfl (za rfl)<|d_pv 21 rfl rfl (by kernel_rfl) (by kernel_rfl) rfl rfl (za rfl)<|d_pv 22 rfl rfl (by kernel_rfl) (by kernel_rfl) rfl rfl (zWa (z:=(((i%w1):Nat):Int)) rfl rfl (by omega) (remN (by omega) (by omega)))<|d_pv 23 rfl rfl (by kernel_rfl) (by kernel_rfl) rfl rfl (zx (z:=((((((yy+(i / w1))*w2)+xx)+(i%w1)):Nat):Int)) rfl rfl (w64 (by omega)))<|zga (x0:=(l2.getD ((((yy+(i / w1))*w2)+xx)+(i%w1)) 0)) 24 rfl rfl (by kernel_rfl) (by kernel_rfl) 3 ((((yy+(i / w1))*w2)+xx)+(i%w1)) rfl Tryz.underlying22 sz3 rfl rfl rfl (by first|rfl|assumption|omega) rfl rfl (gD (d:=0) (by omega)) (fun b6 o7 hok8=> ?_)
  replace hok8:=zR.1 hok8
  refine d_u 25 rfl rfl (by kernel_rfl) (by kernel_rfl) rfl rfl (zk (j:=0) 0 ty3 rfl rfl rfl rfl)<|d_pv 26 rfl rfl (by kernel_rfl) (by kernel_rfl) rfl rfl (zpa (z:=((l1.getD i 0)*(l2.getD ((((yy+(i / w1))*w2)+xx)+(i%w1)) 0))) rfl rfl (w64 (by omega)))<|d_pv 27 rfl rfl (by kernel_rfl) (by kernel_rfl) rfl rfl (zx (z:=((Cr.crs l1 l2 w1 w2 yy xx i)+((l1.getD i 0)*(l2.getD ((((yy+(i / w1))*w2)+xx)+(i%w1)) 0)))) rfl rfl (w64 (by omega)))<|d_pv 28 rfl rfl (by kernel_rfl) (by kernel_rfl) rfl rfl (zd rfl)<|zba (by kernel_rfl)<|zT<|ze<|zc<|r_pv rfl rfl (zx (z:=(((i+1):Nat):Int)) rfl rfl (w64 (by omega)))<|r_pv rfl rfl (za rfl)<|zj<|zha (i+1) (show (i+1)≤n1 from by omega) (by show n1 - (i+1)<n1 - i;omega) ((.e rfl (by rfl) (.of rfl)):SubM _ _) (ho:=((.c (i:=0) rfl .n):PickO _ _ _)) ((.of [2,3,4,5,6] rfl):SelR _ _ _)
 ·
  refine zja<|zl<|zl<|zu<|ze<|zi ?_
  have e9:(Cr.crs l1 l2 w1 w2 yy xx i)=(Cr.crs l1 l2 w1 w2 yy xx n1):=by rw [show i=n1 by omega]
  rw [e9]
  refine zc<|r_pv rfl rfl (za rfl)<|r_pv rfl rfl (zia rfl)<|r_pv rfl rfl (zg Tryz.underlying103 rfl sz24 rfl rfl)<|r_pv rfl rfl (zg Tryz.underlying24 rfl sz22 rfl rfl)<|r_u rfl rfl (zk (j:=3) 0 ty22 rfl rfl rfl rfl)<|r_pv rfl rfl (zM Tryz.underlying22 rfl)<|r_pv rfl rfl (zd rfl)<|zj<|ze<|zi ?_
  have hcb:=Cr.crs_b hg1 hg2 hw1 hwh1 hwh2 hb1 hx hy (Nat.le_refl n1)
  have hbp:=Cr.boxp_b hg2 hw1 hh1 hwh1 hwh2 hx hy
  have hbq:=Cr.boxq_b hg2 hw1 hh1 hwh1 hwh2 hx hy
  have hs1:=Cr.px_sum (l:=l1) hg1 hb1 (Nat.le_refl n1)
  have hs2:=Cr.sq_sum (l:=l1) hg1 hb1 (Nat.le_refl n1)
  have hq1:=Bl.mul_b (x:=((n1:Nat):Int)) (y:=(Cr.crs l1 l2 w1 w2 yy xx n1)) (m:=4096) (n:=17591649177600) (by omega) hcb
  have hq2:=Bl.mul_b (x:=((n1:Nat):Int)) (y:=(Cr.box (Cr.sq l2) w2 yy xx vh1 w1)) (m:=4096) (n:=17591649177600) (by omega) hbq
  have hq3:=Bl.mul_b (x:=((n1:Nat):Int)) (y:=(Cr.sumN (Cr.sq l1) n1)) (m:=4096) (n:=17591649177600) (by omega) hs2
  have hq4:=Bl.mul_b hbp hbp
  have hq5:=Bl.mul_b hs1 hbp
  have hq6:=Bl.mul_b hs1 hs1
  refine zc<|r_pv rfl rfl (za rfl)<|r_pv rfl rfl (za rfl)<|r_pv rfl rfl (zia rfl)<|r_pv rfl rfl (zg Tryz.underlying103 rfl sz73 rfl rfl)<|r_u rfl rfl (zk (j:=8) 0 ty73 rfl rfl rfl rfl)<|r_pv rfl rfl (za rfl)<|r_pv rfl rfl (za rfl)<|zN rfl rfl (.c rfl (.c rfl (.c rfl (.c rfl .n)))) ce64 (zDc (w1:=w1) (vh1:=vh1) (m1:=m1) (p1:=p1) (n1:=n1) (c1:=c1) (w2:=w2) (vh2:=vh2) (m2:=m2) (p2:=p2) (n2:=n2) (c2:=c2) (bm:=bm) (ps:=ps) (cs:=cs) (pq:=pq) (cq:=cq) (sm:=(Cr.sumN (Cr.px l1) n1)) (sp:=((((n1:Nat):Int)*(Cr.sumN (Cr.sq l1) n1)) - ((Cr.sumN (Cr.px l1) n1)*(Cr.sumN (Cr.px l1) n1)))) (pt:=ps) (ct:=cs) (vv:=(Cr.px l2)) (xx:=xx) (yy:=yy) (hw1:=by assumption) (hh1:=by assumption) (hw2:=by assumption) (hh2:=by assumption) (hx:=by assumption) (hy:=by assumption) (hT:=by intro j i hj hi;have:=Cr.px_T2 hg2 hw2.2 hh2.2 hwh2 hj hi;omega)) (.c (j:=0) rfl (.c (j:=3) rfl .n))<|r_pv rfl rfl (zd rfl)<|zj<|ze<|zi<|zc<|r_pv rfl rfl (za rfl)<|r_pv rfl rfl (za rfl)<|r_pv rfl rfl (za rfl)<|r_pv rfl rfl (zia rfl)<|r_pv rfl rfl (zg Tryz.underlying103 rfl sz73 rfl rfl)<|r_u rfl rfl (zk (j:=9) 0 ty73 rfl rfl rfl rfl)<|r_pv rfl rfl (za rfl)<|r_pv rfl rfl (za rfl)<|zN rfl rfl (.c rfl (.c rfl (.c rfl (.c rfl .n)))) ce64 (zDc (w1:=w1) (vh1:=vh1) (m1:=m1) (p1:=p1) (n1:=n1) (c1:=c1) (w2:=w2) (vh2:=vh2) (m2:=m2) (p2:=p2) (n2:=n2) (c2:=c2) (bm:=bm) (ps:=ps) (cs:=cs) (pq:=pq) (cq:=cq) (sm:=(Cr.sumN (Cr.px l1) n1)) (sp:=((((n1:Nat):Int)*(Cr.sumN (Cr.sq l1) n1)) - ((Cr.sumN (Cr.px l1) n1)*(Cr.sumN (Cr.px l1) n1)))) (pt:=pq) (ct:=cq) (vv:=(Cr.sq l2)) (xx:=xx) (yy:=yy) (hw1:=by assumption) (hh1:=by assumption) (hw2:=by assumption) (hh2:=by assumption) (hx:=by assumption) (hy:=by assumption) (hT:=by intro j i hj hi;exact Cr.sq_T2 hg2 hw2.2 hh2.2 hwh2 hj hi)) (.c (j:=0) rfl (.c (j:=4) rfl .n))<|r_pv rfl rfl (zpa (z:=(((n1:Nat):Int)*(Cr.box (Cr.sq l2) w2 yy xx vh1 w1))) rfl rfl (w64 (by omega)))<|r_pv rfl rfl (za rfl)<|r_pv rfl rfl (za rfl)<|r_pv rfl rfl (zpa (z:=((Cr.box (Cr.px l2) w2 yy xx vh1 w1)*(Cr.box (Cr.px l2) w2 yy xx vh1 w1))) rfl rfl (w64 (by omega)))<|r_pv rfl rfl (zaa (z:=((((n1:Nat):Int)*(Cr.box (Cr.sq l2) w2 yy xx vh1 w1)) - ((Cr.box (Cr.px l2) w2 yy xx vh1 w1)*(Cr.box (Cr.px l2) w2 yy xx vh1 w1)))) rfl rfl (w64 (by omega)))<|r_pv rfl rfl (zd rfl)<|zj<|ze<|zi<|zGa (X:=Unit) (fun x=>True) (fun x=>[(98,.bool (decide ((((((n1:Nat):Int)*(Cr.box (Cr.sq l2) w2 yy xx vh1 w1)) - ((Cr.box (Cr.px l2) w2 yy xx vh1 w1)*(Cr.box (Cr.px l2) w2 yy xx vh1 w1)))=0)∨(((((n1:Nat):Int)*(Cr.sumN (Cr.sq l1) n1)) - ((Cr.sumN (Cr.px l1) n1)*(Cr.sumN (Cr.px l1) n1)))=0)))),(13,.int .i64 ((((n1:Nat):Int)*(Cr.box (Cr.sq l2) w2 yy xx vh1 w1)) - ((Cr.box (Cr.px l2) w2 yy xx vh1 w1)*(Cr.box (Cr.px l2) w2 yy xx vh1 w1)))),(12,.int .i64 (Cr.box (Cr.px l2) w2 yy xx vh1 w1)),(11,.int .i64 ((n1:Nat):Int)),(8,.int .i64 (Cr.crs l1 l2 w1 w2 yy xx n1)),(6,.pointer (some ⟨b1,0,none⟩)),(0,.pointer (some ⟨bm,0,none⟩))]) (fun x=>[boxA b1 32 [.bool false,.slice none 0 0,.bool false,.slice none 0 0]]) (fun x=>[atF bm 0 [.int .i64 ((w1:Nat):Int),.int .i64 ((vh1:Nat):Int),.int .i64 m1,.slice p1 n1 c1,.int .i64 ((w2:Nat):Int),.int .i64 ((vh2:Nat):Int),.int .i64 m2,.slice p2 n2 c2,.slice ps (vh2+1) cs,.slice pq (vh2+1) cq,.int .i64 (Cr.sumN (Cr.px l1) n1),.int .i64 ((((n1:Nat):Int)*(Cr.sumN (Cr.sq l1) n1)) - ((Cr.sumN (Cr.px l1) n1)*(Cr.sumN (Cr.px l1) n1)))],slF (rI .i64) p1 c1 l1,slF (rI .i64) p2 c2 l2,slF (rS (rI .i64)) ps cs (Cr.tab (Cr.px l2) w2 (vh2+1)),slF (rS (rI .i64)) pq cq (Cr.tab (Cr.sq l2) w2 (vh2+1))]) ?_ ?_
  ·
   refine zc<|r_pv rfl rfl (za rfl)<|r_pv rfl rfl (zva rfl rfl)<|zP rfl rfl (za rfl) (fun h10=> ?_) (fun h10=> ?_)
   ·
    refine zb rfl rfl<|zb rfl rfl<|zb rfl rfl<|zb rfl rfl<|zb rfl rfl<|r_pv rfl rfl (zm rfl rfl)<|zj ?_
    exact zca () (show True from by first|trivial|omega|simp_all) ((.e rfl (congrArg Value.bool (by first|(simp_all;done)|(simp_all;omega)|(simp;omega)|omega)) (.of rfl)):SubM _ _) (ho:=((.c (i:=0) rfl .n):PickO _ _ _)) ((.of [0,1,2,3,4] rfl):SelR _ _ _)
   ·
    refine r_pv rfl rfl (za rfl)<|r_pv rfl rfl (zia rfl)<|r_pv rfl rfl (zg Tryz.underlying103 rfl sz3 rfl rfl)<|r_u rfl rfl (zk (j:=11) 0 ty3 rfl rfl rfl rfl)<|r_pv rfl rfl (zva rfl rfl)<|r_pv rfl rfl (zm rfl rfl)<|zj ?_
    exact zca () (show True from by first|trivial|omega|simp_all) ((.e rfl (congrArg Value.bool (by first|(simp_all;done)|(simp_all;omega)|(simp;omega)|omega)) (.of rfl)):SubM _ _) (ho:=((.c (i:=0) rfl .n):PickO _ _ _)) ((.of [0,1,2,3,4] rfl):SelR _ _ _)
  ·
   rintro ⟨⟩ -
   try dsimp only
   refine zG rfl (fun hz0=> ?_) (fun hz0=> ?_)
   ·
    refine zi<|zc<|zy rfl rfl (.c rfl .n) ce65 (zfb (z:=0) (hz:=by first|rfl|assumption|omega|(rw [Big.zO];omega)|(decide +kernel))) (.n) ?_
    rintro ⟨w311,w412⟩ -
    dsimp only [List.append_eq,List.nil_append,List.cons_append]
    refine zn 0 rfl rfl rfl rfl rfl sz32 rfl (.take (.take (.take (.take .nil)))) .z<|zj<|ze<|zI<|zp ?_
    have hz:((0:Int):Rat)=(Cr.scr l1 l2 w1 vh1 n1 w2 yy xx):=by unfold Cr.scr Cr.sc;rw [if_pos (by unfold Cr.va Cr.vb;omega)];rfl
    exact zE Tryz.results37 (w311,w412) trivial (zt 0 ty32 rfl rfl (.take (.take (.take (.take .nil))))) rfl (ho:=(.n:PickO _ _ _)) ((.e (j:=0) rfl (by rw [hz]) .n):SelR _ _ _)
   ·
    refine zB<|ze<|zi<|zc<|r_pv rfl rfl (za rfl)<|r_pv rfl rfl (za rfl)<|r_pv rfl rfl (zpa (z:=(((n1:Nat):Int)*(Cr.crs l1 l2 w1 w2 yy xx n1))) rfl rfl (w64 (by omega)))<|r_pv rfl rfl (za rfl)<|r_pv rfl rfl (zia rfl)<|r_pv rfl rfl (zg Tryz.underlying103 rfl sz3 rfl rfl)<|r_u rfl rfl (zk (j:=10) 0 ty3 rfl rfl rfl rfl)<|r_pv rfl rfl (za rfl)<|r_pv rfl rfl (zpa (z:=((Cr.sumN (Cr.px l1) n1)*(Cr.box (Cr.px l2) w2 yy xx vh1 w1))) rfl rfl (w64 (by omega)))<|r_pv rfl rfl (zaa (z:=((((n1:Nat):Int)*(Cr.crs l1 l2 w1 w2 yy xx n1)) - ((Cr.sumN (Cr.px l1) n1)*(Cr.box (Cr.px l2) w2 yy xx vh1 w1)))) rfl rfl (w64 (by omega)))<|zy rfl rfl (.c rfl .n) ce65 (zfb (z:=((((n1:Nat):Int)*(Cr.crs l1 l2 w1 w2 yy xx n1)) - ((Cr.sumN (Cr.px l1) n1)*(Cr.box (Cr.px l2) w2 yy xx vh1 w1)))) (hz:=by first|rfl|assumption|omega|(rw [Big.zO];omega)|(decide +kernel))) (.n) ?_
    rintro ⟨w313,w414⟩ -
    dsimp only [List.append_eq,List.nil_append,List.cons_append]
    refine zJ rfl rfl (zw zr32 rfl) (fun b15=> ?_)
    refine zn 0 rfl rfl rfl rfl rfl sz32 rfl (.take (.take (.take (.take .nil)))) .z<|zj<|ze<|zi<|zea (OW:=[]) (O:=[boxA b15 32 [w313.b,w313.l,w414.b,w414.l],boxA b1 32 [.bool false,.slice none 0 0,.bool false,.slice none 0 0]]) 17 mixed (.then .ret) (by kernel_rfl)<|d_u 0 rfl rfl (by kernel_rfl) (by kernel_rfl) rfl rfl (zf 0 ty32 rfl rfl (.take (.take (.take (.take .nil)))))<|d_u 1 rfl rfl (by kernel_rfl) (by kernel_rfl) rfl rfl (zf 0 ty32 rfl rfl (.take (.take (.take (.take .nil)))))<|d_pv 4 rfl rfl (by kernel_rfl) (by kernel_rfl) rfl rfl (za rfl)<|d_pv 5 rfl rfl (by kernel_rfl) (by kernel_rfl) rfl rfl (zia rfl)<|d_pv 6 rfl rfl (by kernel_rfl) (by kernel_rfl) rfl rfl (zg Tryz.underlying103 rfl sz3 rfl rfl)<|d_u 7 rfl rfl (by kernel_rfl) (by kernel_rfl) rfl rfl (zk (j:=11) 1 ty3 rfl rfl rfl rfl)<|d_pv 9 rfl rfl (by kernel_rfl) (by kernel_rfl) rfl rfl (za rfl)<|zfd (m':=[(121,.int .i64 ((((n1:Nat):Int)*(Cr.box (Cr.sq l2) w2 yy xx vh1 w1)) - ((Cr.box (Cr.px l2) w2 yy xx vh1 w1)*(Cr.box (Cr.px l2) w2 yy xx vh1 w1)))),(119,.int .i64 ((((n1:Nat):Int)*(Cr.sumN (Cr.sq l1) n1)) - ((Cr.sumN (Cr.px l1) n1)*(Cr.sumN (Cr.px l1) n1)))),(113,.agg #[w313.b,w313.l,w414.b,w414.l]),(112,.agg #[w313.b,w313.l,w414.b,w414.l]),(6,.pointer (some ⟨b1,0,none⟩))]) (R':=[qF true w313 w414 ((((((n1:Nat):Int)*(Cr.crs l1 l2 w1 w2 yy xx n1)) - ((Cr.sumN (Cr.px l1) n1)*(Cr.box (Cr.px l2) w2 yy xx vh1 w1))):Int):Rat),atF bm 0 [.int .i64 ((w1:Nat):Int),.int .i64 ((vh1:Nat):Int),.int .i64 m1,.slice p1 n1 c1,.int .i64 ((w2:Nat):Int),.int .i64 ((vh2:Nat):Int),.int .i64 m2,.slice p2 n2 c2,.slice ps (vh2+1) cs,.slice pq (vh2+1) cq,.int .i64 (Cr.sumN (Cr.px l1) n1),.int .i64 ((((n1:Nat):Int)*(Cr.sumN (Cr.sq l1) n1)) - ((Cr.sumN (Cr.px l1) n1)*(Cr.sumN (Cr.px l1) n1)))],slF (rI .i64) p1 c1 l1,slF (rI .i64) p2 c2 l2,slF (rS (rI .i64)) ps cs (Cr.tab (Cr.px l2) w2 (vh2+1)),slF (rS (rI .i64)) pq cq (Cr.tab (Cr.sq l2) w2 (vh2+1))]) ((.of rfl):SubM _ _) (List.Perm.refl _) (List.Perm.refl _) ((.of [0,1,2,3,4,5] rfl):SelR _ _ _) ?_
    obtain ⟨qd1,hqd1⟩:∃z,z=((((n1:Nat):Int)*(Cr.box (Cr.sq l2) w2 yy xx vh1 w1)) - ((Cr.box (Cr.px l2) w2 yy xx vh1 w1)*(Cr.box (Cr.px l2) w2 yy xx vh1 w1))):=⟨_,rfl⟩
    rw [← hqd1]
    obtain ⟨qd2,hqd2⟩:∃z,z=((((n1:Nat):Int)*(Cr.sumN (Cr.sq l1) n1)) - ((Cr.sumN (Cr.px l1) n1)*(Cr.sumN (Cr.px l1) n1))):=⟨_,rfl⟩
    rw [← hqd2]
    refine zya (X:=Wd×Wd×Wd×Wd×Wd×Wd×Wd×Wd×Wd×Wd×Wd×Wd×Nat) (k':=0) (L':=(lb 19 524287)) (fun (u2_1,u2_2,u3_1,u3_2,u8_1,u8_2,u10_1,u10_2,u11_1,u11_2,u12_1,u12_2,u16_1)=>([(15,.pointer (some ⟨u16_1,0,none⟩)),(6,.pointer (some ⟨b1,0,none⟩))],[boxA u16_1 32 (cw [u12_1,u12_2])],[boxA b15 32 (cw [w313,w414]),boxA b1 32 [.bool false,.slice none 0 0,.bool false,.slice none 0 0]],[qF true u12_1 u12_2 ((((((((n1:Nat):Int)*(Cr.crs l1 l2 w1 w2 yy xx n1)) - ((Cr.sumN (Cr.px l1) n1)*(Cr.box (Cr.px l2) w2 yy xx vh1 w1))):Int):Rat)*(Big.qabs ((((((n1:Nat):Int)*(Cr.crs l1 l2 w1 w2 yy xx n1)) - ((Cr.sumN (Cr.px l1) n1)*(Cr.box (Cr.px l2) w2 yy xx vh1 w1))):Int):Rat))) / (((qd2:Int):Rat)*((qd1:Int):Rat))),qF true u11_1 u11_2 (((qd2:Int):Rat)*((qd1:Int):Rat)),qF true u10_1 u10_2 ((qd1:Int):Rat),qF true u8_1 u8_2 ((qd2:Int):Rat),qF true u3_1 u3_2 (((((((n1:Nat):Int)*(Cr.crs l1 l2 w1 w2 yy xx n1)) - ((Cr.sumN (Cr.px l1) n1)*(Cr.box (Cr.px l2) w2 yy xx vh1 w1))):Int):Rat)*(Big.qabs ((((((n1:Nat):Int)*(Cr.crs l1 l2 w1 w2 yy xx n1)) - ((Cr.sumN (Cr.px l1) n1)*(Cr.box (Cr.px l2) w2 yy xx vh1 w1))):Int):Rat))),qF true u2_1 u2_2 (Big.qabs ((((((n1:Nat):Int)*(Cr.crs l1 l2 w1 w2 yy xx n1)) - ((Cr.sumN (Cr.px l1) n1)*(Cr.box (Cr.px l2) w2 yy xx vh1 w1))):Int):Rat)),qF true w313 w414 ((((((n1:Nat):Int)*(Cr.crs l1 l2 w1 w2 yy xx n1)) - ((Cr.sumN (Cr.px l1) n1)*(Cr.box (Cr.px l2) w2 yy xx vh1 w1))):Int):Rat),atF bm 0 [.int .i64 ((w1:Nat):Int),.int .i64 ((vh1:Nat):Int),.int .i64 m1,.slice p1 n1 c1,.int .i64 ((w2:Nat):Int),.int .i64 ((vh2:Nat):Int),.int .i64 m2,.slice p2 n2 c2,.slice ps (vh2+1) cs,.slice pq (vh2+1) cq,.int .i64 (Cr.sumN (Cr.px l1) n1),.int .i64 qd2],slF (rI .i64) p1 c1 l1,slF (rI .i64) p2 c2 l2,slF (rS (rI .i64)) ps cs (Cr.tab (Cr.px l2) w2 (vh2+1)),slF (rS (rI .i64)) pq cq (Cr.tab (Cr.sq l2) w2 (vh2+1))])) ?_ (fun hD0=> ?_)
    ·
     rintro ⟨u2_1,u2_2,u3_1,u3_2,u8_1,u8_2,u10_1,u10_2,u11_1,u11_2,u12_1,u12_2,u16_1⟩
     dsimp only [cw]
     refine zba (by kernel_rfl) ?_
     subst hqd1 hqd2
     refine ze<|zi<|zc<|r_u rfl rfl (zf 0 ty32 rfl rfl (.take (.take (.take (.take .nil)))))<|zn 2 rfl rfl rfl rfl rfl sz32 rfl (.take (.take (.take (.take .nil)))) (.s (.s .z))<|zj<|ze<|zI ?_
     have hz:((((((n1:Nat):Int)*(Cr.crs l1 l2 w1 w2 yy xx n1)) - ((Cr.sumN (Cr.px l1) n1)*(Cr.box (Cr.px l2) w2 yy xx vh1 w1))):Int):Rat)*Big.qabs ((((((n1:Nat):Int)*(Cr.crs l1 l2 w1 w2 yy xx n1)) - ((Cr.sumN (Cr.px l1) n1)*(Cr.box (Cr.px l2) w2 yy xx vh1 w1))):Int):Rat) / (((((((n1:Nat):Int)*(Cr.sumN (Cr.sq l1) n1)) - ((Cr.sumN (Cr.px l1) n1)*(Cr.sumN (Cr.px l1) n1))):Int):Rat)*((((((n1:Nat):Int)*(Cr.box (Cr.sq l2) w2 yy xx vh1 w1)) - ((Cr.box (Cr.px l2) w2 yy xx vh1 w1)*(Cr.box (Cr.px l2) w2 yy xx vh1 w1))):Int):Rat))=(Cr.scr l1 l2 w1 vh1 n1 w2 yy xx):=by rw [Big.qabs_int];exact Cr.sc_prog (fun e=>hz0 (Or.inr e)) (fun e=>hz0 (Or.inl e))
     exact zE Tryz.results37 (u12_1,u12_2) trivial (zt 2 ty32 rfl rfl (.take (.take (.take (.take .nil))))) rfl (ho:=(.n:PickO _ _ _)) ((.e (j:=0) rfl (by rw [hz]) .n):SelR _ _ _)
    refine zya (X:=Wd×Wd×Wd×Wd×Wd×Wd×Wd×Wd×Wd×Wd×Wd×Wd×Nat) (k':=2) (L':=(lb 19 131071)) (fun (u2_1,u2_2,u3_1,u3_2,u8_1,u8_2,u10_1,u10_2,u11_1,u11_2,u12_1,u12_2,u16_1)=>([(15,.pointer (some ⟨u16_1,0,none⟩)),(126,.int .i64 0),(125,.agg (cw [u12_1,u12_2]).toArray),(6,.pointer (some ⟨b1,0,none⟩))],[boxA u16_1 32 [.bool false,.slice none 0 0,.bool false,.slice none 0 0]],[boxA b15 32 (cw [w313,w414]),boxA b1 32 [.bool false,.slice none 0 0,.bool false,.slice none 0 0]],[qF true u12_1 u12_2 ((((((((n1:Nat):Int)*(Cr.crs l1 l2 w1 w2 yy xx n1)) - ((Cr.sumN (Cr.px l1) n1)*(Cr.box (Cr.px l2) w2 yy xx vh1 w1))):Int):Rat)*(Big.qabs ((((((n1:Nat):Int)*(Cr.crs l1 l2 w1 w2 yy xx n1)) - ((Cr.sumN (Cr.px l1) n1)*(Cr.box (Cr.px l2) w2 yy xx vh1 w1))):Int):Rat))) / (((qd2:Int):Rat)*((qd1:Int):Rat))),qF true u11_1 u11_2 (((qd2:Int):Rat)*((qd1:Int):Rat)),qF true u10_1 u10_2 ((qd1:Int):Rat),qF true u8_1 u8_2 ((qd2:Int):Rat),qF true u3_1 u3_2 (((((((n1:Nat):Int)*(Cr.crs l1 l2 w1 w2 yy xx n1)) - ((Cr.sumN (Cr.px l1) n1)*(Cr.box (Cr.px l2) w2 yy xx vh1 w1))):Int):Rat)*(Big.qabs ((((((n1:Nat):Int)*(Cr.crs l1 l2 w1 w2 yy xx n1)) - ((Cr.sumN (Cr.px l1) n1)*(Cr.box (Cr.px l2) w2 yy xx vh1 w1))):Int):Rat))),qF true u2_1 u2_2 (Big.qabs ((((((n1:Nat):Int)*(Cr.crs l1 l2 w1 w2 yy xx n1)) - ((Cr.sumN (Cr.px l1) n1)*(Cr.box (Cr.px l2) w2 yy xx vh1 w1))):Int):Rat)),qF true w313 w414 ((((((n1:Nat):Int)*(Cr.crs l1 l2 w1 w2 yy xx n1)) - ((Cr.sumN (Cr.px l1) n1)*(Cr.box (Cr.px l2) w2 yy xx vh1 w1))):Int):Rat),atF bm 0 [.int .i64 ((w1:Nat):Int),.int .i64 ((vh1:Nat):Int),.int .i64 m1,.slice p1 n1 c1,.int .i64 ((w2:Nat):Int),.int .i64 ((vh2:Nat):Int),.int .i64 m2,.slice p2 n2 c2,.slice ps (vh2+1) cs,.slice pq (vh2+1) cq,.int .i64 (Cr.sumN (Cr.px l1) n1),.int .i64 qd2],slF (rI .i64) p1 c1 l1,slF (rI .i64) p2 c2 l2,slF (rS (rI .i64)) ps cs (Cr.tab (Cr.px l2) w2 (vh2+1)),slF (rS (rI .i64)) pq cq (Cr.tab (Cr.sq l2) w2 (vh2+1))])) ?_ (fun hD1=> ?_)
    ·
     rintro ⟨u2_1,u2_2,u3_1,u3_2,u8_1,u8_2,u10_1,u10_2,u11_1,u11_2,u12_1,u12_2,u16_1⟩
     dsimp only [cw]
     refine zL 17 (by kernel_rfl) ?_
     ·
      refine zD (by kernel_rfl) rfl rfl rfl rfl rfl sz32 rfl (.take (.take (.take (.take .nil))))<|d_pv 18 rfl rfl (by kernel_rfl) (by kernel_rfl) rfl rfl (zd rfl) ?_
      exact zla (hD0 (u2_1,u2_2,u3_1,u3_2,u8_1,u8_2,u10_1,u10_2,u11_1,u11_2,u12_1,u12_2,u16_1)) (by kernel_rfl) ((.c rfl (.c rfl .n)):SubM _ _) .rfl .rfl ((.of [0,1,2,3,4,5,6,7,8,9,10,11] rfl):SelR _ _ _)
    refine zya (X:=Wd×Wd×Wd×Wd×Wd×Wd×Wd×Wd×Wd×Wd×Wd×Wd) (k':=3) (L':=(lb 19 65535)) (fun (u2_1,u2_2,u3_1,u3_2,u8_1,u8_2,u10_1,u10_2,u11_1,u11_2,u12_1,u12_2)=>([(126,.int .i64 0),(125,.agg (cw [u12_1,u12_2]).toArray),(6,.pointer (some ⟨b1,0,none⟩))],[],[boxA b15 32 (cw [w313,w414]),boxA b1 32 [.bool false,.slice none 0 0,.bool false,.slice none 0 0]],[qF true u12_1 u12_2 ((((((((n1:Nat):Int)*(Cr.crs l1 l2 w1 w2 yy xx n1)) - ((Cr.sumN (Cr.px l1) n1)*(Cr.box (Cr.px l2) w2 yy xx vh1 w1))):Int):Rat)*(Big.qabs ((((((n1:Nat):Int)*(Cr.crs l1 l2 w1 w2 yy xx n1)) - ((Cr.sumN (Cr.px l1) n1)*(Cr.box (Cr.px l2) w2 yy xx vh1 w1))):Int):Rat))) / (((qd2:Int):Rat)*((qd1:Int):Rat))),qF true u11_1 u11_2 (((qd2:Int):Rat)*((qd1:Int):Rat)),qF true u10_1 u10_2 ((qd1:Int):Rat),qF true u8_1 u8_2 ((qd2:Int):Rat),qF true u3_1 u3_2 (((((((n1:Nat):Int)*(Cr.crs l1 l2 w1 w2 yy xx n1)) - ((Cr.sumN (Cr.px l1) n1)*(Cr.box (Cr.px l2) w2 yy xx vh1 w1))):Int):Rat)*(Big.qabs ((((((n1:Nat):Int)*(Cr.crs l1 l2 w1 w2 yy xx n1)) - ((Cr.sumN (Cr.px l1) n1)*(Cr.box (Cr.px l2) w2 yy xx vh1 w1))):Int):Rat))),qF true u2_1 u2_2 (Big.qabs ((((((n1:Nat):Int)*(Cr.crs l1 l2 w1 w2 yy xx n1)) - ((Cr.sumN (Cr.px l1) n1)*(Cr.box (Cr.px l2) w2 yy xx vh1 w1))):Int):Rat)),qF true w313 w414 ((((((n1:Nat):Int)*(Cr.crs l1 l2 w1 w2 yy xx n1)) - ((Cr.sumN (Cr.px l1) n1)*(Cr.box (Cr.px l2) w2 yy xx vh1 w1))):Int):Rat),atF bm 0 [.int .i64 ((w1:Nat):Int),.int .i64 ((vh1:Nat):Int),.int .i64 m1,.slice p1 n1 c1,.int .i64 ((w2:Nat):Int),.int .i64 ((vh2:Nat):Int),.int .i64 m2,.slice p2 n2 c2,.slice ps (vh2+1) cs,.slice pq (vh2+1) cq,.int .i64 (Cr.sumN (Cr.px l1) n1),.int .i64 qd2],slF (rI .i64) p1 c1 l1,slF (rI .i64) p2 c2 l2,slF (rS (rI .i64)) ps cs (Cr.tab (Cr.px l2) w2 (vh2+1)),slF (rS (rI .i64)) pq cq (Cr.tab (Cr.sq l2) w2 (vh2+1))])) ?_ (fun hD2=> ?_)
    ·
     rintro ⟨u2_1,u2_2,u3_1,u3_2,u8_1,u8_2,u10_1,u10_2,u11_1,u11_2,u12_1,u12_2⟩
     dsimp only [cw]
     refine zL 16 (by kernel_rfl) ?_
     ·
      refine zgb rfl rfl rfl rfl (zw zr32 rfl) (fun u16_1 _=> ?_)
      exact zla (hD1 (u2_1,u2_2,u3_1,u3_2,u8_1,u8_2,u10_1,u10_2,u11_1,u11_2,u12_1,u12_2,u16_1)) (by kernel_rfl) ((.of rfl):SubM _ _) .rfl .rfl ((.of [0,1,2,3,4,5,6,7,8,9,10,11] rfl):SelR _ _ _)
    refine zya (X:=Wd×Wd×Wd×Wd×Wd×Wd×Wd×Wd×Wd×Wd×Nat) (k':=6) (L':=(lb 19 69631)) (fun (u2_1,u2_2,u3_1,u3_2,u8_1,u8_2,u10_1,u10_2,u11_1,u11_2,u16_1)=>([(15,.pointer (some ⟨u16_1,0,none⟩)),(123,.agg (cw [u11_1,u11_2]).toArray),(115,.agg (cw [u3_1,u3_2]).toArray),(6,.pointer (some ⟨b1,0,none⟩))],[boxA u16_1 32 [.bool false,.slice none 0 0,.bool false,.slice none 0 0]],[boxA b15 32 (cw [w313,w414]),boxA b1 32 [.bool false,.slice none 0 0,.bool false,.slice none 0 0]],[qF true u11_1 u11_2 (((qd2:Int):Rat)*((qd1:Int):Rat)),qF true u10_1 u10_2 ((qd1:Int):Rat),qF true u8_1 u8_2 ((qd2:Int):Rat),qF true u3_1 u3_2 (((((((n1:Nat):Int)*(Cr.crs l1 l2 w1 w2 yy xx n1)) - ((Cr.sumN (Cr.px l1) n1)*(Cr.box (Cr.px l2) w2 yy xx vh1 w1))):Int):Rat)*(Big.qabs ((((((n1:Nat):Int)*(Cr.crs l1 l2 w1 w2 yy xx n1)) - ((Cr.sumN (Cr.px l1) n1)*(Cr.box (Cr.px l2) w2 yy xx vh1 w1))):Int):Rat))),qF true u2_1 u2_2 (Big.qabs ((((((n1:Nat):Int)*(Cr.crs l1 l2 w1 w2 yy xx n1)) - ((Cr.sumN (Cr.px l1) n1)*(Cr.box (Cr.px l2) w2 yy xx vh1 w1))):Int):Rat)),qF true w313 w414 ((((((n1:Nat):Int)*(Cr.crs l1 l2 w1 w2 yy xx n1)) - ((Cr.sumN (Cr.px l1) n1)*(Cr.box (Cr.px l2) w2 yy xx vh1 w1))):Int):Rat),atF bm 0 [.int .i64 ((w1:Nat):Int),.int .i64 ((vh1:Nat):Int),.int .i64 m1,.slice p1 n1 c1,.int .i64 ((w2:Nat):Int),.int .i64 ((vh2:Nat):Int),.int .i64 m2,.slice p2 n2 c2,.slice ps (vh2+1) cs,.slice pq (vh2+1) cq,.int .i64 (Cr.sumN (Cr.px l1) n1),.int .i64 qd2],slF (rI .i64) p1 c1 l1,slF (rI .i64) p2 c2 l2,slF (rS (rI .i64)) ps cs (Cr.tab (Cr.px l2) w2 (vh2+1)),slF (rS (rI .i64)) pq cq (Cr.tab (Cr.sq l2) w2 (vh2+1))])) ?_ (fun hD3=> ?_)
    ·
     rintro ⟨u2_1,u2_2,u3_1,u3_2,u8_1,u8_2,u10_1,u10_2,u11_1,u11_2,u16_1⟩
     dsimp only [cw]
     refine zL 12 (by kernel_rfl) ?_
     ·
      refine zH rfl rfl rfl rfl (.c rfl (.c rfl .n)) ce50 (zSb (k1:=true) (u1:=u3_1) (v1:=u3_2) (q1:=((((((n1:Nat):Int)*(Cr.crs l1 l2 w1 w2 yy xx n1)) - ((Cr.sumN (Cr.px l1) n1)*(Cr.box (Cr.px l2) w2 yy xx vh1 w1))):Int):Rat)*(Big.qabs ((((((n1:Nat):Int)*(Cr.crs l1 l2 w1 w2 yy xx n1)) - ((Cr.sumN (Cr.px l1) n1)*(Cr.box (Cr.px l2) w2 yy xx vh1 w1))):Int):Rat))) (k2:=true) (u2:=u11_1) (v2:=u11_2) (q2:=((qd2:Int):Rat)*((qd1:Int):Rat)) (hl:=by exact Cr.hq4 ⟨by omega,by omega⟩ ⟨by omega,by omega⟩ ⟨by omega,by omega⟩) (hy:=by exact Cr.ne2 (by omega) (by omega))) (.c (j:=3) rfl (.c (j:=0) rfl .n)) ?_
      rintro ⟨u12_1,u12_2⟩ -
      dsimp only [List.append_eq,List.nil_append,List.cons_append]
      refine d_pv 13 rfl rfl (by kernel_rfl) (by kernel_rfl) rfl rfl (za rfl)<|d_pv 14 rfl rfl (by kernel_rfl) (by kernel_rfl) rfl rfl (zr rfl rfl)<|d_pv 15 rfl rfl (by kernel_rfl) (by kernel_rfl) rfl rfl (zr rfl rfl) ?_
      exact zla (hD1 (u2_1,u2_2,u3_1,u3_2,u8_1,u8_2,u10_1,u10_2,u11_1,u11_2,u12_1,u12_2,u16_1)) (by kernel_rfl) ((.of rfl):SubM _ _) .rfl .rfl ((.of [0,1,2,3,4,5,6,7,8,9,10,11] rfl):SelR _ _ _)
    refine zya (X:=Wd×Wd×Wd×Wd×Wd×Wd×Wd×Wd×Wd×Wd) (k':=7) (L':=(lb 19 4095)) (fun (u2_1,u2_2,u3_1,u3_2,u8_1,u8_2,u10_1,u10_2,u11_1,u11_2)=>([(123,.agg (cw [u11_1,u11_2]).toArray),(115,.agg (cw [u3_1,u3_2]).toArray),(6,.pointer (some ⟨b1,0,none⟩))],[],[boxA b15 32 (cw [w313,w414]),boxA b1 32 [.bool false,.slice none 0 0,.bool false,.slice none 0 0]],[qF true u11_1 u11_2 (((qd2:Int):Rat)*((qd1:Int):Rat)),qF true u10_1 u10_2 ((qd1:Int):Rat),qF true u8_1 u8_2 ((qd2:Int):Rat),qF true u3_1 u3_2 (((((((n1:Nat):Int)*(Cr.crs l1 l2 w1 w2 yy xx n1)) - ((Cr.sumN (Cr.px l1) n1)*(Cr.box (Cr.px l2) w2 yy xx vh1 w1))):Int):Rat)*(Big.qabs ((((((n1:Nat):Int)*(Cr.crs l1 l2 w1 w2 yy xx n1)) - ((Cr.sumN (Cr.px l1) n1)*(Cr.box (Cr.px l2) w2 yy xx vh1 w1))):Int):Rat))),qF true u2_1 u2_2 (Big.qabs ((((((n1:Nat):Int)*(Cr.crs l1 l2 w1 w2 yy xx n1)) - ((Cr.sumN (Cr.px l1) n1)*(Cr.box (Cr.px l2) w2 yy xx vh1 w1))):Int):Rat)),qF true w313 w414 ((((((n1:Nat):Int)*(Cr.crs l1 l2 w1 w2 yy xx n1)) - ((Cr.sumN (Cr.px l1) n1)*(Cr.box (Cr.px l2) w2 yy xx vh1 w1))):Int):Rat),atF bm 0 [.int .i64 ((w1:Nat):Int),.int .i64 ((vh1:Nat):Int),.int .i64 m1,.slice p1 n1 c1,.int .i64 ((w2:Nat):Int),.int .i64 ((vh2:Nat):Int),.int .i64 m2,.slice p2 n2 c2,.slice ps (vh2+1) cs,.slice pq (vh2+1) cq,.int .i64 (Cr.sumN (Cr.px l1) n1),.int .i64 qd2],slF (rI .i64) p1 c1 l1,slF (rI .i64) p2 c2 l2,slF (rS (rI .i64)) ps cs (Cr.tab (Cr.px l2) w2 (vh2+1)),slF (rS (rI .i64)) pq cq (Cr.tab (Cr.sq l2) w2 (vh2+1))])) ?_ (fun hD4=> ?_)
    ·
     rintro ⟨u2_1,u2_2,u3_1,u3_2,u8_1,u8_2,u10_1,u10_2,u11_1,u11_2⟩
     dsimp only [cw]
     refine znc 12 16 (by kernel_rfl) ?_ ?_
     ·
      refine zH rfl rfl rfl rfl (.c rfl (.c rfl .n)) ce50 (zSb (k1:=true) (u1:=u3_1) (v1:=u3_2) (q1:=((((((n1:Nat):Int)*(Cr.crs l1 l2 w1 w2 yy xx n1)) - ((Cr.sumN (Cr.px l1) n1)*(Cr.box (Cr.px l2) w2 yy xx vh1 w1))):Int):Rat)*(Big.qabs ((((((n1:Nat):Int)*(Cr.crs l1 l2 w1 w2 yy xx n1)) - ((Cr.sumN (Cr.px l1) n1)*(Cr.box (Cr.px l2) w2 yy xx vh1 w1))):Int):Rat))) (k2:=true) (u2:=u11_1) (v2:=u11_2) (q2:=((qd2:Int):Rat)*((qd1:Int):Rat)) (hl:=by exact Cr.hq4 ⟨by omega,by omega⟩ ⟨by omega,by omega⟩ ⟨by omega,by omega⟩) (hy:=by exact Cr.ne2 (by omega) (by omega))) (.c (j:=3) rfl (.c (j:=0) rfl .n)) ?_
      rintro ⟨u12_1,u12_2⟩ -
      dsimp only [List.append_eq,List.nil_append,List.cons_append]
      refine d_pv 13 rfl rfl (by kernel_rfl) (by kernel_rfl) rfl rfl (za rfl)<|d_pv 14 rfl rfl (by kernel_rfl) (by kernel_rfl) rfl rfl (zr rfl rfl)<|d_pv 15 rfl rfl (by kernel_rfl) (by kernel_rfl) rfl rfl (zr rfl rfl) ?_
      exact zla (hD2 (u2_1,u2_2,u3_1,u3_2,u8_1,u8_2,u10_1,u10_2,u11_1,u11_2,u12_1,u12_2)) (by kernel_rfl) ((.of rfl):SubM _ _) .rfl .rfl ((.of [0,1,2,3,4,5,6,7,8,9,10,11] rfl):SelR _ _ _)
     ·
      refine zgb rfl rfl rfl rfl (zw zr32 rfl) (fun u16_1 _=> ?_)
      exact zla (hD3 (u2_1,u2_2,u3_1,u3_2,u8_1,u8_2,u10_1,u10_2,u11_1,u11_2,u16_1)) (by kernel_rfl) ((.of rfl):SubM _ _) .rfl .rfl ((.of [0,1,2,3,4,5,6,7,8,9,10] rfl):SelR _ _ _)
    refine zya (X:=Wd×Wd×Wd×Wd×Wd×Wd×Wd×Wd×Nat) (k':=7) (L':=(lb 19 67583)) (fun (u2_1,u2_2,u3_1,u3_2,u8_1,u8_2,u10_1,u10_2,u16_1)=>([(15,.pointer (some ⟨u16_1,0,none⟩)),(122,.agg (cw [u10_1,u10_2]).toArray),(120,.agg (cw [u8_1,u8_2]).toArray),(115,.agg (cw [u3_1,u3_2]).toArray),(6,.pointer (some ⟨b1,0,none⟩))],[boxA u16_1 32 [.bool false,.slice none 0 0,.bool false,.slice none 0 0]],[boxA b15 32 (cw [w313,w414]),boxA b1 32 [.bool false,.slice none 0 0,.bool false,.slice none 0 0]],[qF true u10_1 u10_2 ((qd1:Int):Rat),qF true u8_1 u8_2 ((qd2:Int):Rat),qF true u3_1 u3_2 (((((((n1:Nat):Int)*(Cr.crs l1 l2 w1 w2 yy xx n1)) - ((Cr.sumN (Cr.px l1) n1)*(Cr.box (Cr.px l2) w2 yy xx vh1 w1))):Int):Rat)*(Big.qabs ((((((n1:Nat):Int)*(Cr.crs l1 l2 w1 w2 yy xx n1)) - ((Cr.sumN (Cr.px l1) n1)*(Cr.box (Cr.px l2) w2 yy xx vh1 w1))):Int):Rat))),qF true u2_1 u2_2 (Big.qabs ((((((n1:Nat):Int)*(Cr.crs l1 l2 w1 w2 yy xx n1)) - ((Cr.sumN (Cr.px l1) n1)*(Cr.box (Cr.px l2) w2 yy xx vh1 w1))):Int):Rat)),qF true w313 w414 ((((((n1:Nat):Int)*(Cr.crs l1 l2 w1 w2 yy xx n1)) - ((Cr.sumN (Cr.px l1) n1)*(Cr.box (Cr.px l2) w2 yy xx vh1 w1))):Int):Rat),atF bm 0 [.int .i64 ((w1:Nat):Int),.int .i64 ((vh1:Nat):Int),.int .i64 m1,.slice p1 n1 c1,.int .i64 ((w2:Nat):Int),.int .i64 ((vh2:Nat):Int),.int .i64 m2,.slice p2 n2 c2,.slice ps (vh2+1) cs,.slice pq (vh2+1) cq,.int .i64 (Cr.sumN (Cr.px l1) n1),.int .i64 qd2],slF (rI .i64) p1 c1 l1,slF (rI .i64) p2 c2 l2,slF (rS (rI .i64)) ps cs (Cr.tab (Cr.px l2) w2 (vh2+1)),slF (rS (rI .i64)) pq cq (Cr.tab (Cr.sq l2) w2 (vh2+1))])) ?_ (fun hD5=> ?_)
    ·
     rintro ⟨u2_1,u2_2,u3_1,u3_2,u8_1,u8_2,u10_1,u10_2,u16_1⟩
     dsimp only [cw]
     refine zL 11 (by kernel_rfl) ?_
     ·
      refine zH rfl rfl rfl rfl (.c rfl (.c rfl .n)) ce66 (zic (k1:=true) (u1:=u8_1) (v1:=u8_2) (q1:=((qd2:Int):Rat)) (k2:=true) (u2:=u10_1) (v2:=u10_2) (q2:=((qd1:Int):Rat)) (hl:=by exact Cr.hq2 ⟨by omega,by omega⟩ ⟨by omega,by omega⟩)) (.c (j:=1) rfl (.c (j:=0) rfl .n)) ?_
      rintro ⟨u11_1,u11_2⟩ -
      dsimp only [List.append_eq,List.nil_append,List.cons_append]
      exact zla (hD3 (u2_1,u2_2,u3_1,u3_2,u8_1,u8_2,u10_1,u10_2,u11_1,u11_2,u16_1)) (by kernel_rfl) ((.of rfl):SubM _ _) .rfl .rfl ((.of [0,1,2,3,4,5,6,7,8,9,10] rfl):SelR _ _ _)
    refine zya (X:=Wd×Wd×Wd×Wd×Wd×Wd×Wd×Wd) (k':=8) (L':=(lb 19 2047)) (fun (u2_1,u2_2,u3_1,u3_2,u8_1,u8_2,u10_1,u10_2)=>([(122,.agg (cw [u10_1,u10_2]).toArray),(120,.agg (cw [u8_1,u8_2]).toArray),(115,.agg (cw [u3_1,u3_2]).toArray),(6,.pointer (some ⟨b1,0,none⟩))],[],[boxA b15 32 (cw [w313,w414]),boxA b1 32 [.bool false,.slice none 0 0,.bool false,.slice none 0 0]],[qF true u10_1 u10_2 ((qd1:Int):Rat),qF true u8_1 u8_2 ((qd2:Int):Rat),qF true u3_1 u3_2 (((((((n1:Nat):Int)*(Cr.crs l1 l2 w1 w2 yy xx n1)) - ((Cr.sumN (Cr.px l1) n1)*(Cr.box (Cr.px l2) w2 yy xx vh1 w1))):Int):Rat)*(Big.qabs ((((((n1:Nat):Int)*(Cr.crs l1 l2 w1 w2 yy xx n1)) - ((Cr.sumN (Cr.px l1) n1)*(Cr.box (Cr.px l2) w2 yy xx vh1 w1))):Int):Rat))),qF true u2_1 u2_2 (Big.qabs ((((((n1:Nat):Int)*(Cr.crs l1 l2 w1 w2 yy xx n1)) - ((Cr.sumN (Cr.px l1) n1)*(Cr.box (Cr.px l2) w2 yy xx vh1 w1))):Int):Rat)),qF true w313 w414 ((((((n1:Nat):Int)*(Cr.crs l1 l2 w1 w2 yy xx n1)) - ((Cr.sumN (Cr.px l1) n1)*(Cr.box (Cr.px l2) w2 yy xx vh1 w1))):Int):Rat),atF bm 0 [.int .i64 ((w1:Nat):Int),.int .i64 ((vh1:Nat):Int),.int .i64 m1,.slice p1 n1 c1,.int .i64 ((w2:Nat):Int),.int .i64 ((vh2:Nat):Int),.int .i64 m2,.slice p2 n2 c2,.slice ps (vh2+1) cs,.slice pq (vh2+1) cq,.int .i64 (Cr.sumN (Cr.px l1) n1),.int .i64 qd2],slF (rI .i64) p1 c1 l1,slF (rI .i64) p2 c2 l2,slF (rS (rI .i64)) ps cs (Cr.tab (Cr.px l2) w2 (vh2+1)),slF (rS (rI .i64)) pq cq (Cr.tab (Cr.sq l2) w2 (vh2+1))])) ?_ (fun hD6=> ?_)
    ·
     rintro ⟨u2_1,u2_2,u3_1,u3_2,u8_1,u8_2,u10_1,u10_2⟩
     dsimp only [cw]
     refine znc 11 16 (by kernel_rfl) ?_ ?_
     ·
      refine zH rfl rfl rfl rfl (.c rfl (.c rfl .n)) ce66 (zic (k1:=true) (u1:=u8_1) (v1:=u8_2) (q1:=((qd2:Int):Rat)) (k2:=true) (u2:=u10_1) (v2:=u10_2) (q2:=((qd1:Int):Rat)) (hl:=by exact Cr.hq2 ⟨by omega,by omega⟩ ⟨by omega,by omega⟩)) (.c (j:=1) rfl (.c (j:=0) rfl .n)) ?_
      rintro ⟨u11_1,u11_2⟩ -
      dsimp only [List.append_eq,List.nil_append,List.cons_append]
      exact zla (hD4 (u2_1,u2_2,u3_1,u3_2,u8_1,u8_2,u10_1,u10_2,u11_1,u11_2)) (by kernel_rfl) ((.of rfl):SubM _ _) .rfl .rfl ((.of [0,1,2,3,4,5,6,7,8,9,10] rfl):SelR _ _ _)
     ·
      refine zgb rfl rfl rfl rfl (zw zr32 rfl) (fun u16_1 _=> ?_)
      exact zla (hD5 (u2_1,u2_2,u3_1,u3_2,u8_1,u8_2,u10_1,u10_2,u16_1)) (by kernel_rfl) ((.of rfl):SubM _ _) .rfl .rfl ((.of [0,1,2,3,4,5,6,7,8,9] rfl):SelR _ _ _)
    refine zya (X:=Wd×Wd×Wd×Wd×Wd×Wd×Nat) (k':=8) (L':=(lb 19 66559)) (fun (u2_1,u2_2,u3_1,u3_2,u8_1,u8_2,u16_1)=>([(15,.pointer (some ⟨u16_1,0,none⟩)),(120,.agg (cw [u8_1,u8_2]).toArray),(115,.agg (cw [u3_1,u3_2]).toArray),(121,.int .i64 qd1),(6,.pointer (some ⟨b1,0,none⟩))],[boxA u16_1 32 [.bool false,.slice none 0 0,.bool false,.slice none 0 0]],[boxA b15 32 (cw [w313,w414]),boxA b1 32 [.bool false,.slice none 0 0,.bool false,.slice none 0 0]],[qF true u8_1 u8_2 ((qd2:Int):Rat),qF true u3_1 u3_2 (((((((n1:Nat):Int)*(Cr.crs l1 l2 w1 w2 yy xx n1)) - ((Cr.sumN (Cr.px l1) n1)*(Cr.box (Cr.px l2) w2 yy xx vh1 w1))):Int):Rat)*(Big.qabs ((((((n1:Nat):Int)*(Cr.crs l1 l2 w1 w2 yy xx n1)) - ((Cr.sumN (Cr.px l1) n1)*(Cr.box (Cr.px l2) w2 yy xx vh1 w1))):Int):Rat))),qF true u2_1 u2_2 (Big.qabs ((((((n1:Nat):Int)*(Cr.crs l1 l2 w1 w2 yy xx n1)) - ((Cr.sumN (Cr.px l1) n1)*(Cr.box (Cr.px l2) w2 yy xx vh1 w1))):Int):Rat)),qF true w313 w414 ((((((n1:Nat):Int)*(Cr.crs l1 l2 w1 w2 yy xx n1)) - ((Cr.sumN (Cr.px l1) n1)*(Cr.box (Cr.px l2) w2 yy xx vh1 w1))):Int):Rat),atF bm 0 [.int .i64 ((w1:Nat):Int),.int .i64 ((vh1:Nat):Int),.int .i64 m1,.slice p1 n1 c1,.int .i64 ((w2:Nat):Int),.int .i64 ((vh2:Nat):Int),.int .i64 m2,.slice p2 n2 c2,.slice ps (vh2+1) cs,.slice pq (vh2+1) cq,.int .i64 (Cr.sumN (Cr.px l1) n1),.int .i64 qd2],slF (rI .i64) p1 c1 l1,slF (rI .i64) p2 c2 l2,slF (rS (rI .i64)) ps cs (Cr.tab (Cr.px l2) w2 (vh2+1)),slF (rS (rI .i64)) pq cq (Cr.tab (Cr.sq l2) w2 (vh2+1))])) ?_ (fun hD7=> ?_)
    ·
     rintro ⟨u2_1,u2_2,u3_1,u3_2,u8_1,u8_2,u16_1⟩
     dsimp only [cw]
     refine zL 10 (by kernel_rfl) ?_
     ·
      refine zH rfl rfl rfl rfl (.c rfl .n) ce65 (zfb (z:=qd1) (hz:=by first|rfl|assumption|omega|(rw [Big.zO];omega)|(decide +kernel))) (.n) ?_
      rintro ⟨u10_1,u10_2⟩ -
      dsimp only [List.append_eq,List.nil_append,List.cons_append]
      exact zla (hD5 (u2_1,u2_2,u3_1,u3_2,u8_1,u8_2,u10_1,u10_2,u16_1)) (by kernel_rfl) ((.of rfl):SubM _ _) .rfl .rfl ((.of [0,1,2,3,4,5,6,7,8,9] rfl):SelR _ _ _)
    refine zya (X:=Wd×Wd×Wd×Wd×Wd×Wd) (k':=9) (L':=(lb 19 1023)) (fun (u2_1,u2_2,u3_1,u3_2,u8_1,u8_2)=>([(120,.agg (cw [u8_1,u8_2]).toArray),(115,.agg (cw [u3_1,u3_2]).toArray),(121,.int .i64 qd1),(6,.pointer (some ⟨b1,0,none⟩))],[],[boxA b15 32 (cw [w313,w414]),boxA b1 32 [.bool false,.slice none 0 0,.bool false,.slice none 0 0]],[qF true u8_1 u8_2 ((qd2:Int):Rat),qF true u3_1 u3_2 (((((((n1:Nat):Int)*(Cr.crs l1 l2 w1 w2 yy xx n1)) - ((Cr.sumN (Cr.px l1) n1)*(Cr.box (Cr.px l2) w2 yy xx vh1 w1))):Int):Rat)*(Big.qabs ((((((n1:Nat):Int)*(Cr.crs l1 l2 w1 w2 yy xx n1)) - ((Cr.sumN (Cr.px l1) n1)*(Cr.box (Cr.px l2) w2 yy xx vh1 w1))):Int):Rat))),qF true u2_1 u2_2 (Big.qabs ((((((n1:Nat):Int)*(Cr.crs l1 l2 w1 w2 yy xx n1)) - ((Cr.sumN (Cr.px l1) n1)*(Cr.box (Cr.px l2) w2 yy xx vh1 w1))):Int):Rat)),qF true w313 w414 ((((((n1:Nat):Int)*(Cr.crs l1 l2 w1 w2 yy xx n1)) - ((Cr.sumN (Cr.px l1) n1)*(Cr.box (Cr.px l2) w2 yy xx vh1 w1))):Int):Rat),atF bm 0 [.int .i64 ((w1:Nat):Int),.int .i64 ((vh1:Nat):Int),.int .i64 m1,.slice p1 n1 c1,.int .i64 ((w2:Nat):Int),.int .i64 ((vh2:Nat):Int),.int .i64 m2,.slice p2 n2 c2,.slice ps (vh2+1) cs,.slice pq (vh2+1) cq,.int .i64 (Cr.sumN (Cr.px l1) n1),.int .i64 qd2],slF (rI .i64) p1 c1 l1,slF (rI .i64) p2 c2 l2,slF (rS (rI .i64)) ps cs (Cr.tab (Cr.px l2) w2 (vh2+1)),slF (rS (rI .i64)) pq cq (Cr.tab (Cr.sq l2) w2 (vh2+1))])) ?_ (fun hD8=> ?_)
    ·
     rintro ⟨u2_1,u2_2,u3_1,u3_2,u8_1,u8_2⟩
     dsimp only [cw]
     refine znc 10 16 (by kernel_rfl) ?_ ?_
     ·
      refine zH rfl rfl rfl rfl (.c rfl .n) ce65 (zfb (z:=qd1) (hz:=by first|rfl|assumption|omega|(rw [Big.zO];omega)|(decide +kernel))) (.n) ?_
      rintro ⟨u10_1,u10_2⟩ -
      dsimp only [List.append_eq,List.nil_append,List.cons_append]
      exact zla (hD6 (u2_1,u2_2,u3_1,u3_2,u8_1,u8_2,u10_1,u10_2)) (by kernel_rfl) ((.of rfl):SubM _ _) .rfl .rfl ((.of [0,1,2,3,4,5,6,7,8,9] rfl):SelR _ _ _)
     ·
      refine zgb rfl rfl rfl rfl (zw zr32 rfl) (fun u16_1 _=> ?_)
      exact zla (hD7 (u2_1,u2_2,u3_1,u3_2,u8_1,u8_2,u16_1)) (by kernel_rfl) ((.of rfl):SubM _ _) .rfl .rfl ((.of [0,1,2,3,4,5,6,7,8] rfl):SelR _ _ _)
    refine zya (X:=Wd×Wd×Wd×Wd×Nat) (k':=9) (L':=(lb 19 66303)) (fun (u2_1,u2_2,u3_1,u3_2,u16_1)=>([(15,.pointer (some ⟨u16_1,0,none⟩)),(115,.agg (cw [u3_1,u3_2]).toArray),(121,.int .i64 qd1),(119,.int .i64 qd2),(6,.pointer (some ⟨b1,0,none⟩))],[boxA u16_1 32 [.bool false,.slice none 0 0,.bool false,.slice none 0 0]],[boxA b15 32 (cw [w313,w414]),boxA b1 32 [.bool false,.slice none 0 0,.bool false,.slice none 0 0]],[qF true u3_1 u3_2 (((((((n1:Nat):Int)*(Cr.crs l1 l2 w1 w2 yy xx n1)) - ((Cr.sumN (Cr.px l1) n1)*(Cr.box (Cr.px l2) w2 yy xx vh1 w1))):Int):Rat)*(Big.qabs ((((((n1:Nat):Int)*(Cr.crs l1 l2 w1 w2 yy xx n1)) - ((Cr.sumN (Cr.px l1) n1)*(Cr.box (Cr.px l2) w2 yy xx vh1 w1))):Int):Rat))),qF true u2_1 u2_2 (Big.qabs ((((((n1:Nat):Int)*(Cr.crs l1 l2 w1 w2 yy xx n1)) - ((Cr.sumN (Cr.px l1) n1)*(Cr.box (Cr.px l2) w2 yy xx vh1 w1))):Int):Rat)),qF true w313 w414 ((((((n1:Nat):Int)*(Cr.crs l1 l2 w1 w2 yy xx n1)) - ((Cr.sumN (Cr.px l1) n1)*(Cr.box (Cr.px l2) w2 yy xx vh1 w1))):Int):Rat),atF bm 0 [.int .i64 ((w1:Nat):Int),.int .i64 ((vh1:Nat):Int),.int .i64 m1,.slice p1 n1 c1,.int .i64 ((w2:Nat):Int),.int .i64 ((vh2:Nat):Int),.int .i64 m2,.slice p2 n2 c2,.slice ps (vh2+1) cs,.slice pq (vh2+1) cq,.int .i64 (Cr.sumN (Cr.px l1) n1),.int .i64 qd2],slF (rI .i64) p1 c1 l1,slF (rI .i64) p2 c2 l2,slF (rS (rI .i64)) ps cs (Cr.tab (Cr.px l2) w2 (vh2+1)),slF (rS (rI .i64)) pq cq (Cr.tab (Cr.sq l2) w2 (vh2+1))])) ?_ (fun hD9=> ?_)
    ·
     rintro ⟨u2_1,u2_2,u3_1,u3_2,u16_1⟩
     dsimp only [cw]
     refine zL 8 (by kernel_rfl) ?_
     ·
      refine zH rfl rfl rfl rfl (.c rfl .n) ce65 (zfb (z:=qd2) (hz:=by first|rfl|assumption|omega|(rw [Big.zO];omega)|(decide +kernel))) (.n) ?_
      rintro ⟨u8_1,u8_2⟩ -
      dsimp only [List.append_eq,List.nil_append,List.cons_append]
      exact zla (hD7 (u2_1,u2_2,u3_1,u3_2,u8_1,u8_2,u16_1)) (by kernel_rfl) ((.of rfl):SubM _ _) .rfl .rfl ((.of [0,1,2,3,4,5,6,7,8] rfl):SelR _ _ _)
    refine zya (X:=Wd×Wd×Wd×Wd) (k':=10) (L':=(lb 19 767)) (fun (u2_1,u2_2,u3_1,u3_2)=>([(115,.agg (cw [u3_1,u3_2]).toArray),(121,.int .i64 qd1),(119,.int .i64 qd2),(6,.pointer (some ⟨b1,0,none⟩))],[],[boxA b15 32 (cw [w313,w414]),boxA b1 32 [.bool false,.slice none 0 0,.bool false,.slice none 0 0]],[qF true u3_1 u3_2 (((((((n1:Nat):Int)*(Cr.crs l1 l2 w1 w2 yy xx n1)) - ((Cr.sumN (Cr.px l1) n1)*(Cr.box (Cr.px l2) w2 yy xx vh1 w1))):Int):Rat)*(Big.qabs ((((((n1:Nat):Int)*(Cr.crs l1 l2 w1 w2 yy xx n1)) - ((Cr.sumN (Cr.px l1) n1)*(Cr.box (Cr.px l2) w2 yy xx vh1 w1))):Int):Rat))),qF true u2_1 u2_2 (Big.qabs ((((((n1:Nat):Int)*(Cr.crs l1 l2 w1 w2 yy xx n1)) - ((Cr.sumN (Cr.px l1) n1)*(Cr.box (Cr.px l2) w2 yy xx vh1 w1))):Int):Rat)),qF true w313 w414 ((((((n1:Nat):Int)*(Cr.crs l1 l2 w1 w2 yy xx n1)) - ((Cr.sumN (Cr.px l1) n1)*(Cr.box (Cr.px l2) w2 yy xx vh1 w1))):Int):Rat),atF bm 0 [.int .i64 ((w1:Nat):Int),.int .i64 ((vh1:Nat):Int),.int .i64 m1,.slice p1 n1 c1,.int .i64 ((w2:Nat):Int),.int .i64 ((vh2:Nat):Int),.int .i64 m2,.slice p2 n2 c2,.slice ps (vh2+1) cs,.slice pq (vh2+1) cq,.int .i64 (Cr.sumN (Cr.px l1) n1),.int .i64 qd2],slF (rI .i64) p1 c1 l1,slF (rI .i64) p2 c2 l2,slF (rS (rI .i64)) ps cs (Cr.tab (Cr.px l2) w2 (vh2+1)),slF (rS (rI .i64)) pq cq (Cr.tab (Cr.sq l2) w2 (vh2+1))])) ?_ (fun hD10=> ?_)
    ·
     rintro ⟨u2_1,u2_2,u3_1,u3_2⟩
     dsimp only [cw]
     refine znc 8 16 (by kernel_rfl) ?_ ?_
     ·
      refine zH rfl rfl rfl rfl (.c rfl .n) ce65 (zfb (z:=qd2) (hz:=by first|rfl|assumption|omega|(rw [Big.zO];omega)|(decide +kernel))) (.n) ?_
      rintro ⟨u8_1,u8_2⟩ -
      dsimp only [List.append_eq,List.nil_append,List.cons_append]
      exact zla (hD8 (u2_1,u2_2,u3_1,u3_2,u8_1,u8_2)) (by kernel_rfl) ((.of rfl):SubM _ _) .rfl .rfl ((.of [0,1,2,3,4,5,6,7,8] rfl):SelR _ _ _)
     ·
      refine zgb rfl rfl rfl rfl (zw zr32 rfl) (fun u16_1 _=> ?_)
      exact zla (hD9 (u2_1,u2_2,u3_1,u3_2,u16_1)) (by kernel_rfl) ((.of rfl):SubM _ _) .rfl .rfl ((.of [0,1,2,3,4,5,6,7] rfl):SelR _ _ _)
    refine zya (X:=Wd×Wd×Nat) (k':=10) (L':=(lb 19 66295)) (fun (u2_1,u2_2,u16_1)=>([(15,.pointer (some ⟨u16_1,0,none⟩)),(114,.agg (cw [u2_1,u2_2]).toArray),(121,.int .i64 qd1),(119,.int .i64 qd2),(112,.agg (cw [w313,w414]).toArray),(6,.pointer (some ⟨b1,0,none⟩))],[boxA u16_1 32 [.bool false,.slice none 0 0,.bool false,.slice none 0 0]],[boxA b15 32 (cw [w313,w414]),boxA b1 32 [.bool false,.slice none 0 0,.bool false,.slice none 0 0]],[qF true u2_1 u2_2 (Big.qabs ((((((n1:Nat):Int)*(Cr.crs l1 l2 w1 w2 yy xx n1)) - ((Cr.sumN (Cr.px l1) n1)*(Cr.box (Cr.px l2) w2 yy xx vh1 w1))):Int):Rat)),qF true w313 w414 ((((((n1:Nat):Int)*(Cr.crs l1 l2 w1 w2 yy xx n1)) - ((Cr.sumN (Cr.px l1) n1)*(Cr.box (Cr.px l2) w2 yy xx vh1 w1))):Int):Rat),atF bm 0 [.int .i64 ((w1:Nat):Int),.int .i64 ((vh1:Nat):Int),.int .i64 m1,.slice p1 n1 c1,.int .i64 ((w2:Nat):Int),.int .i64 ((vh2:Nat):Int),.int .i64 m2,.slice p2 n2 c2,.slice ps (vh2+1) cs,.slice pq (vh2+1) cq,.int .i64 (Cr.sumN (Cr.px l1) n1),.int .i64 qd2],slF (rI .i64) p1 c1 l1,slF (rI .i64) p2 c2 l2,slF (rS (rI .i64)) ps cs (Cr.tab (Cr.px l2) w2 (vh2+1)),slF (rS (rI .i64)) pq cq (Cr.tab (Cr.sq l2) w2 (vh2+1))])) ?_ (fun hD11=> ?_)
    ·
     rintro ⟨u2_1,u2_2,u16_1⟩
     dsimp only [cw]
     refine zL 3 (by kernel_rfl) ?_
     ·
      refine zH rfl rfl rfl rfl (.c rfl (.c rfl .n)) ce66 (zic (k1:=true) (u1:=w313) (v1:=w414) (q1:=((((((n1:Nat):Int)*(Cr.crs l1 l2 w1 w2 yy xx n1)) - ((Cr.sumN (Cr.px l1) n1)*(Cr.box (Cr.px l2) w2 yy xx vh1 w1))):Int):Rat)) (k2:=true) (u2:=u2_1) (v2:=u2_2) (q2:=(Big.qabs ((((((n1:Nat):Int)*(Cr.crs l1 l2 w1 w2 yy xx n1)) - ((Cr.sumN (Cr.px l1) n1)*(Cr.box (Cr.px l2) w2 yy xx vh1 w1))):Int):Rat))) (hl:=by exact Cr.hqa ⟨by omega,by omega⟩)) (.c (j:=1) rfl (.c (j:=0) rfl .n)) ?_
      rintro ⟨u3_1,u3_2⟩ -
      dsimp only [List.append_eq,List.nil_append,List.cons_append]
      exact zla (hD9 (u2_1,u2_2,u3_1,u3_2,u16_1)) (by kernel_rfl) ((.of rfl):SubM _ _) .rfl .rfl ((.of [0,1,2,3,4,5,6,7] rfl):SelR _ _ _)
    refine zya (X:=Wd×Wd) (k':=11) (L':=(lb 19 759)) (fun (u2_1,u2_2)=>([(114,.agg (cw [u2_1,u2_2]).toArray),(121,.int .i64 qd1),(119,.int .i64 qd2),(112,.agg (cw [w313,w414]).toArray),(6,.pointer (some ⟨b1,0,none⟩))],[],[boxA b15 32 (cw [w313,w414]),boxA b1 32 [.bool false,.slice none 0 0,.bool false,.slice none 0 0]],[qF true u2_1 u2_2 (Big.qabs ((((((n1:Nat):Int)*(Cr.crs l1 l2 w1 w2 yy xx n1)) - ((Cr.sumN (Cr.px l1) n1)*(Cr.box (Cr.px l2) w2 yy xx vh1 w1))):Int):Rat)),qF true w313 w414 ((((((n1:Nat):Int)*(Cr.crs l1 l2 w1 w2 yy xx n1)) - ((Cr.sumN (Cr.px l1) n1)*(Cr.box (Cr.px l2) w2 yy xx vh1 w1))):Int):Rat),atF bm 0 [.int .i64 ((w1:Nat):Int),.int .i64 ((vh1:Nat):Int),.int .i64 m1,.slice p1 n1 c1,.int .i64 ((w2:Nat):Int),.int .i64 ((vh2:Nat):Int),.int .i64 m2,.slice p2 n2 c2,.slice ps (vh2+1) cs,.slice pq (vh2+1) cq,.int .i64 (Cr.sumN (Cr.px l1) n1),.int .i64 qd2],slF (rI .i64) p1 c1 l1,slF (rI .i64) p2 c2 l2,slF (rS (rI .i64)) ps cs (Cr.tab (Cr.px l2) w2 (vh2+1)),slF (rS (rI .i64)) pq cq (Cr.tab (Cr.sq l2) w2 (vh2+1))])) ?_ (fun hD12=> ?_)
    ·
     rintro ⟨u2_1,u2_2⟩
     dsimp only [cw]
     refine znc 3 16 (by kernel_rfl) ?_ ?_
     ·
      refine zH rfl rfl rfl rfl (.c rfl (.c rfl .n)) ce66 (zic (k1:=true) (u1:=w313) (v1:=w414) (q1:=((((((n1:Nat):Int)*(Cr.crs l1 l2 w1 w2 yy xx n1)) - ((Cr.sumN (Cr.px l1) n1)*(Cr.box (Cr.px l2) w2 yy xx vh1 w1))):Int):Rat)) (k2:=true) (u2:=u2_1) (v2:=u2_2) (q2:=(Big.qabs ((((((n1:Nat):Int)*(Cr.crs l1 l2 w1 w2 yy xx n1)) - ((Cr.sumN (Cr.px l1) n1)*(Cr.box (Cr.px l2) w2 yy xx vh1 w1))):Int):Rat))) (hl:=by exact Cr.hqa ⟨by omega,by omega⟩)) (.c (j:=1) rfl (.c (j:=0) rfl .n)) ?_
      rintro ⟨u3_1,u3_2⟩ -
      dsimp only [List.append_eq,List.nil_append,List.cons_append]
      exact zla (hD10 (u2_1,u2_2,u3_1,u3_2)) (by kernel_rfl) ((.of rfl):SubM _ _) .rfl .rfl ((.of [0,1,2,3,4,5,6,7] rfl):SelR _ _ _)
     ·
      refine zgb rfl rfl rfl rfl (zw zr32 rfl) (fun u16_1 _=> ?_)
      exact zla (hD11 (u2_1,u2_2,u16_1)) (by kernel_rfl) ((.of rfl):SubM _ _) .rfl .rfl ((.of [0,1,2,3,4,5,6] rfl):SelR _ _ _)
    refine zya (X:=Nat) (k':=11) (L':=(lb 19 66291)) (fun u16_1=>([(15,.pointer (some ⟨u16_1,0,none⟩)),(121,.int .i64 qd1),(119,.int .i64 qd2),(113,.agg (cw [w313,w414]).toArray),(112,.agg (cw [w313,w414]).toArray),(6,.pointer (some ⟨b1,0,none⟩))],[boxA u16_1 32 [.bool false,.slice none 0 0,.bool false,.slice none 0 0]],[boxA b15 32 (cw [w313,w414]),boxA b1 32 [.bool false,.slice none 0 0,.bool false,.slice none 0 0]],[qF true w313 w414 ((((((n1:Nat):Int)*(Cr.crs l1 l2 w1 w2 yy xx n1)) - ((Cr.sumN (Cr.px l1) n1)*(Cr.box (Cr.px l2) w2 yy xx vh1 w1))):Int):Rat),atF bm 0 [.int .i64 ((w1:Nat):Int),.int .i64 ((vh1:Nat):Int),.int .i64 m1,.slice p1 n1 c1,.int .i64 ((w2:Nat):Int),.int .i64 ((vh2:Nat):Int),.int .i64 m2,.slice p2 n2 c2,.slice ps (vh2+1) cs,.slice pq (vh2+1) cq,.int .i64 (Cr.sumN (Cr.px l1) n1),.int .i64 qd2],slF (rI .i64) p1 c1 l1,slF (rI .i64) p2 c2 l2,slF (rS (rI .i64)) ps cs (Cr.tab (Cr.px l2) w2 (vh2+1)),slF (rS (rI .i64)) pq cq (Cr.tab (Cr.sq l2) w2 (vh2+1))])) ?_ (fun hD13=> ?_)
    ·
     rintro u16_1
     dsimp only [cw]
     refine zL 2 (by kernel_rfl) ?_
     ·
      refine zH rfl rfl rfl rfl (.c rfl .n) ce67 (zhe (k1:=true) (u1:=w313) (v1:=w414) (q1:=((((((n1:Nat):Int)*(Cr.crs l1 l2 w1 w2 yy xx n1)) - ((Cr.sumN (Cr.px l1) n1)*(Cr.box (Cr.px l2) w2 yy xx vh1 w1))):Int):Rat)) (hl:=by exact Nat.le_trans (Big.hq_64 (by omega) (by omega)) (by decide))) (.c (j:=0) rfl .n) ?_
      rintro ⟨u2_1,u2_2⟩ -
      dsimp only [List.append_eq,List.nil_append,List.cons_append]
      exact zla (hD11 (u2_1,u2_2,u16_1)) (by kernel_rfl) ((.of rfl):SubM _ _) .rfl .rfl ((.of [0,1,2,3,4,5,6] rfl):SelR _ _ _)
    refine znc 2 16 (by kernel_rfl) ?_ ?_
    ·
     refine zH rfl rfl rfl rfl (.c rfl .n) ce67 (zhe (k1:=true) (u1:=w313) (v1:=w414) (q1:=((((((n1:Nat):Int)*(Cr.crs l1 l2 w1 w2 yy xx n1)) - ((Cr.sumN (Cr.px l1) n1)*(Cr.box (Cr.px l2) w2 yy xx vh1 w1))):Int):Rat)) (hl:=by exact Nat.le_trans (Big.hq_64 (by omega) (by omega)) (by decide))) (.c (j:=0) rfl .n) ?_
     rintro ⟨u2_1,u2_2⟩ -
     dsimp only [List.append_eq,List.nil_append,List.cons_append]
     exact zla (hD12 (u2_1,u2_2)) (by kernel_rfl) ((.of rfl):SubM _ _) .rfl .rfl ((.of [0,1,2,3,4,5,6] rfl):SelR _ _ _)
    ·
     refine zgb rfl rfl rfl rfl (zw zr32 rfl) (fun u16_1 _=> ?_)
     exact zla (hD13 u16_1) (by kernel_rfl) ((.of rfl):SubM _ _) .rfl .rfl ((.of [0,1,2,3,4,5] rfl):SelR _ _ _)
theorem zse {w1:Nat} {vh1:Nat} {m1:Int} {p1:Option Addr} {n1:Nat} {c1:Nat} {l1:List Int} {w2:Nat} {vh2:Nat} {m2:Int} {p2:Option Addr} {n2:Nat} {c2:Nat} {l2:List Int} {bm:Nat} {ps:Option Addr} {cs:Nat} {pq:Option Addr} {cq:Nat} {ex:Int} {ey:Int} (hn1:l1.length=n1) (hw1:1≤w1∧w1≤64) (hh1:1≤vh1∧vh1≤64) (hwh1:n1=w1*vh1) (hb1:n1≤4096) (hg1:∀i,i<n1→0≤l1.getD i 0∧l1.getD i 0≤65535) (hn2:l2.length=n2) (hw2:1≤w2∧w2≤64) (hh2:1≤vh2∧vh2≤64) (hwh2:n2=w2*vh2) (hb2:n2≤4096) (hg2:∀i,i<n2→0≤l2.getD i 0∧l2.getD i 0≤65535) (hx:0≤ex∧ex+w1≤w2) (hy:0≤ey∧ey+vh1≤vh2):Con Tryz.prog 37 [.pointer (some ⟨bm,0,none⟩),.int .i64 (ex),.int .i64 (ey)] [] [atF bm (0) [.int .i64 (((w1:Nat):Int)),.int .i64 (((vh1:Nat):Int)),.int .i64 (m1),.slice (p1) (n1) (c1),.int .i64 (((w2:Nat):Int)),.int .i64 (((vh2:Nat):Int)),.int .i64 (m2),.slice (p2) (n2) (c2),.slice (ps) ((vh2+1)) (cs),.slice (pq) ((vh2+1)) (cq),.int .i64 ((Cr.sumN (Cr.px l1) n1)),.int .i64 (((((n1:Nat):Int)*(Cr.sumN (Cr.sq l1) n1)) - ((Cr.sumN (Cr.px l1) n1)*(Cr.sumN (Cr.px l1) n1))))],slF (rI .i64) (p1) (c1) (l1),slF (rI .i64) (p2) (c2) (l2),slF (rS (rI .i64)) (ps) (cs) (Cr.tab (Cr.px l2) w2 (vh2+1)),slF (rS (rI .i64)) (pq) (cq) (Cr.tab (Cr.sq l2) w2 (vh2+1))] (Y:=(Wd)×(Wd)) (fun y=>True) (fun y=> .agg #[y.1.b,y.1.l,y.2.b,y.2.l]) (fun y=>[]) (fun y=>[qF true y.1 y.2 ((Cr.scr l1 l2 w1 vh1 n1 w2 ey.toNat ex.toNat))]):=by
  obtain ⟨xx,rfl⟩:=Int.eq_ofNat_of_zero_le hx.1
  obtain ⟨yy,rfl⟩:=Int.eq_ofNat_of_zero_le hy.1
  exact zqd hn1 hw1 hh1 hwh1 hb1 hg1 hn2 hw2 hh2 hwh2 hb2 hg2 (by omega) (by omega)
end Go.Proofs.YtkamccndgblheaaGreat.Sp
