/- Lemmas on the walk and plain lemmas that the claim of this folder uses; each states its own conditions. Lines were printed by a program of ours. -/
import Derived.Test.YtalfgjpbbongcaaZ10C
set_option linter.unusedVariables false
set_option linter.unusedSimpArgs false
set_option linter.unusedSectionVars false
namespace Go.Proofs.Ytalfgjpbbongcaa.Sp
open Go
set_option linter.unusedVariables false
set_option maxRecDepth 100000
set_option maxHeartbeats 1000000
theorem zJb {pv:Option Addr} {nv:Nat} {cv:Nat} {V:List (Int×Int×Int)} {pf:Option Addr} {nf:Nat} {cf:Nat} {F:List (Int×Int×Int)} (hnv:V.length=nv) (hnf:F.length=nf):Con Try.prog 14 [.agg #[.slice pv nv cv,.slice pf nf cf]] [] [slF (rI3 .i64) pv cv V,slF (rI3 .i64) pf cf F] (Y:=Unit) (fun y=>True) (fun y=> .int .i64 (Ms.check V F)) (fun y=>[]) (fun y=>[]):=by
 refine zB Try.func14 rfl rfl rfl (fun c=> ?_)
 show RunC _ _ _ _ _ [(0,.agg #[.slice pv nv cv,.slice pf nf cf])] [] [slF (rI3 .i64) pv cv V,slF (rI3 .i64) pf cf F]
 refine zoa 0 rfl (fun hL0=> ?_)
 refine zoa 1 rfl (fun hL1=> ?_)
 refine zh<|za<|zS rfl rfl (zca rfl rfl) (fun b1=> ?_)
 refine r_pv rfl rfl (ze rfl)<|zj<|zc<|zh<|zh<|za<|r_u rfl rfl (zf 0 ty25 rfl rfl (.take (.take .nil)))<|zY rfl rfl (.c rfl .n) ce46 (zIe (pv:=pv) (nv:=nv) (cv:=cv) (V:=V) (pf:=pf) (nf:=nf) (cf:=cf) (F:=F) (hnv:=by assumption) (hnf:=by assumption)) (.c (j:=0) rfl (.c (j:=1) rfl .n))<|r_pv rfl rfl (ze rfl)<|zj<|zc<|zh<|za<|r_pv rfl rfl (zb rfl)<|r_pv rfl rfl (zZa rfl rfl)<|zj<|zc<|zI rfl (fun hcode=> ?_) (fun hcode=> ?_)
 ·
  refine zh<|za<|r_pv rfl rfl (zb rfl)<|r_pv rfl rfl (ze rfl)<|zj<|zc<|zP<|zl ?_
  exact zG Try.results14 () trivial (zz rfl) (by rw [Ms.check_bad hcode]) (ho:=(.n:PickO _ _ _)) (.n:SelR _ _ _)
 ·
  have hf0:=Decidable.not_not.1 hcode
  have hgood:=Ms.form_zero.1 hf0
  have hnv5:nv≤512:=by have:=hgood.nv;omega
  have hnf5:nf≤1024:=by have:=hgood.nf;omega
  refine zw<|zc<|zh<|za<|zKa rfl rfl (zQa (κ:=Int×Int) (ν:=Bool) (fun z:Int×Int=> .agg #[.int .i64 z.1,.int .i64 z.2]) (fun z:Bool=> .bool z) (fun z=>InK .i64 z.1∧InK .i64 z.2)) (fun b2 _=> ?_)
  refine r_pv rfl rfl (ze rfl)<|zj<|zc<|zh<|za<|r_pv rfl rfl (zm Try.underlying25 rfl sz22 rfl rfl)<|r_u rfl rfl (zd 1 ty22 rfl rfl rfl)<|r_pv rfl rfl (zX Try.underlying22 rfl)<|zKa rfl rfl (zsc (r:=rV) (k:=nv) (x0:=(none,0,0)) (γ0:=()) Try.underlying37 inf50 rfl rfl rfl rfl (by omega) (by omega) rfl (fun _ _=>by trivial) (by decide)) (fun b3 _=> ?_)
  refine r_mem (fun w mm=>mm.rowsNew 3 (rI .i64) nv)<|r_pv rfl rfl (ze rfl)<|zj<|zc<|zh<|zh<|za<|r_pv rfl rfl (zm Try.underlying25 rfl sz23 rfl rfl)<|r_u rfl rfl (zd 3 ty23 rfl rfl rfl)<|r_pv rfl rfl (zX Try.underlying23 rfl)<|r_pv rfl rfl (zb rfl)<|zj<|zc<|zr<|zua (X:=Nat×(List ((Int×Int)×Bool))×(List (RW Int))) (fun x:Nat×(List ((Int×Int)×Bool))×(List (RW Int))=>x.1≤nf∧Ms.Seen x.2.1 (Ms.all (F.take x.1))∧(Ms.all (F.take x.1)).Nodup∧Ms.RowsAre x.2.2 nv (Ms.srcs (F.take x.1))) (fun x=>[(35,.int .i64 ((x.1:Nat):Int)),(34,.int .i64 ((nf:Nat):Int)),(33,.slice pf nf cf),(5,.slice (some ⟨b3,0,none⟩) nv nv),(4,.map (some b2)),(1,.pointer (some ⟨b1,0,none⟩))]) (fun x=>[rowsA 3 (rI .i64) (x.2.2),rowA 50 rV (some ⟨b3,0,none⟩) nv (x.2.2.map ov),mapA b2 (fun z:Int×Int=> .agg #[.int .i64 z.1,.int .i64 z.2]) (fun z:Bool=> .bool z) (fun z=>InK .i64 z.1∧InK .i64 z.2) (x.2.1),boxA b1 25 [.slice pv nv cv,.slice pf nf cf]]) (fun x=>[slF (rI3 .i64) pv cv V,slF (rI3 .i64) pf cf F]) (fun x:Nat×(List ((Int×Int)×Bool))×(List (RW Int))=>nf - x.1) (0,[],(List.replicate nv (none,0,[]):List (RW Int))) (show 0≤nf∧Ms.Seen ([]) (Ms.all (F.take 0))∧(Ms.all (F.take 0)).Nodup∧Ms.RowsAre (List.replicate nv (none,0,[]):List (RW Int)) nv (Ms.srcs (F.take 0)) from by exact ⟨Nat.zero_le _,Ms.Seen.nil,by simp [Ms.all],Ms.RowsAre.nil nv⟩) ((.e rfl (by first|rfl|(congr 1;omega)|simp_all) (.of rfl)):SubM _ _) (ho:=((.e (i:=0) rfl (by first|rfl|simp [ov]) (.e (i:=0) rfl (by first|rfl|simp [ov]) (.of [0,0] rfl))):PickO _ _ _)) ((.of [0,1] rfl):SelR _ _ _) ?_
  rintro ⟨i,sm,zs⟩ hI
  replace hI:i≤nf∧Ms.Seen sm (Ms.all (F.take i))∧(Ms.all (F.take i)).Nodup∧Ms.RowsAre zs nv (Ms.srcs (F.take i)):=hI
  try dsimp only
  obtain ⟨hi,hsm,hnd,hrw⟩:=hI
  refine zh<|za<|r_pv rfl rfl (zD rfl rfl)<|zj<|zc<|zh<|zI rfl (fun h4=> ?_) (fun h4=> ?_)
  ·
   have hat:=hgood.at (show i<F.length by omega)
   have hta:=Ms.take_all (F:=F) (show i<F.length by omega)
   have hts:=Ms.take_srcs (F:=F) (show i<F.length by omega)
   have hsl:(Ms.srcs (F.take i)).length≤3072:=by rw [Ms.srcs_len,List.length_take];omega
   have hs0:=hsm
   have hn0:=hnd
   have hr0:=hrw
   have hzl0:=hr0.len
   refine zw<|zc<|zh<|zr<|zh<|za<|r_pv rfl rfl (zb rfl)<|zW (x0:=(F.getD i (0,0,0))) 1 i rfl Try.underlying23 sz44 rfl rfl rfl (by first|rfl|assumption|(simp;done)|omega) rfl rfl (gD (d:=(0,0,0)) (by omega)) (fun b5 o6 hok7=> ?_)
   obtain ⟨hok7x,hok7y,hok7z⟩:=hok7
   replace hok7x:=zo.1 hok7x
   replace hok7y:=zo.1 hok7y
   replace hok7z:=zo.1 hok7z
   refine r_u rfl rfl (zN (j:=0) 0 ty44 rfl rfl rfl (.take (.take (.take .nil))))<|zS rfl rfl (zn zr44 rfl) (fun b8=> ?_)
   refine r_pv rfl rfl (ze rfl)<|zx 0 rfl rfl rfl rfl rfl sz44 rfl (.take (.take (.take .nil))) .z<|zj<|zc<|zh<|za<|r_u rfl rfl (zf 0 ty44 rfl rfl (.take (.take (.take .nil))))<|zY rfl rfl (.c rfl .n) ce47 (zDc (ex:=(F.getD i (0,0,0)).1) (ey:=(F.getD i (0,0,0)).2.1) (ez:=(F.getD i (0,0,0)).2.2)) (.n)<|r_pv rfl rfl (zb rfl)<|zj<|zc<|zr<|zSa<|zQ<|zh<|za<|r_pv rfl rfl (zD rfl rfl)<|zj<|zc<|zh<|zT rfl rfl<|zw<|zc<|zh<|zr<|zh<|za<|r_pv rfl rfl (zza (i:=0) Try.underlying74 ty73 rfl rfl (by decide) (.take (.take .nil)))<|zS rfl rfl (zn zr73 rfl) (fun b9=> ?_)
   refine zx 0 rfl rfl rfl rfl rfl sz73 rfl (.take (.take .nil)) .z<|zj<|zc<|zh<|zh<|za<|r_pv rfl rfl (zb rfl)<|r_u rfl rfl (zf 0 ty73 rfl rfl (.take (.take .nil)))<|r_u rfl rfl (zFa (z:=false) (a0:=(((F.getD i (0,0,0)).1),((F.getD i (0,0,0)).2.1))) (v:= .bool ((mget sm (((F.getD i (0,0,0)).1),((F.getD i (0,0,0)).2.1))).getD false)) 4 rfl ky73 Try.underlying71 zr4 rfl rfl (⟨zo.2 (by omega),zo.2 (by omega)⟩) rfl)<|zj<|zc<|zGa rfl (fun hseen=> ?_) (fun hseen=> ?_)
   ·
    have hfin:Ms.check V F=7:=Ms.dup_at hf0 (i:=i) (by omega) (A:=Ms.all (F.take i)) (B:=[((F.getD i (0,0,0)).2.1,(F.getD i (0,0,0)).2.2),((F.getD i (0,0,0)).2.2,(F.getD i (0,0,0)).1)]) (e:=((F.getD i (0,0,0)).1,(F.getD i (0,0,0)).2.1)) (by rw [hta] <;> simp) hs0 hseen
    refine zh<|za<|r_pv rfl rfl (ze rfl)<|zj<|zc<|zP<|zl<|zq<|zl<|zl<|zq<|zq<|zl<|zl<|zq<|zl ?_
    exact zG Try.results14 () trivial (zz rfl) (by rw [hfin]) (ho:=(.n:PickO _ _ _)) (.n:SelR _ _ _)
   ·
    have hn1:=Ms.nodup_step (e:=((F.getD i (0,0,0)).1,(F.getD i (0,0,0)).2.1)) hn0 (hs0.no hseen)
    have hs1:=hs0.step ((F.getD i (0,0,0)).1,(F.getD i (0,0,0)).2.1)
    refine zw<|zc<|zh<|za<|r_pv rfl rfl (zb rfl)<|r_u rfl rfl (zf 0 ty73 rfl rfl (.take (.take .nil)))<|zJa 4 rfl rfl rfl (zya (a0:=(((F.getD i (0,0,0)).1),((F.getD i (0,0,0)).2.1))) (v:=true) ky73 Try.underlying71 rfl rfl rfl (⟨zo.2 (by omega),zo.2 (by omega)⟩)) (fun _=>(.s (.s (.s (.s .z))))) (fun _ _=> ?_)
    refine zj<|zc ?_
    obtain ⟨⟨pz0,cz0,lz0⟩,hz0⟩:∃z,(zs)[((F.getD i (0,0,0)).1).toNat]? =some z:=⟨_,List.getElem?_eq_getElem (by first|(rw [hr2.len];omega)|(rw [hr1.len];omega)|(rw [hr0.len];omega))⟩
    refine zuc (fun w mm=>mm.rowsOpen 2 (((F.getD i (0,0,0)).1).toNat) rfl hz0) ?_
    try dsimp only [List.eraseIdx]
    have hlb0:lz0.length≤3075:=by have h9:=(hr0.at hz0).2;(try simp only [List.length_append,List.length_cons,List.length_nil] at h9);omega
    refine zgb (.c (i:=0) rfl (.c (i:=3) rfl (.c (i:=0) rfl (.c (i:=0) rfl (.c (i:=0) rfl (.c (i:=0) rfl (.c (i:=0) rfl .n)))))))<|zla (OW:=[rowA 3 (rI .i64) pz0 cz0 lz0,rowA 50 rV (some ⟨b3,0,none⟩) nv (zs.map ov)]) (O:=[rowsA 3 (rI .i64) ((zs).eraseIdx (((F.getD i (0,0,0)).1).toNat)),boxA b9 73 [.int .i64 ((F.getD i (0,0,0)).1),.int .i64 ((F.getD i (0,0,0)).2.1)],boxA b8 44 [.int .i64 ((F.getD i (0,0,0)).1),.int .i64 ((F.getD i (0,0,0)).2.1),.int .i64 ((F.getD i (0,0,0)).2.2)],mapA b2 (fun z:Int×Int=> .agg #[.int .i64 z.1,.int .i64 z.2]) (fun z:Bool=> .bool z) (fun z=>InK .i64 z.1∧InK .i64 z.2) (mput sm (((F.getD i (0,0,0)).1),((F.getD i (0,0,0)).2.1)) true),boxA b1 25 [.slice pv nv cv,.slice pf nf cf]]) 10 mixed (.block (.then (.then (.block (.block (.then (.then (.block (.then .ret))))))))) (by kernel_rfl)<|d_pv 0 rfl rfl (by kernel_rfl) (by kernel_rfl) rfl rfl (zb rfl)<|d_pv 1 rfl rfl (by kernel_rfl) (by kernel_rfl) rfl rfl (zg (i:=0) Try.underlying73 sz3 rfl rfl (by decide) rfl)<|d_u 2 rfl rfl (by kernel_rfl) (by kernel_rfl) rfl rfl (zd 1 ty3 rfl rfl rfl)<|d_pv 3 rfl rfl (by kernel_rfl) (by kernel_rfl) rfl rfl (zb rfl)<|d_pv 4 rfl rfl (by kernel_rfl) (by kernel_rfl) rfl rfl (zg (i:=0) Try.underlying73 sz3 rfl rfl (by decide) rfl)<|d_uw 5 rfl rfl (by kernel_rfl) (by kernel_rfl) (by kernel_rfl) rfl rfl (zd 3 ty3 rfl rfl rfl)<|d_pv 6 rfl rfl (by kernel_rfl) (by kernel_rfl) rfl rfl (zBa (j:=((F.getD i (0,0,0)).1).toNat) Try.underlying37 sz50 rfl rfl (by omega) (by omega))<|zCe 7 rfl rfl (by kernel_rfl) (by kernel_rfl) (by kernel_rfl) rfl rfl (zYa (x0:=(pz0,lz0.length,cz0)) (v:= .slice pz0 (lz0.length) cz0) 1 (((F.getD i (0,0,0)).1).toNat) rfl ty50 rfl rfl (by rw [List.getElem?_map,hz0];rfl) rfl) (fun _ hok10=> ?_)
    refine d_pv 8 rfl rfl (by kernel_rfl) (by kernel_rfl) rfl rfl (zb rfl)<|zE 9 (by kernel_rfl) (zYb rfl rfl rfl rfl (zJ (enc:=fun z:Int=>[.int .i64 z]) (ok:=InK .i64) (h1:=fun _=>rfl) (h2:=fun _=>rfl) (k:=1) Try.underlying50 inf3 rfl (by decide) (by decide) (by decide) (.c (x:=((i:Nat):Int)) rfl rfl (fun _ _=>by exact zo.2 (by omega)) .n)) (fun b11 _=> ?_))
    refine zcb 0 rfl .z<|zE 10 (by kernel_rfl) (zTb (A':=fun v:Option Addr×Nat=>rowA 3 (rI .i64) v.1 v.2 (lz0++([((i:Nat):Int)]))) (by kernel_rfl) rfl rfl rfl (zsa 0 rfl Try.underlying50 inf3 (by decide) rfl rfl (by first|rfl|assumption|(simp;done)|omega) rfl (by first|rfl|assumption|(simp;done)|omega) (by omega) (by omega)) ?_)
    rintro ⟨p12,c13⟩ -
    dsimp only [List.append_eq,List.nil_append,List.cons_append]
    refine d_pv 11 rfl rfl (by kernel_rfl) (by kernel_rfl) rfl rfl (zBa (j:=((F.getD i (0,0,0)).1).toNat) Try.underlying37 sz50 rfl rfl (by omega) (by omega))<|zcc (zia (i:=1) rfl)<|zE 12 (by kernel_rfl) (zTb (A':=fun _=>rowA 50 rV (some ⟨b3,0,none⟩) nv ((zs.map ov).set (((F.getD i (0,0,0)).1).toNat) (p12,lz0.length+1,c13))) (by kernel_rfl) rfl rfl rfl (zIa (j:=((F.getD i (0,0,0)).1).toNat) (x0:=(p12,lz0.length+1,c13)) (γ0:=()) rfl rfl (by first|omega|(rw [List.length_map];omega)|(simp only [List.length_set];omega)|(simp;omega)) rfl rfl sz50 (fun _ _=>by trivial)) (fun _ _=> ?_))
    refine zma (by kernel_rfl)<|zA<|zc<|zuc (fun w mm=>mm.rowsClose (zs:=zs) 1 2 (((F.getD i (0,0,0)).1).toNat) rfl rfl (by first|(rw [hr2.len];omega)|(rw [hr1.len];omega)|(rw [hr0.len];omega))) ?_
    try dsimp only [List.eraseIdx]
    obtain ⟨zq1,hzq1⟩:∃z,z=(zs).set (((F.getD i (0,0,0)).1).toNat) (p12,c13,(lz0++([((i:Nat):Int)]))):=⟨_,rfl⟩
    rw [← hzq1,show ((zs.map ov).set (((F.getD i (0,0,0)).1).toNat) (p12,lz0.length+1,c13))=(zq1).map ov by rw [hzq1,List.map_set];simp [ov]]
    have hr1:=hr0.step (w:=(F.getD i (0,0,0)).1) (i:=(i:Int)) (by omega) (p':=p12) (c':=c13) hz0
    rw [← hzq1] at hr1
    have hzl1:=hr1.len
    refine za<|r_pv rfl rfl (zC (z:=1) rfl rfl (w64 (by decide)))<|r_pv rfl rfl (zb rfl)<|zj<|zba<|zQ<|zh<|za<|r_pv rfl rfl (zD rfl rfl)<|zj<|zc<|zh<|zT rfl rfl<|zw<|zc<|zh<|zr<|zh<|za<|r_pv rfl rfl (zza (i:=1) Try.underlying74 ty73 rfl rfl (by decide) (.skip (.skip (.take (.take .nil)))))<|zS rfl rfl (zn zr73 rfl) (fun b14=> ?_)
    refine zx 0 rfl rfl rfl rfl rfl sz73 rfl (.take (.take .nil)) .z<|zj<|zc<|zh<|zh<|za<|r_pv rfl rfl (zb rfl)<|r_u rfl rfl (zf 0 ty73 rfl rfl (.take (.take .nil)))<|r_u rfl rfl (zFa (z:=false) (a0:=(((F.getD i (0,0,0)).2.1),((F.getD i (0,0,0)).2.2))) (v:= .bool ((mget (mput sm (((F.getD i (0,0,0)).1),((F.getD i (0,0,0)).2.1)) true) (((F.getD i (0,0,0)).2.1),((F.getD i (0,0,0)).2.2))).getD false)) 6 rfl ky73 Try.underlying71 zr4 rfl rfl (⟨zo.2 (by omega),zo.2 (by omega)⟩) rfl)<|zj<|zc<|zGa rfl (fun hseen=> ?_) (fun hseen=> ?_)
    ·
     have hfin:Ms.check V F=7:=Ms.dup_at hf0 (i:=i) (by omega) (A:=Ms.all (F.take i)++[((F.getD i (0,0,0)).1,(F.getD i (0,0,0)).2.1)]) (B:=[((F.getD i (0,0,0)).2.2,(F.getD i (0,0,0)).1)]) (e:=((F.getD i (0,0,0)).2.1,(F.getD i (0,0,0)).2.2)) (by rw [hta] <;> simp) hs1 hseen
     refine zh<|za<|r_pv rfl rfl (ze rfl)<|zj<|zc<|zP<|zl<|zq<|zl<|zl<|zq<|zq<|zl<|zl<|zq<|zl ?_
     exact zG Try.results14 () trivial (zz rfl) (by rw [hfin]) (ho:=(.n:PickO _ _ _)) (.n:SelR _ _ _)
    ·
     have hn2:=Ms.nodup_step (e:=((F.getD i (0,0,0)).2.1,(F.getD i (0,0,0)).2.2)) hn1 (hs1.no hseen)
     have hs2:=hs1.step ((F.getD i (0,0,0)).2.1,(F.getD i (0,0,0)).2.2)
     refine zw<|zc<|zh<|za<|r_pv rfl rfl (zb rfl)<|r_u rfl rfl (zf 0 ty73 rfl rfl (.take (.take .nil)))<|zJa 6 rfl rfl rfl (zya (a0:=(((F.getD i (0,0,0)).2.1),((F.getD i (0,0,0)).2.2))) (v:=true) ky73 Try.underlying71 rfl rfl rfl (⟨zo.2 (by omega),zo.2 (by omega)⟩)) (fun _=>(.s (.s (.s (.s (.s (.s .z))))))) (fun _ _=> ?_)
     refine zj<|zc ?_
     obtain ⟨⟨pz1,cz1,lz1⟩,hz1⟩:∃z,(zq1)[((F.getD i (0,0,0)).2.1).toNat]? =some z:=⟨_,List.getElem?_eq_getElem (by first|(rw [hr2.len];omega)|(rw [hr1.len];omega)|(rw [hr0.len];omega))⟩
     refine zuc (fun w mm=>mm.rowsOpen 1 (((F.getD i (0,0,0)).2.1).toNat) rfl hz1) ?_
     try dsimp only [List.eraseIdx]
     have hlb1:lz1.length≤3075:=by have h9:=(hr1.at hz1).2;(try simp only [List.length_append,List.length_cons,List.length_nil] at h9);omega
     refine zgb (.c (i:=0) rfl (.c (i:=2) rfl (.c (i:=0) rfl (.c (i:=0) rfl (.c (i:=0) rfl (.c (i:=0) rfl (.c (i:=0) rfl (.c (i:=0) rfl (.c (i:=0) rfl .n)))))))))<|zla (OW:=[rowA 3 (rI .i64) pz1 cz1 lz1,rowA 50 rV (some ⟨b3,0,none⟩) nv ((zq1).map ov)]) (O:=[rowsA 3 (rI .i64) ((zq1).eraseIdx (((F.getD i (0,0,0)).2.1).toNat)),boxA b14 73 [.int .i64 ((F.getD i (0,0,0)).2.1),.int .i64 ((F.getD i (0,0,0)).2.2)],emA,boxA b9 73 [.int .i64 ((F.getD i (0,0,0)).1),.int .i64 ((F.getD i (0,0,0)).2.1)],boxA b8 44 [.int .i64 ((F.getD i (0,0,0)).1),.int .i64 ((F.getD i (0,0,0)).2.1),.int .i64 ((F.getD i (0,0,0)).2.2)],mapA b2 (fun z:Int×Int=> .agg #[.int .i64 z.1,.int .i64 z.2]) (fun z:Bool=> .bool z) (fun z=>InK .i64 z.1∧InK .i64 z.2) (mput (mput sm (((F.getD i (0,0,0)).1),((F.getD i (0,0,0)).2.1)) true) (((F.getD i (0,0,0)).2.1),((F.getD i (0,0,0)).2.2)) true),boxA b1 25 [.slice pv nv cv,.slice pf nf cf]]) 10 mixed (.block (.then (.then (.block (.block (.then (.then (.block (.then .ret))))))))) (by kernel_rfl)<|d_pv 0 rfl rfl (by kernel_rfl) (by kernel_rfl) rfl rfl (zb rfl)<|d_pv 1 rfl rfl (by kernel_rfl) (by kernel_rfl) rfl rfl (zg (i:=0) Try.underlying73 sz3 rfl rfl (by decide) rfl)<|d_u 2 rfl rfl (by kernel_rfl) (by kernel_rfl) rfl rfl (zd 1 ty3 rfl rfl rfl)<|d_pv 3 rfl rfl (by kernel_rfl) (by kernel_rfl) rfl rfl (zb rfl)<|d_pv 4 rfl rfl (by kernel_rfl) (by kernel_rfl) rfl rfl (zg (i:=0) Try.underlying73 sz3 rfl rfl (by decide) rfl)<|d_uw 5 rfl rfl (by kernel_rfl) (by kernel_rfl) (by kernel_rfl) rfl rfl (zd 3 ty3 rfl rfl rfl)<|d_pv 6 rfl rfl (by kernel_rfl) (by kernel_rfl) rfl rfl (zBa (j:=((F.getD i (0,0,0)).2.1).toNat) Try.underlying37 sz50 rfl rfl (by omega) (by omega))<|zCe 7 rfl rfl (by kernel_rfl) (by kernel_rfl) (by kernel_rfl) rfl rfl (zYa (x0:=(pz1,lz1.length,cz1)) (v:= .slice pz1 (lz1.length) cz1) 1 (((F.getD i (0,0,0)).2.1).toNat) rfl ty50 rfl rfl (by rw [List.getElem?_map,hz1];rfl) rfl) (fun _ hok15=> ?_)
     refine d_pv 8 rfl rfl (by kernel_rfl) (by kernel_rfl) rfl rfl (zb rfl)<|zE 9 (by kernel_rfl) (zYb rfl rfl rfl rfl (zJ (enc:=fun z:Int=>[.int .i64 z]) (ok:=InK .i64) (h1:=fun _=>rfl) (h2:=fun _=>rfl) (k:=1) Try.underlying50 inf3 rfl (by decide) (by decide) (by decide) (.c (x:=((i:Nat):Int)) rfl rfl (fun _ _=>by exact zo.2 (by omega)) .n)) (fun b16 _=> ?_))
     refine zcb 0 rfl .z<|zE 10 (by kernel_rfl) (zTb (A':=fun v:Option Addr×Nat=>rowA 3 (rI .i64) v.1 v.2 (lz1++([((i:Nat):Int)]))) (by kernel_rfl) rfl rfl rfl (zsa 0 rfl Try.underlying50 inf3 (by decide) rfl rfl (by first|rfl|assumption|(simp;done)|omega) rfl (by first|rfl|assumption|(simp;done)|omega) (by omega) (by omega)) ?_)
     rintro ⟨p17,c18⟩ -
     dsimp only [List.append_eq,List.nil_append,List.cons_append]
     refine d_pv 11 rfl rfl (by kernel_rfl) (by kernel_rfl) rfl rfl (zBa (j:=((F.getD i (0,0,0)).2.1).toNat) Try.underlying37 sz50 rfl rfl (by omega) (by omega))<|zcc (zia (i:=1) rfl)<|zE 12 (by kernel_rfl) (zTb (A':=fun _=>rowA 50 rV (some ⟨b3,0,none⟩) nv (((zq1).map ov).set (((F.getD i (0,0,0)).2.1).toNat) (p17,lz1.length+1,c18))) (by kernel_rfl) rfl rfl rfl (zIa (j:=((F.getD i (0,0,0)).2.1).toNat) (x0:=(p17,lz1.length+1,c18)) (γ0:=()) rfl rfl (by first|omega|(rw [List.length_map];omega)|(simp only [List.length_set];omega)|(simp;omega)) rfl rfl sz50 (fun _ _=>by trivial)) (fun _ _=> ?_))
     refine zma (by kernel_rfl)<|zA<|zc<|zuc (fun w mm=>mm.rowsClose (zs:=zq1) 1 2 (((F.getD i (0,0,0)).2.1).toNat) rfl rfl (by first|(rw [hr2.len];omega)|(rw [hr1.len];omega)|(rw [hr0.len];omega))) ?_
     try dsimp only [List.eraseIdx]
     obtain ⟨zq2,hzq2⟩:∃z,z=(zq1).set (((F.getD i (0,0,0)).2.1).toNat) (p17,c18,(lz1++([((i:Nat):Int)]))):=⟨_,rfl⟩
     rw [← hzq2,show (((zq1).map ov).set (((F.getD i (0,0,0)).2.1).toNat) (p17,lz1.length+1,c18))=(zq2).map ov by rw [hzq2,List.map_set];simp [ov]]
     have hr2:=hr1.step (w:=(F.getD i (0,0,0)).2.1) (i:=(i:Int)) (by omega) (p':=p17) (c':=c18) hz1
     rw [← hzq2] at hr2
     have hzl2:=hr2.len
     refine za<|r_pv rfl rfl (zC (z:=2) rfl rfl (w64 (by decide)))<|r_pv rfl rfl (zb rfl)<|zj<|zba<|zQ<|zh<|za<|r_pv rfl rfl (zD rfl rfl)<|zj<|zc<|zh<|zT rfl rfl<|zw<|zc<|zh<|zr<|zh<|za<|r_pv rfl rfl (zza (i:=2) Try.underlying74 ty73 rfl rfl (by decide) (.skip (.skip (.skip (.skip (.take (.take .nil)))))))<|zS rfl rfl (zn zr73 rfl) (fun b19=> ?_)
     refine zx 0 rfl rfl rfl rfl rfl sz73 rfl (.take (.take .nil)) .z<|zj<|zc<|zh<|zh<|za<|r_pv rfl rfl (zb rfl)<|r_u rfl rfl (zf 0 ty73 rfl rfl (.take (.take .nil)))<|r_u rfl rfl (zFa (z:=false) (a0:=(((F.getD i (0,0,0)).2.2),((F.getD i (0,0,0)).1))) (v:= .bool ((mget (mput (mput sm (((F.getD i (0,0,0)).1),((F.getD i (0,0,0)).2.1)) true) (((F.getD i (0,0,0)).2.1),((F.getD i (0,0,0)).2.2)) true) (((F.getD i (0,0,0)).2.2),((F.getD i (0,0,0)).1))).getD false)) 8 rfl ky73 Try.underlying71 zr4 rfl rfl (⟨zo.2 (by omega),zo.2 (by omega)⟩) rfl)<|zj<|zc<|zGa rfl (fun hseen=> ?_) (fun hseen=> ?_)
     ·
      have hfin:Ms.check V F=7:=Ms.dup_at hf0 (i:=i) (by omega) (A:=Ms.all (F.take i)++[((F.getD i (0,0,0)).1,(F.getD i (0,0,0)).2.1)]++[((F.getD i (0,0,0)).2.1,(F.getD i (0,0,0)).2.2)]) (B:=[]) (e:=((F.getD i (0,0,0)).2.2,(F.getD i (0,0,0)).1)) (by rw [hta] <;> simp) hs2 hseen
      refine zh<|za<|r_pv rfl rfl (ze rfl)<|zj<|zc<|zP<|zl<|zq<|zl<|zl<|zq<|zq<|zl<|zl<|zq<|zl ?_
      exact zG Try.results14 () trivial (zz rfl) (by rw [hfin]) (ho:=(.n:PickO _ _ _)) (.n:SelR _ _ _)
     ·
      have hn3:=Ms.nodup_step (e:=((F.getD i (0,0,0)).2.2,(F.getD i (0,0,0)).1)) hn2 (hs2.no hseen)
      have hs3:=hs2.step ((F.getD i (0,0,0)).2.2,(F.getD i (0,0,0)).1)
      refine zw<|zc<|zh<|za<|r_pv rfl rfl (zb rfl)<|r_u rfl rfl (zf 0 ty73 rfl rfl (.take (.take .nil)))<|zJa 8 rfl rfl rfl (zya (a0:=(((F.getD i (0,0,0)).2.2),((F.getD i (0,0,0)).1))) (v:=true) ky73 Try.underlying71 rfl rfl rfl (⟨zo.2 (by omega),zo.2 (by omega)⟩)) (fun _=>(.s (.s (.s (.s (.s (.s (.s (.s .z))))))))) (fun _ _=> ?_)
      refine zj<|zc ?_
      obtain ⟨⟨pz2,cz2,lz2⟩,hz2⟩:∃z,(zq2)[((F.getD i (0,0,0)).2.2).toNat]? =some z:=⟨_,List.getElem?_eq_getElem (by first|(rw [hr2.len];omega)|(rw [hr1.len];omega)|(rw [hr0.len];omega))⟩
      refine zuc (fun w mm=>mm.rowsOpen 1 (((F.getD i (0,0,0)).2.2).toNat) rfl hz2) ?_
      try dsimp only [List.eraseIdx]
      have hlb2:lz2.length≤3075:=by have h9:=(hr2.at hz2).2;(try simp only [List.length_append,List.length_cons,List.length_nil] at h9);omega
      refine zgb (.c (i:=0) rfl (.c (i:=2) rfl (.c (i:=0) rfl (.c (i:=0) rfl (.c (i:=0) rfl (.c (i:=0) rfl (.c (i:=0) rfl (.c (i:=0) rfl (.c (i:=0) rfl (.c (i:=0) rfl (.c (i:=0) rfl .n)))))))))))<|zla (OW:=[rowA 3 (rI .i64) pz2 cz2 lz2,rowA 50 rV (some ⟨b3,0,none⟩) nv ((zq2).map ov)]) (O:=[rowsA 3 (rI .i64) ((zq2).eraseIdx (((F.getD i (0,0,0)).2.2).toNat)),boxA b19 73 [.int .i64 ((F.getD i (0,0,0)).2.2),.int .i64 ((F.getD i (0,0,0)).1)],emA,boxA b14 73 [.int .i64 ((F.getD i (0,0,0)).2.1),.int .i64 ((F.getD i (0,0,0)).2.2)],emA,boxA b9 73 [.int .i64 ((F.getD i (0,0,0)).1),.int .i64 ((F.getD i (0,0,0)).2.1)],boxA b8 44 [.int .i64 ((F.getD i (0,0,0)).1),.int .i64 ((F.getD i (0,0,0)).2.1),.int .i64 ((F.getD i (0,0,0)).2.2)],mapA b2 (fun z:Int×Int=> .agg #[.int .i64 z.1,.int .i64 z.2]) (fun z:Bool=> .bool z) (fun z=>InK .i64 z.1∧InK .i64 z.2) (mput (mput (mput sm (((F.getD i (0,0,0)).1),((F.getD i (0,0,0)).2.1)) true) (((F.getD i (0,0,0)).2.1),((F.getD i (0,0,0)).2.2)) true) (((F.getD i (0,0,0)).2.2),((F.getD i (0,0,0)).1)) true),boxA b1 25 [.slice pv nv cv,.slice pf nf cf]]) 10 mixed (.block (.then (.then (.block (.block (.then (.then (.block (.then .ret))))))))) (by kernel_rfl)<|d_pv 0 rfl rfl (by kernel_rfl) (by kernel_rfl) rfl rfl (zb rfl)<|d_pv 1 rfl rfl (by kernel_rfl) (by kernel_rfl) rfl rfl (zg (i:=0) Try.underlying73 sz3 rfl rfl (by decide) rfl)<|d_u 2 rfl rfl (by kernel_rfl) (by kernel_rfl) rfl rfl (zd 1 ty3 rfl rfl rfl)<|d_pv 3 rfl rfl (by kernel_rfl) (by kernel_rfl) rfl rfl (zb rfl)<|d_pv 4 rfl rfl (by kernel_rfl) (by kernel_rfl) rfl rfl (zg (i:=0) Try.underlying73 sz3 rfl rfl (by decide) rfl)<|d_uw 5 rfl rfl (by kernel_rfl) (by kernel_rfl) (by kernel_rfl) rfl rfl (zd 3 ty3 rfl rfl rfl)<|d_pv 6 rfl rfl (by kernel_rfl) (by kernel_rfl) rfl rfl (zBa (j:=((F.getD i (0,0,0)).2.2).toNat) Try.underlying37 sz50 rfl rfl (by omega) (by omega))<|zCe 7 rfl rfl (by kernel_rfl) (by kernel_rfl) (by kernel_rfl) rfl rfl (zYa (x0:=(pz2,lz2.length,cz2)) (v:= .slice pz2 (lz2.length) cz2) 1 (((F.getD i (0,0,0)).2.2).toNat) rfl ty50 rfl rfl (by rw [List.getElem?_map,hz2];rfl) rfl) (fun _ hok20=> ?_)
      refine d_pv 8 rfl rfl (by kernel_rfl) (by kernel_rfl) rfl rfl (zb rfl)<|zE 9 (by kernel_rfl) (zYb rfl rfl rfl rfl (zJ (enc:=fun z:Int=>[.int .i64 z]) (ok:=InK .i64) (h1:=fun _=>rfl) (h2:=fun _=>rfl) (k:=1) Try.underlying50 inf3 rfl (by decide) (by decide) (by decide) (.c (x:=((i:Nat):Int)) rfl rfl (fun _ _=>by exact zo.2 (by omega)) .n)) (fun b21 _=> ?_))
      refine zcb 0 rfl .z<|zE 10 (by kernel_rfl) (zTb (A':=fun v:Option Addr×Nat=>rowA 3 (rI .i64) v.1 v.2 (lz2++([((i:Nat):Int)]))) (by kernel_rfl) rfl rfl rfl (zsa 0 rfl Try.underlying50 inf3 (by decide) rfl rfl (by first|rfl|assumption|(simp;done)|omega) rfl (by first|rfl|assumption|(simp;done)|omega) (by omega) (by omega)) ?_)
      rintro ⟨p22,c23⟩ -
      dsimp only [List.append_eq,List.nil_append,List.cons_append]
      refine d_pv 11 rfl rfl (by kernel_rfl) (by kernel_rfl) rfl rfl (zBa (j:=((F.getD i (0,0,0)).2.2).toNat) Try.underlying37 sz50 rfl rfl (by omega) (by omega))<|zcc (zia (i:=1) rfl)<|zE 12 (by kernel_rfl) (zTb (A':=fun _=>rowA 50 rV (some ⟨b3,0,none⟩) nv (((zq2).map ov).set (((F.getD i (0,0,0)).2.2).toNat) (p22,lz2.length+1,c23))) (by kernel_rfl) rfl rfl rfl (zIa (j:=((F.getD i (0,0,0)).2.2).toNat) (x0:=(p22,lz2.length+1,c23)) (γ0:=()) rfl rfl (by first|omega|(rw [List.length_map];omega)|(simp only [List.length_set];omega)|(simp;omega)) rfl rfl sz50 (fun _ _=>by trivial)) (fun _ _=> ?_))
      refine zma (by kernel_rfl)<|zA<|zc<|zuc (fun w mm=>mm.rowsClose (zs:=zq2) 1 2 (((F.getD i (0,0,0)).2.2).toNat) rfl rfl (by first|(rw [hr2.len];omega)|(rw [hr1.len];omega)|(rw [hr0.len];omega))) ?_
      try dsimp only [List.eraseIdx]
      obtain ⟨zq3,hzq3⟩:∃z,z=(zq2).set (((F.getD i (0,0,0)).2.2).toNat) (p22,c23,(lz2++([((i:Nat):Int)]))):=⟨_,rfl⟩
      rw [← hzq3,show (((zq2).map ov).set (((F.getD i (0,0,0)).2.2).toNat) (p22,lz2.length+1,c23))=(zq3).map ov by rw [hzq3,List.map_set];simp [ov]]
      have hr3:=hr2.step (w:=(F.getD i (0,0,0)).2.2) (i:=(i:Int)) (by omega) (p':=p22) (c':=c23) hz2
      rw [← hzq3] at hr3
      have hzl3:=hr3.len
      refine za<|r_pv rfl rfl (zC (z:=3) rfl rfl (w64 (by decide)))<|r_pv rfl rfl (zb rfl)<|zj<|zba<|zQ<|zh<|za<|r_pv rfl rfl (zD rfl rfl)<|zj<|zc<|zh<|zva rfl rfl<|zaa<|zk<|zk<|zt<|zA<|zc<|za<|r_pv rfl rfl (zC (z:=(((i+1):Nat):Int)) rfl rfl (w64 (by omega)))<|r_pv rfl rfl (zb rfl)<|zj<|zga ((i+1),mput (mput (mput sm (((F.getD i (0,0,0)).1),((F.getD i (0,0,0)).2.1)) true) (((F.getD i (0,0,0)).2.1),((F.getD i (0,0,0)).2.2)) true) (((F.getD i (0,0,0)).2.2),((F.getD i (0,0,0)).1)) true,zq3) (show (i+1)≤nf∧Ms.Seen (mput (mput (mput sm (((F.getD i (0,0,0)).1),((F.getD i (0,0,0)).2.1)) true) (((F.getD i (0,0,0)).2.1),((F.getD i (0,0,0)).2.2)) true) (((F.getD i (0,0,0)).2.2),((F.getD i (0,0,0)).1)) true) (Ms.all (F.take (i+1)))∧(Ms.all (F.take (i+1))).Nodup∧Ms.RowsAre zq3 nv (Ms.srcs (F.take (i+1))) from by exact ⟨by omega,by rw [hta];exact hs3,by rw [hta];exact hn3,by rw [hts];exact hr3⟩) (by show nf - (i+1)<nf - i;omega) ((.of rfl):SubM _ _) (ho:=((.c (i:=0) rfl (.e (i:=0) rfl (by first|rfl|(congr 1;omega)|simp_all) (.of [7,7] rfl))):PickO _ _ _)) ((.of [4,5] rfl):SelR _ _ _)
  ·
   have hrwF:Ms.RowsAre zs nv (Ms.srcs F):=by have:=hrw;rwa [List.take_of_length_le (by omega)] at this
   have hndF:(Ms.all F).Nodup:=by have:=hnd;rwa [List.take_of_length_le (by omega)] at this
   refine zaa<|zk<|zk<|zt<|zc<|zh<|zh<|zuc (fun w mm=>mm.rowsFreeze 1 0 rfl rfl) ?_
   dsimp only [List.set]
   rw [show (zs).map (fun z:RW Int=>z.2.2)=((List.range nv).map (fun v:Nat=>Ms.at_ F (v:Int))) by exact hrwF.lists]
   refine za<|r_pv rfl rfl (zb rfl)<|r_pv rfl rfl (zX Try.underlying37 rfl)<|r_pv rfl rfl (zb rfl)<|zj<|zc<|zr<|zua (X:=Nat) (fun x:Nat=>x≤nv∧∀w:Nat,w<x→Ms.starB F (w:Int) (Ms.at_ F (w:Int))=true) (fun x=>[(66,.int .i64 ((x:Nat):Int)),(65,.int .i64 ((nv:Nat):Int)),(64,.slice (some ⟨b3,0,none⟩) nv nv),(1,.pointer (some ⟨b1,0,none⟩))]) (fun x=>[boxA b1 25 [.slice pv nv cv,.slice pf nf cf]]) (fun x=>[slF (rS (rI .i64)) (some ⟨b3,0,none⟩) nv ((List.range nv).map (fun x:Nat=>Ms.at_ F (x:Int))),slF (rI3 .i64) pv cv V,slF (rI3 .i64) pf cf F]) (fun x:Nat=>nv - x) 0 (show 0≤nv∧∀w:Nat,w<0→Ms.starB F (w:Int) (Ms.at_ F (w:Int))=true from by exact ⟨Nat.zero_le _,fun w h=>by omega⟩) ((.e rfl (by first|rfl|(congr 1;omega)|simp_all) (.of rfl)):SubM _ _) (ho:=((.c (i:=3) rfl .n):PickO _ _ _)) ((.e (j:=0) rfl (by first|rfl|simp_all) (.of [1,2] rfl)):SelR _ _ _) ?_
   rintro v hI
   replace hI:v≤nv∧∀w:Nat,w<v→Ms.starB F (w:Int) (Ms.at_ F (w:Int))=true:=hI
   try dsimp only
   obtain ⟨hv,hst⟩:=hI
   have hal:=Ms.at_len F (v:Int)
   refine zh<|za<|r_pv rfl rfl (zD rfl rfl)<|zj<|zc<|zh<|zI rfl (fun h24=> ?_) (fun h24=> ?_)
   ·
    refine zw<|zc<|zh<|zr<|zh<|za<|r_pv rfl rfl (zb rfl)<|r_vl rfl rfl (zVb (x0:=(((List.range nv).map (fun v:Nat=>Ms.at_ F (v:Int))).getD v [])) 0 v rfl Try.underlying37 sz50 rfl (by first|rfl|assumption|(simp;done)|omega) rfl rfl (gD (d:=[]) (by simp;omega))) ?_
    rintro ⟨b25,o26,p27,c28⟩ -
    dsimp only [List.append_eq,List.nil_append,List.cons_append]
    refine r_u rfl rfl (zH (j:=0) 0 ty50 rfl rfl rfl rfl) ?_
    have e29:(((List.range nv).map (fun v:Nat=>Ms.at_ F (v:Int))).getD v [])=(Ms.at_ F (v:Int)):=by exact Ms.rows_get (by omega)
    rw [e29]
    refine r_pv rfl rfl (ze rfl)<|r_pv rfl rfl (ze rfl)<|zj<|zc<|zh<|za<|zKa rfl rfl (zQa (κ:=Int) (ν:=Int) (fun z:Int=> .int .i64 z) (fun z:Int=> .int .i64 z) (InK .i64)) (fun b30 _=> ?_)
    refine r_pv rfl rfl (ze rfl)<|zj<|zc<|zh<|za<|zKa rfl rfl (zQa (κ:=Int) (ν:=Int) (fun z:Int=> .int .i64 z) (fun z:Int=> .int .i64 z) (InK .i64)) (fun b31 _=> ?_)
    refine r_pv rfl rfl (ze rfl)<|zj<|zc<|zh<|zh<|za<|r_pv rfl rfl (zb rfl)<|r_pv rfl rfl (zX Try.underlying50 rfl)<|r_pv rfl rfl (zb rfl)<|zj<|zc<|zr<|zua (X:=Nat×(List (Int×Int))×(List (Int×Int))) (fun x:Nat×(List (Int×Int))×(List (Int×Int))=>x.1≤(Ms.at_ F (v:Int)).length∧Ms.UInv (Ms.pairs F (v:Int) ((Ms.at_ F (v:Int)).take x.1)) x.2.1 x.2.2) (fun x=>[(75,.int .i64 ((x.1:Nat):Int)),(74,.int .i64 (((Ms.at_ F (v:Int)).length:Nat):Int)),(73,.slice p27 ((Ms.at_ F (v:Int)).length) c28),(13,.map (some b31)),(12,.map (some b30)),(11,.slice p27 ((Ms.at_ F (v:Int)).length) c28),(10,.int .i64 ((v:Nat):Int)),(66,.int .i64 ((v:Nat):Int)),(65,.int .i64 ((nv:Nat):Int)),(64,.slice (some ⟨b3,0,none⟩) nv nv),(1,.pointer (some ⟨b1,0,none⟩))]) (fun x=>[mapA b31 (fun z:Int=> .int .i64 z) (fun z:Int=> .int .i64 z) (InK .i64) (x.2.2),mapA b30 (fun z:Int=> .int .i64 z) (fun z:Int=> .int .i64 z) (InK .i64) (x.2.1),boxA b1 25 [.slice pv nv cv,.slice pf nf cf]]) (fun x=>[atF b25 o26 [.slice p27 ((Ms.at_ F (v:Int)).length) c28],slF (rI .i64) p27 c28 (Ms.at_ F (v:Int)),slF (rS (rI .i64)) (some ⟨b3,0,none⟩) nv ((List.range nv).map (fun v:Nat=>Ms.at_ F (v:Int))),slF (rI3 .i64) pv cv V,slF (rI3 .i64) pf cf F]) (fun x:Nat×(List (Int×Int))×(List (Int×Int))=>(Ms.at_ F (v:Int)).length - x.1) (0,[],[]) (show 0≤(Ms.at_ F (v:Int)).length∧Ms.UInv (Ms.pairs F (v:Int) ((Ms.at_ F (v:Int)).take 0)) ([]) ([]) from by exact ⟨Nat.zero_le _,Ms.UInv.nil⟩) ((.e rfl (by first|rfl|(congr 1;omega)|simp_all) (.of rfl)):SubM _ _) (ho:=((.of [0,0,0] rfl):PickO _ _ _)) ((.of [0,1,2,3,4] rfl):SelR _ _ _) ?_
    rintro ⟨k,u,oth⟩ hJ
    replace hJ:k≤(Ms.at_ F (v:Int)).length∧Ms.UInv (Ms.pairs F (v:Int) ((Ms.at_ F (v:Int)).take k)) u oth:=hJ
    try dsimp only
    obtain ⟨hk,hu⟩:=hJ
    refine zh<|za<|r_pv rfl rfl (zD rfl rfl)<|zj<|zc<|zh<|zI rfl (fun h32=> ?_) (fun h32=> ?_)
    ·
     have hag:=Ms.at_getD (F:=F) (v:=(v:Int)) (j:=k) (by omega)
     have hag2:0≤(Ms.at_ F (v:Int)).getD k 0∧(Ms.at_ F (v:Int)).getD k 0≤1099511627776:=by omega
     have hatf:=hgood.at (i:=((Ms.at_ F (v:Int)).getD k 0).toNat) (by omega)
     refine zw<|zc<|zh<|zr<|zh<|za<|zW (x0:=((Ms.at_ F (v:Int)).getD k 0)) 1 k rfl Try.underlying50 sz3 rfl rfl rfl (by first|rfl|assumption|(simp;done)|omega) rfl rfl (gD (d:=0) (by omega)) (fun b33 o34 hok35=> ?_)
     replace hok35:=zo.1 hok35
     refine r_u rfl rfl (zH (j:=0) 0 ty3 rfl rfl rfl rfl)<|r_pv rfl rfl (ze rfl)<|zj<|zc<|zh<|za<|r_pv rfl rfl (zm Try.underlying25 rfl sz23 rfl rfl)<|r_u rfl rfl (zd 2 ty23 rfl rfl rfl)<|r_pv rfl rfl (zb rfl)<|zW (x0:=(F.getD (((Ms.at_ F (v:Int)).getD k 0).toNat) (0,0,0))) 5 (((Ms.at_ F (v:Int)).getD k 0).toNat) rfl Try.underlying23 sz44 rfl rfl rfl (by first|rfl|assumption|(simp;done)|omega) rfl (by omega) (gD (d:=(0,0,0)) (by omega)) (fun b36 o37 hok38=> ?_)
     obtain ⟨hok38x,hok38y,hok38z⟩:=hok38
     replace hok38x:=zo.1 hok38x
     replace hok38y:=zo.1 hok38y
     replace hok38z:=zo.1 hok38z
     refine r_u rfl rfl (zN (j:=0) 0 ty44 rfl rfl rfl (.take (.take (.take .nil))))<|r_pv rfl rfl (zb rfl)<|zj<|zc<|zr<|zSa<|zQ<|zh<|za<|r_pv rfl rfl (zD rfl rfl)<|zj<|zc<|zh<|zT rfl rfl<|zw<|zc<|zLa (X:=(List (Int×Int))×(List (Int×Int))) (fun x=>Ms.UInv (Ms.pairs F (v:Int) ((Ms.at_ F (v:Int)).take k)++Ms.mrk (v:Int) ((Ms.at_ F (v:Int)).getD k 0) (F.getD ((Ms.at_ F (v:Int)).getD k 0).toNat (0,0,0)).1) x.1 x.2) (fun x=>[(85,.bool true),(84,.int .i64 0),(83,.agg #[.int .i64 ((F.getD (((Ms.at_ F (v:Int)).getD k 0).toNat) (0,0,0)).1),.int .i64 ((F.getD (((Ms.at_ F (v:Int)).getD k 0).toNat) (0,0,0)).2.1),.int .i64 ((F.getD (((Ms.at_ F (v:Int)).getD k 0).toNat) (0,0,0)).2.2)]),(15,.int .i64 ((Ms.at_ F (v:Int)).getD k 0)),(75,.int .i64 ((k:Nat):Int)),(74,.int .i64 (((Ms.at_ F (v:Int)).length:Nat):Int)),(73,.slice p27 ((Ms.at_ F (v:Int)).length) c28),(13,.map (some b31)),(12,.map (some b30)),(11,.slice p27 ((Ms.at_ F (v:Int)).length) c28),(10,.int .i64 ((v:Nat):Int)),(66,.int .i64 ((v:Nat):Int)),(65,.int .i64 ((nv:Nat):Int)),(64,.slice (some ⟨b3,0,none⟩) nv nv),(1,.pointer (some ⟨b1,0,none⟩))]) (fun x=>[mapA b31 (fun z:Int=> .int .i64 z) (fun z:Int=> .int .i64 z) (InK .i64) (x.2),mapA b30 (fun z:Int=> .int .i64 z) (fun z:Int=> .int .i64 z) (InK .i64) (x.1),boxA b1 25 [.slice pv nv cv,.slice pf nf cf]]) (fun x=>[atF b36 o37 [.int .i64 ((F.getD (((Ms.at_ F (v:Int)).getD k 0).toNat) (0,0,0)).1),.int .i64 ((F.getD (((Ms.at_ F (v:Int)).getD k 0).toNat) (0,0,0)).2.1),.int .i64 ((F.getD (((Ms.at_ F (v:Int)).getD k 0).toNat) (0,0,0)).2.2)],atF b33 o34 [.int .i64 ((Ms.at_ F (v:Int)).getD k 0)],atF b25 o26 [.slice p27 ((Ms.at_ F (v:Int)).length) c28],slF (rI .i64) p27 c28 (Ms.at_ F (v:Int)),slF (rS (rI .i64)) (some ⟨b3,0,none⟩) nv ((List.range nv).map (fun v:Nat=>Ms.at_ F (v:Int))),slF (rI3 .i64) pv cv V,slF (rI3 .i64) pf cf F]) ?_ ?_
     ·
      refine zr<|zh<|za<|r_pv rfl rfl (zAa (i:=0) Try.underlying44 ty3 rfl rfl (by decide) rfl)<|r_pv rfl rfl (ze rfl)<|zj<|zc<|zh<|zh<|za<|r_pv rfl rfl (zb rfl)<|r_pv rfl rfl (zb rfl)<|r_pv rfl rfl (zxa rfl rfl)<|zj<|zc<|zI rfl (fun hwv=> ?_) (fun hwv=> ?_)
      ·
       refine zaa<|zk<|zt ?_
       exact zfa (u,oth) (show Ms.UInv (Ms.pairs F (v:Int) ((Ms.at_ F (v:Int)).take k)++Ms.mrk (v:Int) ((Ms.at_ F (v:Int)).getD k 0) (F.getD ((Ms.at_ F (v:Int)).getD k 0).toNat (0,0,0)).1) u oth from by exact hu.skip hwv) ((.of rfl):SubM _ _) (ho:=((.of [0,0,0] rfl):PickO _ _ _)) ((.of [0,1,2,3,4,5,6] rfl):SelR _ _ _)
      ·
       refine zw<|zc<|zh<|zh<|za<|r_pv rfl rfl (zb rfl)<|r_pv rfl rfl (zb rfl)<|r_u rfl rfl (zqb (z:=0) (a0:=(F.getD (((Ms.at_ F (v:Int)).getD k 0).toNat) (0,0,0)).1) (v:= .int .i64 ((mget oth ((F.getD (((Ms.at_ F (v:Int)).getD k 0).toNat) (0,0,0)).1)).getD 0)) 0 rfl ky3 Try.underlying76 zr3 rfl rfl (zo.2 (by omega)) rfl)<|r_pv rfl rfl (zb rfl)<|r_pv rfl rfl (zja rfl rfl)<|r_pv rfl rfl (zja rfl rfl)<|r_pv rfl rfl (ze rfl)<|r_pv rfl rfl (ze rfl)<|zj<|zc<|zh<|za<|r_pv rfl rfl (zb rfl)<|zj<|zc<|zGa rfl (fun hok=> ?_) (fun hok=> ?_)
       ·
        have hkp:=hu.kpos hok
        refine za<|r_pv rfl rfl (zb rfl)<|r_pv rfl rfl (zb rfl)<|r_pv rfl rfl (zb rfl)<|zXd (zia (i:=1) rfl)<|zwc (A:=[mapA b30 (fun z:Int=> .int .i64 z) (fun z:Int=> .int .i64 z) (InK .i64) u]) (F:=[mapA b31 (fun z:Int=> .int .i64 z) (fun z:Int=> .int .i64 z) (InK .i64) oth,boxA b1 25 [.slice pv nv cv,.slice pf nf cf]]) (first:=[]) (cap:=[]) rfl rfl rfl (.c rfl (.c rfl (.c rfl .n))) ce48 (zTc (b:=b30) (U:=u) (i0:=((Ms.at_ F (v:Int)).getD k 0)) (k0:=((mget oth ((F.getD (((Ms.at_ F (v:Int)).getD k 0).toNat) (0,0,0)).1)).getD 0)) (hU:=by first|rfl|assumption|exact hu.ok|exact huF.ok|omega|(simp;done)|(simp;omega)) (hi0:=by first|rfl|assumption|exact hu.ok|exact huF.ok|omega|(simp;done)|(simp;omega)) (hk0:=by first|rfl|assumption|exact hu.ok|exact huF.ok|omega|(simp;done)|(simp;omega))) (.n) ?_
        rintro ⟨⟩ -
        dsimp only [List.append_eq,List.nil_append,List.cons_append]
        refine zj<|zc<|za<|r_pv rfl rfl (zb rfl)<|r_pv rfl rfl (zb rfl)<|r_pv rfl rfl (zb rfl)<|zJa 1 rfl rfl rfl (zya (a0:=(F.getD (((Ms.at_ F (v:Int)).getD k 0).toNat) (0,0,0)).1) (v:=((Ms.at_ F (v:Int)).getD k 0)) ky3 Try.underlying76 rfl rfl rfl (zo.2 (by omega))) (fun _=>(.s .z)) (fun _ _=> ?_)
        refine zj<|zA ?_
        exact zfa (Ms.joinU u ((Ms.at_ F (v:Int)).getD k 0) ((mget oth ((F.getD (((Ms.at_ F (v:Int)).getD k 0).toNat) (0,0,0)).1)).getD 0),mput oth ((F.getD (((Ms.at_ F (v:Int)).getD k 0).toNat) (0,0,0)).1) ((Ms.at_ F (v:Int)).getD k 0)) (show Ms.UInv (Ms.pairs F (v:Int) ((Ms.at_ F (v:Int)).take k)++Ms.mrk (v:Int) ((Ms.at_ F (v:Int)).getD k 0) (F.getD ((Ms.at_ F (v:Int)).getD k 0).toNat (0,0,0)).1) (Ms.joinU u ((Ms.at_ F (v:Int)).getD k 0) ((mget oth ((F.getD (((Ms.at_ F (v:Int)).getD k 0).toNat) (0,0,0)).1)).getD 0)) (mput oth ((F.getD (((Ms.at_ F (v:Int)).getD k 0).toNat) (0,0,0)).1) ((Ms.at_ F (v:Int)).getD k 0)) from by exact hu.hit hag2 hwv hok) ((.of rfl):SubM _ _) (ho:=((.of [1,0,0] rfl):PickO _ _ _)) ((.of [0,1,2,3,4,5,6] rfl):SelR _ _ _)
       ·
        refine zw<|zc<|za<|r_pv rfl rfl (zb rfl)<|r_pv rfl rfl (zb rfl)<|r_pv rfl rfl (zb rfl)<|zJa 0 rfl rfl rfl (zya (a0:=(F.getD (((Ms.at_ F (v:Int)).getD k 0).toNat) (0,0,0)).1) (v:=((Ms.at_ F (v:Int)).getD k 0)) ky3 Try.underlying76 rfl rfl rfl (zo.2 (by omega))) (fun _=> .z) (fun _ _=> ?_)
        refine zj<|zA ?_
        exact zfa (u,mput oth ((F.getD (((Ms.at_ F (v:Int)).getD k 0).toNat) (0,0,0)).1) ((Ms.at_ F (v:Int)).getD k 0)) (show Ms.UInv (Ms.pairs F (v:Int) ((Ms.at_ F (v:Int)).take k)++Ms.mrk (v:Int) ((Ms.at_ F (v:Int)).getD k 0) (F.getD ((Ms.at_ F (v:Int)).getD k 0).toNat (0,0,0)).1) u (mput oth ((F.getD (((Ms.at_ F (v:Int)).getD k 0).toNat) (0,0,0)).1) ((Ms.at_ F (v:Int)).getD k 0)) from by exact hu.miss hag2 hwv hok) ((.of rfl):SubM _ _) (ho:=((.of [0,0,0] rfl):PickO _ _ _)) ((.of [0,1,2,3,4,5,6] rfl):SelR _ _ _)
     ·
      rintro ⟨ua0,oa0⟩ hu
      replace hu:Ms.UInv (Ms.pairs F (v:Int) ((Ms.at_ F (v:Int)).take k)++Ms.mrk (v:Int) ((Ms.at_ F (v:Int)).getD k 0) (F.getD ((Ms.at_ F (v:Int)).getD k 0).toNat (0,0,0)).1) ua0 oa0:=hu
      try dsimp only
      refine za<|r_pv rfl rfl (zC (z:=1) rfl rfl (w64 (by decide)))<|r_pv rfl rfl (zb rfl)<|zj<|zba<|zQ<|zh<|za<|r_pv rfl rfl (zD rfl rfl)<|zj<|zc<|zh<|zT rfl rfl<|zw<|zc<|zLa (X:=(List (Int×Int))×(List (Int×Int))) (fun x=>Ms.UInv (Ms.pairs F (v:Int) ((Ms.at_ F (v:Int)).take k)++Ms.mrk (v:Int) ((Ms.at_ F (v:Int)).getD k 0) (F.getD ((Ms.at_ F (v:Int)).getD k 0).toNat (0,0,0)).1++Ms.mrk (v:Int) ((Ms.at_ F (v:Int)).getD k 0) (F.getD ((Ms.at_ F (v:Int)).getD k 0).toNat (0,0,0)).2.1) x.1 x.2) (fun x=>[(85,.bool true),(84,.int .i64 1),(104,.int .i64 1),(83,.agg #[.int .i64 ((F.getD (((Ms.at_ F (v:Int)).getD k 0).toNat) (0,0,0)).1),.int .i64 ((F.getD (((Ms.at_ F (v:Int)).getD k 0).toNat) (0,0,0)).2.1),.int .i64 ((F.getD (((Ms.at_ F (v:Int)).getD k 0).toNat) (0,0,0)).2.2)]),(15,.int .i64 ((Ms.at_ F (v:Int)).getD k 0)),(75,.int .i64 ((k:Nat):Int)),(74,.int .i64 (((Ms.at_ F (v:Int)).length:Nat):Int)),(73,.slice p27 ((Ms.at_ F (v:Int)).length) c28),(13,.map (some b31)),(12,.map (some b30)),(11,.slice p27 ((Ms.at_ F (v:Int)).length) c28),(10,.int .i64 ((v:Nat):Int)),(66,.int .i64 ((v:Nat):Int)),(65,.int .i64 ((nv:Nat):Int)),(64,.slice (some ⟨b3,0,none⟩) nv nv),(1,.pointer (some ⟨b1,0,none⟩))]) (fun x=>[mapA b31 (fun z:Int=> .int .i64 z) (fun z:Int=> .int .i64 z) (InK .i64) (x.2),mapA b30 (fun z:Int=> .int .i64 z) (fun z:Int=> .int .i64 z) (InK .i64) (x.1),boxA b1 25 [.slice pv nv cv,.slice pf nf cf]]) (fun x=>[atF b36 o37 [.int .i64 ((F.getD (((Ms.at_ F (v:Int)).getD k 0).toNat) (0,0,0)).1),.int .i64 ((F.getD (((Ms.at_ F (v:Int)).getD k 0).toNat) (0,0,0)).2.1),.int .i64 ((F.getD (((Ms.at_ F (v:Int)).getD k 0).toNat) (0,0,0)).2.2)],atF b33 o34 [.int .i64 ((Ms.at_ F (v:Int)).getD k 0)],atF b25 o26 [.slice p27 ((Ms.at_ F (v:Int)).length) c28],slF (rI .i64) p27 c28 (Ms.at_ F (v:Int)),slF (rS (rI .i64)) (some ⟨b3,0,none⟩) nv ((List.range nv).map (fun v:Nat=>Ms.at_ F (v:Int))),slF (rI3 .i64) pv cv V,slF (rI3 .i64) pf cf F]) ?_ ?_
      ·
       refine zr<|zh<|za<|r_pv rfl rfl (zAa (i:=1) Try.underlying44 ty3 rfl rfl (by decide) rfl)<|r_pv rfl rfl (ze rfl)<|zj<|zc<|zh<|zh<|za<|r_pv rfl rfl (zb rfl)<|r_pv rfl rfl (zb rfl)<|r_pv rfl rfl (zxa rfl rfl)<|zj<|zc<|zI rfl (fun hwv=> ?_) (fun hwv=> ?_)
       ·
        refine zaa<|zk<|zt ?_
        exact zfa (ua0,oa0) (show Ms.UInv (Ms.pairs F (v:Int) ((Ms.at_ F (v:Int)).take k)++Ms.mrk (v:Int) ((Ms.at_ F (v:Int)).getD k 0) (F.getD ((Ms.at_ F (v:Int)).getD k 0).toNat (0,0,0)).1++Ms.mrk (v:Int) ((Ms.at_ F (v:Int)).getD k 0) (F.getD ((Ms.at_ F (v:Int)).getD k 0).toNat (0,0,0)).2.1) ua0 oa0 from by exact hu.skip hwv) ((.of rfl):SubM _ _) (ho:=((.of [0,0,0] rfl):PickO _ _ _)) ((.of [0,1,2,3,4,5,6] rfl):SelR _ _ _)
       ·
        refine zw<|zc<|zh<|zh<|za<|r_pv rfl rfl (zb rfl)<|r_pv rfl rfl (zb rfl)<|r_u rfl rfl (zqb (z:=0) (a0:=(F.getD (((Ms.at_ F (v:Int)).getD k 0).toNat) (0,0,0)).2.1) (v:= .int .i64 ((mget oa0 ((F.getD (((Ms.at_ F (v:Int)).getD k 0).toNat) (0,0,0)).2.1)).getD 0)) 0 rfl ky3 Try.underlying76 zr3 rfl rfl (zo.2 (by omega)) rfl)<|r_pv rfl rfl (zb rfl)<|r_pv rfl rfl (zja rfl rfl)<|r_pv rfl rfl (zja rfl rfl)<|r_pv rfl rfl (ze rfl)<|r_pv rfl rfl (ze rfl)<|zj<|zc<|zh<|za<|r_pv rfl rfl (zb rfl)<|zj<|zc<|zGa rfl (fun hok=> ?_) (fun hok=> ?_)
        ·
         have hkp:=hu.kpos hok
         refine za<|r_pv rfl rfl (zb rfl)<|r_pv rfl rfl (zb rfl)<|r_pv rfl rfl (zb rfl)<|zXd (zia (i:=1) rfl)<|zwc (A:=[mapA b30 (fun z:Int=> .int .i64 z) (fun z:Int=> .int .i64 z) (InK .i64) ua0]) (F:=[mapA b31 (fun z:Int=> .int .i64 z) (fun z:Int=> .int .i64 z) (InK .i64) oa0,boxA b1 25 [.slice pv nv cv,.slice pf nf cf]]) (first:=[]) (cap:=[]) rfl rfl rfl (.c rfl (.c rfl (.c rfl .n))) ce48 (zTc (b:=b30) (U:=ua0) (i0:=((Ms.at_ F (v:Int)).getD k 0)) (k0:=((mget oa0 ((F.getD (((Ms.at_ F (v:Int)).getD k 0).toNat) (0,0,0)).2.1)).getD 0)) (hU:=by first|rfl|assumption|exact hu.ok|exact huF.ok|omega|(simp;done)|(simp;omega)) (hi0:=by first|rfl|assumption|exact hu.ok|exact huF.ok|omega|(simp;done)|(simp;omega)) (hk0:=by first|rfl|assumption|exact hu.ok|exact huF.ok|omega|(simp;done)|(simp;omega))) (.n) ?_
         rintro ⟨⟩ -
         dsimp only [List.append_eq,List.nil_append,List.cons_append]
         refine zj<|zc<|za<|r_pv rfl rfl (zb rfl)<|r_pv rfl rfl (zb rfl)<|r_pv rfl rfl (zb rfl)<|zJa 1 rfl rfl rfl (zya (a0:=(F.getD (((Ms.at_ F (v:Int)).getD k 0).toNat) (0,0,0)).2.1) (v:=((Ms.at_ F (v:Int)).getD k 0)) ky3 Try.underlying76 rfl rfl rfl (zo.2 (by omega))) (fun _=>(.s .z)) (fun _ _=> ?_)
         refine zj<|zA ?_
         exact zfa (Ms.joinU ua0 ((Ms.at_ F (v:Int)).getD k 0) ((mget oa0 ((F.getD (((Ms.at_ F (v:Int)).getD k 0).toNat) (0,0,0)).2.1)).getD 0),mput oa0 ((F.getD (((Ms.at_ F (v:Int)).getD k 0).toNat) (0,0,0)).2.1) ((Ms.at_ F (v:Int)).getD k 0)) (show Ms.UInv (Ms.pairs F (v:Int) ((Ms.at_ F (v:Int)).take k)++Ms.mrk (v:Int) ((Ms.at_ F (v:Int)).getD k 0) (F.getD ((Ms.at_ F (v:Int)).getD k 0).toNat (0,0,0)).1++Ms.mrk (v:Int) ((Ms.at_ F (v:Int)).getD k 0) (F.getD ((Ms.at_ F (v:Int)).getD k 0).toNat (0,0,0)).2.1) (Ms.joinU ua0 ((Ms.at_ F (v:Int)).getD k 0) ((mget oa0 ((F.getD (((Ms.at_ F (v:Int)).getD k 0).toNat) (0,0,0)).2.1)).getD 0)) (mput oa0 ((F.getD (((Ms.at_ F (v:Int)).getD k 0).toNat) (0,0,0)).2.1) ((Ms.at_ F (v:Int)).getD k 0)) from by exact hu.hit hag2 hwv hok) ((.of rfl):SubM _ _) (ho:=((.of [1,0,0] rfl):PickO _ _ _)) ((.of [0,1,2,3,4,5,6] rfl):SelR _ _ _)
        ·
         refine zw<|zc<|za<|r_pv rfl rfl (zb rfl)<|r_pv rfl rfl (zb rfl)<|r_pv rfl rfl (zb rfl)<|zJa 0 rfl rfl rfl (zya (a0:=(F.getD (((Ms.at_ F (v:Int)).getD k 0).toNat) (0,0,0)).2.1) (v:=((Ms.at_ F (v:Int)).getD k 0)) ky3 Try.underlying76 rfl rfl rfl (zo.2 (by omega))) (fun _=> .z) (fun _ _=> ?_)
         refine zj<|zA ?_
         exact zfa (ua0,mput oa0 ((F.getD (((Ms.at_ F (v:Int)).getD k 0).toNat) (0,0,0)).2.1) ((Ms.at_ F (v:Int)).getD k 0)) (show Ms.UInv (Ms.pairs F (v:Int) ((Ms.at_ F (v:Int)).take k)++Ms.mrk (v:Int) ((Ms.at_ F (v:Int)).getD k 0) (F.getD ((Ms.at_ F (v:Int)).getD k 0).toNat (0,0,0)).1++Ms.mrk (v:Int) ((Ms.at_ F (v:Int)).getD k 0) (F.getD ((Ms.at_ F (v:Int)).getD k 0).toNat (0,0,0)).2.1) ua0 (mput oa0 ((F.getD (((Ms.at_ F (v:Int)).getD k 0).toNat) (0,0,0)).2.1) ((Ms.at_ F (v:Int)).getD k 0)) from by exact hu.miss hag2 hwv hok) ((.of rfl):SubM _ _) (ho:=((.of [0,0,0] rfl):PickO _ _ _)) ((.of [0,1,2,3,4,5,6] rfl):SelR _ _ _)
      ·
       rintro ⟨ua1,oa1⟩ hu
       replace hu:Ms.UInv (Ms.pairs F (v:Int) ((Ms.at_ F (v:Int)).take k)++Ms.mrk (v:Int) ((Ms.at_ F (v:Int)).getD k 0) (F.getD ((Ms.at_ F (v:Int)).getD k 0).toNat (0,0,0)).1++Ms.mrk (v:Int) ((Ms.at_ F (v:Int)).getD k 0) (F.getD ((Ms.at_ F (v:Int)).getD k 0).toNat (0,0,0)).2.1) ua1 oa1:=hu
       try dsimp only
       refine za<|r_pv rfl rfl (zC (z:=2) rfl rfl (w64 (by decide)))<|r_pv rfl rfl (zb rfl)<|zj<|zba<|zQ<|zh<|za<|r_pv rfl rfl (zD rfl rfl)<|zj<|zc<|zh<|zT rfl rfl<|zw<|zc<|zLa (X:=(List (Int×Int))×(List (Int×Int))) (fun x=>Ms.UInv (Ms.pairs F (v:Int) ((Ms.at_ F (v:Int)).take k)++Ms.mrk (v:Int) ((Ms.at_ F (v:Int)).getD k 0) (F.getD ((Ms.at_ F (v:Int)).getD k 0).toNat (0,0,0)).1++Ms.mrk (v:Int) ((Ms.at_ F (v:Int)).getD k 0) (F.getD ((Ms.at_ F (v:Int)).getD k 0).toNat (0,0,0)).2.1++Ms.mrk (v:Int) ((Ms.at_ F (v:Int)).getD k 0) (F.getD ((Ms.at_ F (v:Int)).getD k 0).toNat (0,0,0)).2.2) x.1 x.2) (fun x=>[(85,.bool true),(84,.int .i64 2),(104,.int .i64 2),(83,.agg #[.int .i64 ((F.getD (((Ms.at_ F (v:Int)).getD k 0).toNat) (0,0,0)).1),.int .i64 ((F.getD (((Ms.at_ F (v:Int)).getD k 0).toNat) (0,0,0)).2.1),.int .i64 ((F.getD (((Ms.at_ F (v:Int)).getD k 0).toNat) (0,0,0)).2.2)]),(15,.int .i64 ((Ms.at_ F (v:Int)).getD k 0)),(75,.int .i64 ((k:Nat):Int)),(74,.int .i64 (((Ms.at_ F (v:Int)).length:Nat):Int)),(73,.slice p27 ((Ms.at_ F (v:Int)).length) c28),(13,.map (some b31)),(12,.map (some b30)),(11,.slice p27 ((Ms.at_ F (v:Int)).length) c28),(10,.int .i64 ((v:Nat):Int)),(66,.int .i64 ((v:Nat):Int)),(65,.int .i64 ((nv:Nat):Int)),(64,.slice (some ⟨b3,0,none⟩) nv nv),(1,.pointer (some ⟨b1,0,none⟩))]) (fun x=>[mapA b31 (fun z:Int=> .int .i64 z) (fun z:Int=> .int .i64 z) (InK .i64) (x.2),mapA b30 (fun z:Int=> .int .i64 z) (fun z:Int=> .int .i64 z) (InK .i64) (x.1),boxA b1 25 [.slice pv nv cv,.slice pf nf cf]]) (fun x=>[atF b36 o37 [.int .i64 ((F.getD (((Ms.at_ F (v:Int)).getD k 0).toNat) (0,0,0)).1),.int .i64 ((F.getD (((Ms.at_ F (v:Int)).getD k 0).toNat) (0,0,0)).2.1),.int .i64 ((F.getD (((Ms.at_ F (v:Int)).getD k 0).toNat) (0,0,0)).2.2)],atF b33 o34 [.int .i64 ((Ms.at_ F (v:Int)).getD k 0)],atF b25 o26 [.slice p27 ((Ms.at_ F (v:Int)).length) c28],slF (rI .i64) p27 c28 (Ms.at_ F (v:Int)),slF (rS (rI .i64)) (some ⟨b3,0,none⟩) nv ((List.range nv).map (fun v:Nat=>Ms.at_ F (v:Int))),slF (rI3 .i64) pv cv V,slF (rI3 .i64) pf cf F]) ?_ ?_
       ·
        refine zr<|zh<|za<|r_pv rfl rfl (zAa (i:=2) Try.underlying44 ty3 rfl rfl (by decide) rfl)<|r_pv rfl rfl (ze rfl)<|zj<|zc<|zh<|zh<|za<|r_pv rfl rfl (zb rfl)<|r_pv rfl rfl (zb rfl)<|r_pv rfl rfl (zxa rfl rfl)<|zj<|zc<|zI rfl (fun hwv=> ?_) (fun hwv=> ?_)
        ·
         refine zaa<|zk<|zt ?_
         exact zfa (ua1,oa1) (show Ms.UInv (Ms.pairs F (v:Int) ((Ms.at_ F (v:Int)).take k)++Ms.mrk (v:Int) ((Ms.at_ F (v:Int)).getD k 0) (F.getD ((Ms.at_ F (v:Int)).getD k 0).toNat (0,0,0)).1++Ms.mrk (v:Int) ((Ms.at_ F (v:Int)).getD k 0) (F.getD ((Ms.at_ F (v:Int)).getD k 0).toNat (0,0,0)).2.1++Ms.mrk (v:Int) ((Ms.at_ F (v:Int)).getD k 0) (F.getD ((Ms.at_ F (v:Int)).getD k 0).toNat (0,0,0)).2.2) ua1 oa1 from by exact hu.skip hwv) ((.of rfl):SubM _ _) (ho:=((.of [0,0,0] rfl):PickO _ _ _)) ((.of [0,1,2,3,4,5,6] rfl):SelR _ _ _)
        ·
         refine zw<|zc<|zh<|zh<|za<|r_pv rfl rfl (zb rfl)<|r_pv rfl rfl (zb rfl)<|r_u rfl rfl (zqb (z:=0) (a0:=(F.getD (((Ms.at_ F (v:Int)).getD k 0).toNat) (0,0,0)).2.2) (v:= .int .i64 ((mget oa1 ((F.getD (((Ms.at_ F (v:Int)).getD k 0).toNat) (0,0,0)).2.2)).getD 0)) 0 rfl ky3 Try.underlying76 zr3 rfl rfl (zo.2 (by omega)) rfl)<|r_pv rfl rfl (zb rfl)<|r_pv rfl rfl (zja rfl rfl)<|r_pv rfl rfl (zja rfl rfl)<|r_pv rfl rfl (ze rfl)<|r_pv rfl rfl (ze rfl)<|zj<|zc<|zh<|za<|r_pv rfl rfl (zb rfl)<|zj<|zc<|zGa rfl (fun hok=> ?_) (fun hok=> ?_)
         ·
          have hkp:=hu.kpos hok
          refine za<|r_pv rfl rfl (zb rfl)<|r_pv rfl rfl (zb rfl)<|r_pv rfl rfl (zb rfl)<|zXd (zia (i:=1) rfl)<|zwc (A:=[mapA b30 (fun z:Int=> .int .i64 z) (fun z:Int=> .int .i64 z) (InK .i64) ua1]) (F:=[mapA b31 (fun z:Int=> .int .i64 z) (fun z:Int=> .int .i64 z) (InK .i64) oa1,boxA b1 25 [.slice pv nv cv,.slice pf nf cf]]) (first:=[]) (cap:=[]) rfl rfl rfl (.c rfl (.c rfl (.c rfl .n))) ce48 (zTc (b:=b30) (U:=ua1) (i0:=((Ms.at_ F (v:Int)).getD k 0)) (k0:=((mget oa1 ((F.getD (((Ms.at_ F (v:Int)).getD k 0).toNat) (0,0,0)).2.2)).getD 0)) (hU:=by first|rfl|assumption|exact hu.ok|exact huF.ok|omega|(simp;done)|(simp;omega)) (hi0:=by first|rfl|assumption|exact hu.ok|exact huF.ok|omega|(simp;done)|(simp;omega)) (hk0:=by first|rfl|assumption|exact hu.ok|exact huF.ok|omega|(simp;done)|(simp;omega))) (.n) ?_
          rintro ⟨⟩ -
          dsimp only [List.append_eq,List.nil_append,List.cons_append]
          refine zj<|zc<|za<|r_pv rfl rfl (zb rfl)<|r_pv rfl rfl (zb rfl)<|r_pv rfl rfl (zb rfl)<|zJa 1 rfl rfl rfl (zya (a0:=(F.getD (((Ms.at_ F (v:Int)).getD k 0).toNat) (0,0,0)).2.2) (v:=((Ms.at_ F (v:Int)).getD k 0)) ky3 Try.underlying76 rfl rfl rfl (zo.2 (by omega))) (fun _=>(.s .z)) (fun _ _=> ?_)
          refine zj<|zA ?_
          exact zfa (Ms.joinU ua1 ((Ms.at_ F (v:Int)).getD k 0) ((mget oa1 ((F.getD (((Ms.at_ F (v:Int)).getD k 0).toNat) (0,0,0)).2.2)).getD 0),mput oa1 ((F.getD (((Ms.at_ F (v:Int)).getD k 0).toNat) (0,0,0)).2.2) ((Ms.at_ F (v:Int)).getD k 0)) (show Ms.UInv (Ms.pairs F (v:Int) ((Ms.at_ F (v:Int)).take k)++Ms.mrk (v:Int) ((Ms.at_ F (v:Int)).getD k 0) (F.getD ((Ms.at_ F (v:Int)).getD k 0).toNat (0,0,0)).1++Ms.mrk (v:Int) ((Ms.at_ F (v:Int)).getD k 0) (F.getD ((Ms.at_ F (v:Int)).getD k 0).toNat (0,0,0)).2.1++Ms.mrk (v:Int) ((Ms.at_ F (v:Int)).getD k 0) (F.getD ((Ms.at_ F (v:Int)).getD k 0).toNat (0,0,0)).2.2) (Ms.joinU ua1 ((Ms.at_ F (v:Int)).getD k 0) ((mget oa1 ((F.getD (((Ms.at_ F (v:Int)).getD k 0).toNat) (0,0,0)).2.2)).getD 0)) (mput oa1 ((F.getD (((Ms.at_ F (v:Int)).getD k 0).toNat) (0,0,0)).2.2) ((Ms.at_ F (v:Int)).getD k 0)) from by exact hu.hit hag2 hwv hok) ((.of rfl):SubM _ _) (ho:=((.of [1,0,0] rfl):PickO _ _ _)) ((.of [0,1,2,3,4,5,6] rfl):SelR _ _ _)
         ·
          refine zw<|zc<|za<|r_pv rfl rfl (zb rfl)<|r_pv rfl rfl (zb rfl)<|r_pv rfl rfl (zb rfl)<|zJa 0 rfl rfl rfl (zya (a0:=(F.getD (((Ms.at_ F (v:Int)).getD k 0).toNat) (0,0,0)).2.2) (v:=((Ms.at_ F (v:Int)).getD k 0)) ky3 Try.underlying76 rfl rfl rfl (zo.2 (by omega))) (fun _=> .z) (fun _ _=> ?_)
          refine zj<|zA ?_
          exact zfa (ua1,mput oa1 ((F.getD (((Ms.at_ F (v:Int)).getD k 0).toNat) (0,0,0)).2.2) ((Ms.at_ F (v:Int)).getD k 0)) (show Ms.UInv (Ms.pairs F (v:Int) ((Ms.at_ F (v:Int)).take k)++Ms.mrk (v:Int) ((Ms.at_ F (v:Int)).getD k 0) (F.getD ((Ms.at_ F (v:Int)).getD k 0).toNat (0,0,0)).1++Ms.mrk (v:Int) ((Ms.at_ F (v:Int)).getD k 0) (F.getD ((Ms.at_ F (v:Int)).getD k 0).toNat (0,0,0)).2.1++Ms.mrk (v:Int) ((Ms.at_ F (v:Int)).getD k 0) (F.getD ((Ms.at_ F (v:Int)).getD k 0).toNat (0,0,0)).2.2) ua1 (mput oa1 ((F.getD (((Ms.at_ F (v:Int)).getD k 0).toNat) (0,0,0)).2.2) ((Ms.at_ F (v:Int)).getD k 0)) from by exact hu.miss hag2 hwv hok) ((.of rfl):SubM _ _) (ho:=((.of [0,0,0] rfl):PickO _ _ _)) ((.of [0,1,2,3,4,5,6] rfl):SelR _ _ _)
       ·
        rintro ⟨ua2,oa2⟩ hu
        replace hu:Ms.UInv (Ms.pairs F (v:Int) ((Ms.at_ F (v:Int)).take k)++Ms.mrk (v:Int) ((Ms.at_ F (v:Int)).getD k 0) (F.getD ((Ms.at_ F (v:Int)).getD k 0).toNat (0,0,0)).1++Ms.mrk (v:Int) ((Ms.at_ F (v:Int)).getD k 0) (F.getD ((Ms.at_ F (v:Int)).getD k 0).toNat (0,0,0)).2.1++Ms.mrk (v:Int) ((Ms.at_ F (v:Int)).getD k 0) (F.getD ((Ms.at_ F (v:Int)).getD k 0).toNat (0,0,0)).2.2) ua2 oa2:=hu
        try dsimp only
        refine za<|r_pv rfl rfl (zC (z:=3) rfl rfl (w64 (by decide)))<|r_pv rfl rfl (zb rfl)<|zj<|zba<|zQ<|zh<|za<|r_pv rfl rfl (zD rfl rfl)<|zj<|zc<|zh<|zva rfl rfl<|zaa<|zk<|zk<|zt<|zA<|zc<|za<|r_pv rfl rfl (zC (z:=(((k+1):Nat):Int)) rfl rfl (w64 (by omega)))<|r_pv rfl rfl (zb rfl)<|zj<|zga ((k+1),ua2,oa2) (show (k+1)≤(Ms.at_ F (v:Int)).length∧Ms.UInv (Ms.pairs F (v:Int) ((Ms.at_ F (v:Int)).take (k+1))) ua2 oa2 from by exact ⟨by omega,by rw [Ms.take_snoc 0 (by omega),Ms.pairs_snoc];exact hu⟩) (by show (Ms.at_ F (v:Int)).length - (k+1)<(Ms.at_ F (v:Int)).length - k;omega) ((.of rfl):SubM _ _) (ho:=((.of [0,0,0] rfl):PickO _ _ _)) ((.of [2,3,4,5,6] rfl):SelR _ _ _)
    ·
     have huF:Ms.UInv (Ms.pairs F (v:Int) (Ms.at_ F (v:Int))) u oth:=by have:=hu;rwa [List.take_of_length_le (by omega)] at this
     refine zaa<|zk<|zk<|zt<|zc<|zh<|za<|r_pv rfl rfl (zb rfl)<|r_pv rfl rfl (zX Try.underlying50 rfl)<|r_pv rfl rfl (zb rfl)<|zj<|zc<|zr<|zua (X:=Nat) (fun x:Nat=>x≤(Ms.at_ F (v:Int)).length∧∀j,j<x→Ms.find u ((Ms.at_ F (v:Int)).getD j 0)=Ms.find u ((Ms.at_ F (v:Int)).getD 0 0)) (fun x=>[(108,.int .i64 ((x:Nat):Int)),(107,.int .i64 (((Ms.at_ F (v:Int)).length:Nat):Int)),(106,.slice p27 ((Ms.at_ F (v:Int)).length) c28),(12,.map (some b30)),(11,.slice p27 ((Ms.at_ F (v:Int)).length) c28),(66,.int .i64 ((v:Nat):Int)),(65,.int .i64 ((nv:Nat):Int)),(64,.slice (some ⟨b3,0,none⟩) nv nv),(1,.pointer (some ⟨b1,0,none⟩))]) (fun x=>[mapA b31 (fun z:Int=> .int .i64 z) (fun z:Int=> .int .i64 z) (InK .i64) oth,mapA b30 (fun z:Int=> .int .i64 z) (fun z:Int=> .int .i64 z) (InK .i64) u,boxA b1 25 [.slice pv nv cv,.slice pf nf cf]]) (fun x=>[atF b25 o26 [.slice p27 ((Ms.at_ F (v:Int)).length) c28],slF (rI .i64) p27 c28 (Ms.at_ F (v:Int)),slF (rS (rI .i64)) (some ⟨b3,0,none⟩) nv ((List.range nv).map (fun v:Nat=>Ms.at_ F (v:Int))),slF (rI3 .i64) pv cv V,slF (rI3 .i64) pf cf F]) (fun x:Nat=>(Ms.at_ F (v:Int)).length - x) 0 (show 0≤(Ms.at_ F (v:Int)).length∧∀j,j<0→Ms.find u ((Ms.at_ F (v:Int)).getD j 0)=Ms.find u ((Ms.at_ F (v:Int)).getD 0 0) from by exact ⟨Nat.zero_le _,fun j h=>by omega⟩) ((.e rfl (by first|rfl|(congr 1;omega)|simp_all) (.of rfl)):SubM _ _) (ho:=((.of [0,0,0] rfl):PickO _ _ _)) ((.of [0,1,2,3,4] rfl):SelR _ _ _) ?_
     rintro q hJ
     replace hJ:q≤(Ms.at_ F (v:Int)).length∧∀j,j<q→Ms.find u ((Ms.at_ F (v:Int)).getD j 0)=Ms.find u ((Ms.at_ F (v:Int)).getD 0 0):=hJ
     try dsimp only
     obtain ⟨hq,hall⟩:=hJ
     refine zh<|za<|r_pv rfl rfl (zD rfl rfl)<|zj<|zc<|zh<|zI rfl (fun h39=> ?_) (fun h39=> ?_)
     ·
      have hag:=Ms.at_getD (F:=F) (v:=(v:Int)) (j:=q) (by omega)
      have hag0:=Ms.at_getD (F:=F) (v:=(v:Int)) (j:=0) (by omega)
      refine zw<|zc<|zh<|zr<|zh<|za<|zW (x0:=((Ms.at_ F (v:Int)).getD q 0)) 1 q rfl Try.underlying50 sz3 rfl rfl rfl (by first|rfl|assumption|(simp;done)|omega) rfl rfl (gD (d:=0) (by omega)) (fun b40 o41 hok42=> ?_)
      replace hok42:=zo.1 hok42
      refine r_u rfl rfl (zH (j:=0) 0 ty3 rfl rfl rfl rfl)<|r_pv rfl rfl (ze rfl)<|zj<|zc<|zh<|zgb (.c (i:=1) rfl (.c (i:=0) rfl (.c (i:=0) rfl .n)))<|zla (OW:=[mapA b30 (fun z:Int=> .int .i64 z) (fun z:Int=> .int .i64 z) (InK .i64) u]) (O:=[mapA b31 (fun z:Int=> .int .i64 z) (fun z:Int=> .int .i64 z) (InK .i64) oth,boxA b1 25 [.slice pv nv cv,.slice pf nf cf]]) 2 mixed (.then (.block (.then (.then (.block (.block (.then (.then (.block (.then .ret)))))))))) (by kernel_rfl)<|d_pv 0 rfl rfl (by kernel_rfl) (by kernel_rfl) rfl rfl (zb rfl)<|d_pv 1 rfl rfl (by kernel_rfl) (by kernel_rfl) rfl rfl (zb rfl)<|d_pv 3 rfl rfl (by kernel_rfl) (by kernel_rfl) rfl rfl (zb rfl)<|d_pv 4 rfl rfl (by kernel_rfl) (by kernel_rfl) rfl rfl (zb rfl)<|zta (x0:=((Ms.at_ F (v:Int)).getD 0 0)) 5 rfl rfl (by kernel_rfl) (by kernel_rfl) 2 0 rfl Try.underlying50 sz3 rfl rfl rfl (by first|rfl|assumption|(simp;done)|omega) rfl rfl (gD (d:=0) (by omega)) (fun b43 o44 hok45=> ?_)
      replace hok45:=zo.1 hok45
      refine d_u 6 rfl rfl (by kernel_rfl) (by kernel_rfl) rfl rfl (zH (j:=0) 0 ty3 rfl rfl rfl rfl)<|zE 2 (by kernel_rfl) (zYd (first:=[]) (cap:=[]) (A':=fun y=>mapA b30 (fun z:Int=> .int .i64 z) (fun z:Int=> .int .i64 z) (InK .i64) u) (by kernel_rfl) rfl rfl rfl rfl (.c rfl (.c rfl .n)) ce49 (znc (b:=b30) (U:=u) (i0:=((Ms.at_ F (v:Int)).getD q 0)) (hU:=by first|rfl|assumption|exact hu.ok|exact huF.ok|omega|(simp;done)|(simp;omega)) (hi0:=by first|rfl|assumption|exact hu.ok|exact huF.ok|omega|(simp;done)|(simp;omega))) (.n) ?_)
      rintro ⟨⟩ -
      dsimp only [List.append_eq,List.nil_append,List.cons_append]
      refine zE 7 (by kernel_rfl) (zYd (first:=[]) (cap:=[]) (A':=fun y=>mapA b30 (fun z:Int=> .int .i64 z) (fun z:Int=> .int .i64 z) (InK .i64) u) (by kernel_rfl) rfl rfl rfl rfl (.c rfl (.c rfl .n)) ce49 (znc (b:=b30) (U:=u) (i0:=((Ms.at_ F (v:Int)).getD 0 0)) (hU:=by first|rfl|assumption|exact hu.ok|exact huF.ok|omega|(simp;done)|(simp;omega)) (hi0:=by first|rfl|assumption|exact hu.ok|exact huF.ok|omega|(simp;done)|(simp;omega))) (.n) ?_)
      rintro ⟨⟩ -
      dsimp only [List.append_eq,List.nil_append,List.cons_append]
      refine d_pv 8 rfl rfl (by kernel_rfl) (by kernel_rfl) rfl rfl (zZa rfl rfl)<|zma (by kernel_rfl)<|zc<|zI rfl (fun hne=> ?_) (fun hne=> ?_)
      ·
       refine zh<|za<|r_pv rfl rfl (ze rfl)<|zj<|zc<|zP<|zq<|zl<|zl<|zq<|zq<|zl<|zl<|zq<|zl ?_
       exact zG Try.results14 () trivial (zz rfl) (by rw [Ms.check_star hf0 hndF (v:=v) (by omega) (huF.star_false hgood.nf (j:=q) (by omega) hne)]) (ho:=(.n:PickO _ _ _)) (.n:SelR _ _ _)
      ·
       refine zw<|zA<|zc<|za<|r_pv rfl rfl (zC (z:=(((q+1):Nat):Int)) rfl rfl (w64 (by omega)))<|r_pv rfl rfl (zb rfl)<|zj<|zga (q+1) (show (q+1)≤(Ms.at_ F (v:Int)).length∧∀j,j<(q+1)→Ms.find u ((Ms.at_ F (v:Int)).getD j 0)=Ms.find u ((Ms.at_ F (v:Int)).getD 0 0) from by exact ⟨by omega,Ms.all_lt_succ hall (Decidable.not_not.1 hne)⟩) (by show (Ms.at_ F (v:Int)).length - (q+1)<(Ms.at_ F (v:Int)).length - q;omega) ((.of rfl):SubM _ _) (ho:=((.of [1,0,0] rfl):PickO _ _ _)) ((.of [2,3,4,5,6] rfl):SelR _ _ _)
     ·
      refine zaa<|zk<|zk<|zt<|zA<|zc<|za<|r_pv rfl rfl (zC (z:=(((v+1):Nat):Int)) rfl rfl (w64 (by omega)))<|r_pv rfl rfl (zb rfl)<|zj<|zga (v+1) (show (v+1)≤nv∧∀w:Nat,w<(v+1)→Ms.starB F (w:Int) (Ms.at_ F (w:Int))=true from by exact ⟨by omega,Ms.all_lt_succ (P:=fun w=>Ms.starB F (w:Int) (Ms.at_ F (w:Int))=true) hst (huF.star_true hgood.nf (fun j hj=>hall j (by omega)))⟩) (by show nv - (v+1)<nv - v;omega) ((.of rfl):SubM _ _) (ho:=((.c (i:=2) rfl .n):PickO _ _ _)) ((.e (j:=2) rfl (by first|rfl|simp_all) (.of [3,4] rfl)):SelR _ _ _)
   ·
    refine zaa<|zk<|zk<|zt<|zc<|zh<|za<|r_pv rfl rfl (ze rfl)<|zj<|zc<|zP ?_
    exact zG Try.results14 () trivial (zz rfl) (by rw [Ms.check_ok hf0 hndF (fun w hw=>hst w (by omega))]) (ho:=(.n:PickO _ _ _)) (.n:SelR _ _ _)
end Go.Proofs.Ytalfgjpbbongcaa.Sp
namespace Go.Proofs.Ytalfgjpbbongcaa.Sp
open Go
set_option linter.unusedVariables false
set_option maxRecDepth 100000
set_option maxHeartbeats 1000000
theorem zve {pv:Option Addr} {nv:Nat} {cv:Nat} {V:List (Int×Int×Int)} {pf:Option Addr} {nf:Nat} {cf:Nat} {F:List (Int×Int×Int)} (hnv:V.length=nv) (hnf:F.length=nf) (hbf:nf≤1048576):Con Try.prog 50 [.agg #[.slice pv nv cv,.slice pf nf cf]] [] [slF (rI3 .i64) pv cv V,slF (rI3 .i64) pf cf F] (Y:=(Option Addr)×Nat) (fun y=>True) (fun y=> .slice (y.1) ((Ms.all F).length) (y.2)) (fun y=>[]) (fun y=>[slF (rI2 .i64) (y.1) (y.2) (Ms.all F)]):=by
 refine zB Try.func50 rfl rfl rfl (fun c=> ?_)
 show RunC _ _ _ _ _ [(0,.agg #[.slice pv nv cv,.slice pf nf cf])] [] [slF (rI3 .i64) pv cv V,slF (rI3 .i64) pf cf F]
 refine zoa 0 rfl (fun hL0=> ?_)
 refine zoa 1 rfl (fun hL1=> ?_)
 refine zh<|za<|zS rfl rfl (zca rfl rfl) (fun b1=> ?_)
 refine r_pv rfl rfl (ze rfl)<|zj<|zc<|zh<|za<|zKa rfl rfl (zCa (rI2 .i64) Try.underlying80 inf72) (fun b2 _=> ?_)
 refine r_pv rfl rfl (ze rfl)<|zj<|zc<|zh<|zh<|za<|r_pv rfl rfl (zm Try.underlying25 rfl sz23 rfl rfl)<|r_u rfl rfl (zd 1 ty23 rfl rfl rfl)<|r_pv rfl rfl (zX Try.underlying23 rfl)<|r_pv rfl rfl (zb rfl)<|zj<|zc<|zr<|zua (X:=Nat×(Option Addr)×Nat×(List (Int×Int))) (fun x:Nat×(Option Addr)×Nat×(List (Int×Int))=>x.1≤nf∧x.2.2.2=Ms.all (F.take x.1)) (fun x=>[(3,.slice (x.2.1) (x.2.2.2.length) (x.2.2.1)),(12,.int .i64 ((x.1:Nat):Int)),(11,.int .i64 ((nf:Nat):Int)),(10,.slice pf nf cf),(2,.slice none 0 0)]) (fun x=>[rowA 72 (rI2 .i64) (x.2.1) (x.2.2.1) (x.2.2.2),boxA b1 25 [.slice pv nv cv,.slice pf nf cf]]) (fun x=>[slF (rI3 .i64) pv cv V,slF (rI3 .i64) pf cf F]) (fun x:Nat×(Option Addr)×Nat×(List (Int×Int))=>nf - x.1) (0,some ⟨b2,0,none⟩,0,([]:List (Int×Int))) (show 0≤nf∧([]:List (Int×Int))=Ms.all (F.take 0) from by exact ⟨Nat.zero_le _,rfl⟩) ((.e rfl (by first|rfl|(congr 1;omega)|simp_all) (.e rfl (by first|rfl|(congr 1;omega)|simp_all) (.of rfl))):SubM _ _) (ho:=((.e (i:=0) rfl (by first|rfl|(congr 1;omega)|simp_all) (.c (i:=0) rfl .n)):PickO _ _ _)) ((.of [0,1] rfl):SelR _ _ _) ?_
 rintro ⟨i,p,c,A⟩ hI
 replace hI:i≤nf∧A=Ms.all (F.take i):=hI
 try dsimp only
 obtain ⟨hi,hA⟩:=hI
 have hAl:A.length≤3*nf:=by rw [hA,Ms.all_len,List.length_take];omega
 refine zh<|za<|r_pv rfl rfl (zD rfl rfl)<|zj<|zc<|zh<|zI rfl (fun h3=> ?_) (fun h3=> ?_)
 ·
  refine zw<|zc<|zh<|zr<|zh<|za<|zW (x0:=(F.getD i (0,0,0))) 1 i rfl Try.underlying23 sz44 rfl rfl rfl (by first|rfl|assumption|(simp;done)|omega) rfl rfl (gD (d:=(0,0,0)) (by omega)) (fun b4 o5 hok6=> ?_)
  obtain ⟨hok6x,hok6y,hok6z⟩:=hok6
  replace hok6x:=zo.1 hok6x
  replace hok6y:=zo.1 hok6y
  replace hok6z:=zo.1 hok6z
  refine r_u rfl rfl (zN (j:=0) 0 ty44 rfl rfl rfl (.take (.take (.take .nil))))<|zS rfl rfl (zn zr44 rfl) (fun b7=> ?_)
  refine zx 0 rfl rfl rfl rfl rfl sz44 rfl (.take (.take (.take .nil))) .z<|zj<|zc<|zh<|za<|r_u rfl rfl (zf 0 ty44 rfl rfl (.take (.take (.take .nil))))<|zY rfl rfl (.c rfl .n) ce78 (zDd (ex:=(F.getD i (0,0,0)).1) (ey:=(F.getD i (0,0,0)).2.1) (ez:=(F.getD i (0,0,0)).2.2)) (.n)<|r_pv rfl rfl (zb rfl)<|zj<|zc<|zr<|zSa<|zQ<|zh<|za<|r_pv rfl rfl (zD rfl rfl)<|zj<|zc<|zh<|zT rfl rfl<|zw<|zc<|zh<|zr<|zh<|za<|r_pv rfl rfl (zza (i:=0) Try.underlying112 ty72 rfl rfl (by decide) (.take (.take .nil)))<|zS rfl rfl (zn zr72 rfl) (fun b8=> ?_)
  refine zx 0 rfl rfl rfl rfl rfl sz72 rfl (.take (.take .nil)) .z<|zj<|zc<|za<|r_pv rfl rfl (zb rfl)<|r_u rfl rfl (zf 0 ty72 rfl rfl (.take (.take .nil)))<|zKa rfl rfl (zJ (enc:=fun z:Int×Int=>[.int .i64 z.1,.int .i64 z.2]) (ok:=fun z=>InK .i64 z.1∧InK .i64 z.2) (h1:=fun _=>rfl) (h2:=fun _=>rfl) (k:=1) Try.underlying80 inf72 rfl (by decide) (by decide) (by decide) (.c (x:=(((F.getD i (0,0,0)).1),((F.getD i (0,0,0)).2.1))) rfl rfl (fun _ _=>by exact ⟨zo.2 (by first|omega|decide|(dsimp only;omega)),zo.2 (by first|omega|decide|(dsimp only;omega))⟩) .n)) (fun b9 _=> ?_)
  refine zEa 0 rfl .z<|zJa 3 rfl rfl rfl (zsa 0 rfl Try.underlying80 inf72 (by decide) rfl rfl (by first|rfl|assumption|(simp;done)|omega) rfl (by first|rfl|assumption|(simp;done)|omega) (by omega) (by omega)) (fun _=>(.s (.s (.s .z)))) ?_
  rintro ⟨p10,c11⟩ -
  dsimp only [List.append_eq,List.nil_append,List.cons_append]
  refine r_pv rfl rfl (ze rfl)<|zj<|zA<|zc<|za<|r_pv rfl rfl (zC (z:=1) rfl rfl (w64 (by decide)))<|r_pv rfl rfl (zb rfl)<|zj<|zba<|zQ<|zh<|za<|r_pv rfl rfl (zD rfl rfl)<|zj<|zc<|zh<|zT rfl rfl<|zw<|zc<|zh<|zr<|zh<|za<|r_pv rfl rfl (zza (i:=1) Try.underlying112 ty72 rfl rfl (by decide) (.skip (.skip (.take (.take .nil)))))<|zS rfl rfl (zn zr72 rfl) (fun b12=> ?_)
  refine zx 0 rfl rfl rfl rfl rfl sz72 rfl (.take (.take .nil)) .z<|zj<|zc<|za<|r_pv rfl rfl (zb rfl)<|r_u rfl rfl (zf 0 ty72 rfl rfl (.take (.take .nil)))<|zKa rfl rfl (zJ (enc:=fun z:Int×Int=>[.int .i64 z.1,.int .i64 z.2]) (ok:=fun z=>InK .i64 z.1∧InK .i64 z.2) (h1:=fun _=>rfl) (h2:=fun _=>rfl) (k:=1) Try.underlying80 inf72 rfl (by decide) (by decide) (by decide) (.c (x:=(((F.getD i (0,0,0)).2.1),((F.getD i (0,0,0)).2.2))) rfl rfl (fun _ _=>by exact ⟨zo.2 (by first|omega|decide|(dsimp only;omega)),zo.2 (by first|omega|decide|(dsimp only;omega))⟩) .n)) (fun b13 _=> ?_)
  refine zEa 0 rfl .z<|zJa 5 rfl rfl rfl (zsa 0 rfl Try.underlying80 inf72 (by decide) rfl rfl (by first|rfl|assumption|(simp;done)|omega) rfl (by first|rfl|assumption|(simp;done)|omega) (by omega) (by omega)) (fun _=>(.s (.s (.s (.s (.s .z)))))) ?_
  rintro ⟨p14,c15⟩ -
  dsimp only [List.append_eq,List.nil_append,List.cons_append]
  refine r_pv rfl rfl (ze rfl)<|zj<|zA<|zc<|za<|r_pv rfl rfl (zC (z:=2) rfl rfl (w64 (by decide)))<|r_pv rfl rfl (zb rfl)<|zj<|zba<|zQ<|zh<|za<|r_pv rfl rfl (zD rfl rfl)<|zj<|zc<|zh<|zT rfl rfl<|zw<|zc<|zh<|zr<|zh<|za<|r_pv rfl rfl (zza (i:=2) Try.underlying112 ty72 rfl rfl (by decide) (.skip (.skip (.skip (.skip (.take (.take .nil)))))))<|zS rfl rfl (zn zr72 rfl) (fun b16=> ?_)
  refine zx 0 rfl rfl rfl rfl rfl sz72 rfl (.take (.take .nil)) .z<|zj<|zc<|za<|r_pv rfl rfl (zb rfl)<|r_u rfl rfl (zf 0 ty72 rfl rfl (.take (.take .nil)))<|zKa rfl rfl (zJ (enc:=fun z:Int×Int=>[.int .i64 z.1,.int .i64 z.2]) (ok:=fun z=>InK .i64 z.1∧InK .i64 z.2) (h1:=fun _=>rfl) (h2:=fun _=>rfl) (k:=1) Try.underlying80 inf72 rfl (by decide) (by decide) (by decide) (.c (x:=(((F.getD i (0,0,0)).2.2),((F.getD i (0,0,0)).1))) rfl rfl (fun _ _=>by exact ⟨zo.2 (by first|omega|decide|(dsimp only;omega)),zo.2 (by first|omega|decide|(dsimp only;omega))⟩) .n)) (fun b17 _=> ?_)
  refine zEa 0 rfl .z<|zJa 7 rfl rfl rfl (zsa 0 rfl Try.underlying80 inf72 (by decide) rfl rfl (by first|rfl|assumption|(simp;done)|omega) rfl (by first|rfl|assumption|(simp;done)|omega) (by omega) (by omega)) (fun _=>(.s (.s (.s (.s (.s (.s (.s .z)))))))) ?_
  rintro ⟨p18,c19⟩ -
  dsimp only [List.append_eq,List.nil_append,List.cons_append]
  refine r_pv rfl rfl (ze rfl)<|zj<|zA<|zc<|za<|r_pv rfl rfl (zC (z:=3) rfl rfl (w64 (by decide)))<|r_pv rfl rfl (zb rfl)<|zj<|zba<|zQ<|zh<|za<|r_pv rfl rfl (zD rfl rfl)<|zj<|zc<|zh<|zva rfl rfl<|zaa<|zk<|zk<|zt<|zA<|zc<|za<|r_pv rfl rfl (zC (z:=(((i+1):Nat):Int)) rfl rfl (w64 (by omega)))<|r_pv rfl rfl (zb rfl)<|zj<|zga ((i+1),p18,c19,(((A++[((F.getD i (0,0,0)).1,(F.getD i (0,0,0)).2.1)])++[((F.getD i (0,0,0)).2.1,(F.getD i (0,0,0)).2.2)])++[((F.getD i (0,0,0)).2.2,(F.getD i (0,0,0)).1)])) (show (i+1)≤nf∧(((A++[((F.getD i (0,0,0)).1,(F.getD i (0,0,0)).2.1)])++[((F.getD i (0,0,0)).2.1,(F.getD i (0,0,0)).2.2)])++[((F.getD i (0,0,0)).2.2,(F.getD i (0,0,0)).1)])=Ms.all (F.take (i+1)) from by exact ⟨by omega,by rw [Ms.take_all (by omega),hA]⟩) (by show nf - (i+1)<nf - i;omega) ((.e rfl (by simp) (.of rfl)):SubM _ _) (ho:=((.e (i:=7) rfl (by first|rfl|(congr 1;omega)|simp_all) (.c (i:=7) rfl .n)):PickO _ _ _)) ((.of [4,5] rfl):SelR _ _ _)
 ·
  refine zaa<|zk<|zk<|zt<|zc<|zh<|za<|r_pv rfl rfl (zb rfl)<|r_pv rfl rfl (ze rfl)<|zj<|zc<|zP ?_
  have hfin:A=Ms.all F:=by rw [hA,List.take_of_length_le (by omega)]
  refine zkb 0 rfl .z ?_
  exact zG Try.results50 (p,c) trivial (zz rfl) (by rw [hfin]) (ho:=(.n:PickO _ _ _)) ((.e (j:=0) rfl (by rw [hfin]) .n):SelR _ _ _)
theorem zgd {p:Option Addr} {n:Nat} {cap:Nat} {l:List (Int×Int)} {ex:Int} {ey:Int} (hn:l.length=n):Con Try.prog 51 [.slice p n cap,.agg #[.int .i64 ex,.int .i64 ey]] [] [slF (rI2 .i64) p cap l] (Y:=Unit) (fun y=>True) (fun y=> .int .i64 (((Ms.count l (ex,ey)):Nat):Int)) (fun y=>[]) (fun y=>[]):=by
 refine zB Try.func51 rfl rfl rfl (fun c=> ?_)
 show RunC _ _ _ _ _ [(0,.slice p n cap),(1,.agg #[.int .i64 ex,.int .i64 ey])] [] [slF (rI2 .i64) p cap l]
 refine zoa 0 rfl (fun hL0=> ?_)
 refine zh<|za<|zS rfl rfl (zca rfl rfl) (fun b1=> ?_)
 refine r_pv rfl rfl (ze rfl)<|zj<|zc<|zh<|za<|r_pv rfl rfl (ze rfl)<|zj<|zc<|zh<|zh<|za<|r_pv rfl rfl (zb rfl)<|r_pv rfl rfl (zX Try.underlying80 rfl)<|r_pv rfl rfl (zb rfl)<|zj<|zc<|zr<|zua (X:=Nat×Nat) (fun x:Nat×Nat=>x.1≤n∧x.2=Ms.count (l.take x.1) (ex,ey)) (fun x=>[(5,.int .i64 ((x.2:Nat):Int)),(10,.int .i64 ((x.1:Nat):Int)),(9,.int .i64 ((n:Nat):Int)),(8,.slice p n cap),(4,.int .i64 0),(3,.pointer (some ⟨b1,0,none⟩))]) (fun x=>[boxA b1 72 [.int .i64 ex,.int .i64 ey]]) (fun x=>[slF (rI2 .i64) p cap l]) (fun x:Nat×Nat=>n - x.1) (0,0) (show 0≤n∧0=Ms.count (l.take 0) (ex,ey) from by exact ⟨Nat.zero_le _,rfl⟩) ((.e rfl (by first|rfl|(congr 1;omega)|simp_all) (.e rfl (by first|rfl|(congr 1;omega)|simp_all) (.of rfl))):SubM _ _) (ho:=((.c (i:=0) rfl .n):PickO _ _ _)) ((.c (j:=0) rfl .n):SelR _ _ _) ?_
 rintro ⟨i,q⟩ hI
 replace hI:i≤n∧q=Ms.count (l.take i) (ex,ey):=hI
 try dsimp only
 obtain ⟨hi,hq⟩:=hI
 have hqn:q≤i:=by have:=Ms.count_le (l.take i) (ex,ey);rw [List.length_take] at this;omega
 refine zh<|za<|r_pv rfl rfl (zD rfl rfl)<|zj<|zc<|zh<|zI rfl (fun h2=> ?_) (fun h2=> ?_)
 ·
  refine zw<|zc<|zh<|zr<|zh<|za<|zW (x0:=(l.getD i (0,0))) 0 i rfl Try.underlying80 sz72 rfl rfl rfl (by first|rfl|assumption|(simp_all;done)|omega) rfl rfl (gD (d:=(0,0)) (by omega)) (fun b3 o4 hok5=> ?_)
  obtain ⟨hok5x,hok5y⟩:=hok5
  replace hok5x:=zo.1 hok5x
  replace hok5y:=zo.1 hok5y
  refine r_u rfl rfl (zN (j:=0) 0 ty72 rfl rfl rfl (.take (.take .nil)))<|zS rfl rfl (zn zr72 rfl) (fun b6=> ?_)
  refine zx 0 rfl rfl rfl rfl rfl sz72 rfl (.take (.take .nil)) .z<|zj<|zc<|zh<|za<|r_u rfl rfl (zf 0 ty72 rfl rfl (.take (.take .nil)))<|r_u rfl rfl (zf 1 ty72 rfl rfl (.take (.take .nil)))<|r_pv rfl rfl (zLc (p:=(l.getD i (0,0)).1=ex∧(l.getD i (0,0)).2=ey) (by kernel_rfl) rfl rfl (zvc Try.underlying72 sz3 (zFb ty3 rfl rfl (zEb Try.underlying3) (zFb ty3 rfl rfl (zEb Try.underlying3) zld))) (by simp [Bool.decide_and]))<|zj<|zc<|zI rfl (fun he=> ?_) (fun he=> ?_)
  ·
   refine za<|r_pv rfl rfl (zb rfl)<|r_pv rfl rfl (zC (z:=(((q+1):Nat):Int)) rfl rfl (w64 (by omega)))<|r_pv rfl rfl (ze rfl)<|zj<|zA<|zc<|za<|r_pv rfl rfl (zC (z:=(((i+1):Nat):Int)) rfl rfl (w64 (by omega)))<|r_pv rfl rfl (zb rfl)<|zj<|zga ((i+1),(q+1)) (show (i+1)≤n∧(q+1)=Ms.count (l.take (i+1)) (ex,ey) from by exact ⟨by omega,by rw [Ms.take_snoc (0,0) (by omega),Ms.count_snoc,if_pos (Prod.ext he.1 he.2),hq]⟩) (by show n - (i+1)<n - i;omega) ((.of rfl):SubM _ _) (ho:=((.c (i:=1) rfl .n):PickO _ _ _)) ((.c (j:=1) rfl .n):SelR _ _ _)
  ·
   refine zw<|zA<|zc<|za<|r_pv rfl rfl (zC (z:=(((i+1):Nat):Int)) rfl rfl (w64 (by omega)))<|r_pv rfl rfl (zb rfl)<|zj<|zga ((i+1),q) (show (i+1)≤n∧q=Ms.count (l.take (i+1)) (ex,ey) from by exact ⟨by omega,by rw [Ms.take_snoc (0,0) (by omega),Ms.count_snoc,if_neg (fun h=>he (by rw [h];exact ⟨rfl,rfl⟩)),hq] <;> rfl⟩) (by show n - (i+1)<n - i;omega) ((.of rfl):SubM _ _) (ho:=((.c (i:=1) rfl .n):PickO _ _ _)) ((.c (j:=1) rfl .n):SelR _ _ _)
 ·
  refine zaa<|zk<|zk<|zt<|zc<|zh<|za<|r_pv rfl rfl (zb rfl)<|r_pv rfl rfl (ze rfl)<|zj<|zc<|zP ?_
  exact zG Try.results51 () trivial (zz rfl) (by rw [hq,List.take_of_length_le (by omega)]) (ho:=(.n:PickO _ _ _)) (.n:SelR _ _ _)
theorem zLd {ex:Int} {ey:Int} {ez:Int} {fx:Int} {fy:Int} {fz:Int}:Con Try.prog 55 [.agg #[.int .i64 ex,.int .i64 ey,.int .i64 ez],.agg #[.int .i64 fx,.int .i64 fy,.int .i64 fz]] [] [] (Y:=Unit) (fun y=>True) (fun y=> .int .i64 (Ms.common (ex,ey,ez) (fx,fy,fz))) (fun y=>[]) (fun y=>[]):=by
 refine zB Try.func55 rfl rfl rfl (fun c=> ?_)
 show RunC _ _ _ _ _ [(0,.agg #[.int .i64 ex,.int .i64 ey,.int .i64 ez]),(1,.agg #[.int .i64 fx,.int .i64 fy,.int .i64 fz])] [] []
 refine zh<|za<|zS rfl rfl (zca rfl rfl) (fun b1=> ?_)
 refine zS rfl rfl (zca rfl rfl) (fun b2=> ?_)
 refine r_pv rfl rfl (ze rfl)<|zj<|zc<|zh<|za<|r_pv rfl rfl (ze rfl)<|zj<|zc<|zh<|zh<|za<|r_u rfl rfl (zf 1 ty44 rfl rfl (.take (.take (.take .nil))))<|r_pv rfl rfl (zb rfl)<|zj<|zc<|zr<|zSa<|zQ<|zh<|za<|r_pv rfl rfl (zD rfl rfl)<|zj<|zc<|zh<|zT rfl rfl<|zw<|zc<|zLa (X:=Int) (fun x=>x=0+(if Ms.hasV (fx,fy,fz) ex then 1 else 0)∧0≤x∧x≤1) (fun x=>[(5,.int .i64 x),(10,.bool true),(9,.int .i64 0),(8,.agg #[.int .i64 ex,.int .i64 ey,.int .i64 ez]),(4,.int .i64 0),(3,.pointer (some ⟨b2,0,none⟩))]) (fun x=>[boxA b2 44 [.int .i64 fx,.int .i64 fy,.int .i64 fz],boxA b1 44 [.int .i64 ex,.int .i64 ey,.int .i64 ez]]) (fun x=>[]) ?_ ?_
 ·
  refine zr<|zh<|za<|r_pv rfl rfl (zAa (i:=0) Try.underlying44 ty3 rfl rfl (by decide) rfl)<|r_pv rfl rfl (ze rfl)<|zj<|zc<|zh<|za<|r_u rfl rfl (zf 0 ty44 rfl rfl (.take (.take (.take .nil))))<|r_pv rfl rfl (zb rfl)<|zY rfl rfl (.c rfl (.c rfl .n)) ce52 (zQc (ex:=fx) (ey:=fy) (ez:=fz) (w:=ex)) (.n)<|zj<|zc<|zGa rfl (fun hh=> ?_) (fun hh=> ?_)
  ·
   refine za<|r_pv rfl rfl (zb rfl)<|r_pv rfl rfl (zC (z:=1) rfl rfl (w64 (by decide)))<|r_pv rfl rfl (ze rfl)<|zj<|zA ?_
   exact zfa 1 (show 1=0+(if Ms.hasV (fx,fy,fz) ex then 1 else 0)∧0≤1∧1≤1 from by exact ⟨by rw [if_pos hh] <;> rfl,by omega,by omega⟩) ((.of rfl):SubM _ _) (ho:=((.of [0,0] rfl):PickO _ _ _)) (.n:SelR _ _ _)
  ·
   refine zw<|zA ?_
   exact zfa 0 (show 0=0+(if Ms.hasV (fx,fy,fz) ex then 1 else 0)∧0≤0∧0≤1 from by exact ⟨by rw [if_neg (by rw [hh];decide)] <;> omega,by omega,by omega⟩) ((.of rfl):SubM _ _) (ho:=((.of [0,0] rfl):PickO _ _ _)) (.n:SelR _ _ _)
 ·
  rintro cn0 hc0
  replace hc0:cn0=0+(if Ms.hasV (fx,fy,fz) ex then 1 else 0)∧0≤cn0∧cn0≤1:=hc0
  try dsimp only
  refine za<|r_pv rfl rfl (zC (z:=1) rfl rfl (w64 (by decide)))<|r_pv rfl rfl (zb rfl)<|zj<|zba<|zQ<|zh<|za<|r_pv rfl rfl (zD rfl rfl)<|zj<|zc<|zh<|zT rfl rfl<|zw<|zc<|zLa (X:=Int) (fun x=>x=cn0+(if Ms.hasV (fx,fy,fz) ey then 1 else 0)∧0≤x∧x≤2) (fun x=>[(5,.int .i64 x),(10,.bool true),(9,.int .i64 1),(17,.int .i64 1),(8,.agg #[.int .i64 ex,.int .i64 ey,.int .i64 ez]),(4,.int .i64 0),(3,.pointer (some ⟨b2,0,none⟩))]) (fun x=>[boxA b2 44 [.int .i64 fx,.int .i64 fy,.int .i64 fz],boxA b1 44 [.int .i64 ex,.int .i64 ey,.int .i64 ez]]) (fun x=>[]) ?_ ?_
  ·
   refine zr<|zh<|za<|r_pv rfl rfl (zAa (i:=1) Try.underlying44 ty3 rfl rfl (by decide) rfl)<|r_pv rfl rfl (ze rfl)<|zj<|zc<|zh<|za<|r_u rfl rfl (zf 0 ty44 rfl rfl (.take (.take (.take .nil))))<|r_pv rfl rfl (zb rfl)<|zY rfl rfl (.c rfl (.c rfl .n)) ce52 (zQc (ex:=fx) (ey:=fy) (ez:=fz) (w:=ey)) (.n)<|zj<|zc<|zGa rfl (fun hh=> ?_) (fun hh=> ?_)
   ·
    refine za<|r_pv rfl rfl (zb rfl)<|r_pv rfl rfl (zC (z:=(cn0+1)) rfl rfl (w64 (by omega)))<|r_pv rfl rfl (ze rfl)<|zj<|zA ?_
    exact zfa (cn0+1) (show (cn0+1)=cn0+(if Ms.hasV (fx,fy,fz) ey then 1 else 0)∧0≤(cn0+1)∧(cn0+1)≤2 from by exact ⟨by rw [if_pos hh] <;> rfl,by omega,by omega⟩) ((.of rfl):SubM _ _) (ho:=((.of [0,0] rfl):PickO _ _ _)) (.n:SelR _ _ _)
   ·
    refine zw<|zA ?_
    exact zfa cn0 (show cn0=cn0+(if Ms.hasV (fx,fy,fz) ey then 1 else 0)∧0≤cn0∧cn0≤2 from by exact ⟨by rw [if_neg (by rw [hh];decide)] <;> omega,by omega,by omega⟩) ((.of rfl):SubM _ _) (ho:=((.of [0,0] rfl):PickO _ _ _)) (.n:SelR _ _ _)
  ·
   rintro cn1 hc1
   replace hc1:cn1=cn0+(if Ms.hasV (fx,fy,fz) ey then 1 else 0)∧0≤cn1∧cn1≤2:=hc1
   try dsimp only
   refine za<|r_pv rfl rfl (zC (z:=2) rfl rfl (w64 (by decide)))<|r_pv rfl rfl (zb rfl)<|zj<|zba<|zQ<|zh<|za<|r_pv rfl rfl (zD rfl rfl)<|zj<|zc<|zh<|zT rfl rfl<|zw<|zc<|zLa (X:=Int) (fun x=>x=cn1+(if Ms.hasV (fx,fy,fz) ez then 1 else 0)∧0≤x∧x≤3) (fun x=>[(5,.int .i64 x),(10,.bool true),(9,.int .i64 2),(17,.int .i64 2),(8,.agg #[.int .i64 ex,.int .i64 ey,.int .i64 ez]),(4,.int .i64 0),(3,.pointer (some ⟨b2,0,none⟩))]) (fun x=>[boxA b2 44 [.int .i64 fx,.int .i64 fy,.int .i64 fz],boxA b1 44 [.int .i64 ex,.int .i64 ey,.int .i64 ez]]) (fun x=>[]) ?_ ?_
   ·
    refine zr<|zh<|za<|r_pv rfl rfl (zAa (i:=2) Try.underlying44 ty3 rfl rfl (by decide) rfl)<|r_pv rfl rfl (ze rfl)<|zj<|zc<|zh<|za<|r_u rfl rfl (zf 0 ty44 rfl rfl (.take (.take (.take .nil))))<|r_pv rfl rfl (zb rfl)<|zY rfl rfl (.c rfl (.c rfl .n)) ce52 (zQc (ex:=fx) (ey:=fy) (ez:=fz) (w:=ez)) (.n)<|zj<|zc<|zGa rfl (fun hh=> ?_) (fun hh=> ?_)
    ·
     refine za<|r_pv rfl rfl (zb rfl)<|r_pv rfl rfl (zC (z:=(cn1+1)) rfl rfl (w64 (by omega)))<|r_pv rfl rfl (ze rfl)<|zj<|zA ?_
     exact zfa (cn1+1) (show (cn1+1)=cn1+(if Ms.hasV (fx,fy,fz) ez then 1 else 0)∧0≤(cn1+1)∧(cn1+1)≤3 from by exact ⟨by rw [if_pos hh] <;> rfl,by omega,by omega⟩) ((.of rfl):SubM _ _) (ho:=((.of [0,0] rfl):PickO _ _ _)) (.n:SelR _ _ _)
    ·
     refine zw<|zA ?_
     exact zfa cn1 (show cn1=cn1+(if Ms.hasV (fx,fy,fz) ez then 1 else 0)∧0≤cn1∧cn1≤3 from by exact ⟨by rw [if_neg (by rw [hh];decide)] <;> omega,by omega,by omega⟩) ((.of rfl):SubM _ _) (ho:=((.of [0,0] rfl):PickO _ _ _)) (.n:SelR _ _ _)
   ·
    rintro cn2 hc2
    replace hc2:cn2=cn1+(if Ms.hasV (fx,fy,fz) ez then 1 else 0)∧0≤cn2∧cn2≤3:=hc2
    try dsimp only
    refine za<|r_pv rfl rfl (zC (z:=3) rfl rfl (w64 (by decide)))<|r_pv rfl rfl (zb rfl)<|zj<|zba<|zQ<|zh<|za<|r_pv rfl rfl (zD rfl rfl)<|zj<|zc<|zh<|zva rfl rfl<|zaa<|zk<|zk<|zt<|zc<|zh<|za<|r_pv rfl rfl (zb rfl)<|r_pv rfl rfl (ze rfl)<|zj<|zc<|zP ?_
    exact zG Try.results55 () trivial (zz rfl) (congrArg (Value.int .i64) (by rw [hc2.1,hc1.1,hc0.1];simp [Ms.common])) (ho:=(.n:PickO _ _ _)) (.n:SelR _ _ _)
theorem zMd {mb:Nat} {pv:Option Addr} {nv:Nat} {cv:Nat} {pf:Option Addr} {nf:Nat} {cf:Nat} {F:List (Int×Int×Int)} {a0:Int} {b0:Int} (hnf:F.length=nf) (ha:0≤a0∧a0<nf) (hb:0≤b0∧b0<nf):Con Try.prog 54 [.int .i64 a0,.int .i64 b0,.pointer (some ⟨mb,0,none⟩)] [] [atF mb 0 [.slice pv nv cv,.slice pf nf cf],slF (rI3 .i64) pf cf F] (Y:=Unit) (fun y=>True) (fun y=> .bool (Ms.nearF F a0 b0)) (fun y=>[]) (fun y=>[]):=by
 refine zB Try.func54 rfl rfl rfl (fun c=> ?_)
 show RunC _ _ _ _ _ [(0,.int .i64 a0),(1,.int .i64 b0),(2,.pointer (some ⟨mb,0,none⟩))] [] [atF mb 0 [.slice pv nv cv,.slice pf nf cf],slF (rI3 .i64) pf cf F]
 refine zoa 1 rfl (fun hL1=> ?_)
 refine zh<|za<|r_pv rfl rfl (ze rfl)<|zj<|zc<|zh<|zla (OW:=[]) (O:=[]) 100000 mixed (.then .ret) (by kernel_rfl)<|d_pv 0 rfl rfl (by kernel_rfl) (by kernel_rfl) rfl rfl (zm Try.underlying25 rfl sz23 rfl rfl)<|d_u 1 rfl rfl (by kernel_rfl) (by kernel_rfl) rfl rfl (zH (j:=1) 0 ty23 rfl rfl rfl rfl)<|d_pv 2 rfl rfl (by kernel_rfl) (by kernel_rfl) rfl rfl (zb rfl)<|zta (x0:=(F.getD ((a0).toNat) (0,0,0))) 3 rfl rfl (by kernel_rfl) (by kernel_rfl) 1 ((a0).toNat) rfl Try.underlying23 sz44 rfl rfl rfl (by first|rfl|assumption|(simp_all;done)|omega) rfl (by omega) (gD (d:=(0,0,0)) (by omega)) (fun b1 o2 hok3=> ?_)
 obtain ⟨hok3x,hok3y,hok3z⟩:=hok3
 replace hok3x:=zo.1 hok3x
 replace hok3y:=zo.1 hok3y
 replace hok3z:=zo.1 hok3z
 refine d_u 4 rfl rfl (by kernel_rfl) (by kernel_rfl) rfl rfl (zN (j:=0) 0 ty44 rfl rfl rfl (.take (.take (.take .nil))))<|d_pv 5 rfl rfl (by kernel_rfl) (by kernel_rfl) rfl rfl (zm Try.underlying25 rfl sz23 rfl rfl)<|d_u 6 rfl rfl (by kernel_rfl) (by kernel_rfl) rfl rfl (zH (j:=1) 1 ty23 rfl rfl rfl rfl)<|d_pv 7 rfl rfl (by kernel_rfl) (by kernel_rfl) rfl rfl (zb rfl)<|zta (x0:=(F.getD ((b0).toNat) (0,0,0))) 8 rfl rfl (by kernel_rfl) (by kernel_rfl) 2 ((b0).toNat) rfl Try.underlying23 sz44 rfl rfl rfl (by first|rfl|assumption|(simp_all;done)|omega) rfl (by omega) (gD (d:=(0,0,0)) (by omega)) (fun b4 o5 hok6=> ?_)
 obtain ⟨hok6x,hok6y,hok6z⟩:=hok6
 replace hok6x:=zo.1 hok6x
 replace hok6y:=zo.1 hok6y
 replace hok6z:=zo.1 hok6z
 refine d_u 9 rfl rfl (by kernel_rfl) (by kernel_rfl) rfl rfl (zN (j:=0) 0 ty44 rfl rfl rfl (.take (.take (.take .nil))))<|zE 10 (by kernel_rfl) (zqa rfl rfl rfl rfl (.c rfl (.c rfl .n)) ce55 (zLd (ex:=(F.getD ((a0).toNat) (0,0,0)).1) (ey:=(F.getD ((a0).toNat) (0,0,0)).2.1) (ez:=(F.getD ((a0).toNat) (0,0,0)).2.2) (fx:=(F.getD ((b0).toNat) (0,0,0)).1) (fy:=(F.getD ((b0).toNat) (0,0,0)).2.1) (fz:=(F.getD ((b0).toNat) (0,0,0)).2.2)) (.n) ?_)
 refine d_pv 11 rfl rfl (by kernel_rfl) (by kernel_rfl) rfl rfl (zeb rfl rfl)<|d_pv 12 rfl rfl (by kernel_rfl) (by kernel_rfl) rfl rfl (ze rfl)<|zma (by kernel_rfl)<|zc<|zP ?_
 exact zG Try.results54 () trivial (zz rfl) rfl (ho:=(.n:PickO _ _ _)) (.n:SelR _ _ _)
theorem zNd {mb:Nat} {pv:Option Addr} {nv:Nat} {cv:Nat} {pf:Option Addr} {nf:Nat} {cf:Nat} {F:List (Int×Int×Int)} {p:Option Addr} {n:Nat} {cap:Nat} {l:List Int} (hnf:F.length=nf) (hn:l.length=n) (hn0:0<n∧n≤4096) (hl:∀a∈l,0≤a∧a<nf):Con Try.prog 53 [.slice p n cap,.func (.func 54) #[] #[.pointer (some ⟨mb,0,none⟩)]] [] [slF (rI .i64) p cap l,atF mb 0 [.slice pv nv cv,.slice pf nf cf],slF (rI3 .i64) pf cf F] (Y:=(List Int)) (fun y=>Ms.Spread (fun a b=>Ms.nearF F a b=true) l y) (fun y=> .int .i64 ((y.length:Nat):Int)) (fun y=>[]) (fun y=>[]):=by
 refine zB Try.func53 rfl rfl rfl (fun c=> ?_)
 show RunC _ _ _ _ _ [(0,.slice p n cap),(1,.func (.func 54) #[] #[.pointer (some ⟨mb,0,none⟩)])] [] [slF (rI .i64) p cap l,atF mb 0 [.slice pv nv cv,.slice pf nf cf],slF (rI3 .i64) pf cf F]
 refine zoa 0 rfl (fun hL0=> ?_)
 refine zoa 2 rfl (fun hL2=> ?_)
 refine zh<|za<|r_pv rfl rfl (ze rfl)<|zj<|zc<|zh<|za<|zKa rfl rfl (zQa (κ:=Int) (ν:=Bool) (fun z:Int=> .int .i64 z) (fun z:Bool=> .bool z) (InK .i64)) (fun b1 _=> ?_)
 refine r_pv rfl rfl (ze rfl)<|zj<|zc<|zh<|za<|r_pv rfl rfl (zb rfl)<|r_pv rfl rfl (zBb (hi:=1) Try.underlying50 sz3 rfl (.s rfl) (.inr ⟨_,rfl⟩) (by omega))<|zIc (zXb 0 rfl 1 (by omega)) (fun _ _=> ?_)
 refine r_pv rfl rfl (ze rfl)<|zj<|zc<|zh<|zr<|zua (X:=(List (Int×Bool))×(List Int)×(Option Addr)×Nat×(List Int)) (fun x:(List (Int×Bool))×(List Int)×(Option Addr)×Nat×(List Int)=>Ms.Marks x.1 x.2.1∧Ms.SpI (fun a b=>Ms.nearF F a b=true) l x.2.1 x.2.2.2.2∧x.2.2.2.2.length≤1+x.2.1.length*l.length) (fun x=>[(6,.slice (x.2.2.1) (x.2.2.2.2.length) (x.2.2.2.1)),(5,.map (some b1)),(4,.int .i64 0),(0,.slice p n cap),(1,.func (.func 54) #[] #[.pointer (some ⟨mb,0,none⟩)])]) (fun x=>[mapA b1 (fun z:Int=> .int .i64 z) (fun z:Bool=> .bool z) (InK .i64) (x.1)]) (fun x=>[slF (rI .i64) (x.2.2.1) (x.2.2.2.1) (x.2.2.2.2),slF (rI .i64) p cap l,atF mb 0 [.slice pv nv cv,.slice pf nf cf],slF (rI3 .i64) pf cf F]) (fun x:(List (Int×Bool))×(List Int)×(Option Addr)×Nat×(List Int)=>(l.length - x.2.1.length)*(l.length+1)+x.2.2.2.2.length) (([]:List (Int×Bool)),([]:List Int),p,cap,(l.take 1)) (show Ms.Marks ([]:List (Int×Bool)) ([]:List Int)∧Ms.SpI (fun a b=>Ms.nearF F a b=true) l ([]:List Int) (l.take 1)∧(l.take 1).length≤1+([]:List Int).length*l.length from by exact ⟨Ms.Marks.nil,Ms.SpI.start (by omega),by rw [List.length_take];omega⟩) ((.e rfl (congrArg (fun q=>Value.slice _ q _) (by rw [List.length_take];omega)) (.of rfl)):SubM _ _) (ho:=((.e (i:=0) rfl (by first|rfl|(congr 1;omega)|simp_all) .n):PickO _ _ _)) ((.e (j:=0) rfl (by first|rfl|simp_all) (.of [1,2,3] rfl)):SelR _ _ _) ?_
 rintro ⟨sm,K,tp,tc,td⟩ hI
 replace hI:Ms.Marks sm K∧Ms.SpI (fun a b=>Ms.nearF F a b=true) l K td∧td.length≤1+K.length*l.length:=hI
 try dsimp only
 obtain ⟨hM,hS,hT⟩:=hI
 refine zoa 0 rfl (fun hLt=> ?_)
 refine zh<|zh<|za<|r_pv rfl rfl (zb rfl)<|r_pv rfl rfl (zX Try.underlying50 rfl)<|r_pv rfl rfl (zRa rfl rfl)<|zj<|zc<|zI rfl (fun h2=> ?_) (fun h2=> ?_)
 ·
  have htd0:0<td.length:=by omega
  have hta:=Ms.getD_mem (l:=td) (i:=0) 0 (by omega)
  have hal:=hl _ (hS.tsub _ hta)
  have hKL:=Ms.sp_mu hM.nodup hS
  refine zw<|zc<|zr<|zh<|za<|r_pv rfl rfl (zb rfl)<|zW (x0:=(td.getD 0 0)) 0 0 rfl Try.underlying50 sz3 rfl rfl rfl (by first|rfl|assumption|(simp_all;done)|omega) rfl rfl (gD (d:=0) (by omega)) (fun b3 o4 hok5=> ?_)
  replace hok5:=zo.1 hok5
  refine r_u rfl rfl (zH (j:=0) 0 ty3 rfl rfl rfl rfl)<|r_pv rfl rfl (ze rfl)<|zj<|zc<|zh<|za<|r_pv rfl rfl (zb rfl)<|r_pv rfl rfl (zud (lo:=1) (hi:=td.length) Try.underlying50 sz3 rfl (.s rfl) .n (.inr ⟨_,rfl⟩) (.inl ⟨rfl,rfl⟩) (by omega) (by omega))<|zIc (zBe 1 rfl 1 (td.length) (by omega) (by omega)) (fun _ _=> ?_)
  have e6:(td.take (td.length)).drop 1=td.drop 1:=by rw [List.take_length]
  rw [e6]
  refine r_pv rfl rfl (ze rfl)<|zj<|zc<|zh<|zh<|za<|r_pv rfl rfl (zb rfl)<|r_pv rfl rfl (zb rfl)<|r_u rfl rfl (zFa (z:=false) (a0:=(td.getD 0 0)) (v:= .bool ((mget sm (td.getD 0 0)).getD false)) 0 rfl ky3 Try.underlying94 zr4 rfl rfl (zo.2 (by omega)) rfl)<|zj<|zc<|zGa rfl (fun hs=> ?_) (fun hs=> ?_)
  ·
   refine zaa<|zk<|zt<|zga (sm,K,(newP tp tc 1 1),(tc - 1),td.drop 1) (show Ms.Marks sm K∧Ms.SpI (fun a b=>Ms.nearF F a b=true) l K (td.drop 1)∧(td.drop 1).length≤1+K.length*l.length from by exact ⟨hM,hS.skip htd0 (hM.yes hs),by rw [List.length_drop];omega⟩) (by show (l.length - K.length)*(l.length+1)+(td.drop 1).length<(l.length - K.length)*(l.length+1)+td.length;rw [List.length_drop];omega) ((.e rfl (by simp) (.of rfl)):SubM _ _) (ho:=((.c (i:=0) rfl .n):PickO _ _ _)) ((.e (j:=0) rfl (by first|rfl|simp_all) (.of [3,4,5] rfl)):SelR _ _ _)
  ·
   have hM2:=hM.step (hM.no hs)
   have htl:=Ms.td_len hT htd0
   have hTL:K.length*l.length≤4096*4096:=Nat.mul_le_mul (by omega) (by omega)
   refine zw<|zc<|zh<|za<|r_pv rfl rfl (zb rfl)<|r_pv rfl rfl (zb rfl)<|zJa 0 rfl rfl rfl (zya (a0:=(td.getD 0 0)) (v:=true) ky3 Try.underlying94 rfl rfl rfl (zo.2 (by omega))) (fun _=> .z) (fun _ _=> ?_)
   refine zj<|zc<|zh<|za<|r_pv rfl rfl (zb rfl)<|r_pv rfl rfl (zX Try.underlying50 rfl)<|r_pv rfl rfl (zb rfl)<|zj<|zc<|zr<|zua (X:=Nat×(Option Addr)×Nat×(List Int)) (fun x:Nat×(Option Addr)×Nat×(List Int)=>x.1≤l.length∧x.2.2.2=td.drop 1++Ms.pushed (Ms.nearF F) (K++[td.getD 0 0]) (td.getD 0 0) (l.take x.1)) (fun x=>[(6,.slice (x.2.1) (x.2.2.2.length) (x.2.2.1)),(28,.int .i64 ((x.1:Nat):Int)),(27,.int .i64 ((n:Nat):Int)),(26,.slice p n cap),(7,.int .i64 (td.getD 0 0)),(5,.map (some b1)),(4,.int .i64 0),(0,.slice p n cap),(1,.func (.func 54) #[] #[.pointer (some ⟨mb,0,none⟩)])]) (fun x=>[mapA b1 (fun z:Int=> .int .i64 z) (fun z:Bool=> .bool z) (InK .i64) (mput sm (td.getD 0 0) true)]) (fun x=>[slF (rI .i64) (x.2.1) (x.2.2.1) (x.2.2.2),slF (rI .i64) (newP tp tc 1 1) (tc - 1) (td.drop 1),atF b3 o4 [.int .i64 (td.getD 0 0)],slF (rI .i64) tp tc td,slF (rI .i64) p cap l,atF mb 0 [.slice pv nv cv,.slice pf nf cf],slF (rI3 .i64) pf cf F]) (fun x:Nat×(Option Addr)×Nat×(List Int)=>l.length - x.1) (0,(newP tp tc 1 1),(tc - 1),(td.drop 1)) (show 0≤l.length∧(td.drop 1)=td.drop 1++Ms.pushed (Ms.nearF F) (K++[td.getD 0 0]) (td.getD 0 0) (l.take 0) from by exact ⟨Nat.zero_le _,by simp [Ms.pushed]⟩) ((.e rfl (by simp) (.e rfl (by first|rfl|(congr 1;omega)|simp_all) (.of rfl))):SubM _ _) (ho:=((.c (i:=0) rfl .n):PickO _ _ _)) ((.of [0,0,1,2,3,4,5] rfl):SelR _ _ _) ?_
   rintro ⟨j,up,uc,ud⟩ hJ
   replace hJ:j≤l.length∧ud=td.drop 1++Ms.pushed (Ms.nearF F) (K++[td.getD 0 0]) (td.getD 0 0) (l.take j):=hJ
   try dsimp only
   obtain ⟨hj,hud⟩:=hJ
   refine zh<|za<|r_pv rfl rfl (zD rfl rfl)<|zj<|zc<|zh<|zI rfl (fun h7=> ?_) (fun h7=> ?_)
   ·
    have hbl:=hl _ (Ms.getD_mem (l:=l) (i:=j) 0 (by omega))
    have hpl:=Ms.pushed_len (Ms.nearF F) (K++[td.getD 0 0]) (td.getD 0 0) (l.take j)
    have hul:ud.length≤td.length - 1+l.length:=by rw [hud,List.length_append,List.length_drop];rw [List.length_take] at hpl;omega
    refine zw<|zc<|zh<|zr<|zh<|za<|zW (x0:=(l.getD j 0)) 4 j rfl Try.underlying50 sz3 rfl rfl rfl (by first|rfl|assumption|(simp_all;done)|omega) rfl rfl (gD (d:=0) (by omega)) (fun b8 o9 hok10=> ?_)
    replace hok10:=zo.1 hok10
    refine r_u rfl rfl (zH (j:=0) 0 ty3 rfl rfl rfl rfl)<|r_pv rfl rfl (ze rfl)<|zj<|zc<|zLa (X:=Unit) (fun x=>True) (fun x=>[(41,.bool (decide (((!((mget (mput sm (td.getD 0 0) true) (l.getD j 0)).getD false))=true)∧((Ms.nearF F (td.getD 0 0) (l.getD j 0))=true)))),(9,.int .i64 (l.getD j 0)),(6,.slice up (ud.length) uc),(28,.int .i64 ((j:Nat):Int)),(27,.int .i64 ((n:Nat):Int)),(26,.slice p n cap),(7,.int .i64 (td.getD 0 0)),(5,.map (some b1)),(4,.int .i64 0),(0,.slice p n cap),(1,.func (.func 54) #[] #[.pointer (some ⟨mb,0,none⟩)])]) (fun x=>[mapA b1 (fun z:Int=> .int .i64 z) (fun z:Bool=> .bool z) (InK .i64) (mput sm (td.getD 0 0) true)]) (fun x=>[atF b8 o9 [.int .i64 (l.getD j 0)],slF (rI .i64) up uc ud,slF (rI .i64) (newP tp tc 1 1) (tc - 1) (td.drop 1),atF b3 o4 [.int .i64 (td.getD 0 0)],slF (rI .i64) tp tc td,slF (rI .i64) p cap l,atF mb 0 [.slice pv nv cv,.slice pf nf cf],slF (rI3 .i64) pf cf F]) ?_ ?_
    ·
     refine za<|r_pv rfl rfl (zb rfl)<|r_pv rfl rfl (zb rfl)<|r_u rfl rfl (zFa (z:=false) (a0:=(l.getD j 0)) (v:= .bool ((mget (mput sm (td.getD 0 0) true) (l.getD j 0)).getD false)) 0 rfl ky3 Try.underlying94 zr4 rfl rfl (zo.2 (by omega)) rfl)<|r_pv rfl rfl (zob rfl)<|zWb rfl rfl (zb rfl) (fun h11=> ?_) (fun h11=> ?_)
     ·
      refine r_pv rfl rfl (zb rfl)<|r_pv rfl rfl (zb rfl)<|r_pv rfl rfl (zb rfl)<|zjc (first:=[]) (cap:=[.pointer (some ⟨mb,0,none⟩)]) rfl rfl rfl (.c rfl (.c rfl .n)) ce54 (zMd (mb:=mb) (pv:=pv) (nv:=nv) (cv:=cv) (pf:=pf) (nf:=nf) (cf:=cf) (F:=F) (a0:=(td.getD 0 0)) (b0:=(l.getD j 0)) (hnf:=by assumption) (ha:=by first|rfl|assumption|omega|(simp;done)|(simp;omega)|(simp_all;done)) (hb:=by first|rfl|assumption|omega|(simp;done)|(simp;omega)|(simp_all;done))) (.c (j:=6) rfl (.c (j:=7) rfl .n)) ?_
      rintro ⟨⟩ -
      dsimp only [List.append_eq,List.nil_append,List.cons_append]
      refine r_pv rfl rfl (zy rfl rfl)<|zj ?_
      exact zfa () (show True from by first|trivial|omega|simp_all) ((.e rfl (congrArg Value.bool (by first|(simp_all;done)|(simp_all;omega)|(simp;omega)|omega)) (.of rfl)):SubM _ _) (ho:=((.c (i:=0) rfl .n):PickO _ _ _)) ((.of [0,1,2,3,4,5,6,7] rfl):SelR _ _ _)
     ·
      refine zi rfl rfl<|zi rfl rfl<|zi rfl rfl<|zi rfl rfl<|r_pv rfl rfl (zy rfl rfl)<|zj ?_
      exact zfa () (show True from by first|trivial|omega|simp_all) ((.e rfl (congrArg Value.bool (by first|(simp_all;done)|(simp_all;omega)|(simp;omega)|omega)) (.of rfl)):SubM _ _) (ho:=((.c (i:=0) rfl .n):PickO _ _ _)) ((.of [0,1,2,3,4,5,6,7] rfl):SelR _ _ _)
    ·
     rintro ⟨⟩ -
     try dsimp only
     refine zI rfl (fun hp=> ?_) (fun hp=> ?_)
     ·
      refine za<|zKa rfl rfl (zCa (rI .i64) Try.underlying50 inf3) (fun b12 _=> ?_)
      refine r_pv rfl rfl (zb rfl)<|zJa 0 rfl rfl rfl (zsa 1 rfl Try.underlying50 inf3 (by decide) rfl rfl (by first|rfl|assumption|(simp_all;done)|omega) rfl (by first|rfl|assumption|(simp_all;done)|omega) (by omega) (by omega)) (fun _=> .z) ?_
      rintro ⟨p13,c14⟩ -
      dsimp only [List.append_eq,List.nil_append,List.cons_append]
      refine r_pv rfl rfl (zb rfl)<|zKa rfl rfl (zJ (enc:=fun z:Int=>[.int .i64 z]) (ok:=InK .i64) (h1:=fun _=>rfl) (h2:=fun _=>rfl) (k:=1) Try.underlying50 inf3 rfl (by decide) (by decide) (by decide) (.c (x:=(l.getD j 0)) rfl rfl (fun _ _=>by exact zo.2 (by omega)) .n)) (fun b15 _=> ?_)
      refine zEa 0 rfl .z<|zJa 1 rfl rfl rfl (zsa 0 rfl Try.underlying50 inf3 (by decide) rfl rfl (by first|rfl|assumption|(simp_all;done)|omega) rfl (by first|rfl|assumption|(simp_all;done)|omega) (by omega) (by omega)) (fun _=>(.s .z)) ?_
      rintro ⟨p16,c17⟩ -
      dsimp only [List.append_eq,List.nil_append,List.cons_append]
      refine r_pv rfl rfl (ze rfl)<|zj<|zA<|zc<|za<|r_pv rfl rfl (zC (z:=(((j+1):Nat):Int)) rfl rfl (w64 (by omega)))<|r_pv rfl rfl (zb rfl)<|zj<|zkb 1 rfl (.s .z)<|zga ((j+1),p16,c17,(([]++ud)++[(l.getD j 0)])) (show (j+1)≤l.length∧(([]++ud)++[(l.getD j 0)])=td.drop 1++Ms.pushed (Ms.nearF F) (K++[td.getD 0 0]) (td.getD 0 0) (l.take (j+1)) from by exact ⟨by omega,by rw [List.nil_append,hud,Ms.take_snoc 0 (by omega),Ms.pushed_snoc,if_pos ⟨hM2.no (by simpa using hp.1),hp.2⟩,List.append_assoc]⟩) (by show l.length - (j+1)<l.length - j;omega) ((.e rfl (by simp) (.of rfl)):SubM _ _) (ho:=((.c (i:=2) rfl .n):PickO _ _ _)) ((.e (j:=0) rfl (by first|rfl|simp_all) (.of [4,5,6,7,8,9] rfl)):SelR _ _ _)
     ·
      refine zw<|zA<|zc<|za<|r_pv rfl rfl (zC (z:=(((j+1):Nat):Int)) rfl rfl (w64 (by omega)))<|r_pv rfl rfl (zb rfl)<|zj<|zga ((j+1),up,uc,ud) (show (j+1)≤l.length∧ud=td.drop 1++Ms.pushed (Ms.nearF F) (K++[td.getD 0 0]) (td.getD 0 0) (l.take (j+1)) from by exact ⟨by omega,by rw [Ms.take_snoc 0 (by omega),Ms.pushed_snoc,if_neg (fun h=>hp ⟨by rw [hM2.get];simpa using h.1,h.2⟩)];exact hud⟩) (by show l.length - (j+1)<l.length - j;omega) ((.of rfl):SubM _ _) (ho:=((.c (i:=0) rfl .n):PickO _ _ _)) ((.of [1,2,3,4,5,6,7] rfl):SelR _ _ _)
   ·
    have hudF:ud=td.drop 1++Ms.pushed (Ms.nearF F) (K++[td.getD 0 0]) (td.getD 0 0) l:=by have:=hud;rwa [List.take_of_length_le (by omega)] at this
    refine zaa<|zk<|zk<|zt<|zA<|zga (mput sm (td.getD 0 0) true,K++[td.getD 0 0],up,uc,ud) (show Ms.Marks (mput sm (td.getD 0 0) true) (K++[td.getD 0 0])∧Ms.SpI (fun a b=>Ms.nearF F a b=true) l (K++[td.getD 0 0]) ud∧ud.length≤1+(K++[td.getD 0 0]).length*l.length from by exact ⟨hM2,by have:=hS.round htd0;rwa [← hudF] at this,by rw [hudF,List.length_append,List.length_append,List.length_drop];have:=Ms.pushed_len (Ms.nearF F) (K++[td.getD 0 0]) (td.getD 0 0) l;simp only [List.length_cons,List.length_nil,Nat.zero_add];omega⟩) (by show (l.length - (K++[td.getD 0 0]).length)*(l.length+1)+ud.length<(l.length - K.length)*(l.length+1)+td.length;rw [List.length_append];refine Ms.mu_dec ?_ ?_;have:=Ms.sp_mu hM2.nodup (by have:=hS.round htd0;exact this);rw [List.length_append] at this;simp at this;omega;rw [hudF,List.length_append,List.length_drop];have:=Ms.pushed_len (Ms.nearF F) (K++[td.getD 0 0]) (td.getD 0 0) l;omega) ((.of rfl):SubM _ _) (ho:=((.c (i:=0) rfl .n):PickO _ _ _)) ((.of [0,4,5,6] rfl):SelR _ _ _)
 ·
  have htn:td=[]:=List.eq_nil_of_length_eq_zero (by omega)
  have hS0:Ms.SpI (fun a b=>Ms.nearF F a b=true) l K []:=htn ▸ hS
  refine zaa<|zk<|zk<|zt<|zc<|zh<|za<|r_pv rfl rfl (zb rfl)<|r_u rfl rfl (zDb (encK:=(fun z:Int=> .int .i64 z)) (encV:=(fun z:Bool=> .bool z)) (ok:=(InK .i64)) (m:=sm) 0 rfl Try.underlying94 rfl)<|r_pv rfl rfl (ze rfl)<|zj<|zc<|zP ?_
  exact zG Try.results53 K (hS0.fin hM.nodup) (zz rfl) (by rw [hM.len]) (ho:=(.n:PickO _ _ _)) (.n:SelR _ _ _)
end Go.Proofs.Ytalfgjpbbongcaa.Sp
namespace Go.Proofs.Ytalfgjpbbongcaa.Sp
open Go
set_option linter.unusedVariables false
set_option maxRecDepth 100000
set_option maxHeartbeats 1000000
theorem zOd {pv:Option Addr} {nv:Nat} {cv:Nat} {V:List (Int×Int×Int)} {pf:Option Addr} {nf:Nat} {cf:Nat} {F:List (Int×Int×Int)} (hnv:V.length=nv) (hnf:F.length=nf):Con Try.prog 15 [.agg #[.slice pv nv cv,.slice pf nf cf]] [] [slF (rI3 .i64) pv cv V,slF (rI3 .i64) pf cf F] (Y:=Unit) (fun y=>True) (fun y=> .int .i64 (Ms.check V F)) (fun y=>[]) (fun y=>[]):=by
 refine zB Try.func15 rfl rfl rfl (fun c=> ?_)
 show RunC _ _ _ _ _ [(0,.agg #[.slice pv nv cv,.slice pf nf cf])] [] [slF (rI3 .i64) pv cv V,slF (rI3 .i64) pf cf F]
 refine zoa 0 rfl (fun hL0=> ?_)
 refine zoa 1 rfl (fun hL1=> ?_)
 refine zh<|za<|zS rfl rfl (zca rfl rfl) (fun b1=> ?_)
 refine r_pv rfl rfl (ze rfl)<|zj<|zc<|zh<|zh<|za<|r_u rfl rfl (zf 0 ty25 rfl rfl (.take (.take .nil)))<|zY rfl rfl (.c rfl .n) ce20 (zhe (pv:=pv) (nv:=nv) (cv:=cv) (V:=V) (pf:=pf) (nf:=nf) (cf:=cf) (F:=F) (hnv:=by assumption) (hnf:=by assumption)) (.c (j:=0) rfl (.c (j:=1) rfl .n))<|r_pv rfl rfl (ze rfl)<|zj<|zc<|zh<|za<|r_pv rfl rfl (zb rfl)<|r_pv rfl rfl (zZa rfl rfl)<|zj<|zc<|zI rfl (fun hcode=> ?_) (fun hcode=> ?_)
 ·
  refine zh<|za<|r_pv rfl rfl (zb rfl)<|r_pv rfl rfl (ze rfl)<|zj<|zc<|zP<|zl ?_
  exact zG Try.results15 () trivial (zz rfl) (by rw [Ms.check_bad hcode]) (ho:=(.n:PickO _ _ _)) (.n:SelR _ _ _)
 ·
  have hf0:=Decidable.not_not.1 hcode
  have hgood:=Ms.form_zero.1 hf0
  have hnv5:nv≤512:=by have:=hgood.nv;omega
  have hnf5:nf≤1024:=by have:=hgood.nf;omega
  have hln:=Ms.all_len F
  refine zw<|zc<|zh<|zVd 0 rfl .z<|za<|r_u rfl rfl (zN (j:=0) 0 ty25 rfl rfl rfl (.take (.take .nil)))<|zea rfl rfl (.c rfl .n) ce50 (zve (pv:=pv) (nv:=nv) (cv:=cv) (V:=V) (pf:=pf) (nf:=nf) (cf:=cf) (F:=F) (hnv:=by assumption) (hnf:=by assumption) (hbf:=by first|rfl|assumption|omega|(simp;done)|(simp;omega)|(simp_all;done))) (.c (j:=1) rfl (.c (j:=2) rfl .n)) ?_
  rintro ⟨p22,c23⟩ -
  dsimp only [List.append_eq,List.nil_append,List.cons_append]
  refine r_pv rfl rfl (ze rfl)<|zj<|zc<|zh<|zh<|za<|r_pv rfl rfl (zb rfl)<|r_pv rfl rfl (zX Try.underlying80 rfl)<|r_pv rfl rfl (zb rfl)<|zj<|zc<|zr<|zua (X:=Nat) (fun x:Nat=>x≤(Ms.all F).length∧∀j,j<x→Ms.count (Ms.all F) ((Ms.all F).getD j (0,0))≤1) (fun x=>[(20,.int .i64 ((x:Nat):Int)),(19,.int .i64 (((Ms.all F).length:Nat):Int)),(18,.slice p22 ((Ms.all F).length) c23),(4,.slice p22 ((Ms.all F).length) c23),(1,.pointer (some ⟨b1,0,none⟩))]) (fun x=>[]) (fun x=>[slF (rI2 .i64) p22 c23 (Ms.all F),atF b1 0 [.slice pv nv cv,.slice pf nf cf],slF (rI3 .i64) pv cv V,slF (rI3 .i64) pf cf F]) (fun x:Nat=>(Ms.all F).length - x) 0 (show 0≤(Ms.all F).length∧∀j,j<0→Ms.count (Ms.all F) ((Ms.all F).getD j (0,0))≤1 from by exact ⟨Nat.zero_le _,fun j h=>by omega⟩) ((.e rfl (by first|rfl|(congr 1;omega)|simp_all) (.of rfl)):SubM _ _) (ho:=(.n:PickO _ _ _)) ((.of [0,1,2,3] rfl):SelR _ _ _) ?_
  rintro i hI
  replace hI:i≤(Ms.all F).length∧∀j,j<i→Ms.count (Ms.all F) ((Ms.all F).getD j (0,0))≤1:=hI
  try dsimp only
  obtain ⟨hi,hall⟩:=hI
  refine zh<|za<|r_pv rfl rfl (zD rfl rfl)<|zj<|zc<|zh<|zI rfl (fun h4=> ?_) (fun h4=> ?_)
  ·
   have hcl:=Ms.count_le (Ms.all F) ((Ms.all F).getD i (0,0))
   have hee:Ms.count (Ms.all F) (((Ms.all F).getD i (0,0)).1,((Ms.all F).getD i (0,0)).2)=Ms.count (Ms.all F) ((Ms.all F).getD i (0,0)):=rfl
   refine zw<|zc<|zh<|zr<|zh<|za<|zW (x0:=((Ms.all F).getD i (0,0))) 0 i rfl Try.underlying80 sz72 rfl rfl rfl (by first|rfl|assumption|(simp;done)|omega) rfl rfl (gD (d:=(0,0)) (by omega)) (fun b5 o6 hok7=> ?_)
   obtain ⟨hok7x,hok7y⟩:=hok7
   replace hok7x:=zo.1 hok7x
   replace hok7y:=zo.1 hok7y
   refine r_u rfl rfl (zN (j:=0) 0 ty72 rfl rfl rfl (.take (.take .nil)))<|zS rfl rfl (zn zr72 rfl) (fun b8=> ?_)
   refine zx 0 rfl rfl rfl rfl rfl sz72 rfl (.take (.take .nil)) .z<|zj<|zc<|zh<|za<|r_pv rfl rfl (zb rfl)<|r_u rfl rfl (zf 0 ty72 rfl rfl (.take (.take .nil)))<|zY rfl rfl (.c rfl (.c rfl .n)) ce51 (zgd (p:=p22) (n:=(Ms.all F).length) (cap:=c23) (l:=Ms.all F) (ex:=((Ms.all F).getD i (0,0)).1) (ey:=((Ms.all F).getD i (0,0)).2) (hn:=by first|rfl|assumption|omega|(simp;done)|(simp;omega)|(simp_all;done))) (.c (j:=1) rfl .n)<|r_pv rfl rfl (zRa rfl rfl)<|zj<|zc<|zI rfl (fun hcnt=> ?_) (fun hcnt=> ?_)
   ·
    refine zh<|za<|r_pv rfl rfl (ze rfl)<|zj<|zc<|zP<|zq<|zl<|zl<|zq<|zl ?_
    exact zG Try.results15 () trivial (zz rfl) (by rw [Ms.check_dup hf0 (fun h=>by have:=Ms.nodup_count.2 h _ (Ms.getD_mem (i:=i) (0,0) (by omega));omega)]) (ho:=(.n:PickO _ _ _)) (.n:SelR _ _ _)
   ·
    refine zw<|zA<|zc<|za<|r_pv rfl rfl (zC (z:=(((i+1):Nat):Int)) rfl rfl (w64 (by omega)))<|r_pv rfl rfl (zb rfl)<|zj<|zga (i+1) (show (i+1)≤(Ms.all F).length∧∀j,j<(i+1)→Ms.count (Ms.all F) ((Ms.all F).getD j (0,0))≤1 from by exact ⟨by omega,Ms.all_lt_succ (P:=fun j=>Ms.count (Ms.all F) ((Ms.all F).getD j (0,0))≤1) hall (by omega)⟩) (by show (Ms.all F).length - (i+1)<(Ms.all F).length - i;omega) ((.of rfl):SubM _ _) (ho:=(.n:PickO _ _ _)) ((.of [1,2,3,4] rfl):SelR _ _ _)
  ·
   have hndF:(Ms.all F).Nodup:=Ms.nodup_count.1 (fun e he=>by obtain ⟨j,hj,rfl⟩:=Ms.mem_getD (0,0) he;have:=hall j (by omega);omega)
   refine zaa<|zk<|zk<|zt<|zc<|zh<|zh<|za<|r_pv rfl rfl (zm Try.underlying25 rfl sz22 rfl rfl)<|r_u rfl rfl (zH (j:=0) 1 ty22 rfl rfl rfl rfl)<|r_pv rfl rfl (zX Try.underlying22 rfl)<|r_pv rfl rfl (zb rfl)<|zj<|zc<|zr<|zua (X:=Nat) (fun x:Nat=>x≤nv∧∀w:Nat,w<x→Ms.starB F (w:Int) (Ms.at_ F (w:Int))=true) (fun x=>[(32,.int .i64 ((x:Nat):Int)),(31,.int .i64 ((nv:Nat):Int)),(1,.pointer (some ⟨b1,0,none⟩))]) (fun x=>[]) (fun x=>[slF (rI2 .i64) p22 c23 (Ms.all F),atF b1 0 [.slice pv nv cv,.slice pf nf cf],slF (rI3 .i64) pv cv V,slF (rI3 .i64) pf cf F]) (fun x:Nat=>nv - x) 0 (show 0≤nv∧∀w:Nat,w<0→Ms.starB F (w:Int) (Ms.at_ F (w:Int))=true from by exact ⟨Nat.zero_le _,fun w h=>by omega⟩) ((.e rfl (by first|rfl|(congr 1;omega)|simp_all) (.c rfl (.c rfl .n))):SubM _ _) (ho:=(.n:PickO _ _ _)) ((.of [0,1,2,3] rfl):SelR _ _ _) ?_
   rintro v hI
   replace hI:v≤nv∧∀w:Nat,w<v→Ms.starB F (w:Int) (Ms.at_ F (w:Int))=true:=hI
   try dsimp only
   obtain ⟨hv,hstar⟩:=hI
   refine zh<|za<|r_pv rfl rfl (zD rfl rfl)<|zj<|zc<|zh<|zI rfl (fun h9=> ?_) (fun h9=> ?_)
   ·
    refine zw<|zc<|zh<|zr<|zh<|za<|r_pv rfl rfl (zb rfl)<|r_pv rfl rfl (ze rfl)<|zj<|zc<|zh<|za<|zKa rfl rfl (zCa (rI .i64) Try.underlying50 inf3) (fun b10 _=> ?_)
    refine r_pv rfl rfl (ze rfl)<|zj<|zc<|zh<|zh<|za<|r_pv rfl rfl (zm Try.underlying25 rfl sz23 rfl rfl)<|r_u rfl rfl (zH (j:=1) 1 ty23 rfl rfl rfl rfl)<|r_pv rfl rfl (zX Try.underlying23 rfl)<|r_pv rfl rfl (zb rfl)<|zj<|zc<|zr<|zua (X:=Nat×(Option Addr)×Nat×(List Int)) (fun x:Nat×(Option Addr)×Nat×(List Int)=>x.1≤nf∧x.2.2.2=Ms.at_ (F.take x.1) (v:Int)) (fun x=>[(8,.slice (x.2.1) (x.2.2.2.length) (x.2.2.1)),(39,.int .i64 ((x.1:Nat):Int)),(38,.int .i64 ((nf:Nat):Int)),(37,.slice pf nf cf),(7,.int .i64 ((v:Nat):Int)),(32,.int .i64 ((v:Nat):Int)),(31,.int .i64 ((nv:Nat):Int)),(1,.pointer (some ⟨b1,0,none⟩))]) (fun x=>[rowA 3 (rI .i64) (x.2.1) (x.2.2.1) (x.2.2.2)]) (fun x=>[slF (rI2 .i64) p22 c23 (Ms.all F),atF b1 0 [.slice pv nv cv,.slice pf nf cf],slF (rI3 .i64) pv cv V,slF (rI3 .i64) pf cf F]) (fun x:Nat×(Option Addr)×Nat×(List Int)=>nf - x.1) (0,some ⟨b10,0,none⟩,0,([]:List Int)) (show 0≤nf∧([]:List Int)=Ms.at_ (F.take 0) (v:Int) from by exact ⟨Nat.zero_le _,rfl⟩) ((.e rfl (by first|rfl|(congr 1;omega)|simp_all) (.e rfl (by first|rfl|(congr 1;omega)|simp_all) (.of rfl))):SubM _ _) (ho:=((.e (i:=0) rfl (by first|rfl|(congr 1;omega)|simp_all) .n):PickO _ _ _)) ((.of [0,1,2,3] rfl):SelR _ _ _) ?_
    rintro ⟨i,p,c,A⟩ hJ
    replace hJ:i≤nf∧A=Ms.at_ (F.take i) (v:Int):=hJ
    try dsimp only
    obtain ⟨hi,hA⟩:=hJ
    have hAl:A.length≤3*nf:=by have:=Ms.at_len (F.take i) (v:Int);rw [← hA,List.length_take] at this;omega
    refine zh<|za<|r_pv rfl rfl (zD rfl rfl)<|zj<|zc<|zh<|zI rfl (fun h11=> ?_) (fun h11=> ?_)
    ·
     refine zw<|zc<|zh<|zr<|zh<|za<|r_pv rfl rfl (zb rfl)<|zW (x0:=(F.getD i (0,0,0))) 3 i rfl Try.underlying23 sz44 rfl rfl rfl (by first|rfl|assumption|(simp;done)|omega) rfl rfl (gD (d:=(0,0,0)) (by omega)) (fun b12 o13 hok14=> ?_)
     obtain ⟨hok14x,hok14y,hok14z⟩:=hok14
     replace hok14x:=zo.1 hok14x
     replace hok14y:=zo.1 hok14y
     replace hok14z:=zo.1 hok14z
     refine r_u rfl rfl (zN (j:=0) 0 ty44 rfl rfl rfl (.take (.take (.take .nil))))<|zS rfl rfl (zn zr44 rfl) (fun b15=> ?_)
     refine r_pv rfl rfl (ze rfl)<|zx 0 rfl rfl rfl rfl rfl sz44 rfl (.take (.take (.take .nil))) .z<|zj<|zc<|zh<|za<|r_u rfl rfl (zf 0 ty44 rfl rfl (.take (.take (.take .nil))))<|r_pv rfl rfl (zb rfl)<|zY rfl rfl (.c rfl (.c rfl .n)) ce52 (zQc (ex:=(F.getD i (0,0,0)).1) (ey:=(F.getD i (0,0,0)).2.1) (ez:=(F.getD i (0,0,0)).2.2) (w:=((v:Nat):Int))) (.n)<|zj<|zc<|zGa rfl (fun hhas=> ?_) (fun hhas=> ?_)
     ·
      refine za<|r_pv rfl rfl (zb rfl)<|r_pv rfl rfl (zb rfl)<|zKa rfl rfl (zJ (enc:=fun z:Int=>[.int .i64 z]) (ok:=InK .i64) (h1:=fun _=>rfl) (h2:=fun _=>rfl) (k:=1) Try.underlying50 inf3 rfl (by decide) (by decide) (by decide) (.c (x:=((i:Nat):Int)) rfl rfl (fun _ _=>by exact zo.2 (by omega)) .n)) (fun b16 _=> ?_)
      refine zEa 0 rfl .z<|zJa 2 rfl rfl rfl (zsa 0 rfl Try.underlying50 inf3 (by decide) rfl rfl (by first|rfl|assumption|(simp;done)|omega) rfl (by first|rfl|assumption|(simp;done)|omega) (by omega) (by omega)) (fun _=>(.s (.s .z))) ?_
      rintro ⟨p17,c18⟩ -
      dsimp only [List.append_eq,List.nil_append,List.cons_append]
      refine r_pv rfl rfl (ze rfl)<|zj<|zA<|zc<|za<|r_pv rfl rfl (zC (z:=(((i+1):Nat):Int)) rfl rfl (w64 (by omega)))<|r_pv rfl rfl (zb rfl)<|zj<|zga ((i+1),p17,c18,(A++[((i:Nat):Int)])) (show (i+1)≤nf∧(A++[((i:Nat):Int)])=Ms.at_ (F.take (i+1)) (v:Int) from by exact ⟨by omega,by rw [Ms.at_take (by omega) (hgood.dg _ (Ms.getD_mem _ (by omega))),if_pos hhas,hA]⟩) (by show nf - (i+1)<nf - i;omega) ((.e rfl (by simp) (.of rfl)):SubM _ _) (ho:=((.e (i:=2) rfl (by first|rfl|(congr 1;omega)|simp_all) .n):PickO _ _ _)) ((.of [2,3,4,5] rfl):SelR _ _ _)
     ·
      refine zw<|zA<|zc<|za<|r_pv rfl rfl (zC (z:=(((i+1):Nat):Int)) rfl rfl (w64 (by omega)))<|r_pv rfl rfl (zb rfl)<|zj<|zga ((i+1),p,c,A) (show (i+1)≤nf∧A=Ms.at_ (F.take (i+1)) (v:Int) from by exact ⟨by omega,by rw [Ms.at_take (by omega) (hgood.dg _ (Ms.getD_mem _ (by omega))),if_neg (by rw [hhas];decide),hA]⟩) (by show nf - (i+1)<nf - i;omega) ((.of rfl):SubM _ _) (ho:=((.c (i:=1) rfl .n):PickO _ _ _)) ((.of [1,2,3,4] rfl):SelR _ _ _)
    ·
     refine zaa<|zk<|zk<|zt<|zc<|zLa (X:=Unit) (fun x=>True) (fun x=>[(62,.bool (!(Ms.starB F (v:Int) (Ms.at_ F (v:Int))))),(32,.int .i64 ((v:Nat):Int)),(31,.int .i64 ((nv:Nat):Int)),(1,.pointer (some ⟨b1,0,none⟩))]) (fun x=>[]) (fun x=>[slF (rI2 .i64) p22 c23 (Ms.all F),atF b1 0 [.slice pv nv cv,.slice pf nf cf],slF (rI3 .i64) pv cv V,slF (rI3 .i64) pf cf F]) ?_ ?_
     ·
      have e19:A=(Ms.at_ F (v:Int)):=by rw [hA,List.take_of_length_le (by omega)]
      subst e19
      refine za<|r_pv rfl rfl (zb rfl)<|r_pv rfl rfl (zX Try.underlying50 rfl)<|r_pv rfl rfl (zRa rfl rfl)<|zZ rfl rfl (zb rfl) (fun h20=> ?_) (fun h20=> ?_)
      ·
       refine r_pv rfl rfl (zb rfl)<|r_pv rfl rfl (zoc .n (.c rfl .n))<|zEa 0 rfl .z<|zea rfl rfl (.c rfl (.c rfl .n)) ce53 (zNd (mb:=b1) (pv:=pv) (nv:=nv) (cv:=cv) (pf:=pf) (nf:=nf) (cf:=cf) (F:=F) (p:=p) (n:=(Ms.at_ F (v:Int)).length) (cap:=c) (l:=(Ms.at_ F (v:Int))) (hnf:=by assumption) (hn:=by first|rfl|assumption|omega|(simp;done)|(simp;omega)|(simp_all;done)) (hn0:=by first|rfl|assumption|omega|(simp;done)|(simp;omega)|(simp_all;done)) (hl:=by exact fun a ha=>⟨((Ms.at_all hgood.dg).1 a ha).1,by have:=((Ms.at_all hgood.dg).1 a ha).2.1;omega⟩)) (.c (j:=0) rfl (.c (j:=2) rfl (.c (j:=4) rfl .n))) ?_
       rintro K21 hy
       dsimp only [List.append_eq,List.nil_append,List.cons_append]
       replace hy:Ms.Spread (fun a b=>Ms.nearF F a b=true) (Ms.at_ F (v:Int)) K21:=hy
       refine r_pv rfl rfl (zb rfl)<|r_pv rfl rfl (zX Try.underlying50 rfl)<|r_pv rfl rfl (zD rfl rfl)<|r_pv rfl rfl (zy rfl rfl)<|zj ?_
       exact zfa () (show True from by first|trivial|omega|simp_all) ((.e rfl (congrArg Value.bool (by exact Ms.spread_star hgood.dg hgood.nf hy)) (.of rfl)):SubM _ _) (ho:=(.n:PickO _ _ _)) ((.of [1,2,3,4] rfl):SelR _ _ _)
      ·
       refine zi rfl rfl<|zi rfl rfl<|zi rfl rfl<|zi rfl rfl<|zi rfl rfl<|zi rfl rfl<|r_pv rfl rfl (zy rfl rfl)<|zj ?_
       exact zfa () (show True from by first|trivial|omega|simp_all) ((.e rfl (congrArg Value.bool (by rw [Ms.star_empty (by omega)];rfl)) (.of rfl)):SubM _ _) (ho:=(.n:PickO _ _ _)) ((.of [0,1,2,3] rfl):SelR _ _ _)
     ·
      rintro ⟨⟩ -
      try dsimp only
      refine zGa rfl (fun hst=> ?_) (fun hst=> ?_)
      ·
       refine zh<|za<|r_pv rfl rfl (ze rfl)<|zj<|zc<|zP<|zq<|zl<|zl<|zq<|zl ?_
       exact zG Try.results15 () trivial (zz rfl) (by rw [Ms.check_star hf0 hndF (v:=v) (by omega) (by simpa using hst)]) (ho:=(.n:PickO _ _ _)) (.n:SelR _ _ _)
      ·
       refine zw<|zA<|zc<|za<|r_pv rfl rfl (zC (z:=(((v+1):Nat):Int)) rfl rfl (w64 (by omega)))<|r_pv rfl rfl (zb rfl)<|zj<|zga (v+1) (show (v+1)≤nv∧∀w:Nat,w<(v+1)→Ms.starB F (w:Int) (Ms.at_ F (w:Int))=true from by exact ⟨by omega,Ms.all_lt_succ (P:=fun w=>Ms.starB F (w:Int) (Ms.at_ F (w:Int))=true) hstar (by simpa using hst)⟩) (by show nv - (v+1)<nv - v;omega) ((.of rfl):SubM _ _) (ho:=(.n:PickO _ _ _)) ((.of [0,1,2,3] rfl):SelR _ _ _)
   ·
    refine zaa<|zk<|zk<|zt<|zc<|zh<|za<|r_pv rfl rfl (ze rfl)<|zj<|zc<|zP ?_
    exact zG Try.results15 () trivial (zz rfl) (by rw [Ms.check_ok hf0 hndF (fun w hw=>hstar w (by omega))]) (ho:=(.n:PickO _ _ _)) (.n:SelR _ _ _)
end Go.Proofs.Ytalfgjpbbongcaa.Sp
namespace Go.Proofs.Ytalfgjpbbongcaa.Sp
open Go
set_option linter.unusedVariables false
set_option maxRecDepth 100000
set_option maxHeartbeats 1000000
theorem zgc {pv:Option Addr} {nv:Nat} {cv:Nat} {V:List (Int×Int×Int)} {pf:Option Addr} {nf:Nat} {cf:Nat} {F:List (Int×Int×Int)} (hnv:V.length=nv) (hnf:F.length=nf) (hg:Ms.Good V F):Con Try.prog 56 [.agg #[.slice pv nv cv,.slice pf nf cf]] [] [slF (rI3 .i64) pv cv V,slF (rI3 .i64) pf cf F] (Y:=Nat×(List (Int×Int))) (fun y=>Ms.BMap F y.2) (fun y=> .map (some y.1)) (fun y=>[mapA y.1 (fun z:Int=> .int .i64 z) (fun z:Int=> .int .i64 z) (InK .i64) (y.2)]) (fun y=>[]):=by
 refine zB Try.func56 rfl rfl rfl (fun c=> ?_)
 show RunC _ _ _ _ _ [(0,.agg #[.slice pv nv cv,.slice pf nf cf])] [] [slF (rI3 .i64) pv cv V,slF (rI3 .i64) pf cf F]
 refine zoa 0 rfl (fun hL0=> ?_)
 refine zoa 1 rfl (fun hL1=> ?_)
 have hnv5:nv≤512:=by have:=hg.nv;omega
 have hnf5:nf≤1024:=by have:=hg.nf;omega
 refine zh<|za<|zS rfl rfl (zca rfl rfl) (fun b1=> ?_)
 refine r_pv rfl rfl (ze rfl)<|zj<|zc<|zh<|za<|zKa rfl rfl (zQa (κ:=Int×Int) (ν:=Bool) (fun z:Int×Int=> .agg #[.int .i64 z.1,.int .i64 z.2]) (fun z:Bool=> .bool z) (fun z=>InK .i64 z.1∧InK .i64 z.2)) (fun b2 _=> ?_)
 refine r_pv rfl rfl (ze rfl)<|zj<|zc<|zh<|zh<|za<|r_pv rfl rfl (zm Try.underlying25 rfl sz23 rfl rfl)<|r_u rfl rfl (zd 1 ty23 rfl rfl rfl)<|r_pv rfl rfl (zX Try.underlying23 rfl)<|r_pv rfl rfl (zb rfl)<|zj<|zc<|zr<|zua (X:=Nat) (fun x:Nat=>x≤nf) (fun x=>[(14,.int .i64 ((x:Nat):Int)),(13,.int .i64 ((nf:Nat):Int)),(12,.slice pf nf cf),(3,.map (some b2)),(2,.map none)]) (fun x=>[mapA b2 (fun z:Int×Int=> .agg #[.int .i64 z.1,.int .i64 z.2]) (fun z:Bool=> .bool z) (fun z=>InK .i64 z.1∧InK .i64 z.2) (Ms.allM (F.take x)),boxA b1 25 [.slice pv nv cv,.slice pf nf cf]]) (fun x=>[slF (rI3 .i64) pv cv V,slF (rI3 .i64) pf cf F]) (fun x:Nat=>nf - x) 0 (show 0≤nf from by exact Nat.zero_le _) ((.e rfl (by first|rfl|(congr 1;omega)|simp_all) (.of rfl)):SubM _ _) (ho:=((.e (i:=0) rfl (by rfl) (.c (i:=0) rfl .n)):PickO _ _ _)) ((.of [0,1] rfl):SelR _ _ _) ?_
 rintro i hI
 replace hI:i≤nf:=hI
 try dsimp only
 refine zh<|za<|r_pv rfl rfl (zD rfl rfl)<|zj<|zc<|zh<|zI rfl (fun h3=> ?_) (fun h3=> ?_)
 ·
  have hat:=hg.at (show i<F.length by omega)
  refine zw<|zc<|zh<|zr<|zh<|za<|zW (x0:=(F.getD i (0,0,0))) 1 i rfl Try.underlying23 sz44 rfl rfl rfl (by first|rfl|assumption|(simp_all;done)|omega) rfl rfl (gD (d:=(0,0,0)) (by omega)) (fun b4 o5 hok6=> ?_)
  obtain ⟨hok6x,hok6y,hok6z⟩:=hok6
  replace hok6x:=zo.1 hok6x
  replace hok6y:=zo.1 hok6y
  replace hok6z:=zo.1 hok6z
  refine r_u rfl rfl (zN (j:=0) 0 ty44 rfl rfl rfl (.take (.take (.take .nil))))<|zS rfl rfl (zn zr44 rfl) (fun b7=> ?_)
  refine zx 0 rfl rfl rfl rfl rfl sz44 rfl (.take (.take (.take .nil))) .z<|zj<|zc<|zh<|za<|r_u rfl rfl (zf 0 ty44 rfl rfl (.take (.take (.take .nil))))<|zY rfl rfl (.c rfl .n) ce47 (zDc (ex:=(F.getD i (0,0,0)).1) (ey:=(F.getD i (0,0,0)).2.1) (ez:=(F.getD i (0,0,0)).2.2)) (.n)<|r_pv rfl rfl (zb rfl)<|zj<|zc<|zr<|zSa<|zQ<|zh<|za<|r_pv rfl rfl (zD rfl rfl)<|zj<|zc<|zh<|zT rfl rfl<|zw<|zc<|zh<|zr<|zh<|za<|r_pv rfl rfl (zza (i:=0) Try.underlying74 ty73 rfl rfl (by decide) (.take (.take .nil)))<|zS rfl rfl (zn zr73 rfl) (fun b8=> ?_)
  refine zx 0 rfl rfl rfl rfl rfl sz73 rfl (.take (.take .nil)) .z<|zj<|zc<|za<|r_pv rfl rfl (zb rfl)<|r_u rfl rfl (zf 0 ty73 rfl rfl (.take (.take .nil)))<|zJa 2 rfl rfl rfl (zya (a0:=(((F.getD i (0,0,0)).1),((F.getD i (0,0,0)).2.1))) (v:=true) ky73 Try.underlying71 rfl rfl rfl (⟨zo.2 (by omega),zo.2 (by omega)⟩)) (fun _=>(.s (.s .z))) (fun _ _=> ?_)
  refine zj<|zA<|zc<|za<|r_pv rfl rfl (zC (z:=1) rfl rfl (w64 (by decide)))<|r_pv rfl rfl (zb rfl)<|zj<|zba<|zQ<|zh<|za<|r_pv rfl rfl (zD rfl rfl)<|zj<|zc<|zh<|zT rfl rfl<|zw<|zc<|zh<|zr<|zh<|za<|r_pv rfl rfl (zza (i:=1) Try.underlying74 ty73 rfl rfl (by decide) (.skip (.skip (.take (.take .nil)))))<|zS rfl rfl (zn zr73 rfl) (fun b9=> ?_)
  refine zx 0 rfl rfl rfl rfl rfl sz73 rfl (.take (.take .nil)) .z<|zj<|zc<|za<|r_pv rfl rfl (zb rfl)<|r_u rfl rfl (zf 0 ty73 rfl rfl (.take (.take .nil)))<|zJa 3 rfl rfl rfl (zya (a0:=(((F.getD i (0,0,0)).2.1),((F.getD i (0,0,0)).2.2))) (v:=true) ky73 Try.underlying71 rfl rfl rfl (⟨zo.2 (by omega),zo.2 (by omega)⟩)) (fun _=>(.s (.s (.s .z)))) (fun _ _=> ?_)
  refine zj<|zA<|zc<|za<|r_pv rfl rfl (zC (z:=2) rfl rfl (w64 (by decide)))<|r_pv rfl rfl (zb rfl)<|zj<|zba<|zQ<|zh<|za<|r_pv rfl rfl (zD rfl rfl)<|zj<|zc<|zh<|zT rfl rfl<|zw<|zc<|zh<|zr<|zh<|za<|r_pv rfl rfl (zza (i:=2) Try.underlying74 ty73 rfl rfl (by decide) (.skip (.skip (.skip (.skip (.take (.take .nil)))))))<|zS rfl rfl (zn zr73 rfl) (fun b10=> ?_)
  refine zx 0 rfl rfl rfl rfl rfl sz73 rfl (.take (.take .nil)) .z<|zj<|zc<|za<|r_pv rfl rfl (zb rfl)<|r_u rfl rfl (zf 0 ty73 rfl rfl (.take (.take .nil)))<|zJa 4 rfl rfl rfl (zya (a0:=(((F.getD i (0,0,0)).2.2),((F.getD i (0,0,0)).1))) (v:=true) ky73 Try.underlying71 rfl rfl rfl (⟨zo.2 (by omega),zo.2 (by omega)⟩)) (fun _=>(.s (.s (.s (.s .z))))) (fun _ _=> ?_)
  refine zj<|zA<|zc<|za<|r_pv rfl rfl (zC (z:=3) rfl rfl (w64 (by decide)))<|r_pv rfl rfl (zb rfl)<|zj<|zba<|zQ<|zh<|za<|r_pv rfl rfl (zD rfl rfl)<|zj<|zc<|zh<|zva rfl rfl<|zaa<|zk<|zk<|zt<|zA<|zc<|za<|r_pv rfl rfl (zC (z:=(((i+1):Nat):Int)) rfl rfl (w64 (by omega)))<|r_pv rfl rfl (zb rfl)<|zj<|zga (i+1) (show (i+1)≤nf from by exact (by omega:i+1≤nf)) (by show nf - (i+1)<nf - i;omega) ((.of rfl):SubM _ _) (ho:=((.e (i:=4) rfl (by rw [Ms.allM_take (by omega)]) (.c (i:=4) rfl .n)):PickO _ _ _)) ((.of [1,2] rfl):SelR _ _ _)
 ·
  refine zaa<|zk<|zk<|zt<|zc<|zh ?_
  have e11:Ms.allM (F.take i)=Ms.allM F:=by rw [List.take_of_length_le (by omega)]
  rw [e11]
  refine za<|zKa rfl rfl (zQa (κ:=Int) (ν:=Int) (fun z:Int=> .int .i64 z) (fun z:Int=> .int .i64 z) (InK .i64)) (fun b12 _=> ?_)
  refine r_pv rfl rfl (ze rfl)<|zj<|zc<|zh<|zh<|za<|r_pv rfl rfl (zb rfl)<|zJa 1 rfl rfl rfl (zDe Try.underlying71 rfl) (fun _=>(.s .z)) (fun it13 _=> ?_)
  refine zj<|zc<|zr<|zua (X:=(List ((Int×Int)×Bool))×(List (Int×Int))) (fun x:(List ((Int×Int)×Bool))×(List (Int×Int))=>Ms.BPart F x.1 x.2) (fun x=>[(29,.pointer (some ⟨it13,0,none⟩)),(8,.map (some b12)),(3,.map (some b2)),(2,.map none)]) (fun x=>[mapA b12 (fun z:Int=> .int .i64 z) (fun z:Int=> .int .i64 z) (InK .i64) (x.2),itA b2 it13 (fun z:Int×Int=> .agg #[.int .i64 z.1,.int .i64 z.2]) (fun z:Bool=> .bool z) (fun z=>InK .i64 z.1∧InK .i64 z.2) (Ms.allM F) (x.1),boxA b1 25 [.slice pv nv cv,.slice pf nf cf]]) (fun x=>[slF (rI3 .i64) pv cv V,slF (rI3 .i64) pf cf F]) (fun x:(List ((Int×Int)×Bool))×(List (Int×Int))=>(Ms.allM F).length - x.1.length) (([]:List ((Int×Int)×Bool)),([]:List (Int×Int))) (show Ms.BPart F ([]:List ((Int×Int)×Bool)) ([]:List (Int×Int)) from by exact Ms.BPart.nil F) ((.of rfl):SubM _ _) (ho:=((.e (i:=0) rfl (by first|rfl|(congr 1;omega)|simp_all) (.e (i:=0) rfl (by first|rfl|(congr 1;omega)|simp_all) (.c (i:=0) rfl .n))):PickO _ _ _)) ((.of [0,1] rfl):SelR _ _ _) ?_
  rintro ⟨vis,bm⟩ hB
  replace hB:Ms.BPart F vis bm:=hB
  try dsimp only
  refine zh<|za<|r_next 1 rfl rfl rfl rfl (fun _=>(.s .z)) (fun e hem hen=> ?_) (fun hperm=> ?_)
  ·
   have her:=Ms.all_rng hg (Ms.allM_mem hem)
   refine r_pv rfl rfl (zja rfl rfl)<|zj<|zc<|zh<|zT rfl rfl<|zw<|zc<|zr<|zh<|za<|r_u rfl rfl (zEe (p:=e) 1 rfl rfl)<|r_pv rfl rfl (zja rfl rfl)<|zS rfl rfl (zn zr73 rfl) (fun b14=> ?_)
   refine zx 0 rfl rfl rfl rfl rfl sz73 rfl (.take (.take .nil)) .z<|zj<|zc<|zh<|za<|r_pv rfl rfl (zb rfl)<|r_pv rfl rfl (zg (i:=1) Try.underlying73 sz3 rfl rfl (by decide) rfl)<|r_u rfl rfl (zd 0 ty3 rfl rfl rfl)<|r_pv rfl rfl (zg (i:=0) Try.underlying73 sz3 rfl rfl (by decide) rfl)<|r_u rfl rfl (zd 0 ty3 rfl rfl rfl)<|r_pv rfl rfl (zK zr73 rfl Try.underlying73 sz3 (.c rfl (.c rfl .n)) (.c rfl rfl rfl (.take .nil) (.c rfl rfl rfl (.skip (.take .nil)) .n)))<|r_u rfl rfl (zPc (z:=false) (a0:=(e.1.2,e.1.1)) (v:= .bool ((mget (Ms.allM F) (e.1.2,e.1.1)).getD false)) 2 rfl ky73 Try.underlying71 zr4 rfl rfl (⟨zo.2 (by omega),zo.2 (by omega)⟩) rfl)<|r_pv rfl rfl (zob rfl)<|zj<|zc<|zGa rfl (fun hl=> ?_) (fun hl=> ?_)
   ·
    refine za<|r_pv rfl rfl (zb rfl)<|r_pv rfl rfl (zg (i:=0) Try.underlying73 sz3 rfl rfl (by decide) rfl)<|r_u rfl rfl (zd 0 ty3 rfl rfl rfl)<|r_pv rfl rfl (zg (i:=1) Try.underlying73 sz3 rfl rfl (by decide) rfl)<|r_u rfl rfl (zd 0 ty3 rfl rfl rfl)<|zJa 1 rfl rfl rfl (zya (a0:=e.1.1) (v:=e.1.2) ky3 Try.underlying76 rfl rfl rfl (zo.2 (by omega))) (fun _=>(.s .z)) (fun _ _=> ?_)
    refine zj<|zA<|zga ((vis++[e]),mput bm e.1.1 e.1.2) (show Ms.BPart F (vis++[e]) (mput bm e.1.1 e.1.2) from by exact hB.hit hem hen hl) (by exact (hB.hit hem hen hl).mu) ((.of rfl):SubM _ _) (ho:=((.of [1,1,1] rfl):PickO _ _ _)) ((.of [0,1] rfl):SelR _ _ _)
   ·
    refine zw<|zA<|zga ((vis++[e]),bm) (show Ms.BPart F (vis++[e]) bm from by exact hB.miss hem hen hl) (by exact (hB.miss hem hen hl).mu) ((.of rfl):SubM _ _) (ho:=((.of [1,1,1] rfl):PickO _ _ _)) ((.of [0,1] rfl):SelR _ _ _)
  ·
   refine r_pv rfl rfl (zja rfl rfl)<|zj<|zc<|zh<|zva rfl rfl<|zaa<|zk<|zk<|zt<|zc<|zh<|za<|r_pv rfl rfl (zb rfl)<|r_pv rfl rfl (ze rfl)<|zj<|zc<|zP ?_
   exact zG Try.results56 (b12,bm) (hB.fin hperm) (zz rfl) rfl (ho:=((.c (i:=0) rfl .n):PickO _ _ _)) (.n:SelR _ _ _)
end Go.Proofs.Ytalfgjpbbongcaa.Sp
namespace Go.Proofs.Ytalfgjpbbongcaa.Sp
open Go
set_option linter.unusedVariables false
set_option maxRecDepth 100000
set_option maxHeartbeats 1000000
theorem zwe {pv:Option Addr} {nv:Nat} {cv:Nat} {V:List (Int×Int×Int)} {pf:Option Addr} {nf:Nat} {cf:Nat} {F:List (Int×Int×Int)} (hnv:V.length=nv) (hnf:F.length=nf) (hg:Ms.Good V F):Con Try.prog 65 [.agg #[.slice pv nv cv,.slice pf nf cf]] [] [slF (rI3 .i64) pv cv V,slF (rI3 .i64) pf cf F] (Y:=(Option Addr)×Nat×(List (Int×Int))) (fun y=>Ms.BMap F y.2.2) (fun y=> .slice (y.1) ((Ms.loops (fun jj=>mget y.2.2 jj) nv).length) (y.2.1)) (fun y=>[]) (fun y=>[slF (rS (rI .i64)) (y.1) (y.2.1) (Ms.loops (fun jj=>mget y.2.2 jj) nv)]):=by
 refine zB Try.func65 rfl rfl rfl (fun c=> ?_)
 show RunC _ _ _ _ _ [(0,.agg #[.slice pv nv cv,.slice pf nf cf])] [] [slF (rI3 .i64) pv cv V,slF (rI3 .i64) pf cf F]
 refine zoa 0 rfl (fun hL0=> ?_)
 refine zoa 1 rfl (fun hL1=> ?_)
 have hnv5:nv≤512:=by have:=hg.nv;omega
 have hnf5:nf≤1024:=by have:=hg.nf;omega
 refine zh<|za<|zS rfl rfl (zca rfl rfl) (fun b1=> ?_)
 refine r_pv rfl rfl (ze rfl)<|zj<|zc<|zh<|za<|r_u rfl rfl (zf 0 ty25 rfl rfl (.take (.take .nil)))<|zea rfl rfl (.c rfl .n) ce56 (zgc (pv:=pv) (nv:=nv) (cv:=cv) (V:=V) (pf:=pf) (nf:=nf) (cf:=cf) (F:=F) (hnv:=by assumption) (hnf:=by assumption) (hg:=by assumption)) (.c (j:=0) rfl (.c (j:=1) rfl .n)) ?_
 rintro ⟨b22,bm1⟩ hB
 dsimp only [List.append_eq,List.nil_append,List.cons_append]
 replace hB:Ms.BMap F bm1:=hB
 refine r_pv rfl rfl (ze rfl)<|zj<|zc<|zh<|za<|r_pv rfl rfl (ze rfl)<|zj<|zc<|zh<|za<|zKa rfl rfl (zQa (κ:=Int) (ν:=Bool) (fun z:Int=> .int .i64 z) (fun z:Bool=> .bool z) (InK .i64)) (fun b3 _=> ?_)
 refine r_pv rfl rfl (ze rfl)<|zj<|zc<|zh<|zh<|zlc 50 (rS (rI .i64))<|za<|r_pv rfl rfl (zm Try.underlying25 rfl sz22 rfl rfl)<|r_u rfl rfl (zd 3 ty22 rfl rfl rfl)<|r_pv rfl rfl (zX Try.underlying22 rfl)<|r_pv rfl rfl (zb rfl)<|zj<|zc<|zr<|zua (X:=Nat×(List (Int×Bool))×(List Int)×(Option Addr)×Nat×(List (List Int))) (fun x:Nat×(List (Int×Bool))×(List Int)×(Option Addr)×Nat×(List (List Int))=>x.1≤nv∧Ms.Marks x.2.1 x.2.2.1∧Ms.LInv (fun jj=>mget bm1 jj) nv x.1 x.2.2.1 x.2.2.2.2.2) (fun x=>[(4,.slice (x.2.2.2.1) (x.2.2.2.2.2.length) (x.2.2.2.2.1)),(17,.int .i64 ((x.1:Nat):Int)),(16,.int .i64 ((nv:Nat):Int)),(5,.map (some b3)),(3,.map (some b22)),(2,.slice none 0 0)]) (fun x=>[rowA 50 (rS (rI .i64)) (x.2.2.2.1) (x.2.2.2.2.1) (x.2.2.2.2.2),mapA b3 (fun z:Int=> .int .i64 z) (fun z:Bool=> .bool z) (InK .i64) (x.2.1),mapA b22 (fun z:Int=> .int .i64 z) (fun z:Int=> .int .i64 z) (InK .i64) bm1,boxA b1 25 [.slice pv nv cv,.slice pf nf cf]]) (fun x=>[slF (rI3 .i64) pv cv V,slF (rI3 .i64) pf cf F]) (fun x:Nat×(List (Int×Bool))×(List Int)×(Option Addr)×Nat×(List (List Int))=>nv - x.1) (0,([]:List (Int×Bool)),([]:List Int),none,0,([]:List (List Int))) (show 0≤nv∧Ms.Marks ([]:List (Int×Bool)) ([]:List Int)∧Ms.LInv (fun jj=>mget bm1 jj) nv 0 ([]:List Int) ([]:List (List Int)) from by exact ⟨Nat.zero_le _,Ms.Marks.nil,Ms.LInv.start _ _⟩) ((.e rfl (by first|rfl|(congr 1;omega)|simp_all) (.e rfl (by first|rfl|(congr 1;omega)|simp_all) (.of rfl))):SubM _ _) (ho:=((.e (i:=0) rfl (by first|rfl|(congr 1;omega)|simp_all) (.e (i:=0) rfl (by first|rfl|(congr 1;omega)|simp_all) (.of [0,0] rfl))):PickO _ _ _)) ((.of [0,1] rfl):SelR _ _ _) ?_
 rintro ⟨v,dm,K,p,c,out⟩ hI
 replace hI:v≤nv∧Ms.Marks dm K∧Ms.LInv (fun jj=>mget bm1 jj) nv v K out:=hI
 try dsimp only
 obtain ⟨hv,hM,hL⟩:=hI
 have hol:=hL.len
 refine zh<|za<|r_pv rfl rfl (zD rfl rfl)<|zj<|zc<|zh<|zI rfl (fun h4=> ?_) (fun h4=> ?_)
 ·
  refine zw<|zc<|zh<|zr<|zh<|za<|r_pv rfl rfl (zb rfl)<|r_pv rfl rfl (ze rfl)<|zj<|zc<|zZd<|zh<|zh<|za<|r_pv rfl rfl (zb rfl)<|r_pv rfl rfl (zb rfl)<|r_u rfl rfl (zqb (z:=0) (a0:=((v:Nat):Int)) (v:= .int .i64 ((mget bm1 ((v:Nat):Int)).getD 0)) 2 rfl ky3 Try.underlying76 zr3 rfl rfl (zo.2 (by omega)) rfl)<|r_pv rfl rfl (zb rfl)<|r_pv rfl rfl (zja rfl rfl)<|r_pv rfl rfl (zja rfl rfl)<|r_pv rfl rfl (ze rfl)<|r_pv rfl rfl (ze rfl)<|zj<|zc<|zLa (X:=Unit) (fun x=>True) (fun x=>[(32,.bool (decide (((!((mget bm1 ((v:Nat):Int)).isSome))=true)∨(((mget dm ((v:Nat):Int)).getD false)=true)))),(6,.int .i64 ((v:Nat):Int)),(4,.slice p (out.length) c),(17,.int .i64 ((v:Nat):Int)),(16,.int .i64 ((nv:Nat):Int)),(5,.map (some b3)),(3,.map (some b22)),(2,.slice none 0 0)]) (fun x=>[rowA 50 (rS (rI .i64)) p c out,mapA b3 (fun z:Int=> .int .i64 z) (fun z:Bool=> .bool z) (InK .i64) dm,mapA b22 (fun z:Int=> .int .i64 z) (fun z:Int=> .int .i64 z) (InK .i64) bm1,boxA b1 25 [.slice pv nv cv,.slice pf nf cf]]) (fun x=>[slF (rI3 .i64) pv cv V,slF (rI3 .i64) pf cf F]) ?_ ?_
  ·
   refine za<|r_pv rfl rfl (zb rfl)<|r_pv rfl rfl (zob rfl)<|zWb rfl rfl (zb rfl) (fun h5=> ?_) (fun h5=> ?_)
   ·
    refine zi rfl rfl<|zi rfl rfl<|zi rfl rfl<|r_pv rfl rfl (zy rfl rfl)<|zj ?_
    exact zfa () (show True from by first|trivial|omega|simp_all) ((.e rfl (congrArg Value.bool (by first|(simp_all;done)|(simp_all;omega)|(simp;omega)|omega)) (.of rfl)):SubM _ _) (ho:=((.of [0,0,0,0] rfl):PickO _ _ _)) ((.of [0,1] rfl):SelR _ _ _)
   ·
    refine r_pv rfl rfl (zb rfl)<|r_pv rfl rfl (zb rfl)<|r_u rfl rfl (zFa (z:=false) (a0:=((v:Nat):Int)) (v:= .bool ((mget dm ((v:Nat):Int)).getD false)) 1 rfl ky3 Try.underlying94 zr4 rfl rfl (zo.2 (by omega)) rfl)<|r_pv rfl rfl (zy rfl rfl)<|zj ?_
    exact zfa () (show True from by first|trivial|omega|simp_all) ((.e rfl (congrArg Value.bool (by first|(simp_all;done)|(simp_all;omega)|(simp;omega)|omega)) (.of rfl)):SubM _ _) (ho:=((.of [0,0,0,0] rfl):PickO _ _ _)) ((.of [0,1] rfl):SelR _ _ _)
  ·
   rintro ⟨⟩ -
   try dsimp only
   refine zI rfl (fun hsk=> ?_) (fun hsk=> ?_)
   ·
    refine zaa<|zk<|zZc<|zt<|zc<|za<|r_pv rfl rfl (zC (z:=(((v+1):Nat):Int)) rfl rfl (w64 (by omega)))<|r_pv rfl rfl (zb rfl)<|zj<|zga ((v+1),dm,K,p,c,out) (show (v+1)≤nv∧Ms.Marks dm K∧Ms.LInv (fun jj=>mget bm1 jj) nv (v+1) K out from by exact ⟨by omega,hM,hL.skip (hsk.imp id hM.yes)⟩) (by show nv - (v+1)<nv - v;omega) ((.of rfl):SubM _ _) (ho:=((.of [0,0,0,0] rfl):PickO _ _ _)) ((.of [0,1] rfl):SelR _ _ _)
   ·
    refine zw<|zc<|zh<|za<|r_pv rfl rfl (ze rfl)<|zj<|zc<|zh<|zRd<|zc<|zh<|zh<|zlc 3 (rI .i64)<|za<|r_pv rfl rfl (zb rfl)<|r_pv rfl rfl (ze rfl)<|zj<|zc<|zr<|zua (X:=(List (Int×Bool))×(Option Addr)×Nat×(List Int)×Int) (fun x:(List (Int×Bool))×(Option Addr)×Nat×(List Int)×Int=>Ms.Marks x.1 (K++x.2.2.2.1)∧Ms.WInv (fun jj=>mget bm1 jj) nv K (v:Int) x.2.2.2.1 x.2.2.2.2) (fun x=>[(10,.int .i64 (x.2.2.2.2)),(9,.slice (x.2.1) (x.2.2.2.1.length) (x.2.2.1)),(4,.slice p (out.length) c),(17,.int .i64 ((v:Nat):Int)),(16,.int .i64 ((nv:Nat):Int)),(5,.map (some b3)),(3,.map (some b22)),(2,.slice none 0 0)]) (fun x=>[rowA 3 (rI .i64) (x.2.1) (x.2.2.1) (x.2.2.2.1),rowA 50 (rS (rI .i64)) p c out,mapA b3 (fun z:Int=> .int .i64 z) (fun z:Bool=> .bool z) (InK .i64) (x.1),mapA b22 (fun z:Int=> .int .i64 z) (fun z:Int=> .int .i64 z) (InK .i64) bm1,boxA b1 25 [.slice pv nv cv,.slice pf nf cf]]) (fun x=>[slF (rI3 .i64) pv cv V,slF (rI3 .i64) pf cf F]) (fun x:(List (Int×Bool))×(Option Addr)×Nat×(List Int)×Int=>nv - (K++x.2.2.2.1).length) (dm,none,0,([]:List Int),((v:Nat):Int)) (show Ms.Marks dm (K++([]:List Int))∧Ms.WInv (fun jj=>mget bm1 jj) nv K (v:Int) ([]:List Int) ((v:Nat):Int) from by exact ⟨by simpa using hM,Ms.WInv.start hL.rng hL.nodup (by omega)⟩) ((.c rfl (.e rfl (by first|rfl|(congr 1;omega)|simp_all) (.of rfl))):SubM _ _) (ho:=((.e (i:=0) rfl (by first|rfl|(congr 1;omega)|simp_all) (.of [0,0,0,0] rfl)):PickO _ _ _)) ((.of [0,1] rfl):SelR _ _ _) ?_
    rintro ⟨dm2,p2,c2,W,a⟩ hJ
    replace hJ:Ms.Marks dm2 (K++W)∧Ms.WInv (fun jj=>mget bm1 jj) nv K (v:Int) W a:=hJ
    try dsimp only
    obtain ⟨hM2,hW⟩:=hJ
    have hWl:=hW.len
    have hWl2:=hWl
    rw [List.length_append] at hWl
    have ha:=hW.at_
    refine zh<|zr<|zh<|zh<|za<|r_pv rfl rfl (zb rfl)<|r_pv rfl rfl (zb rfl)<|r_u rfl rfl (zFa (z:=false) (a0:=a) (v:= .bool ((mget dm2 a).getD false)) 2 rfl ky3 Try.underlying94 zr4 rfl rfl (zo.2 (by omega)) rfl)<|zj<|zc<|zGa rfl (fun hst=> ?_) (fun hst=> ?_)
    ·
     refine zaa<|zk<|zra rfl<|zk<|zk<|zt<|zc<|za<|r_pv rfl rfl (zb rfl)<|r_pv rfl rfl (zb rfl)<|zEa 0 rfl .z<|zKa rfl rfl (zbd 0 rfl Try.underlying37 inf50 rfl (by first|rfl|assumption|(simp;done)|omega)) (fun b6 _=> ?_)
     refine zEa 0 rfl .z<|zJa 2 rfl rfl rfl (zsa 0 rfl Try.underlying37 inf50 (by decide) rfl rfl (by first|rfl|assumption|(simp;done)|omega) rfl (by first|rfl|assumption|(simp;done)|omega) (by omega) (by omega)) (fun _=>(.s (.s .z))) ?_
     rintro ⟨p7,c8⟩ -
     dsimp only [List.append_eq,List.nil_append,List.cons_append]
     refine r_pv rfl rfl (ze rfl)<|zj<|zdf<|zA<|zc<|za<|r_pv rfl rfl (zC (z:=(((v+1):Nat):Int)) rfl rfl (w64 (by omega)))<|r_pv rfl rfl (zb rfl)<|zj<|zga ((v+1),dm2,K++W,p7,c8,(out++[W])) (show (v+1)≤nv∧Ms.Marks dm2 (K++W)∧Ms.LInv (fun jj=>mget bm1 jj) nv (v+1) (K++W) (out++[W]) from by exact ⟨by omega,hM2,hL.step (fun h=>hsk (h.imp id (fun hk=>by rw [hM.get];simpa using hk))) hW (hM2.yes hst)⟩) (by show nv - (v+1)<nv - v;omega) ((.e rfl (by simp) (.of rfl)):SubM _ _) (ho:=((.e (i:=2) rfl (by first|rfl|(congr 1;omega)|simp_all) (.of [2,2,2] rfl)):PickO _ _ _)) ((.of [2,3] rfl):SelR _ _ _)
    ·
     have hnx:=hB.rng hg (a:=a) (by omega)
     rw [hnv] at hnx
     refine zw<|zc<|zh<|za<|r_pv rfl rfl (zb rfl)<|r_pv rfl rfl (zb rfl)<|zJa 2 rfl rfl rfl (zya (a0:=a) (v:=true) ky3 Try.underlying94 rfl rfl rfl (zo.2 (by omega))) (fun _=>(.s (.s .z))) (fun _ _=> ?_)
     refine zj<|zc<|za<|r_pv rfl rfl (zb rfl)<|r_pv rfl rfl (zb rfl)<|zKa rfl rfl (zJ (enc:=fun z:Int=>[.int .i64 z]) (ok:=InK .i64) (h1:=fun _=>rfl) (h2:=fun _=>rfl) (k:=1) Try.underlying50 inf3 rfl (by decide) (by decide) (by decide) (.c (x:=a) rfl rfl (fun _ _=>by exact zo.2 (by omega)) .n)) (fun b9 _=> ?_)
     refine zEa 0 rfl .z<|zJa 1 rfl rfl rfl (zsa 0 rfl Try.underlying50 inf3 (by decide) rfl rfl (by first|rfl|assumption|(simp;done)|omega) rfl (by first|rfl|assumption|(simp;done)|omega) (by omega) (by omega)) (fun _=>(.s .z)) ?_
     rintro ⟨p10,c11⟩ -
     dsimp only [List.append_eq,List.nil_append,List.cons_append]
     refine r_pv rfl rfl (ze rfl)<|zj<|zA<|zc<|za<|r_pv rfl rfl (zb rfl)<|r_pv rfl rfl (zb rfl)<|r_u rfl rfl (zFa (z:=0) (a0:=a) (v:= .int .i64 ((mget bm1 a).getD 0)) 4 rfl ky3 Try.underlying76 zr3 rfl rfl (zo.2 (by omega)) rfl)<|r_pv rfl rfl (ze rfl)<|zj<|zga (mput dm2 a true,p10,c11,(W++[a]),((mget bm1 a).getD 0)) (show Ms.Marks (mput dm2 a true) (K++(W++[a]))∧Ms.WInv (fun jj=>mget bm1 jj) nv K (v:Int) (W++[a]) ((mget bm1 a).getD 0) from by exact ⟨by rw [← List.append_assoc];exact hM2.step (hM2.no hst),hW.step (hM2.no hst) hnx⟩) (by have:=(hW.step (hM2.no hst) hnx).len;simp only [List.length_append,List.length_cons,List.length_nil] at *;omega) ((.c rfl (.e rfl (by simp) (.of rfl))):SubM _ _) (ho:=((.e (i:=1) rfl (by first|rfl|(congr 1;omega)|simp_all) (.of [1,1,1,1] rfl)):PickO _ _ _)) ((.of [1,2] rfl):SelR _ _ _)
 ·
  refine zaa<|zk<|zk<|zt<|zc<|zh<|za<|r_pv rfl rfl (zb rfl)<|r_pv rfl rfl (ze rfl)<|zj<|zc<|zP ?_
  have hvn:v=nv:=by omega
  subst hvn
  have hfin:=hL.fin
  refine zkb 0 rfl .z ?_
  exact zG Try.results65 (p,c,bm1) hB (zz rfl) (by rw [hfin]) (ho:=(.n:PickO _ _ _)) ((.e (j:=0) rfl (by rw [hfin]) .n):SelR _ _ _)
end Go.Proofs.Ytalfgjpbbongcaa.Sp
namespace Go.Proofs.Ytalfgjpbbongcaa.Sp
open Go
set_option linter.unusedVariables false
set_option maxRecDepth 100000
set_option maxHeartbeats 1000000
theorem zqd {pv:Option Addr} {nv:Nat} {cv:Nat} {V:List (Int×Int×Int)} {pf:Option Addr} {nf:Nat} {cf:Nat} {F:List (Int×Int×Int)} (hnv:V.length=nv) (hnf:F.length=nf):Con Try.prog 23 [.agg #[.slice pv nv cv,.slice pf nf cf]] [] [slF (rI3 .i64) pv cv V,slF (rI3 .i64) pf cf F] (Y:=(Option Addr)×Nat×(List (Int×Int))) (fun y=>Ms.check V F=0→Ms.BMap F y.2.2) (fun y=> .tuple #[.slice (y.1) ((Ms.bordersR V F y.2.2).length) (y.2.1),.int .i64 (Ms.check V F)]) (fun y=>[]) (fun y=>[slF (rS (rI .i64)) (y.1) (y.2.1) (Ms.bordersR V F y.2.2)]):=by
 refine zB Try.func23 rfl rfl rfl (fun c=> ?_)
 show RunC _ _ _ _ _ [(0,.agg #[.slice pv nv cv,.slice pf nf cf])] [] [slF (rI3 .i64) pv cv V,slF (rI3 .i64) pf cf F]
 refine zoa 0 rfl (fun hL0=> ?_)
 refine zoa 1 rfl (fun hL1=> ?_)
 refine zh<|za<|zS rfl rfl (zca rfl rfl) (fun b1=> ?_)
 refine r_pv rfl rfl (ze rfl)<|r_pv rfl rfl (ze rfl)<|zj<|zc<|zh<|zh<|za<|r_u rfl rfl (zf 0 ty25 rfl rfl (.take (.take .nil)))<|zY rfl rfl (.c rfl .n) ce14 (zJb (pv:=pv) (nv:=nv) (cv:=cv) (V:=V) (pf:=pf) (nf:=nf) (cf:=cf) (F:=F) (hnv:=by assumption) (hnf:=by assumption)) (.c (j:=0) rfl (.c (j:=1) rfl .n))<|r_pv rfl rfl (ze rfl)<|zj<|zc<|zh<|za<|r_pv rfl rfl (zb rfl)<|r_pv rfl rfl (zZa rfl rfl)<|zj<|zc<|zI rfl (fun hcode=> ?_) (fun hcode=> ?_)
 ·
  refine zh<|za<|r_pv rfl rfl (zb rfl)<|r_pv rfl rfl (ze rfl)<|r_pv rfl rfl (ze rfl)<|zj<|zc<|zP<|zl ?_
  have hz:Ms.bordersR V F []=[]:=by unfold Ms.bordersR;rw [if_neg hcode]
  refine zvd (rS (rI .i64)) ?_
  exact zmb Try.results23 (none,0,[]) (fun h=>absurd h hcode) (zz rfl) (zz rfl) (by rw [hz];rfl) (ho:=(.n:PickO _ _ _)) ((.e (j:=0) rfl (by rw [hz]) .n):SelR _ _ _)
 ·
  have hc0:=Decidable.not_not.1 hcode
  have hf0:=Ms.check_form hc0
  have hg:=Ms.form_zero.1 hf0
  have hnv5:nv≤512:=by have:=hg.nv;omega
  have hnf5:nf≤1024:=by have:=hg.nf;omega
  refine zw<|zc<|zh<|za<|r_u rfl rfl (zf 0 ty25 rfl rfl (.take (.take .nil)))<|zea rfl rfl (.c rfl .n) ce65 (zwe (pv:=pv) (nv:=nv) (cv:=cv) (V:=V) (pf:=pf) (nf:=nf) (cf:=cf) (F:=F) (hnv:=by assumption) (hnf:=by assumption) (hg:=by first|rfl|assumption|omega|(simp;done)|(simp;omega)|(simp_all;done))) (.c (j:=0) rfl (.c (j:=1) rfl .n)) ?_
  rintro ⟨p22,c23,bm1⟩ hB
  dsimp only [List.append_eq,List.nil_append,List.cons_append]
  replace hB:Ms.BMap F bm1:=hB
  refine r_pv rfl rfl (ze rfl)<|r_pv rfl rfl (ze rfl)<|zj<|zc<|zP ?_
  have hz:Ms.bordersR V F bm1=Ms.loops (fun jj=>mget bm1 jj) nv:=by unfold Ms.bordersR;rw [if_pos hc0,hnv]
  exact zmb Try.results23 (p22,c23,bm1) (fun _=>hB) (zz rfl) (zz rfl) (by rw [hz,hc0]) (ho:=(.n:PickO _ _ _)) ((.e (j:=0) rfl (by rw [hz]) .n):SelR _ _ _)
theorem zhd {pv:Option Addr} {nv:Nat} {cv:Nat} {V:List (Int×Int×Int)} {pf:Option Addr} {nf:Nat} {cf:Nat} {F:List (Int×Int×Int)} (hnv:V.length=nv) (hnf:F.length=nf) (hg:Ms.Good V F):Con Try.prog 17 [.agg #[.slice pv nv cv,.slice pf nf cf]] [] [slF (rI3 .i64) pv cv V,slF (rI3 .i64) pf cf F] (Y:=(Option Addr)×Nat) (fun y=>True) (fun y=> .slice (y.1) ((Ms.loops (fun jj=>mget (Ms.nextM F) jj) nv).length) (y.2)) (fun y=>[]) (fun y=>[slF (rS (rI .i64)) (y.1) (y.2) (Ms.loops (fun jj=>mget (Ms.nextM F) jj) nv)]):=by
 refine zB Try.func17 rfl rfl rfl (fun c=> ?_)
 show RunC _ _ _ _ _ [(0,.agg #[.slice pv nv cv,.slice pf nf cf])] [] [slF (rI3 .i64) pv cv V,slF (rI3 .i64) pf cf F]
 refine zoa 0 rfl (fun hL0=> ?_)
 refine zoa 1 rfl (fun hL1=> ?_)
 have hnv5:nv≤512:=by have:=hg.nv;omega
 have hnf5:nf≤1024:=by have:=hg.nf;omega
 have hln:=Ms.all_len F
 have hB:=Ms.nextM_bmap F
 refine zh<|za<|zS rfl rfl (zca rfl rfl) (fun b1=> ?_)
 refine r_pv rfl rfl (ze rfl)<|zj<|zc<|zh<|za<|r_u rfl rfl (zf 0 ty25 rfl rfl (.take (.take .nil)))<|zea rfl rfl (.c rfl .n) ce50 (zve (pv:=pv) (nv:=nv) (cv:=cv) (V:=V) (pf:=pf) (nf:=nf) (cf:=cf) (F:=F) (hnv:=by assumption) (hnf:=by assumption) (hbf:=by first|rfl|assumption|omega|(simp;done)|(simp;omega)|(simp_all;done))) (.c (j:=0) rfl (.c (j:=1) rfl .n)) ?_
 rintro ⟨p22,c23⟩ -
 dsimp only [List.append_eq,List.nil_append,List.cons_append]
 refine r_pv rfl rfl (ze rfl)<|zj<|zc<|zh<|za<|zKa rfl rfl (zQa (κ:=Int) (ν:=Int) (fun z:Int=> .int .i64 z) (fun z:Int=> .int .i64 z) (InK .i64)) (fun b4 _=> ?_)
 refine r_pv rfl rfl (ze rfl)<|zj<|zc<|zh<|zh<|za<|r_pv rfl rfl (zb rfl)<|r_pv rfl rfl (zX Try.underlying80 rfl)<|r_pv rfl rfl (zb rfl)<|zj<|zc<|zr<|zua (X:=Nat) (fun x:Nat=>x≤(Ms.all F).length) (fun x=>[(19,.int .i64 ((x:Nat):Int)),(18,.int .i64 (((Ms.all F).length:Nat):Int)),(17,.slice p22 ((Ms.all F).length) c23),(4,.map (some b4)),(3,.slice p22 ((Ms.all F).length) c23),(2,.slice none 0 0),(1,.pointer (some ⟨b1,0,none⟩))]) (fun x=>[mapA b4 (fun z:Int=> .int .i64 z) (fun z:Int=> .int .i64 z) (InK .i64) (((Ms.all F).take x).foldl (Ms.nextS F) []),boxA b1 25 [.slice pv nv cv,.slice pf nf cf]]) (fun x=>[slF (rI2 .i64) p22 c23 (Ms.all F),slF (rI3 .i64) pv cv V,slF (rI3 .i64) pf cf F]) (fun x:Nat=>(Ms.all F).length - x) 0 (show 0≤(Ms.all F).length from by exact Nat.zero_le _) ((.e rfl (by first|rfl|(congr 1;omega)|simp_all) (.of rfl)):SubM _ _) (ho:=((.e (i:=0) rfl (by rfl) (.c (i:=0) rfl .n)):PickO _ _ _)) ((.of [0,1,2] rfl):SelR _ _ _) ?_
 rintro i hI
 replace hI:i≤(Ms.all F).length:=hI
 try dsimp only
 refine zh<|za<|r_pv rfl rfl (zD rfl rfl)<|zj<|zc<|zh<|zI rfl (fun h5=> ?_) (fun h5=> ?_)
 ·
  have har:=Ms.all_rng hg (Ms.getD_mem (l:=Ms.all F) (i:=i) (0,0) (by omega))
  refine zw<|zc<|zh<|zr<|zh<|za<|zW (x0:=((Ms.all F).getD i (0,0))) 0 i rfl Try.underlying80 sz72 rfl rfl rfl (by first|rfl|assumption|(simp;done)|omega) rfl rfl (gD (d:=(0,0)) (by omega)) (fun b6 o7 hok8=> ?_)
  obtain ⟨hok8x,hok8y⟩:=hok8
  replace hok8x:=zo.1 hok8x
  replace hok8y:=zo.1 hok8y
  refine r_u rfl rfl (zN (j:=0) 0 ty72 rfl rfl rfl (.take (.take .nil)))<|zS rfl rfl (zn zr72 rfl) (fun b9=> ?_)
  refine zx 0 rfl rfl rfl rfl rfl sz72 rfl (.take (.take .nil)) .z<|zj<|zc<|zh<|za<|r_pv rfl rfl (zb rfl)<|r_pv rfl rfl (zg (i:=1) Try.underlying72 sz3 rfl rfl (by decide) rfl)<|r_u rfl rfl (zd 0 ty3 rfl rfl rfl)<|r_pv rfl rfl (zg (i:=0) Try.underlying72 sz3 rfl rfl (by decide) rfl)<|r_u rfl rfl (zd 0 ty3 rfl rfl rfl)<|r_pv rfl rfl (zK zr72 rfl Try.underlying72 sz3 (.c rfl (.c rfl .n)) (.c rfl rfl rfl (.take .nil) (.c rfl rfl rfl (.skip (.take .nil)) .n)))<|zY rfl rfl (.c rfl (.c rfl .n)) ce51 (zgd (p:=p22) (n:=(Ms.all F).length) (cap:=c23) (l:=Ms.all F) (ex:=((Ms.all F).getD i (0,0)).2) (ey:=((Ms.all F).getD i (0,0)).1) (hn:=by first|rfl|assumption|omega|(simp;done)|(simp;omega)|(simp_all;done))) (.c (j:=1) rfl .n)<|r_pv rfl rfl (zxa rfl rfl)<|zj<|zc<|zI rfl (fun hcnt=> ?_) (fun hcnt=> ?_)
  ·
   refine za<|r_pv rfl rfl (zb rfl)<|r_pv rfl rfl (zg (i:=0) Try.underlying72 sz3 rfl rfl (by decide) rfl)<|r_u rfl rfl (zd 0 ty3 rfl rfl rfl)<|r_pv rfl rfl (zg (i:=1) Try.underlying72 sz3 rfl rfl (by decide) rfl)<|r_u rfl rfl (zd 0 ty3 rfl rfl rfl)<|zJa 1 rfl rfl rfl (zya (a0:=((Ms.all F).getD i (0,0)).1) (v:=((Ms.all F).getD i (0,0)).2) ky3 Try.underlying76 rfl rfl rfl (zo.2 (by omega))) (fun _=>(.s .z)) (fun _ _=> ?_)
   refine zj<|zA<|zc<|za<|r_pv rfl rfl (zC (z:=(((i+1):Nat):Int)) rfl rfl (w64 (by omega)))<|r_pv rfl rfl (zb rfl)<|zj<|zga (i+1) (show (i+1)≤(Ms.all F).length from by exact (by omega:i+1≤(Ms.all F).length)) (by show (Ms.all F).length - (i+1)<(Ms.all F).length - i;omega) ((.of rfl):SubM _ _) (ho:=((.e (i:=1) rfl (by rw [Ms.nextM_take (by omega)];unfold Ms.nextS;rw [if_pos (by omega)]) (.c (i:=1) rfl .n)):PickO _ _ _)) ((.of [1,2,3] rfl):SelR _ _ _)
  ·
   refine zw<|zA<|zc<|za<|r_pv rfl rfl (zC (z:=(((i+1):Nat):Int)) rfl rfl (w64 (by omega)))<|r_pv rfl rfl (zb rfl)<|zj<|zga (i+1) (show (i+1)≤(Ms.all F).length from by exact (by omega:i+1≤(Ms.all F).length)) (by show (Ms.all F).length - (i+1)<(Ms.all F).length - i;omega) ((.of rfl):SubM _ _) (ho:=((.e (i:=1) rfl (by rw [Ms.nextM_take (by omega)];unfold Ms.nextS;rw [if_neg (by omega)]) (.c (i:=1) rfl .n)):PickO _ _ _)) ((.of [1,2,3] rfl):SelR _ _ _)
 ·
  refine zaa<|zk<|zk<|zt<|zc<|zh<|za<|zKa rfl rfl (zCa (rS (rI .i64)) Try.underlying37 inf50) (fun b10 _=> ?_)
  refine r_pv rfl rfl (ze rfl)<|zj<|zc<|zh<|za<|zKa rfl rfl (zQa (κ:=Int) (ν:=Bool) (fun z:Int=> .int .i64 z) (fun z:Bool=> .bool z) (InK .i64)) (fun b11 _=> ?_)
  refine r_pv rfl rfl (ze rfl)<|zj<|zc<|zh<|zh ?_
  have e12:((Ms.all F).take i).foldl (Ms.nextS F) []=Ms.nextM F:=by rw [List.take_of_length_le (by omega)];rfl
  rw [e12]
  refine za<|r_pv rfl rfl (zm Try.underlying25 rfl sz22 rfl rfl)<|r_u rfl rfl (zd 3 ty22 rfl rfl rfl)<|r_pv rfl rfl (zX Try.underlying22 rfl)<|r_pv rfl rfl (zb rfl)<|zj<|zc<|zr<|zua (X:=Nat×(List (Int×Bool))×(List Int)×(Option Addr)×Nat×(List (List Int))) (fun x:Nat×(List (Int×Bool))×(List Int)×(Option Addr)×Nat×(List (List Int))=>x.1≤nv∧Ms.Marks x.2.1 x.2.2.1∧Ms.LInv (fun jj=>mget (Ms.nextM F) jj) nv x.1 x.2.2.1 x.2.2.2.2.2) (fun x=>[(7,.slice (x.2.2.2.1) (x.2.2.2.2.2.length) (x.2.2.2.2.1)),(42,.int .i64 ((x.1:Nat):Int)),(41,.int .i64 ((nv:Nat):Int)),(8,.map (some b11)),(4,.map (some b4)),(2,.slice none 0 0)]) (fun x=>[mapA b11 (fun z:Int=> .int .i64 z) (fun z:Bool=> .bool z) (InK .i64) (x.2.1),rowA 50 (rS (rI .i64)) (x.2.2.2.1) (x.2.2.2.2.1) (x.2.2.2.2.2),mapA b4 (fun z:Int=> .int .i64 z) (fun z:Int=> .int .i64 z) (InK .i64) (Ms.nextM F),boxA b1 25 [.slice pv nv cv,.slice pf nf cf]]) (fun x=>[slF (rI2 .i64) p22 c23 (Ms.all F),slF (rI3 .i64) pv cv V,slF (rI3 .i64) pf cf F]) (fun x:Nat×(List (Int×Bool))×(List Int)×(Option Addr)×Nat×(List (List Int))=>nv - x.1) (0,([]:List (Int×Bool)),([]:List Int),some ⟨b10,0,none⟩,0,([]:List (List Int))) (show 0≤nv∧Ms.Marks ([]:List (Int×Bool)) ([]:List Int)∧Ms.LInv (fun jj=>mget (Ms.nextM F) jj) nv 0 ([]:List Int) ([]:List (List Int)) from by exact ⟨Nat.zero_le _,Ms.Marks.nil,Ms.LInv.start _ _⟩) ((.e rfl (by first|rfl|(congr 1;omega)|simp_all) (.e rfl (by first|rfl|(congr 1;omega)|simp_all) (.of rfl))):SubM _ _) (ho:=((.e (i:=0) rfl (by first|rfl|(congr 1;omega)|simp_all) (.e (i:=0) rfl (by first|rfl|(congr 1;omega)|simp_all) (.of [0,0] rfl))):PickO _ _ _)) ((.of [0,1,2] rfl):SelR _ _ _) ?_
  rintro ⟨v,dm,K,p,c,out⟩ hI
  replace hI:v≤nv∧Ms.Marks dm K∧Ms.LInv (fun jj=>mget (Ms.nextM F) jj) nv v K out:=hI
  try dsimp only
  obtain ⟨hv,hM,hL⟩:=hI
  have hol:=hL.len
  refine zh<|za<|r_pv rfl rfl (zD rfl rfl)<|zj<|zc<|zh<|zI rfl (fun h13=> ?_) (fun h13=> ?_)
  ·
   refine zw<|zc<|zh<|zr<|zh<|za<|r_pv rfl rfl (zb rfl)<|r_pv rfl rfl (ze rfl)<|zj<|zc<|zh<|zh<|za<|r_pv rfl rfl (zb rfl)<|r_pv rfl rfl (zb rfl)<|r_u rfl rfl (zqb (z:=0) (a0:=((v:Nat):Int)) (v:= .int .i64 ((mget (Ms.nextM F) ((v:Nat):Int)).getD 0)) 2 rfl ky3 Try.underlying76 zr3 rfl rfl (zo.2 (by omega)) rfl)<|r_pv rfl rfl (zb rfl)<|r_pv rfl rfl (zja rfl rfl)<|r_pv rfl rfl (zja rfl rfl)<|r_pv rfl rfl (ze rfl)<|r_pv rfl rfl (ze rfl)<|zj<|zc<|zLa (X:=Unit) (fun x=>True) (fun x=>[(57,.bool (decide (((!((mget (Ms.nextM F) ((v:Nat):Int)).isSome))=true)∨(((mget dm ((v:Nat):Int)).getD false)=true)))),(9,.int .i64 ((v:Nat):Int)),(7,.slice p (out.length) c),(42,.int .i64 ((v:Nat):Int)),(41,.int .i64 ((nv:Nat):Int)),(8,.map (some b11)),(4,.map (some b4)),(2,.slice none 0 0)]) (fun x=>[mapA b11 (fun z:Int=> .int .i64 z) (fun z:Bool=> .bool z) (InK .i64) dm,rowA 50 (rS (rI .i64)) p c out,mapA b4 (fun z:Int=> .int .i64 z) (fun z:Int=> .int .i64 z) (InK .i64) (Ms.nextM F),boxA b1 25 [.slice pv nv cv,.slice pf nf cf]]) (fun x=>[slF (rI2 .i64) p22 c23 (Ms.all F),slF (rI3 .i64) pv cv V,slF (rI3 .i64) pf cf F]) ?_ ?_
   ·
    refine za<|r_pv rfl rfl (zb rfl)<|r_pv rfl rfl (zob rfl)<|zWb rfl rfl (zb rfl) (fun h14=> ?_) (fun h14=> ?_)
    ·
     refine zi rfl rfl<|zi rfl rfl<|zi rfl rfl<|r_pv rfl rfl (zy rfl rfl)<|zj ?_
     exact zfa () (show True from by first|trivial|omega|simp_all) ((.e rfl (congrArg Value.bool (by first|(simp_all;done)|(simp_all;omega)|(simp;omega)|omega)) (.of rfl)):SubM _ _) (ho:=((.of [0,0,0,0] rfl):PickO _ _ _)) ((.of [0,1,2] rfl):SelR _ _ _)
    ·
     refine r_pv rfl rfl (zb rfl)<|r_pv rfl rfl (zb rfl)<|r_u rfl rfl (zFa (z:=false) (a0:=((v:Nat):Int)) (v:= .bool ((mget dm ((v:Nat):Int)).getD false)) 0 rfl ky3 Try.underlying94 zr4 rfl rfl (zo.2 (by omega)) rfl)<|r_pv rfl rfl (zy rfl rfl)<|zj ?_
     exact zfa () (show True from by first|trivial|omega|simp_all) ((.e rfl (congrArg Value.bool (by first|(simp_all;done)|(simp_all;omega)|(simp;omega)|omega)) (.of rfl)):SubM _ _) (ho:=((.of [0,0,0,0] rfl):PickO _ _ _)) ((.of [0,1,2] rfl):SelR _ _ _)
   ·
    rintro ⟨⟩ -
    try dsimp only
    refine zI rfl (fun hsk=> ?_) (fun hsk=> ?_)
    ·
     refine zaa<|zk<|zt<|zc<|za<|r_pv rfl rfl (zC (z:=(((v+1):Nat):Int)) rfl rfl (w64 (by omega)))<|r_pv rfl rfl (zb rfl)<|zj<|zga ((v+1),dm,K,p,c,out) (show (v+1)≤nv∧Ms.Marks dm K∧Ms.LInv (fun jj=>mget (Ms.nextM F) jj) nv (v+1) K out from by exact ⟨by omega,hM,hL.skip (hsk.imp id hM.yes)⟩) (by show nv - (v+1)<nv - v;omega) ((.of rfl):SubM _ _) (ho:=((.of [0,0,0,0] rfl):PickO _ _ _)) ((.of [0,1,2] rfl):SelR _ _ _)
    ·
     refine zw<|zc<|zh<|za<|zKa rfl rfl (zCa (rI .i64) Try.underlying50 inf3) (fun b15 _=> ?_)
     refine r_pv rfl rfl (ze rfl)<|zj<|zc<|zh<|zh<|za<|r_pv rfl rfl (zb rfl)<|r_pv rfl rfl (ze rfl)<|zj<|zc<|zr<|zua (X:=(List (Int×Bool))×(Option Addr)×Nat×(List Int)×Int) (fun x:(List (Int×Bool))×(Option Addr)×Nat×(List Int)×Int=>Ms.Marks x.1 (K++x.2.2.2.1)∧Ms.WInv (fun jj=>mget (Ms.nextM F) jj) nv K (v:Int) x.2.2.2.1 x.2.2.2.2) (fun x=>[(13,.int .i64 (x.2.2.2.2)),(12,.slice (x.2.1) (x.2.2.2.1.length) (x.2.2.1)),(7,.slice p (out.length) c),(42,.int .i64 ((v:Nat):Int)),(41,.int .i64 ((nv:Nat):Int)),(8,.map (some b11)),(4,.map (some b4)),(2,.slice none 0 0)]) (fun x=>[rowA 3 (rI .i64) (x.2.1) (x.2.2.1) (x.2.2.2.1),mapA b11 (fun z:Int=> .int .i64 z) (fun z:Bool=> .bool z) (InK .i64) (x.1),rowA 50 (rS (rI .i64)) p c out,mapA b4 (fun z:Int=> .int .i64 z) (fun z:Int=> .int .i64 z) (InK .i64) (Ms.nextM F),boxA b1 25 [.slice pv nv cv,.slice pf nf cf]]) (fun x=>[slF (rI2 .i64) p22 c23 (Ms.all F),slF (rI3 .i64) pv cv V,slF (rI3 .i64) pf cf F]) (fun x:(List (Int×Bool))×(Option Addr)×Nat×(List Int)×Int=>nv - (K++x.2.2.2.1).length) (dm,some ⟨b15,0,none⟩,0,([]:List Int),((v:Nat):Int)) (show Ms.Marks dm (K++([]:List Int))∧Ms.WInv (fun jj=>mget (Ms.nextM F) jj) nv K (v:Int) ([]:List Int) ((v:Nat):Int) from by exact ⟨by simpa using hM,Ms.WInv.start hL.rng hL.nodup (by omega)⟩) ((.c rfl (.e rfl (by first|rfl|(congr 1;omega)|simp_all) (.of rfl))):SubM _ _) (ho:=((.e (i:=0) rfl (by first|rfl|(congr 1;omega)|simp_all) (.of [0,0,0,0] rfl)):PickO _ _ _)) ((.of [0,1,2] rfl):SelR _ _ _) ?_
     rintro ⟨dm2,p2,c2,W,a⟩ hJ
     replace hJ:Ms.Marks dm2 (K++W)∧Ms.WInv (fun jj=>mget (Ms.nextM F) jj) nv K (v:Int) W a:=hJ
     try dsimp only
     obtain ⟨hM2,hW⟩:=hJ
     have hWl:=hW.len
     have hWl2:=hWl
     rw [List.length_append] at hWl
     have ha:=hW.at_
     refine zh<|zh<|za<|r_pv rfl rfl (zb rfl)<|r_pv rfl rfl (zb rfl)<|r_u rfl rfl (zFa (z:=false) (a0:=a) (v:= .bool ((mget dm2 a).getD false)) 1 rfl ky3 Try.underlying94 zr4 rfl rfl (zo.2 (by omega)) rfl)<|r_pv rfl rfl (zob rfl)<|zj<|zc<|zGa rfl (fun hst=> ?_) (fun hst=> ?_)
     ·
      have hst2:(mget dm2 a).getD false=false:=by simpa using hst
      have hnx:=hB.rng hg (a:=a) (by omega)
      rw [hnv] at hnx
      refine zw<|zc<|zh<|zr<|zh<|za<|r_pv rfl rfl (zb rfl)<|r_pv rfl rfl (zb rfl)<|zJa 1 rfl rfl rfl (zya (a0:=a) (v:=true) ky3 Try.underlying94 rfl rfl rfl (zo.2 (by omega))) (fun _=>(.s .z)) (fun _ _=> ?_)
      refine zj<|zc<|za<|r_pv rfl rfl (zb rfl)<|r_pv rfl rfl (zb rfl)<|zKa rfl rfl (zJ (enc:=fun z:Int=>[.int .i64 z]) (ok:=InK .i64) (h1:=fun _=>rfl) (h2:=fun _=>rfl) (k:=1) Try.underlying50 inf3 rfl (by decide) (by decide) (by decide) (.c (x:=a) rfl rfl (fun _ _=>by exact zo.2 (by omega)) .n)) (fun b16 _=> ?_)
      refine zEa 0 rfl .z<|zJa 1 rfl rfl rfl (zsa 0 rfl Try.underlying50 inf3 (by decide) rfl rfl (by first|rfl|assumption|(simp;done)|omega) rfl (by first|rfl|assumption|(simp;done)|omega) (by omega) (by omega)) (fun _=>(.s .z)) ?_
      rintro ⟨p17,c18⟩ -
      dsimp only [List.append_eq,List.nil_append,List.cons_append]
      refine r_pv rfl rfl (ze rfl)<|zj<|zA<|zc<|za<|r_pv rfl rfl (zb rfl)<|r_pv rfl rfl (zb rfl)<|r_u rfl rfl (zFa (z:=0) (a0:=a) (v:= .int .i64 ((mget (Ms.nextM F) a).getD 0)) 4 rfl ky3 Try.underlying76 zr3 rfl rfl (zo.2 (by omega)) rfl)<|r_pv rfl rfl (ze rfl)<|zj<|zga (mput dm2 a true,p17,c18,(W++[a]),((mget (Ms.nextM F) a).getD 0)) (show Ms.Marks (mput dm2 a true) (K++(W++[a]))∧Ms.WInv (fun jj=>mget (Ms.nextM F) jj) nv K (v:Int) (W++[a]) ((mget (Ms.nextM F) a).getD 0) from by exact ⟨by rw [← List.append_assoc];exact hM2.step (hM2.no hst2),hW.step (hM2.no hst2) hnx⟩) (by have:=(hW.step (hM2.no hst2) hnx).len;simp only [List.length_append,List.length_cons,List.length_nil] at *;omega) ((.c rfl (.e rfl (by simp) (.of rfl))):SubM _ _) (ho:=((.e (i:=1) rfl (by first|rfl|(congr 1;omega)|simp_all) (.of [1,1,1,1] rfl)):PickO _ _ _)) ((.of [1,2,3] rfl):SelR _ _ _)
     ·
      have hst3:(mget dm2 a).getD false=true:=by simpa using hst
      refine zaa<|zk<|zk<|zt<|zc<|za<|r_pv rfl rfl (zb rfl)<|r_pv rfl rfl (zb rfl)<|zEa 0 rfl .z<|zKa rfl rfl (zbd 0 rfl Try.underlying37 inf50 rfl (by first|rfl|assumption|(simp;done)|omega)) (fun b19 _=> ?_)
      refine zEa 0 rfl .z<|zJa 3 rfl rfl rfl (zsa 0 rfl Try.underlying37 inf50 (by decide) rfl rfl (by first|rfl|assumption|(simp;done)|omega) rfl (by first|rfl|assumption|(simp;done)|omega) (by omega) (by omega)) (fun _=>(.s (.s (.s .z)))) ?_
      rintro ⟨p20,c21⟩ -
      dsimp only [List.append_eq,List.nil_append,List.cons_append]
      refine r_pv rfl rfl (ze rfl)<|zj<|zA<|zc<|za<|r_pv rfl rfl (zC (z:=(((v+1):Nat):Int)) rfl rfl (w64 (by omega)))<|r_pv rfl rfl (zb rfl)<|zj<|zga ((v+1),dm2,K++W,p20,c21,(out++[W])) (show (v+1)≤nv∧Ms.Marks dm2 (K++W)∧Ms.LInv (fun jj=>mget (Ms.nextM F) jj) nv (v+1) (K++W) (out++[W]) from by exact ⟨by omega,hM2,hL.step (fun h=>hsk (h.imp id (fun hk=>by rw [hM.get];simpa using hk))) hW (hM2.yes hst3)⟩) (by show nv - (v+1)<nv - v;omega) ((.e rfl (by simp) (.of rfl)):SubM _ _) (ho:=((.c (i:=2) rfl (.e (i:=2) rfl (by first|rfl|(congr 1;omega)|simp_all) (.of [2,2] rfl))):PickO _ _ _)) ((.of [2,3,4] rfl):SelR _ _ _)
  ·
   refine zaa<|zk<|zk<|zt<|zc<|zh<|za<|r_pv rfl rfl (zb rfl)<|r_pv rfl rfl (ze rfl)<|zj<|zc<|zP ?_
   have hvn:v=nv:=by omega
   subst hvn
   have hfin:=hL.fin
   refine zkb 1 rfl (.s .z) ?_
   exact zG Try.results17 (p,c) trivial (zz rfl) (by rw [hfin]) (ho:=(.n:PickO _ _ _)) ((.e (j:=0) rfl (by rw [hfin]) .n):SelR _ _ _)
end Go.Proofs.Ytalfgjpbbongcaa.Sp
namespace Go.Proofs.Ytalfgjpbbongcaa.Sp
open Go
set_option linter.unusedVariables false
set_option maxRecDepth 100000
set_option maxHeartbeats 1000000
theorem zxe {pv:Option Addr} {nv:Nat} {cv:Nat} {V:List (Int×Int×Int)} {pf:Option Addr} {nf:Nat} {cf:Nat} {F:List (Int×Int×Int)} (hnv:V.length=nv) (hnf:F.length=nf) (hg:Ms.Good V F):Con Try.prog 66 [.agg #[.slice pv nv cv,.slice pf nf cf]] [] [slF (rI3 .i64) pv cv V,slF (rI3 .i64) pf cf F] (Y:=Nat×(List ((Int×Int)×Tri))) (fun y=>Raw y.2 (Ms.sides F)) (fun y=> .map (some y.1)) (fun y=>[mapA y.1 (fun z:Int×Int=> .agg #[.int .i64 z.1,.int .i64 z.2]) (fun z:Option Addr×Nat×Nat=> .slice z.1 z.2.1 z.2.2) (fun z=>InK .i64 z.1∧InK .i64 z.2) (y.2)]) (fun y=>[rawF (rI .i64) (y.2) (Ms.sides F)]):=by
 refine zB Try.func66 rfl rfl rfl (fun c=> ?_)
 show RunC _ _ _ _ _ [(0,.agg #[.slice pv nv cv,.slice pf nf cf])] [] [slF (rI3 .i64) pv cv V,slF (rI3 .i64) pf cf F]
 refine zoa 0 rfl (fun hL0=> ?_)
 refine zoa 1 rfl (fun hL1=> ?_)
 have hnv5:nv≤512:=by have:=hg.nv;omega
 have hnf5:nf≤1024:=by have:=hg.nf;omega
 refine zh<|za<|zS rfl rfl (zca rfl rfl) (fun b1=> ?_)
 refine r_pv rfl rfl (ze rfl)<|zj<|zc<|zh<|za<|zKa rfl rfl (zQa (κ:=Int×Int) (ν:=Option Addr×Nat×Nat) (fun z:Int×Int=> .agg #[.int .i64 z.1,.int .i64 z.2]) (fun z:Option Addr×Nat×Nat=> .slice z.1 z.2.1 z.2.2) (fun z=>InK .i64 z.1∧InK .i64 z.2)) (fun b2 _=> ?_)
 refine r_pv rfl rfl (ze rfl)<|zj<|zc<|zh<|zh<|zuc (fun w mm=>mm.mrNew 3 (rI .i64))<|za<|r_pv rfl rfl (zm Try.underlying25 rfl sz23 rfl rfl)<|r_u rfl rfl (zd 1 ty23 rfl rfl rfl)<|r_pv rfl rfl (zX Try.underlying23 rfl)<|r_pv rfl rfl (zb rfl)<|zj<|zc<|zr<|zua (X:=Nat) (fun x:Nat=>x≤nf) (fun x=>[(12,.int .i64 ((x:Nat):Int)),(11,.int .i64 ((nf:Nat):Int)),(10,.slice pf nf cf),(3,.map (some b2)),(2,.map none)]) (fun x=>[mrA b2 (fun z:Int×Int=> .agg #[.int .i64 z.1,.int .i64 z.2]) (fun z=>InK .i64 z.1∧InK .i64 z.2) 3 (rI .i64) (Ms.sides (F.take x)),boxA b1 25 [.slice pv nv cv,.slice pf nf cf]]) (fun x=>[slF (rI3 .i64) pv cv V,slF (rI3 .i64) pf cf F]) (fun x:Nat=>nf - x) 0 (show 0≤nf from by exact Nat.zero_le _) ((.e rfl (by first|rfl|(congr 1;omega)|simp_all) (.of rfl)):SubM _ _) (ho:=((.e (i:=0) rfl (by rfl) (.c (i:=0) rfl .n)):PickO _ _ _)) ((.of [0,1] rfl):SelR _ _ _) ?_
 rintro i hI
 replace hI:i≤nf:=hI
 try dsimp only
 refine zh<|za<|r_pv rfl rfl (zD rfl rfl)<|zj<|zc<|zh<|zI rfl (fun h3=> ?_) (fun h3=> ?_)
 ·
  have hat:=hg.at (show i<F.length by omega)
  have hsl0:=Ms.sides_len (F.take i)
  rw [List.length_take] at hsl0
  refine zw<|zc<|zh<|zr<|zh<|za<|r_pv rfl rfl (zb rfl)<|zW (x0:=(F.getD i (0,0,0))) 1 i rfl Try.underlying23 sz44 rfl rfl rfl (by first|rfl|assumption|(simp;done)|omega) rfl rfl (gD (d:=(0,0,0)) (by omega)) (fun b4 o5 hok6=> ?_)
  obtain ⟨hok6x,hok6y,hok6z⟩:=hok6
  replace hok6x:=zo.1 hok6x
  replace hok6y:=zo.1 hok6y
  replace hok6z:=zo.1 hok6z
  refine r_u rfl rfl (zN (j:=0) 0 ty44 rfl rfl rfl (.take (.take (.take .nil))))<|zS rfl rfl (zn zr44 rfl) (fun b7=> ?_)
  refine r_pv rfl rfl (ze rfl)<|zx 0 rfl rfl rfl rfl rfl sz44 rfl (.take (.take (.take .nil))) .z<|zj<|zc<|zh<|za<|r_u rfl rfl (zf 0 ty44 rfl rfl (.take (.take (.take .nil))))<|zY rfl rfl (.c rfl .n) ce47 (zDc (ex:=(F.getD i (0,0,0)).1) (ey:=(F.getD i (0,0,0)).2.1) (ez:=(F.getD i (0,0,0)).2.2)) (.n)<|r_pv rfl rfl (zb rfl)<|zj<|zc<|zr<|zSa<|zQ<|zh<|za<|r_pv rfl rfl (zD rfl rfl)<|zj<|zc<|zh<|zT rfl rfl<|zw<|zc<|zh<|zr<|zh<|za<|r_pv rfl rfl (zza (i:=0) Try.underlying74 ty73 rfl rfl (by decide) (.take (.take .nil)))<|zS rfl rfl (zn zr73 rfl) (fun b8=> ?_)
  refine zx 0 rfl rfl rfl rfl rfl sz73 rfl (.take (.take .nil)) .z<|zj<|zc<|zwd (fun w mm=>mm.mrOpen 2 ((min ((F.getD i (0,0,0)).1) ((F.getD i (0,0,0)).2.1)),(max ((F.getD i (0,0,0)).1) ((F.getD i (0,0,0)).2.1))) rfl) ?_
  rintro ⟨raw0,pz0,cz0⟩ ⟨hraw0,hgt0⟩
  dsimp only [List.eraseIdx] at hgt0 ⊢
  obtain ⟨lz0,hlz0⟩:∃z,z=(mget (Ms.sides (F.take i)) ((min ((F.getD i (0,0,0)).1) ((F.getD i (0,0,0)).2.1)),(max ((F.getD i (0,0,0)).1) ((F.getD i (0,0,0)).2.1)))).getD []:=⟨_,rfl⟩
  rw [← hlz0] at hgt0 ⊢
  have hlb0:lz0.length≤4000:=by have h9:=hsl0 ((min ((F.getD i (0,0,0)).1) ((F.getD i (0,0,0)).2.1)),(max ((F.getD i (0,0,0)).1) ((F.getD i (0,0,0)).2.1)));rw [← hlz0] at h9;omega
  refine zgb (.c (i:=1) rfl (.c (i:=0) rfl (.c (i:=0) rfl (.c (i:=0) rfl (.c (i:=0) rfl (.c (i:=0) rfl .n))))))<|zla (OW:=[rowA 3 (rI .i64) pz0 cz0 lz0,mapA b2 (fun z:Int×Int=> .agg #[.int .i64 z.1,.int .i64 z.2]) (fun z:Option Addr×Nat×Nat=> .slice z.1 z.2.1 z.2.2) (fun z=>InK .i64 z.1∧InK .i64 z.2) raw0]) (O:=[allA (mrest 3 (rI .i64) ((min ((F.getD i (0,0,0)).1) ((F.getD i (0,0,0)).2.1)),(max ((F.getD i (0,0,0)).1) ((F.getD i (0,0,0)).2.1))) raw0 (Ms.sides (F.take i))),boxA b8 73 [.int .i64 ((F.getD i (0,0,0)).1),.int .i64 ((F.getD i (0,0,0)).2.1)],boxA b7 44 [.int .i64 ((F.getD i (0,0,0)).1),.int .i64 ((F.getD i (0,0,0)).2.1),.int .i64 ((F.getD i (0,0,0)).2.2)],boxA b1 25 [.slice pv nv cv,.slice pf nf cf]]) 9 mixed (.block (.then (.then (.block (.block (.then (.then (.block (.then .ret))))))))) (by kernel_rfl)<|d_pv 0 rfl rfl (by kernel_rfl) (by kernel_rfl) rfl rfl (zb rfl)<|d_uw 1 rfl rfl (by kernel_rfl) (by kernel_rfl) (by kernel_rfl) rfl rfl (zf 3 ty73 rfl rfl (.take (.take .nil)))<|d_pv 3 rfl rfl (by kernel_rfl) (by kernel_rfl) rfl rfl (zb rfl)<|d_uw 4 rfl rfl (by kernel_rfl) (by kernel_rfl) (by kernel_rfl) rfl rfl (zf 3 ty73 rfl rfl (.take (.take .nil)))<|d_pv 7 rfl rfl (by kernel_rfl) (by kernel_rfl) rfl rfl (zb rfl)<|zPb (m':=[(29,.int .i64 ((i:Nat):Int)),(26,.agg #[.int .i64 ((F.getD i (0,0,0)).1),.int .i64 ((F.getD i (0,0,0)).2.1)]),(25,.map (some b2)),(23,.agg #[.int .i64 ((F.getD i (0,0,0)).1),.int .i64 ((F.getD i (0,0,0)).2.1)]),(22,.map (some b2)),(7,.pointer (some ⟨b8,0,none⟩)),(21,.agg #[.int .i64 ((F.getD i (0,0,0)).1),.int .i64 ((F.getD i (0,0,0)).2.1)]),(20,.bool true),(19,.int .i64 0),(18,.agg #[.int .i64 ((F.getD i (0,0,0)).1),.int .i64 ((F.getD i (0,0,0)).2.1),.int .i64 ((F.getD i (0,0,0)).2.1),.int .i64 ((F.getD i (0,0,0)).2.2),.int .i64 ((F.getD i (0,0,0)).2.2),.int .i64 ((F.getD i (0,0,0)).1)]),(4,.int .i64 ((i:Nat):Int)),(12,.int .i64 ((i:Nat):Int)),(11,.int .i64 ((nf:Nat):Int)),(10,.slice pf nf cf),(3,.map (some b2)),(2,.map none)]) (R':=[slF (rI3 .i64) pv cv V,slF (rI3 .i64) pf cf F]) ((.of rfl):SubM _ _) (List.Perm.refl _) (List.Perm.refl _) ((.of [1,2] rfl):SelR _ _ _)<|zL (X:=Nat×Option Addr×Nat) (k':=0) (L':=(lb 11 2047)) (fun (u8_1,u9_1,u9_2)=>([(31,.slice u9_1 (lz0.length+1) u9_2),(30,.slice (some ⟨u8_1,0,none⟩) 1 1),(28,.slice pz0 (lz0.length) cz0),(27,.agg #[.int .i64 (min ((F.getD i (0,0,0)).1) ((F.getD i (0,0,0)).2.1)),.int .i64 (max ((F.getD i (0,0,0)).1) ((F.getD i (0,0,0)).2.1))]),(24,.agg #[.int .i64 (min ((F.getD i (0,0,0)).1) ((F.getD i (0,0,0)).2.1)),.int .i64 (max ((F.getD i (0,0,0)).1) ((F.getD i (0,0,0)).2.1))]),(29,.int .i64 ((i:Nat):Int)),(26,.agg #[.int .i64 ((F.getD i (0,0,0)).1),.int .i64 ((F.getD i (0,0,0)).2.1)]),(25,.map (some b2)),(23,.agg #[.int .i64 ((F.getD i (0,0,0)).1),.int .i64 ((F.getD i (0,0,0)).2.1)]),(22,.map (some b2)),(7,.pointer (some ⟨b8,0,none⟩)),(21,.agg #[.int .i64 ((F.getD i (0,0,0)).1),.int .i64 ((F.getD i (0,0,0)).2.1)]),(20,.bool true),(19,.int .i64 0),(18,.agg #[.int .i64 ((F.getD i (0,0,0)).1),.int .i64 ((F.getD i (0,0,0)).2.1),.int .i64 ((F.getD i (0,0,0)).2.1),.int .i64 ((F.getD i (0,0,0)).2.2),.int .i64 ((F.getD i (0,0,0)).2.2),.int .i64 ((F.getD i (0,0,0)).1)]),(4,.int .i64 ((i:Nat):Int)),(12,.int .i64 ((i:Nat):Int)),(11,.int .i64 ((nf:Nat):Int)),(10,.slice pf nf cf),(3,.map (some b2)),(2,.map none)],[mapA b2 (fun z:Int×Int=> .agg #[.int .i64 z.1,.int .i64 z.2]) (fun z:Option Addr×Nat×Nat=> .slice z.1 z.2.1 z.2.2) (fun z=>InK .i64 z.1∧InK .i64 z.2) (mput raw0 ((min ((F.getD i (0,0,0)).1) ((F.getD i (0,0,0)).2.1)),(max ((F.getD i (0,0,0)).1) ((F.getD i (0,0,0)).2.1))) (u9_1,lz0.length+1,u9_2)),rowA 3 (rI .i64) u9_1 u9_2 (lz0++([((i:Nat):Int)]))],[emA,allA (mrest 3 (rI .i64) ((min ((F.getD i (0,0,0)).1) ((F.getD i (0,0,0)).2.1)),(max ((F.getD i (0,0,0)).1) ((F.getD i (0,0,0)).2.1))) raw0 (Ms.sides (F.take i))),boxA b8 73 [.int .i64 ((F.getD i (0,0,0)).1),.int .i64 ((F.getD i (0,0,0)).2.1)],boxA b7 44 [.int .i64 ((F.getD i (0,0,0)).1),.int .i64 ((F.getD i (0,0,0)).2.1),.int .i64 ((F.getD i (0,0,0)).2.2)],boxA b1 25 [.slice pv nv cv,.slice pf nf cf]],[slF (rI .i64) (some ⟨u8_1,0,none⟩) 1 ([((i:Nat):Int)]),slF (rI3 .i64) pv cv V,slF (rI3 .i64) pf cf F])) ?_ (fun hD0=> ?_)
  ·
   rintro ⟨u8_1,u9_1,u9_2⟩
   dsimp only
   refine zma (by kernel_rfl)<|zA<|zc<|zuc (fun w mm=>(mm.perm (zR 0 rfl (zR 0 rfl (zR 1 rfl (List.Perm.refl _))))).mrClose (xs:=(lz0++([((i:Nat):Int)]))) ((min ((F.getD i (0,0,0)).1) ((F.getD i (0,0,0)).2.1)),(max ((F.getD i (0,0,0)).1) ((F.getD i (0,0,0)).2.1))) hraw0 (by simp)) ?_
   try dsimp only [List.eraseIdx]
   obtain ⟨Mq0,hMq0⟩:∃z,z=Ms.sideS (Ms.sides (F.take i)) (Ms.pl (((F.getD i (0,0,0)).1),((F.getD i (0,0,0)).2.1)),((i:Nat):Int)):=⟨_,rfl⟩
   rw [show mput (Ms.sides (F.take i)) ((min ((F.getD i (0,0,0)).1) ((F.getD i (0,0,0)).2.1)),(max ((F.getD i (0,0,0)).1) ((F.getD i (0,0,0)).2.1))) (lz0++([((i:Nat):Int)]))=Mq0 by rw [hMq0,hlz0];rfl]
   have hsl1:=Ms.sideS_len hsl0 (Ms.pl (((F.getD i (0,0,0)).1),((F.getD i (0,0,0)).2.1)),((i:Nat):Int))
   rw [← hMq0] at hsl1
   refine za<|r_pv rfl rfl (zC (z:=1) rfl rfl (w64 (by decide)))<|r_pv rfl rfl (zb rfl)<|zj<|zba<|zQ<|zh<|za<|r_pv rfl rfl (zD rfl rfl)<|zj<|zc<|zh<|zT rfl rfl<|zw<|zc<|zh<|zr<|zh<|za<|r_pv rfl rfl (zza (i:=1) Try.underlying74 ty73 rfl rfl (by decide) (.skip (.skip (.take (.take .nil)))))<|zS rfl rfl (zn zr73 rfl) (fun b9=> ?_)
   refine zx 0 rfl rfl rfl rfl rfl sz73 rfl (.take (.take .nil)) .z<|zj<|zc<|zwd (fun w mm=>mm.mrOpen 1 ((min ((F.getD i (0,0,0)).2.1) ((F.getD i (0,0,0)).2.2)),(max ((F.getD i (0,0,0)).2.1) ((F.getD i (0,0,0)).2.2))) rfl) ?_
   rintro ⟨raw1,pz1,cz1⟩ ⟨hraw1,hgt1⟩
   dsimp only [List.eraseIdx] at hgt1 ⊢
   obtain ⟨lz1,hlz1⟩:∃z,z=(mget Mq0 ((min ((F.getD i (0,0,0)).2.1) ((F.getD i (0,0,0)).2.2)),(max ((F.getD i (0,0,0)).2.1) ((F.getD i (0,0,0)).2.2)))).getD []:=⟨_,rfl⟩
   rw [← hlz1] at hgt1 ⊢
   have hlb1:lz1.length≤4000:=by have h9:=hsl1 ((min ((F.getD i (0,0,0)).2.1) ((F.getD i (0,0,0)).2.2)),(max ((F.getD i (0,0,0)).2.1) ((F.getD i (0,0,0)).2.2)));rw [← hlz1] at h9;omega
   refine zgb (.c (i:=1) rfl (.c (i:=0) rfl (.c (i:=0) rfl (.c (i:=0) rfl (.c (i:=0) rfl (.c (i:=0) rfl (.c (i:=0) rfl (.c (i:=0) rfl .n))))))))<|zla (OW:=[rowA 3 (rI .i64) pz1 cz1 lz1,mapA b2 (fun z:Int×Int=> .agg #[.int .i64 z.1,.int .i64 z.2]) (fun z:Option Addr×Nat×Nat=> .slice z.1 z.2.1 z.2.2) (fun z=>InK .i64 z.1∧InK .i64 z.2) raw1]) (O:=[allA (mrest 3 (rI .i64) ((min ((F.getD i (0,0,0)).2.1) ((F.getD i (0,0,0)).2.2)),(max ((F.getD i (0,0,0)).2.1) ((F.getD i (0,0,0)).2.2))) raw1 Mq0),boxA b9 73 [.int .i64 ((F.getD i (0,0,0)).2.1),.int .i64 ((F.getD i (0,0,0)).2.2)],emA,boxA b8 73 [.int .i64 ((F.getD i (0,0,0)).1),.int .i64 ((F.getD i (0,0,0)).2.1)],boxA b7 44 [.int .i64 ((F.getD i (0,0,0)).1),.int .i64 ((F.getD i (0,0,0)).2.1),.int .i64 ((F.getD i (0,0,0)).2.2)],boxA b1 25 [.slice pv nv cv,.slice pf nf cf]]) 9 mixed (.block (.then (.then (.block (.block (.then (.then (.block (.then .ret))))))))) (by kernel_rfl)<|d_pv 0 rfl rfl (by kernel_rfl) (by kernel_rfl) rfl rfl (zb rfl)<|d_uw 1 rfl rfl (by kernel_rfl) (by kernel_rfl) (by kernel_rfl) rfl rfl (zf 3 ty73 rfl rfl (.take (.take .nil)))<|d_pv 3 rfl rfl (by kernel_rfl) (by kernel_rfl) rfl rfl (zb rfl)<|d_uw 4 rfl rfl (by kernel_rfl) (by kernel_rfl) (by kernel_rfl) rfl rfl (zf 3 ty73 rfl rfl (.take (.take .nil)))<|d_pv 7 rfl rfl (by kernel_rfl) (by kernel_rfl) rfl rfl (zb rfl)<|zPb (m':=[(29,.int .i64 ((i:Nat):Int)),(26,.agg #[.int .i64 ((F.getD i (0,0,0)).2.1),.int .i64 ((F.getD i (0,0,0)).2.2)]),(25,.map (some b2)),(23,.agg #[.int .i64 ((F.getD i (0,0,0)).2.1),.int .i64 ((F.getD i (0,0,0)).2.2)]),(22,.map (some b2)),(7,.pointer (some ⟨b9,0,none⟩)),(21,.agg #[.int .i64 ((F.getD i (0,0,0)).2.1),.int .i64 ((F.getD i (0,0,0)).2.2)]),(20,.bool true),(19,.int .i64 1),(32,.int .i64 1),(31,.slice u9_1 (lz0.length+1) u9_2),(30,.slice (some ⟨u8_1,0,none⟩) 1 1),(28,.slice pz0 (lz0.length) cz0),(27,.agg #[.int .i64 (min ((F.getD i (0,0,0)).1) ((F.getD i (0,0,0)).2.1)),.int .i64 (max ((F.getD i (0,0,0)).1) ((F.getD i (0,0,0)).2.1))]),(24,.agg #[.int .i64 (min ((F.getD i (0,0,0)).1) ((F.getD i (0,0,0)).2.1)),.int .i64 (max ((F.getD i (0,0,0)).1) ((F.getD i (0,0,0)).2.1))]),(18,.agg #[.int .i64 ((F.getD i (0,0,0)).1),.int .i64 ((F.getD i (0,0,0)).2.1),.int .i64 ((F.getD i (0,0,0)).2.1),.int .i64 ((F.getD i (0,0,0)).2.2),.int .i64 ((F.getD i (0,0,0)).2.2),.int .i64 ((F.getD i (0,0,0)).1)]),(4,.int .i64 ((i:Nat):Int)),(12,.int .i64 ((i:Nat):Int)),(11,.int .i64 ((nf:Nat):Int)),(10,.slice pf nf cf),(3,.map (some b2)),(2,.map none)]) (R':=[slF (rI .i64) (some ⟨u8_1,0,none⟩) 1 ([((i:Nat):Int)]),slF (rI3 .i64) pv cv V,slF (rI3 .i64) pf cf F]) ((.of rfl):SubM _ _) (List.Perm.refl _) (List.Perm.refl _) ((.of [0,1,2] rfl):SelR _ _ _) ?_
   obtain ⟨qd1,hqd1⟩:∃z,z=(min ((F.getD i (0,0,0)).1) ((F.getD i (0,0,0)).2.1)):=⟨_,rfl⟩
   rw [← hqd1]
   obtain ⟨qd2,hqd2⟩:∃z,z=(max ((F.getD i (0,0,0)).1) ((F.getD i (0,0,0)).2.1)):=⟨_,rfl⟩
   rw [← hqd2]
   refine zL (X:=Nat×Option Addr×Nat) (k':=0) (L':=(lb 11 2047)) (fun (u8_1,u9_1,u9_2)=>([(31,.slice u9_1 (lz1.length+1) u9_2),(30,.slice (some ⟨u8_1,0,none⟩) 1 1),(28,.slice pz1 (lz1.length) cz1),(27,.agg #[.int .i64 (min ((F.getD i (0,0,0)).2.1) ((F.getD i (0,0,0)).2.2)),.int .i64 (max ((F.getD i (0,0,0)).2.1) ((F.getD i (0,0,0)).2.2))]),(24,.agg #[.int .i64 (min ((F.getD i (0,0,0)).2.1) ((F.getD i (0,0,0)).2.2)),.int .i64 (max ((F.getD i (0,0,0)).2.1) ((F.getD i (0,0,0)).2.2))]),(29,.int .i64 ((i:Nat):Int)),(26,.agg #[.int .i64 ((F.getD i (0,0,0)).2.1),.int .i64 ((F.getD i (0,0,0)).2.2)]),(25,.map (some b2)),(23,.agg #[.int .i64 ((F.getD i (0,0,0)).2.1),.int .i64 ((F.getD i (0,0,0)).2.2)]),(22,.map (some b2)),(7,.pointer (some ⟨b9,0,none⟩)),(21,.agg #[.int .i64 ((F.getD i (0,0,0)).2.1),.int .i64 ((F.getD i (0,0,0)).2.2)]),(20,.bool true),(19,.int .i64 1),(32,.int .i64 1),(18,.agg #[.int .i64 ((F.getD i (0,0,0)).1),.int .i64 ((F.getD i (0,0,0)).2.1),.int .i64 ((F.getD i (0,0,0)).2.1),.int .i64 ((F.getD i (0,0,0)).2.2),.int .i64 ((F.getD i (0,0,0)).2.2),.int .i64 ((F.getD i (0,0,0)).1)]),(4,.int .i64 ((i:Nat):Int)),(12,.int .i64 ((i:Nat):Int)),(11,.int .i64 ((nf:Nat):Int)),(10,.slice pf nf cf),(3,.map (some b2)),(2,.map none)],[mapA b2 (fun z:Int×Int=> .agg #[.int .i64 z.1,.int .i64 z.2]) (fun z:Option Addr×Nat×Nat=> .slice z.1 z.2.1 z.2.2) (fun z=>InK .i64 z.1∧InK .i64 z.2) (mput raw1 ((min ((F.getD i (0,0,0)).2.1) ((F.getD i (0,0,0)).2.2)),(max ((F.getD i (0,0,0)).2.1) ((F.getD i (0,0,0)).2.2))) (u9_1,lz1.length+1,u9_2)),rowA 3 (rI .i64) u9_1 u9_2 (lz1++([((i:Nat):Int)]))],[emA,allA (mrest 3 (rI .i64) ((min ((F.getD i (0,0,0)).2.1) ((F.getD i (0,0,0)).2.2)),(max ((F.getD i (0,0,0)).2.1) ((F.getD i (0,0,0)).2.2))) raw1 Mq0),boxA b9 73 [.int .i64 ((F.getD i (0,0,0)).2.1),.int .i64 ((F.getD i (0,0,0)).2.2)],emA,boxA b8 73 [.int .i64 ((F.getD i (0,0,0)).1),.int .i64 ((F.getD i (0,0,0)).2.1)],boxA b7 44 [.int .i64 ((F.getD i (0,0,0)).1),.int .i64 ((F.getD i (0,0,0)).2.1),.int .i64 ((F.getD i (0,0,0)).2.2)],boxA b1 25 [.slice pv nv cv,.slice pf nf cf]],[slF (rI .i64) (some ⟨u8_1,0,none⟩) 1 ([((i:Nat):Int)]),slF (rI .i64) (some ⟨u8_1,0,none⟩) 1 ([((i:Nat):Int)]),slF (rI3 .i64) pv cv V,slF (rI3 .i64) pf cf F])) ?_ (fun hD0=> ?_)
   ·
    rintro ⟨u8_1,u9_1,u9_2⟩
    dsimp only
    refine zma (by kernel_rfl) ?_
    subst hqd1 hqd2
    refine zA<|zc<|zuc (fun w mm=>(mm.perm (zR 0 rfl (zR 0 rfl (zR 1 rfl (List.Perm.refl _))))).mrClose (xs:=(lz1++([((i:Nat):Int)]))) ((min ((F.getD i (0,0,0)).2.1) ((F.getD i (0,0,0)).2.2)),(max ((F.getD i (0,0,0)).2.1) ((F.getD i (0,0,0)).2.2))) hraw1 (by simp)) ?_
    try dsimp only [List.eraseIdx]
    obtain ⟨Mq1,hMq1⟩:∃z,z=Ms.sideS Mq0 (Ms.pl (((F.getD i (0,0,0)).2.1),((F.getD i (0,0,0)).2.2)),((i:Nat):Int)):=⟨_,rfl⟩
    rw [show mput Mq0 ((min ((F.getD i (0,0,0)).2.1) ((F.getD i (0,0,0)).2.2)),(max ((F.getD i (0,0,0)).2.1) ((F.getD i (0,0,0)).2.2))) (lz1++([((i:Nat):Int)]))=Mq1 by rw [hMq1,hlz1];rfl]
    have hsl2:=Ms.sideS_len hsl1 (Ms.pl (((F.getD i (0,0,0)).2.1),((F.getD i (0,0,0)).2.2)),((i:Nat):Int))
    rw [← hMq1] at hsl2
    refine za<|r_pv rfl rfl (zC (z:=2) rfl rfl (w64 (by decide)))<|r_pv rfl rfl (zb rfl)<|zj<|zba<|zQ<|zh<|za<|r_pv rfl rfl (zD rfl rfl)<|zj<|zc<|zh<|zT rfl rfl<|zw<|zc<|zh<|zr<|zh<|za<|r_pv rfl rfl (zza (i:=2) Try.underlying74 ty73 rfl rfl (by decide) (.skip (.skip (.skip (.skip (.take (.take .nil)))))))<|zS rfl rfl (zn zr73 rfl) (fun b10=> ?_)
    refine zx 0 rfl rfl rfl rfl rfl sz73 rfl (.take (.take .nil)) .z<|zj<|zc<|zwd (fun w mm=>mm.mrOpen 1 ((min ((F.getD i (0,0,0)).2.2) ((F.getD i (0,0,0)).1)),(max ((F.getD i (0,0,0)).2.2) ((F.getD i (0,0,0)).1))) rfl) ?_
    rintro ⟨raw2,pz2,cz2⟩ ⟨hraw2,hgt2⟩
    dsimp only [List.eraseIdx] at hgt2 ⊢
    obtain ⟨lz2,hlz2⟩:∃z,z=(mget Mq1 ((min ((F.getD i (0,0,0)).2.2) ((F.getD i (0,0,0)).1)),(max ((F.getD i (0,0,0)).2.2) ((F.getD i (0,0,0)).1)))).getD []:=⟨_,rfl⟩
    rw [← hlz2] at hgt2 ⊢
    have hlb2:lz2.length≤4000:=by have h9:=hsl2 ((min ((F.getD i (0,0,0)).2.2) ((F.getD i (0,0,0)).1)),(max ((F.getD i (0,0,0)).2.2) ((F.getD i (0,0,0)).1)));rw [← hlz2] at h9;omega
    refine zgb (.c (i:=1) rfl (.c (i:=0) rfl (.c (i:=0) rfl (.c (i:=0) rfl (.c (i:=0) rfl (.c (i:=0) rfl (.c (i:=0) rfl (.c (i:=0) rfl (.c (i:=0) rfl (.c (i:=0) rfl .n))))))))))<|zla (OW:=[rowA 3 (rI .i64) pz2 cz2 lz2,mapA b2 (fun z:Int×Int=> .agg #[.int .i64 z.1,.int .i64 z.2]) (fun z:Option Addr×Nat×Nat=> .slice z.1 z.2.1 z.2.2) (fun z=>InK .i64 z.1∧InK .i64 z.2) raw2]) (O:=[allA (mrest 3 (rI .i64) ((min ((F.getD i (0,0,0)).2.2) ((F.getD i (0,0,0)).1)),(max ((F.getD i (0,0,0)).2.2) ((F.getD i (0,0,0)).1))) raw2 Mq1),boxA b10 73 [.int .i64 ((F.getD i (0,0,0)).2.2),.int .i64 ((F.getD i (0,0,0)).1)],emA,boxA b9 73 [.int .i64 ((F.getD i (0,0,0)).2.1),.int .i64 ((F.getD i (0,0,0)).2.2)],emA,boxA b8 73 [.int .i64 ((F.getD i (0,0,0)).1),.int .i64 ((F.getD i (0,0,0)).2.1)],boxA b7 44 [.int .i64 ((F.getD i (0,0,0)).1),.int .i64 ((F.getD i (0,0,0)).2.1),.int .i64 ((F.getD i (0,0,0)).2.2)],boxA b1 25 [.slice pv nv cv,.slice pf nf cf]]) 9 mixed (.block (.then (.then (.block (.block (.then (.then (.block (.then .ret))))))))) (by kernel_rfl)<|d_pv 0 rfl rfl (by kernel_rfl) (by kernel_rfl) rfl rfl (zb rfl)<|d_uw 1 rfl rfl (by kernel_rfl) (by kernel_rfl) (by kernel_rfl) rfl rfl (zf 3 ty73 rfl rfl (.take (.take .nil)))<|d_pv 3 rfl rfl (by kernel_rfl) (by kernel_rfl) rfl rfl (zb rfl)<|d_uw 4 rfl rfl (by kernel_rfl) (by kernel_rfl) (by kernel_rfl) rfl rfl (zf 3 ty73 rfl rfl (.take (.take .nil)))<|d_pv 7 rfl rfl (by kernel_rfl) (by kernel_rfl) rfl rfl (zb rfl)<|zPb (m':=[(29,.int .i64 ((i:Nat):Int)),(26,.agg #[.int .i64 ((F.getD i (0,0,0)).2.2),.int .i64 ((F.getD i (0,0,0)).1)]),(25,.map (some b2)),(23,.agg #[.int .i64 ((F.getD i (0,0,0)).2.2),.int .i64 ((F.getD i (0,0,0)).1)]),(22,.map (some b2)),(7,.pointer (some ⟨b10,0,none⟩)),(21,.agg #[.int .i64 ((F.getD i (0,0,0)).2.2),.int .i64 ((F.getD i (0,0,0)).1)]),(20,.bool true),(19,.int .i64 2),(32,.int .i64 2),(31,.slice u9_1 (lz1.length+1) u9_2),(30,.slice (some ⟨u8_1,0,none⟩) 1 1),(28,.slice pz1 (lz1.length) cz1),(27,.agg #[.int .i64 (min ((F.getD i (0,0,0)).2.1) ((F.getD i (0,0,0)).2.2)),.int .i64 (max ((F.getD i (0,0,0)).2.1) ((F.getD i (0,0,0)).2.2))]),(24,.agg #[.int .i64 (min ((F.getD i (0,0,0)).2.1) ((F.getD i (0,0,0)).2.2)),.int .i64 (max ((F.getD i (0,0,0)).2.1) ((F.getD i (0,0,0)).2.2))]),(18,.agg #[.int .i64 ((F.getD i (0,0,0)).1),.int .i64 ((F.getD i (0,0,0)).2.1),.int .i64 ((F.getD i (0,0,0)).2.1),.int .i64 ((F.getD i (0,0,0)).2.2),.int .i64 ((F.getD i (0,0,0)).2.2),.int .i64 ((F.getD i (0,0,0)).1)]),(4,.int .i64 ((i:Nat):Int)),(12,.int .i64 ((i:Nat):Int)),(11,.int .i64 ((nf:Nat):Int)),(10,.slice pf nf cf),(3,.map (some b2)),(2,.map none)]) (R':=[slF (rI .i64) (some ⟨u8_1,0,none⟩) 1 ([((i:Nat):Int)]),slF (rI .i64) (some ⟨u8_1,0,none⟩) 1 ([((i:Nat):Int)]),slF (rI3 .i64) pv cv V,slF (rI3 .i64) pf cf F]) ((.of rfl):SubM _ _) (List.Perm.refl _) (List.Perm.refl _) ((.of [0,0,2,3] rfl):SelR _ _ _) ?_
    obtain ⟨qd1,hqd1⟩:∃z,z=(min ((F.getD i (0,0,0)).2.1) ((F.getD i (0,0,0)).2.2)):=⟨_,rfl⟩
    rw [← hqd1]
    obtain ⟨qd2,hqd2⟩:∃z,z=(max ((F.getD i (0,0,0)).2.1) ((F.getD i (0,0,0)).2.2)):=⟨_,rfl⟩
    rw [← hqd2]
    refine zL (X:=Nat×Option Addr×Nat) (k':=0) (L':=(lb 11 2047)) (fun (u8_1,u9_1,u9_2)=>([(31,.slice u9_1 (lz2.length+1) u9_2),(30,.slice (some ⟨u8_1,0,none⟩) 1 1),(28,.slice pz2 (lz2.length) cz2),(27,.agg #[.int .i64 (min ((F.getD i (0,0,0)).2.2) ((F.getD i (0,0,0)).1)),.int .i64 (max ((F.getD i (0,0,0)).2.2) ((F.getD i (0,0,0)).1))]),(24,.agg #[.int .i64 (min ((F.getD i (0,0,0)).2.2) ((F.getD i (0,0,0)).1)),.int .i64 (max ((F.getD i (0,0,0)).2.2) ((F.getD i (0,0,0)).1))]),(29,.int .i64 ((i:Nat):Int)),(26,.agg #[.int .i64 ((F.getD i (0,0,0)).2.2),.int .i64 ((F.getD i (0,0,0)).1)]),(25,.map (some b2)),(23,.agg #[.int .i64 ((F.getD i (0,0,0)).2.2),.int .i64 ((F.getD i (0,0,0)).1)]),(22,.map (some b2)),(7,.pointer (some ⟨b10,0,none⟩)),(21,.agg #[.int .i64 ((F.getD i (0,0,0)).2.2),.int .i64 ((F.getD i (0,0,0)).1)]),(20,.bool true),(19,.int .i64 2),(32,.int .i64 2),(18,.agg #[.int .i64 ((F.getD i (0,0,0)).1),.int .i64 ((F.getD i (0,0,0)).2.1),.int .i64 ((F.getD i (0,0,0)).2.1),.int .i64 ((F.getD i (0,0,0)).2.2),.int .i64 ((F.getD i (0,0,0)).2.2),.int .i64 ((F.getD i (0,0,0)).1)]),(4,.int .i64 ((i:Nat):Int)),(12,.int .i64 ((i:Nat):Int)),(11,.int .i64 ((nf:Nat):Int)),(10,.slice pf nf cf),(3,.map (some b2)),(2,.map none)],[mapA b2 (fun z:Int×Int=> .agg #[.int .i64 z.1,.int .i64 z.2]) (fun z:Option Addr×Nat×Nat=> .slice z.1 z.2.1 z.2.2) (fun z=>InK .i64 z.1∧InK .i64 z.2) (mput raw2 ((min ((F.getD i (0,0,0)).2.2) ((F.getD i (0,0,0)).1)),(max ((F.getD i (0,0,0)).2.2) ((F.getD i (0,0,0)).1))) (u9_1,lz2.length+1,u9_2)),rowA 3 (rI .i64) u9_1 u9_2 (lz2++([((i:Nat):Int)]))],[emA,allA (mrest 3 (rI .i64) ((min ((F.getD i (0,0,0)).2.2) ((F.getD i (0,0,0)).1)),(max ((F.getD i (0,0,0)).2.2) ((F.getD i (0,0,0)).1))) raw2 Mq1),boxA b10 73 [.int .i64 ((F.getD i (0,0,0)).2.2),.int .i64 ((F.getD i (0,0,0)).1)],emA,boxA b9 73 [.int .i64 ((F.getD i (0,0,0)).2.1),.int .i64 ((F.getD i (0,0,0)).2.2)],emA,boxA b8 73 [.int .i64 ((F.getD i (0,0,0)).1),.int .i64 ((F.getD i (0,0,0)).2.1)],boxA b7 44 [.int .i64 ((F.getD i (0,0,0)).1),.int .i64 ((F.getD i (0,0,0)).2.1),.int .i64 ((F.getD i (0,0,0)).2.2)],boxA b1 25 [.slice pv nv cv,.slice pf nf cf]],[slF (rI .i64) (some ⟨u8_1,0,none⟩) 1 ([((i:Nat):Int)]),slF (rI .i64) (some ⟨u8_1,0,none⟩) 1 ([((i:Nat):Int)]),slF (rI .i64) (some ⟨u8_1,0,none⟩) 1 ([((i:Nat):Int)]),slF (rI3 .i64) pv cv V,slF (rI3 .i64) pf cf F])) ?_ (fun hD0=> ?_)
    ·
     rintro ⟨u8_1,u9_1,u9_2⟩
     dsimp only
     refine zma (by kernel_rfl) ?_
     subst hqd1 hqd2
     refine zA<|zc<|zuc (fun w mm=>(mm.perm (zR 0 rfl (zR 0 rfl (zR 1 rfl (List.Perm.refl _))))).mrClose (xs:=(lz2++([((i:Nat):Int)]))) ((min ((F.getD i (0,0,0)).2.2) ((F.getD i (0,0,0)).1)),(max ((F.getD i (0,0,0)).2.2) ((F.getD i (0,0,0)).1))) hraw2 (by simp)) ?_
     try dsimp only [List.eraseIdx]
     obtain ⟨Mq2,hMq2⟩:∃z,z=Ms.sideS Mq1 (Ms.pl (((F.getD i (0,0,0)).2.2),((F.getD i (0,0,0)).1)),((i:Nat):Int)):=⟨_,rfl⟩
     rw [show mput Mq1 ((min ((F.getD i (0,0,0)).2.2) ((F.getD i (0,0,0)).1)),(max ((F.getD i (0,0,0)).2.2) ((F.getD i (0,0,0)).1))) (lz2++([((i:Nat):Int)]))=Mq2 by rw [hMq2,hlz2];rfl]
     have hsl3:=Ms.sideS_len hsl2 (Ms.pl (((F.getD i (0,0,0)).2.2),((F.getD i (0,0,0)).1)),((i:Nat):Int))
     rw [← hMq2] at hsl3
     refine za<|r_pv rfl rfl (zC (z:=3) rfl rfl (w64 (by decide)))<|r_pv rfl rfl (zb rfl)<|zj<|zba<|zQ<|zh<|za<|r_pv rfl rfl (zD rfl rfl)<|zj<|zc<|zh<|zva rfl rfl<|zaa<|zk<|zk<|zt<|zA<|zc<|za<|r_pv rfl rfl (zC (z:=(((i+1):Nat):Int)) rfl rfl (w64 (by omega)))<|r_pv rfl rfl (zb rfl)<|zj<|zga (i+1) (show (i+1)≤nf from by exact (by omega:i+1≤nf)) (by show nf - (i+1)<nf - i;omega) ((.of rfl):SubM _ _) (ho:=((.e (i:=0) rfl (by rw [hMq2,hMq1,hMq0,Ms.sides_take (by omega)]) (.c (i:=7) rfl .n)):PickO _ _ _)) ((.of [3,4] rfl):SelR _ _ _)
    refine zL (X:=Nat×Option Addr×Nat) (k':=1) (L':=(lb 11 1023)) (fun (u8_1,u9_1,u9_2)=>([(31,.slice u9_1 (lz2.length+1) u9_2),(30,.slice (some ⟨u8_1,0,none⟩) 1 1),(28,.slice pz2 (lz2.length) cz2),(27,.agg #[.int .i64 (min ((F.getD i (0,0,0)).2.2) ((F.getD i (0,0,0)).1)),.int .i64 (max ((F.getD i (0,0,0)).2.2) ((F.getD i (0,0,0)).1))]),(24,.agg #[.int .i64 (min ((F.getD i (0,0,0)).2.2) ((F.getD i (0,0,0)).1)),.int .i64 (max ((F.getD i (0,0,0)).2.2) ((F.getD i (0,0,0)).1))]),(29,.int .i64 ((i:Nat):Int)),(26,.agg #[.int .i64 ((F.getD i (0,0,0)).2.2),.int .i64 ((F.getD i (0,0,0)).1)]),(25,.map (some b2)),(23,.agg #[.int .i64 ((F.getD i (0,0,0)).2.2),.int .i64 ((F.getD i (0,0,0)).1)]),(22,.map (some b2)),(7,.pointer (some ⟨b10,0,none⟩)),(21,.agg #[.int .i64 ((F.getD i (0,0,0)).2.2),.int .i64 ((F.getD i (0,0,0)).1)]),(20,.bool true),(19,.int .i64 2),(32,.int .i64 2),(18,.agg #[.int .i64 ((F.getD i (0,0,0)).1),.int .i64 ((F.getD i (0,0,0)).2.1),.int .i64 ((F.getD i (0,0,0)).2.1),.int .i64 ((F.getD i (0,0,0)).2.2),.int .i64 ((F.getD i (0,0,0)).2.2),.int .i64 ((F.getD i (0,0,0)).1)]),(4,.int .i64 ((i:Nat):Int)),(12,.int .i64 ((i:Nat):Int)),(11,.int .i64 ((nf:Nat):Int)),(10,.slice pf nf cf),(3,.map (some b2)),(2,.map none)],[rowA 3 (rI .i64) u9_1 u9_2 (lz2++([((i:Nat):Int)])),mapA b2 (fun z:Int×Int=> .agg #[.int .i64 z.1,.int .i64 z.2]) (fun z:Option Addr×Nat×Nat=> .slice z.1 z.2.1 z.2.2) (fun z=>InK .i64 z.1∧InK .i64 z.2) raw2],[emA,allA (mrest 3 (rI .i64) ((min ((F.getD i (0,0,0)).2.2) ((F.getD i (0,0,0)).1)),(max ((F.getD i (0,0,0)).2.2) ((F.getD i (0,0,0)).1))) raw2 Mq1),boxA b10 73 [.int .i64 ((F.getD i (0,0,0)).2.2),.int .i64 ((F.getD i (0,0,0)).1)],emA,boxA b9 73 [.int .i64 ((F.getD i (0,0,0)).2.1),.int .i64 ((F.getD i (0,0,0)).2.2)],emA,boxA b8 73 [.int .i64 ((F.getD i (0,0,0)).1),.int .i64 ((F.getD i (0,0,0)).2.1)],boxA b7 44 [.int .i64 ((F.getD i (0,0,0)).1),.int .i64 ((F.getD i (0,0,0)).2.1),.int .i64 ((F.getD i (0,0,0)).2.2)],boxA b1 25 [.slice pv nv cv,.slice pf nf cf]],[slF (rI .i64) (some ⟨u8_1,0,none⟩) 1 ([((i:Nat):Int)]),slF (rI .i64) (some ⟨u8_1,0,none⟩) 1 ([((i:Nat):Int)]),slF (rI .i64) (some ⟨u8_1,0,none⟩) 1 ([((i:Nat):Int)]),slF (rI3 .i64) pv cv V,slF (rI3 .i64) pf cf F])) ?_ (fun hD1=> ?_)
    ·
     rintro ⟨u8_1,u9_1,u9_2⟩
     dsimp only
     refine zE 10 (by kernel_rfl) ?_
     ·
      refine zzb (zia (i:=1) rfl)<|zTb (A':=fun _=>mapA b2 (fun z:Int×Int=> .agg #[.int .i64 z.1,.int .i64 z.2]) (fun z:Option Addr×Nat×Nat=> .slice z.1 z.2.1 z.2.2) (fun z=>InK .i64 z.1∧InK .i64 z.2) (mput raw2 ((min ((F.getD i (0,0,0)).2.2) ((F.getD i (0,0,0)).1)),(max ((F.getD i (0,0,0)).2.2) ((F.getD i (0,0,0)).1))) (u9_1,lz2.length+1,u9_2))) (by kernel_rfl) rfl rfl rfl (zya (a0:=((min ((F.getD i (0,0,0)).2.2) ((F.getD i (0,0,0)).1)),(max ((F.getD i (0,0,0)).2.2) ((F.getD i (0,0,0)).1)))) (v:=(u9_1,lz2.length+1,u9_2)) ky73 Try.underlying98 rfl rfl rfl (⟨zo.2 (by omega),zo.2 (by omega)⟩)) (fun _ _=> ?_)
      exact zp (hD0 (u8_1,u9_1,u9_2)) (by kernel_rfl) ((.of rfl):SubM _ _) .rfl .rfl ((.of [0,0,0,3,4] rfl):SelR _ _ _)
    refine zL (X:=Nat) (k':=2) (L':=(lb 11 511)) (fun u8_1=>([(30,.slice (some ⟨u8_1,0,none⟩) 1 1),(28,.slice pz2 (lz2.length) cz2),(27,.agg #[.int .i64 (min ((F.getD i (0,0,0)).2.2) ((F.getD i (0,0,0)).1)),.int .i64 (max ((F.getD i (0,0,0)).2.2) ((F.getD i (0,0,0)).1))]),(24,.agg #[.int .i64 (min ((F.getD i (0,0,0)).2.2) ((F.getD i (0,0,0)).1)),.int .i64 (max ((F.getD i (0,0,0)).2.2) ((F.getD i (0,0,0)).1))]),(29,.int .i64 ((i:Nat):Int)),(26,.agg #[.int .i64 ((F.getD i (0,0,0)).2.2),.int .i64 ((F.getD i (0,0,0)).1)]),(25,.map (some b2)),(23,.agg #[.int .i64 ((F.getD i (0,0,0)).2.2),.int .i64 ((F.getD i (0,0,0)).1)]),(22,.map (some b2)),(7,.pointer (some ⟨b10,0,none⟩)),(21,.agg #[.int .i64 ((F.getD i (0,0,0)).2.2),.int .i64 ((F.getD i (0,0,0)).1)]),(20,.bool true),(19,.int .i64 2),(32,.int .i64 2),(31,.slice u9_1 (lz1.length+1) u9_2),(18,.agg #[.int .i64 ((F.getD i (0,0,0)).1),.int .i64 ((F.getD i (0,0,0)).2.1),.int .i64 ((F.getD i (0,0,0)).2.1),.int .i64 ((F.getD i (0,0,0)).2.2),.int .i64 ((F.getD i (0,0,0)).2.2),.int .i64 ((F.getD i (0,0,0)).1)]),(4,.int .i64 ((i:Nat):Int)),(12,.int .i64 ((i:Nat):Int)),(11,.int .i64 ((nf:Nat):Int)),(10,.slice pf nf cf),(3,.map (some b2)),(2,.map none)],[rowA 3 (rI .i64) pz2 cz2 lz2,mapA b2 (fun z:Int×Int=> .agg #[.int .i64 z.1,.int .i64 z.2]) (fun z:Option Addr×Nat×Nat=> .slice z.1 z.2.1 z.2.2) (fun z=>InK .i64 z.1∧InK .i64 z.2) raw2],[emA,allA (mrest 3 (rI .i64) ((min ((F.getD i (0,0,0)).2.2) ((F.getD i (0,0,0)).1)),(max ((F.getD i (0,0,0)).2.2) ((F.getD i (0,0,0)).1))) raw2 Mq1),boxA b10 73 [.int .i64 ((F.getD i (0,0,0)).2.2),.int .i64 ((F.getD i (0,0,0)).1)],emA,boxA b9 73 [.int .i64 ((F.getD i (0,0,0)).2.1),.int .i64 ((F.getD i (0,0,0)).2.2)],emA,boxA b8 73 [.int .i64 ((F.getD i (0,0,0)).1),.int .i64 ((F.getD i (0,0,0)).2.1)],boxA b7 44 [.int .i64 ((F.getD i (0,0,0)).1),.int .i64 ((F.getD i (0,0,0)).2.1),.int .i64 ((F.getD i (0,0,0)).2.2)],boxA b1 25 [.slice pv nv cv,.slice pf nf cf]],[slF (rI .i64) (some ⟨u8_1,0,none⟩) 1 ([((i:Nat):Int)]),slF (rI .i64) (some ⟨u8_1,0,none⟩) 1 ([((i:Nat):Int)]),slF (rI .i64) (some ⟨u8_1,0,none⟩) 1 ([((i:Nat):Int)]),slF (rI3 .i64) pv cv V,slF (rI3 .i64) pf cf F])) ?_ (fun hD2=> ?_)
    ·
     rintro u8_1
     dsimp only
     refine zE 9 (by kernel_rfl) ?_
     ·
      refine zTb (A':=fun v:Option Addr×Nat=>rowA 3 (rI .i64) v.1 v.2 (lz2++([((i:Nat):Int)]))) (by kernel_rfl) rfl rfl rfl (zsa 0 rfl Try.underlying50 inf3 (by decide) rfl rfl (by first|rfl|assumption|(simp;done)|omega) rfl (by first|rfl|assumption|(simp;done)|omega) (by omega) (by omega)) ?_
      rintro ⟨u9_1,u9_2⟩ -
      dsimp only [List.append_eq,List.nil_append,List.cons_append]
      exact zp (hD1 (u8_1,u9_1,u9_2)) (by kernel_rfl) ((.of rfl):SubM _ _) .rfl .rfl ((.of [0,0,0,3,4] rfl):SelR _ _ _)
    refine zL (X:=Unit) (k':=3) (L':=(lb 11 255)) (fun _=>([(28,.slice pz2 (lz2.length) cz2),(27,.agg #[.int .i64 (min ((F.getD i (0,0,0)).2.2) ((F.getD i (0,0,0)).1)),.int .i64 (max ((F.getD i (0,0,0)).2.2) ((F.getD i (0,0,0)).1))]),(24,.agg #[.int .i64 (min ((F.getD i (0,0,0)).2.2) ((F.getD i (0,0,0)).1)),.int .i64 (max ((F.getD i (0,0,0)).2.2) ((F.getD i (0,0,0)).1))]),(29,.int .i64 ((i:Nat):Int)),(26,.agg #[.int .i64 ((F.getD i (0,0,0)).2.2),.int .i64 ((F.getD i (0,0,0)).1)]),(25,.map (some b2)),(23,.agg #[.int .i64 ((F.getD i (0,0,0)).2.2),.int .i64 ((F.getD i (0,0,0)).1)]),(22,.map (some b2)),(7,.pointer (some ⟨b10,0,none⟩)),(21,.agg #[.int .i64 ((F.getD i (0,0,0)).2.2),.int .i64 ((F.getD i (0,0,0)).1)]),(20,.bool true),(19,.int .i64 2),(32,.int .i64 2),(31,.slice u9_1 (lz1.length+1) u9_2),(30,.slice (some ⟨u8_1,0,none⟩) 1 1),(18,.agg #[.int .i64 ((F.getD i (0,0,0)).1),.int .i64 ((F.getD i (0,0,0)).2.1),.int .i64 ((F.getD i (0,0,0)).2.1),.int .i64 ((F.getD i (0,0,0)).2.2),.int .i64 ((F.getD i (0,0,0)).2.2),.int .i64 ((F.getD i (0,0,0)).1)]),(4,.int .i64 ((i:Nat):Int)),(12,.int .i64 ((i:Nat):Int)),(11,.int .i64 ((nf:Nat):Int)),(10,.slice pf nf cf),(3,.map (some b2)),(2,.map none)],[rowA 3 (rI .i64) pz2 cz2 lz2,mapA b2 (fun z:Int×Int=> .agg #[.int .i64 z.1,.int .i64 z.2]) (fun z:Option Addr×Nat×Nat=> .slice z.1 z.2.1 z.2.2) (fun z=>InK .i64 z.1∧InK .i64 z.2) raw2],[allA (mrest 3 (rI .i64) ((min ((F.getD i (0,0,0)).2.2) ((F.getD i (0,0,0)).1)),(max ((F.getD i (0,0,0)).2.2) ((F.getD i (0,0,0)).1))) raw2 Mq1),boxA b10 73 [.int .i64 ((F.getD i (0,0,0)).2.2),.int .i64 ((F.getD i (0,0,0)).1)],emA,boxA b9 73 [.int .i64 ((F.getD i (0,0,0)).2.1),.int .i64 ((F.getD i (0,0,0)).2.2)],emA,boxA b8 73 [.int .i64 ((F.getD i (0,0,0)).1),.int .i64 ((F.getD i (0,0,0)).2.1)],boxA b7 44 [.int .i64 ((F.getD i (0,0,0)).1),.int .i64 ((F.getD i (0,0,0)).2.1),.int .i64 ((F.getD i (0,0,0)).2.2)],boxA b1 25 [.slice pv nv cv,.slice pf nf cf]],[slF (rI .i64) (some ⟨u8_1,0,none⟩) 1 ([((i:Nat):Int)]),slF (rI .i64) (some ⟨u8_1,0,none⟩) 1 ([((i:Nat):Int)]),slF (rI3 .i64) pv cv V,slF (rI3 .i64) pf cf F])) ?_ (fun hD3=> ?_)
    ·
     rintro ⟨⟩
     dsimp only
     refine zE 8 (by kernel_rfl) ?_
     ·
      refine zYb rfl rfl rfl rfl (zJ (enc:=fun z:Int=>[.int .i64 z]) (ok:=InK .i64) (h1:=fun _=>rfl) (h2:=fun _=>rfl) (k:=1) Try.underlying50 inf3 rfl (by decide) (by decide) (by decide) (.c (x:=((i:Nat):Int)) rfl rfl (fun _ _=>by exact zo.2 (by omega)) .n)) (fun u8_1 _=> ?_)
      refine zcb 0 rfl .z ?_
      exact zp (hD2 u8_1) (by kernel_rfl) ((.of rfl):SubM _ _) .rfl .rfl ((.of [0,0,0,3,4] rfl):SelR _ _ _)
    refine zL (X:=Nat) (k':=4) (L':=(lb 11 415)) (fun u8_1=>([(30,.slice (some ⟨u8_1,0,none⟩) 1 1),(24,.agg #[.int .i64 (min ((F.getD i (0,0,0)).2.2) ((F.getD i (0,0,0)).1)),.int .i64 (max ((F.getD i (0,0,0)).2.2) ((F.getD i (0,0,0)).1))]),(29,.int .i64 ((i:Nat):Int)),(26,.agg #[.int .i64 ((F.getD i (0,0,0)).2.2),.int .i64 ((F.getD i (0,0,0)).1)]),(25,.map (some b2)),(23,.agg #[.int .i64 ((F.getD i (0,0,0)).2.2),.int .i64 ((F.getD i (0,0,0)).1)]),(22,.map (some b2)),(7,.pointer (some ⟨b10,0,none⟩)),(21,.agg #[.int .i64 ((F.getD i (0,0,0)).2.2),.int .i64 ((F.getD i (0,0,0)).1)]),(20,.bool true),(19,.int .i64 2),(32,.int .i64 2),(31,.slice u9_1 (lz1.length+1) u9_2),(28,.slice pz1 (lz1.length) cz1),(27,.agg #[.int .i64 qd1,.int .i64 qd2]),(18,.agg #[.int .i64 ((F.getD i (0,0,0)).1),.int .i64 ((F.getD i (0,0,0)).2.1),.int .i64 ((F.getD i (0,0,0)).2.1),.int .i64 ((F.getD i (0,0,0)).2.2),.int .i64 ((F.getD i (0,0,0)).2.2),.int .i64 ((F.getD i (0,0,0)).1)]),(4,.int .i64 ((i:Nat):Int)),(12,.int .i64 ((i:Nat):Int)),(11,.int .i64 ((nf:Nat):Int)),(10,.slice pf nf cf),(3,.map (some b2)),(2,.map none)],[rowA 3 (rI .i64) pz2 cz2 lz2,mapA b2 (fun z:Int×Int=> .agg #[.int .i64 z.1,.int .i64 z.2]) (fun z:Option Addr×Nat×Nat=> .slice z.1 z.2.1 z.2.2) (fun z=>InK .i64 z.1∧InK .i64 z.2) raw2],[emA,allA (mrest 3 (rI .i64) ((min ((F.getD i (0,0,0)).2.2) ((F.getD i (0,0,0)).1)),(max ((F.getD i (0,0,0)).2.2) ((F.getD i (0,0,0)).1))) raw2 Mq1),boxA b10 73 [.int .i64 ((F.getD i (0,0,0)).2.2),.int .i64 ((F.getD i (0,0,0)).1)],emA,boxA b9 73 [.int .i64 ((F.getD i (0,0,0)).2.1),.int .i64 ((F.getD i (0,0,0)).2.2)],emA,boxA b8 73 [.int .i64 ((F.getD i (0,0,0)).1),.int .i64 ((F.getD i (0,0,0)).2.1)],boxA b7 44 [.int .i64 ((F.getD i (0,0,0)).1),.int .i64 ((F.getD i (0,0,0)).2.1),.int .i64 ((F.getD i (0,0,0)).2.2)],boxA b1 25 [.slice pv nv cv,.slice pf nf cf]],[slF (rI .i64) (some ⟨u8_1,0,none⟩) 1 ([((i:Nat):Int)]),slF (rI .i64) (some ⟨u8_1,0,none⟩) 1 ([((i:Nat):Int)]),slF (rI .i64) (some ⟨u8_1,0,none⟩) 1 ([((i:Nat):Int)]),slF (rI3 .i64) pv cv V,slF (rI3 .i64) pf cf F])) ?_ (fun hD4=> ?_)
    ·
     rintro u8_1
     dsimp only
     refine zE 5 (by kernel_rfl) ?_
     ·
      refine zqa rfl rfl rfl rfl (.c rfl .n) ce75 (zUa (ex:=((F.getD i (0,0,0)).2.2)) (ey:=((F.getD i (0,0,0)).1))) (.n)<|d_uw 6 rfl rfl (by kernel_rfl) (by kernel_rfl) (by kernel_rfl) rfl rfl (zFa (z:=(none,0,0)) (a0:=((min ((F.getD i (0,0,0)).2.2) ((F.getD i (0,0,0)).1)),(max ((F.getD i (0,0,0)).2.2) ((F.getD i (0,0,0)).1)))) (v:= .slice pz2 (lz2.length) cz2) 1 rfl ky73 Try.underlying98 zr50 rfl rfl (⟨zo.2 (by omega),zo.2 (by omega)⟩) (by rw [hgt2])) ?_
      exact zp (hD2 u8_1) (by kernel_rfl) ((.of rfl):SubM _ _) .rfl .rfl ((.of [0,0,0,3,4] rfl):SelR _ _ _)
    refine zL (X:=Unit) (k':=5) (L':=(lb 11 159)) (fun _=>([(24,.agg #[.int .i64 (min ((F.getD i (0,0,0)).2.2) ((F.getD i (0,0,0)).1)),.int .i64 (max ((F.getD i (0,0,0)).2.2) ((F.getD i (0,0,0)).1))]),(29,.int .i64 ((i:Nat):Int)),(26,.agg #[.int .i64 ((F.getD i (0,0,0)).2.2),.int .i64 ((F.getD i (0,0,0)).1)]),(25,.map (some b2)),(23,.agg #[.int .i64 ((F.getD i (0,0,0)).2.2),.int .i64 ((F.getD i (0,0,0)).1)]),(22,.map (some b2)),(7,.pointer (some ⟨b10,0,none⟩)),(21,.agg #[.int .i64 ((F.getD i (0,0,0)).2.2),.int .i64 ((F.getD i (0,0,0)).1)]),(20,.bool true),(19,.int .i64 2),(32,.int .i64 2),(31,.slice u9_1 (lz1.length+1) u9_2),(30,.slice (some ⟨u8_1,0,none⟩) 1 1),(28,.slice pz1 (lz1.length) cz1),(27,.agg #[.int .i64 qd1,.int .i64 qd2]),(18,.agg #[.int .i64 ((F.getD i (0,0,0)).1),.int .i64 ((F.getD i (0,0,0)).2.1),.int .i64 ((F.getD i (0,0,0)).2.1),.int .i64 ((F.getD i (0,0,0)).2.2),.int .i64 ((F.getD i (0,0,0)).2.2),.int .i64 ((F.getD i (0,0,0)).1)]),(4,.int .i64 ((i:Nat):Int)),(12,.int .i64 ((i:Nat):Int)),(11,.int .i64 ((nf:Nat):Int)),(10,.slice pf nf cf),(3,.map (some b2)),(2,.map none)],[rowA 3 (rI .i64) pz2 cz2 lz2,mapA b2 (fun z:Int×Int=> .agg #[.int .i64 z.1,.int .i64 z.2]) (fun z:Option Addr×Nat×Nat=> .slice z.1 z.2.1 z.2.2) (fun z=>InK .i64 z.1∧InK .i64 z.2) raw2],[allA (mrest 3 (rI .i64) ((min ((F.getD i (0,0,0)).2.2) ((F.getD i (0,0,0)).1)),(max ((F.getD i (0,0,0)).2.2) ((F.getD i (0,0,0)).1))) raw2 Mq1),boxA b10 73 [.int .i64 ((F.getD i (0,0,0)).2.2),.int .i64 ((F.getD i (0,0,0)).1)],emA,boxA b9 73 [.int .i64 ((F.getD i (0,0,0)).2.1),.int .i64 ((F.getD i (0,0,0)).2.2)],emA,boxA b8 73 [.int .i64 ((F.getD i (0,0,0)).1),.int .i64 ((F.getD i (0,0,0)).2.1)],boxA b7 44 [.int .i64 ((F.getD i (0,0,0)).1),.int .i64 ((F.getD i (0,0,0)).2.1),.int .i64 ((F.getD i (0,0,0)).2.2)],boxA b1 25 [.slice pv nv cv,.slice pf nf cf]],[slF (rI .i64) (some ⟨u8_1,0,none⟩) 1 ([((i:Nat):Int)]),slF (rI .i64) (some ⟨u8_1,0,none⟩) 1 ([((i:Nat):Int)]),slF (rI3 .i64) pv cv V,slF (rI3 .i64) pf cf F])) ?_ (fun hD5=> ?_)
    ·
     rintro ⟨⟩
     dsimp only
     refine zMa 5 8 (by kernel_rfl) ?_ ?_
     ·
      refine zqa rfl rfl rfl rfl (.c rfl .n) ce75 (zUa (ex:=((F.getD i (0,0,0)).2.2)) (ey:=((F.getD i (0,0,0)).1))) (.n)<|d_uw 6 rfl rfl (by kernel_rfl) (by kernel_rfl) (by kernel_rfl) rfl rfl (zFa (z:=(none,0,0)) (a0:=((min ((F.getD i (0,0,0)).2.2) ((F.getD i (0,0,0)).1)),(max ((F.getD i (0,0,0)).2.2) ((F.getD i (0,0,0)).1)))) (v:= .slice pz2 (lz2.length) cz2) 1 rfl ky73 Try.underlying98 zr50 rfl rfl (⟨zo.2 (by omega),zo.2 (by omega)⟩) (by rw [hgt2])) ?_
      exact zp (hD3 ()) (by kernel_rfl) ((.of rfl):SubM _ _) .rfl .rfl ((.of [0,0,2,3] rfl):SelR _ _ _)
     ·
      refine zYb rfl rfl rfl rfl (zJ (enc:=fun z:Int=>[.int .i64 z]) (ok:=InK .i64) (h1:=fun _=>rfl) (h2:=fun _=>rfl) (k:=1) Try.underlying50 inf3 rfl (by decide) (by decide) (by decide) (.c (x:=((i:Nat):Int)) rfl rfl (fun _ _=>by exact zo.2 (by omega)) .n)) (fun u8_1 _=> ?_)
      refine zcb 0 rfl .z ?_
      exact zp (hD4 u8_1) (by kernel_rfl) ((.of rfl):SubM _ _) .rfl .rfl ((.of [0,0,0,3,4] rfl):SelR _ _ _)
    refine zL (X:=Nat) (k':=5) (L':=(lb 11 411)) (fun u8_1=>([(30,.slice (some ⟨u8_1,0,none⟩) 1 1),(29,.int .i64 ((i:Nat):Int)),(26,.agg #[.int .i64 ((F.getD i (0,0,0)).2.2),.int .i64 ((F.getD i (0,0,0)).1)]),(25,.map (some b2)),(23,.agg #[.int .i64 ((F.getD i (0,0,0)).2.2),.int .i64 ((F.getD i (0,0,0)).1)]),(22,.map (some b2)),(7,.pointer (some ⟨b10,0,none⟩)),(21,.agg #[.int .i64 ((F.getD i (0,0,0)).2.2),.int .i64 ((F.getD i (0,0,0)).1)]),(20,.bool true),(19,.int .i64 2),(32,.int .i64 2),(31,.slice u9_1 (lz1.length+1) u9_2),(28,.slice pz1 (lz1.length) cz1),(27,.agg #[.int .i64 qd1,.int .i64 qd2]),(24,.agg #[.int .i64 qd1,.int .i64 qd2]),(18,.agg #[.int .i64 ((F.getD i (0,0,0)).1),.int .i64 ((F.getD i (0,0,0)).2.1),.int .i64 ((F.getD i (0,0,0)).2.1),.int .i64 ((F.getD i (0,0,0)).2.2),.int .i64 ((F.getD i (0,0,0)).2.2),.int .i64 ((F.getD i (0,0,0)).1)]),(4,.int .i64 ((i:Nat):Int)),(12,.int .i64 ((i:Nat):Int)),(11,.int .i64 ((nf:Nat):Int)),(10,.slice pf nf cf),(3,.map (some b2)),(2,.map none)],[rowA 3 (rI .i64) pz2 cz2 lz2,mapA b2 (fun z:Int×Int=> .agg #[.int .i64 z.1,.int .i64 z.2]) (fun z:Option Addr×Nat×Nat=> .slice z.1 z.2.1 z.2.2) (fun z=>InK .i64 z.1∧InK .i64 z.2) raw2],[emA,allA (mrest 3 (rI .i64) ((min ((F.getD i (0,0,0)).2.2) ((F.getD i (0,0,0)).1)),(max ((F.getD i (0,0,0)).2.2) ((F.getD i (0,0,0)).1))) raw2 Mq1),boxA b10 73 [.int .i64 ((F.getD i (0,0,0)).2.2),.int .i64 ((F.getD i (0,0,0)).1)],emA,boxA b9 73 [.int .i64 ((F.getD i (0,0,0)).2.1),.int .i64 ((F.getD i (0,0,0)).2.2)],emA,boxA b8 73 [.int .i64 ((F.getD i (0,0,0)).1),.int .i64 ((F.getD i (0,0,0)).2.1)],boxA b7 44 [.int .i64 ((F.getD i (0,0,0)).1),.int .i64 ((F.getD i (0,0,0)).2.1),.int .i64 ((F.getD i (0,0,0)).2.2)],boxA b1 25 [.slice pv nv cv,.slice pf nf cf]],[slF (rI .i64) (some ⟨u8_1,0,none⟩) 1 ([((i:Nat):Int)]),slF (rI .i64) (some ⟨u8_1,0,none⟩) 1 ([((i:Nat):Int)]),slF (rI .i64) (some ⟨u8_1,0,none⟩) 1 ([((i:Nat):Int)]),slF (rI3 .i64) pv cv V,slF (rI3 .i64) pf cf F])) ?_ (fun hD6=> ?_)
    ·
     rintro u8_1
     dsimp only
     refine zE 2 (by kernel_rfl) ?_
     ·
      refine zqa rfl rfl rfl rfl (.c rfl .n) ce75 (zUa (ex:=((F.getD i (0,0,0)).2.2)) (ey:=((F.getD i (0,0,0)).1))) (.n) ?_
      exact zp (hD4 u8_1) (by kernel_rfl) ((.of rfl):SubM _ _) .rfl .rfl ((.of [0,0,0,3,4] rfl):SelR _ _ _)
    refine zMa 2 8 (by kernel_rfl) ?_ ?_
    ·
     refine zqa rfl rfl rfl rfl (.c rfl .n) ce75 (zUa (ex:=((F.getD i (0,0,0)).2.2)) (ey:=((F.getD i (0,0,0)).1))) (.n) ?_
     exact zp (hD5 ()) (by kernel_rfl) ((.of rfl):SubM _ _) .rfl .rfl ((.of [0,0,2,3] rfl):SelR _ _ _)
    ·
     refine zYb rfl rfl rfl rfl (zJ (enc:=fun z:Int=>[.int .i64 z]) (ok:=InK .i64) (h1:=fun _=>rfl) (h2:=fun _=>rfl) (k:=1) Try.underlying50 inf3 rfl (by decide) (by decide) (by decide) (.c (x:=((i:Nat):Int)) rfl rfl (fun _ _=>by exact zo.2 (by omega)) .n)) (fun u8_1 _=> ?_)
     refine zcb 0 rfl .z ?_
     exact zp (hD6 u8_1) (by kernel_rfl) ((.of rfl):SubM _ _) .rfl .rfl ((.of [0,0,0,3,4] rfl):SelR _ _ _)
   refine zL (X:=Nat×Option Addr×Nat) (k':=1) (L':=(lb 11 1023)) (fun (u8_1,u9_1,u9_2)=>([(31,.slice u9_1 (lz1.length+1) u9_2),(30,.slice (some ⟨u8_1,0,none⟩) 1 1),(28,.slice pz1 (lz1.length) cz1),(27,.agg #[.int .i64 (min ((F.getD i (0,0,0)).2.1) ((F.getD i (0,0,0)).2.2)),.int .i64 (max ((F.getD i (0,0,0)).2.1) ((F.getD i (0,0,0)).2.2))]),(24,.agg #[.int .i64 (min ((F.getD i (0,0,0)).2.1) ((F.getD i (0,0,0)).2.2)),.int .i64 (max ((F.getD i (0,0,0)).2.1) ((F.getD i (0,0,0)).2.2))]),(29,.int .i64 ((i:Nat):Int)),(26,.agg #[.int .i64 ((F.getD i (0,0,0)).2.1),.int .i64 ((F.getD i (0,0,0)).2.2)]),(25,.map (some b2)),(23,.agg #[.int .i64 ((F.getD i (0,0,0)).2.1),.int .i64 ((F.getD i (0,0,0)).2.2)]),(22,.map (some b2)),(7,.pointer (some ⟨b9,0,none⟩)),(21,.agg #[.int .i64 ((F.getD i (0,0,0)).2.1),.int .i64 ((F.getD i (0,0,0)).2.2)]),(20,.bool true),(19,.int .i64 1),(32,.int .i64 1),(18,.agg #[.int .i64 ((F.getD i (0,0,0)).1),.int .i64 ((F.getD i (0,0,0)).2.1),.int .i64 ((F.getD i (0,0,0)).2.1),.int .i64 ((F.getD i (0,0,0)).2.2),.int .i64 ((F.getD i (0,0,0)).2.2),.int .i64 ((F.getD i (0,0,0)).1)]),(4,.int .i64 ((i:Nat):Int)),(12,.int .i64 ((i:Nat):Int)),(11,.int .i64 ((nf:Nat):Int)),(10,.slice pf nf cf),(3,.map (some b2)),(2,.map none)],[rowA 3 (rI .i64) u9_1 u9_2 (lz1++([((i:Nat):Int)])),mapA b2 (fun z:Int×Int=> .agg #[.int .i64 z.1,.int .i64 z.2]) (fun z:Option Addr×Nat×Nat=> .slice z.1 z.2.1 z.2.2) (fun z=>InK .i64 z.1∧InK .i64 z.2) raw1],[emA,allA (mrest 3 (rI .i64) ((min ((F.getD i (0,0,0)).2.1) ((F.getD i (0,0,0)).2.2)),(max ((F.getD i (0,0,0)).2.1) ((F.getD i (0,0,0)).2.2))) raw1 Mq0),boxA b9 73 [.int .i64 ((F.getD i (0,0,0)).2.1),.int .i64 ((F.getD i (0,0,0)).2.2)],emA,boxA b8 73 [.int .i64 ((F.getD i (0,0,0)).1),.int .i64 ((F.getD i (0,0,0)).2.1)],boxA b7 44 [.int .i64 ((F.getD i (0,0,0)).1),.int .i64 ((F.getD i (0,0,0)).2.1),.int .i64 ((F.getD i (0,0,0)).2.2)],boxA b1 25 [.slice pv nv cv,.slice pf nf cf]],[slF (rI .i64) (some ⟨u8_1,0,none⟩) 1 ([((i:Nat):Int)]),slF (rI .i64) (some ⟨u8_1,0,none⟩) 1 ([((i:Nat):Int)]),slF (rI3 .i64) pv cv V,slF (rI3 .i64) pf cf F])) ?_ (fun hD1=> ?_)
   ·
    rintro ⟨u8_1,u9_1,u9_2⟩
    dsimp only
    refine zE 10 (by kernel_rfl) ?_
    ·
     refine zzb (zia (i:=1) rfl)<|zTb (A':=fun _=>mapA b2 (fun z:Int×Int=> .agg #[.int .i64 z.1,.int .i64 z.2]) (fun z:Option Addr×Nat×Nat=> .slice z.1 z.2.1 z.2.2) (fun z=>InK .i64 z.1∧InK .i64 z.2) (mput raw1 ((min ((F.getD i (0,0,0)).2.1) ((F.getD i (0,0,0)).2.2)),(max ((F.getD i (0,0,0)).2.1) ((F.getD i (0,0,0)).2.2))) (u9_1,lz1.length+1,u9_2))) (by kernel_rfl) rfl rfl rfl (zya (a0:=((min ((F.getD i (0,0,0)).2.1) ((F.getD i (0,0,0)).2.2)),(max ((F.getD i (0,0,0)).2.1) ((F.getD i (0,0,0)).2.2)))) (v:=(u9_1,lz1.length+1,u9_2)) ky73 Try.underlying98 rfl rfl rfl (⟨zo.2 (by omega),zo.2 (by omega)⟩)) (fun _ _=> ?_)
     exact zp (hD0 (u8_1,u9_1,u9_2)) (by kernel_rfl) ((.of rfl):SubM _ _) .rfl .rfl ((.of [0,0,2,3] rfl):SelR _ _ _)
   refine zL (X:=Nat) (k':=2) (L':=(lb 11 511)) (fun u8_1=>([(30,.slice (some ⟨u8_1,0,none⟩) 1 1),(28,.slice pz1 (lz1.length) cz1),(27,.agg #[.int .i64 (min ((F.getD i (0,0,0)).2.1) ((F.getD i (0,0,0)).2.2)),.int .i64 (max ((F.getD i (0,0,0)).2.1) ((F.getD i (0,0,0)).2.2))]),(24,.agg #[.int .i64 (min ((F.getD i (0,0,0)).2.1) ((F.getD i (0,0,0)).2.2)),.int .i64 (max ((F.getD i (0,0,0)).2.1) ((F.getD i (0,0,0)).2.2))]),(29,.int .i64 ((i:Nat):Int)),(26,.agg #[.int .i64 ((F.getD i (0,0,0)).2.1),.int .i64 ((F.getD i (0,0,0)).2.2)]),(25,.map (some b2)),(23,.agg #[.int .i64 ((F.getD i (0,0,0)).2.1),.int .i64 ((F.getD i (0,0,0)).2.2)]),(22,.map (some b2)),(7,.pointer (some ⟨b9,0,none⟩)),(21,.agg #[.int .i64 ((F.getD i (0,0,0)).2.1),.int .i64 ((F.getD i (0,0,0)).2.2)]),(20,.bool true),(19,.int .i64 1),(32,.int .i64 1),(31,.slice u9_1 (lz0.length+1) u9_2),(18,.agg #[.int .i64 ((F.getD i (0,0,0)).1),.int .i64 ((F.getD i (0,0,0)).2.1),.int .i64 ((F.getD i (0,0,0)).2.1),.int .i64 ((F.getD i (0,0,0)).2.2),.int .i64 ((F.getD i (0,0,0)).2.2),.int .i64 ((F.getD i (0,0,0)).1)]),(4,.int .i64 ((i:Nat):Int)),(12,.int .i64 ((i:Nat):Int)),(11,.int .i64 ((nf:Nat):Int)),(10,.slice pf nf cf),(3,.map (some b2)),(2,.map none)],[rowA 3 (rI .i64) pz1 cz1 lz1,mapA b2 (fun z:Int×Int=> .agg #[.int .i64 z.1,.int .i64 z.2]) (fun z:Option Addr×Nat×Nat=> .slice z.1 z.2.1 z.2.2) (fun z=>InK .i64 z.1∧InK .i64 z.2) raw1],[emA,allA (mrest 3 (rI .i64) ((min ((F.getD i (0,0,0)).2.1) ((F.getD i (0,0,0)).2.2)),(max ((F.getD i (0,0,0)).2.1) ((F.getD i (0,0,0)).2.2))) raw1 Mq0),boxA b9 73 [.int .i64 ((F.getD i (0,0,0)).2.1),.int .i64 ((F.getD i (0,0,0)).2.2)],emA,boxA b8 73 [.int .i64 ((F.getD i (0,0,0)).1),.int .i64 ((F.getD i (0,0,0)).2.1)],boxA b7 44 [.int .i64 ((F.getD i (0,0,0)).1),.int .i64 ((F.getD i (0,0,0)).2.1),.int .i64 ((F.getD i (0,0,0)).2.2)],boxA b1 25 [.slice pv nv cv,.slice pf nf cf]],[slF (rI .i64) (some ⟨u8_1,0,none⟩) 1 ([((i:Nat):Int)]),slF (rI .i64) (some ⟨u8_1,0,none⟩) 1 ([((i:Nat):Int)]),slF (rI3 .i64) pv cv V,slF (rI3 .i64) pf cf F])) ?_ (fun hD2=> ?_)
   ·
    rintro u8_1
    dsimp only
    refine zE 9 (by kernel_rfl) ?_
    ·
     refine zTb (A':=fun v:Option Addr×Nat=>rowA 3 (rI .i64) v.1 v.2 (lz1++([((i:Nat):Int)]))) (by kernel_rfl) rfl rfl rfl (zsa 0 rfl Try.underlying50 inf3 (by decide) rfl rfl (by first|rfl|assumption|(simp;done)|omega) rfl (by first|rfl|assumption|(simp;done)|omega) (by omega) (by omega)) ?_
     rintro ⟨u9_1,u9_2⟩ -
     dsimp only [List.append_eq,List.nil_append,List.cons_append]
     exact zp (hD1 (u8_1,u9_1,u9_2)) (by kernel_rfl) ((.of rfl):SubM _ _) .rfl .rfl ((.of [0,0,2,3] rfl):SelR _ _ _)
   refine zL (X:=Unit) (k':=3) (L':=(lb 11 255)) (fun _=>([(28,.slice pz1 (lz1.length) cz1),(27,.agg #[.int .i64 (min ((F.getD i (0,0,0)).2.1) ((F.getD i (0,0,0)).2.2)),.int .i64 (max ((F.getD i (0,0,0)).2.1) ((F.getD i (0,0,0)).2.2))]),(24,.agg #[.int .i64 (min ((F.getD i (0,0,0)).2.1) ((F.getD i (0,0,0)).2.2)),.int .i64 (max ((F.getD i (0,0,0)).2.1) ((F.getD i (0,0,0)).2.2))]),(29,.int .i64 ((i:Nat):Int)),(26,.agg #[.int .i64 ((F.getD i (0,0,0)).2.1),.int .i64 ((F.getD i (0,0,0)).2.2)]),(25,.map (some b2)),(23,.agg #[.int .i64 ((F.getD i (0,0,0)).2.1),.int .i64 ((F.getD i (0,0,0)).2.2)]),(22,.map (some b2)),(7,.pointer (some ⟨b9,0,none⟩)),(21,.agg #[.int .i64 ((F.getD i (0,0,0)).2.1),.int .i64 ((F.getD i (0,0,0)).2.2)]),(20,.bool true),(19,.int .i64 1),(32,.int .i64 1),(31,.slice u9_1 (lz0.length+1) u9_2),(30,.slice (some ⟨u8_1,0,none⟩) 1 1),(18,.agg #[.int .i64 ((F.getD i (0,0,0)).1),.int .i64 ((F.getD i (0,0,0)).2.1),.int .i64 ((F.getD i (0,0,0)).2.1),.int .i64 ((F.getD i (0,0,0)).2.2),.int .i64 ((F.getD i (0,0,0)).2.2),.int .i64 ((F.getD i (0,0,0)).1)]),(4,.int .i64 ((i:Nat):Int)),(12,.int .i64 ((i:Nat):Int)),(11,.int .i64 ((nf:Nat):Int)),(10,.slice pf nf cf),(3,.map (some b2)),(2,.map none)],[rowA 3 (rI .i64) pz1 cz1 lz1,mapA b2 (fun z:Int×Int=> .agg #[.int .i64 z.1,.int .i64 z.2]) (fun z:Option Addr×Nat×Nat=> .slice z.1 z.2.1 z.2.2) (fun z=>InK .i64 z.1∧InK .i64 z.2) raw1],[allA (mrest 3 (rI .i64) ((min ((F.getD i (0,0,0)).2.1) ((F.getD i (0,0,0)).2.2)),(max ((F.getD i (0,0,0)).2.1) ((F.getD i (0,0,0)).2.2))) raw1 Mq0),boxA b9 73 [.int .i64 ((F.getD i (0,0,0)).2.1),.int .i64 ((F.getD i (0,0,0)).2.2)],emA,boxA b8 73 [.int .i64 ((F.getD i (0,0,0)).1),.int .i64 ((F.getD i (0,0,0)).2.1)],boxA b7 44 [.int .i64 ((F.getD i (0,0,0)).1),.int .i64 ((F.getD i (0,0,0)).2.1),.int .i64 ((F.getD i (0,0,0)).2.2)],boxA b1 25 [.slice pv nv cv,.slice pf nf cf]],[slF (rI .i64) (some ⟨u8_1,0,none⟩) 1 ([((i:Nat):Int)]),slF (rI3 .i64) pv cv V,slF (rI3 .i64) pf cf F])) ?_ (fun hD3=> ?_)
   ·
    rintro ⟨⟩
    dsimp only
    refine zE 8 (by kernel_rfl) ?_
    ·
     refine zYb rfl rfl rfl rfl (zJ (enc:=fun z:Int=>[.int .i64 z]) (ok:=InK .i64) (h1:=fun _=>rfl) (h2:=fun _=>rfl) (k:=1) Try.underlying50 inf3 rfl (by decide) (by decide) (by decide) (.c (x:=((i:Nat):Int)) rfl rfl (fun _ _=>by exact zo.2 (by omega)) .n)) (fun u8_1 _=> ?_)
     refine zcb 0 rfl .z ?_
     exact zp (hD2 u8_1) (by kernel_rfl) ((.of rfl):SubM _ _) .rfl .rfl ((.of [0,0,2,3] rfl):SelR _ _ _)
   refine zL (X:=Nat) (k':=4) (L':=(lb 11 415)) (fun u8_1=>([(30,.slice (some ⟨u8_1,0,none⟩) 1 1),(24,.agg #[.int .i64 (min ((F.getD i (0,0,0)).2.1) ((F.getD i (0,0,0)).2.2)),.int .i64 (max ((F.getD i (0,0,0)).2.1) ((F.getD i (0,0,0)).2.2))]),(29,.int .i64 ((i:Nat):Int)),(26,.agg #[.int .i64 ((F.getD i (0,0,0)).2.1),.int .i64 ((F.getD i (0,0,0)).2.2)]),(25,.map (some b2)),(23,.agg #[.int .i64 ((F.getD i (0,0,0)).2.1),.int .i64 ((F.getD i (0,0,0)).2.2)]),(22,.map (some b2)),(7,.pointer (some ⟨b9,0,none⟩)),(21,.agg #[.int .i64 ((F.getD i (0,0,0)).2.1),.int .i64 ((F.getD i (0,0,0)).2.2)]),(20,.bool true),(19,.int .i64 1),(32,.int .i64 1),(31,.slice u9_1 (lz0.length+1) u9_2),(28,.slice pz0 (lz0.length) cz0),(27,.agg #[.int .i64 qd1,.int .i64 qd2]),(18,.agg #[.int .i64 ((F.getD i (0,0,0)).1),.int .i64 ((F.getD i (0,0,0)).2.1),.int .i64 ((F.getD i (0,0,0)).2.1),.int .i64 ((F.getD i (0,0,0)).2.2),.int .i64 ((F.getD i (0,0,0)).2.2),.int .i64 ((F.getD i (0,0,0)).1)]),(4,.int .i64 ((i:Nat):Int)),(12,.int .i64 ((i:Nat):Int)),(11,.int .i64 ((nf:Nat):Int)),(10,.slice pf nf cf),(3,.map (some b2)),(2,.map none)],[rowA 3 (rI .i64) pz1 cz1 lz1,mapA b2 (fun z:Int×Int=> .agg #[.int .i64 z.1,.int .i64 z.2]) (fun z:Option Addr×Nat×Nat=> .slice z.1 z.2.1 z.2.2) (fun z=>InK .i64 z.1∧InK .i64 z.2) raw1],[emA,allA (mrest 3 (rI .i64) ((min ((F.getD i (0,0,0)).2.1) ((F.getD i (0,0,0)).2.2)),(max ((F.getD i (0,0,0)).2.1) ((F.getD i (0,0,0)).2.2))) raw1 Mq0),boxA b9 73 [.int .i64 ((F.getD i (0,0,0)).2.1),.int .i64 ((F.getD i (0,0,0)).2.2)],emA,boxA b8 73 [.int .i64 ((F.getD i (0,0,0)).1),.int .i64 ((F.getD i (0,0,0)).2.1)],boxA b7 44 [.int .i64 ((F.getD i (0,0,0)).1),.int .i64 ((F.getD i (0,0,0)).2.1),.int .i64 ((F.getD i (0,0,0)).2.2)],boxA b1 25 [.slice pv nv cv,.slice pf nf cf]],[slF (rI .i64) (some ⟨u8_1,0,none⟩) 1 ([((i:Nat):Int)]),slF (rI .i64) (some ⟨u8_1,0,none⟩) 1 ([((i:Nat):Int)]),slF (rI3 .i64) pv cv V,slF (rI3 .i64) pf cf F])) ?_ (fun hD4=> ?_)
   ·
    rintro u8_1
    dsimp only
    refine zE 5 (by kernel_rfl) ?_
    ·
     refine zqa rfl rfl rfl rfl (.c rfl .n) ce75 (zUa (ex:=((F.getD i (0,0,0)).2.1)) (ey:=((F.getD i (0,0,0)).2.2))) (.n)<|d_uw 6 rfl rfl (by kernel_rfl) (by kernel_rfl) (by kernel_rfl) rfl rfl (zFa (z:=(none,0,0)) (a0:=((min ((F.getD i (0,0,0)).2.1) ((F.getD i (0,0,0)).2.2)),(max ((F.getD i (0,0,0)).2.1) ((F.getD i (0,0,0)).2.2)))) (v:= .slice pz1 (lz1.length) cz1) 1 rfl ky73 Try.underlying98 zr50 rfl rfl (⟨zo.2 (by omega),zo.2 (by omega)⟩) (by rw [hgt1])) ?_
     exact zp (hD2 u8_1) (by kernel_rfl) ((.of rfl):SubM _ _) .rfl .rfl ((.of [0,0,2,3] rfl):SelR _ _ _)
   refine zL (X:=Unit) (k':=5) (L':=(lb 11 159)) (fun _=>([(24,.agg #[.int .i64 (min ((F.getD i (0,0,0)).2.1) ((F.getD i (0,0,0)).2.2)),.int .i64 (max ((F.getD i (0,0,0)).2.1) ((F.getD i (0,0,0)).2.2))]),(29,.int .i64 ((i:Nat):Int)),(26,.agg #[.int .i64 ((F.getD i (0,0,0)).2.1),.int .i64 ((F.getD i (0,0,0)).2.2)]),(25,.map (some b2)),(23,.agg #[.int .i64 ((F.getD i (0,0,0)).2.1),.int .i64 ((F.getD i (0,0,0)).2.2)]),(22,.map (some b2)),(7,.pointer (some ⟨b9,0,none⟩)),(21,.agg #[.int .i64 ((F.getD i (0,0,0)).2.1),.int .i64 ((F.getD i (0,0,0)).2.2)]),(20,.bool true),(19,.int .i64 1),(32,.int .i64 1),(31,.slice u9_1 (lz0.length+1) u9_2),(30,.slice (some ⟨u8_1,0,none⟩) 1 1),(28,.slice pz0 (lz0.length) cz0),(27,.agg #[.int .i64 qd1,.int .i64 qd2]),(18,.agg #[.int .i64 ((F.getD i (0,0,0)).1),.int .i64 ((F.getD i (0,0,0)).2.1),.int .i64 ((F.getD i (0,0,0)).2.1),.int .i64 ((F.getD i (0,0,0)).2.2),.int .i64 ((F.getD i (0,0,0)).2.2),.int .i64 ((F.getD i (0,0,0)).1)]),(4,.int .i64 ((i:Nat):Int)),(12,.int .i64 ((i:Nat):Int)),(11,.int .i64 ((nf:Nat):Int)),(10,.slice pf nf cf),(3,.map (some b2)),(2,.map none)],[rowA 3 (rI .i64) pz1 cz1 lz1,mapA b2 (fun z:Int×Int=> .agg #[.int .i64 z.1,.int .i64 z.2]) (fun z:Option Addr×Nat×Nat=> .slice z.1 z.2.1 z.2.2) (fun z=>InK .i64 z.1∧InK .i64 z.2) raw1],[allA (mrest 3 (rI .i64) ((min ((F.getD i (0,0,0)).2.1) ((F.getD i (0,0,0)).2.2)),(max ((F.getD i (0,0,0)).2.1) ((F.getD i (0,0,0)).2.2))) raw1 Mq0),boxA b9 73 [.int .i64 ((F.getD i (0,0,0)).2.1),.int .i64 ((F.getD i (0,0,0)).2.2)],emA,boxA b8 73 [.int .i64 ((F.getD i (0,0,0)).1),.int .i64 ((F.getD i (0,0,0)).2.1)],boxA b7 44 [.int .i64 ((F.getD i (0,0,0)).1),.int .i64 ((F.getD i (0,0,0)).2.1),.int .i64 ((F.getD i (0,0,0)).2.2)],boxA b1 25 [.slice pv nv cv,.slice pf nf cf]],[slF (rI .i64) (some ⟨u8_1,0,none⟩) 1 ([((i:Nat):Int)]),slF (rI3 .i64) pv cv V,slF (rI3 .i64) pf cf F])) ?_ (fun hD5=> ?_)
   ·
    rintro ⟨⟩
    dsimp only
    refine zMa 5 8 (by kernel_rfl) ?_ ?_
    ·
     refine zqa rfl rfl rfl rfl (.c rfl .n) ce75 (zUa (ex:=((F.getD i (0,0,0)).2.1)) (ey:=((F.getD i (0,0,0)).2.2))) (.n)<|d_uw 6 rfl rfl (by kernel_rfl) (by kernel_rfl) (by kernel_rfl) rfl rfl (zFa (z:=(none,0,0)) (a0:=((min ((F.getD i (0,0,0)).2.1) ((F.getD i (0,0,0)).2.2)),(max ((F.getD i (0,0,0)).2.1) ((F.getD i (0,0,0)).2.2)))) (v:= .slice pz1 (lz1.length) cz1) 1 rfl ky73 Try.underlying98 zr50 rfl rfl (⟨zo.2 (by omega),zo.2 (by omega)⟩) (by rw [hgt1])) ?_
     exact zp (hD3 ()) (by kernel_rfl) ((.of rfl):SubM _ _) .rfl .rfl ((.of [0,1,2] rfl):SelR _ _ _)
    ·
     refine zYb rfl rfl rfl rfl (zJ (enc:=fun z:Int=>[.int .i64 z]) (ok:=InK .i64) (h1:=fun _=>rfl) (h2:=fun _=>rfl) (k:=1) Try.underlying50 inf3 rfl (by decide) (by decide) (by decide) (.c (x:=((i:Nat):Int)) rfl rfl (fun _ _=>by exact zo.2 (by omega)) .n)) (fun u8_1 _=> ?_)
     refine zcb 0 rfl .z ?_
     exact zp (hD4 u8_1) (by kernel_rfl) ((.of rfl):SubM _ _) .rfl .rfl ((.of [0,0,2,3] rfl):SelR _ _ _)
   refine zL (X:=Nat) (k':=5) (L':=(lb 11 411)) (fun u8_1=>([(30,.slice (some ⟨u8_1,0,none⟩) 1 1),(29,.int .i64 ((i:Nat):Int)),(26,.agg #[.int .i64 ((F.getD i (0,0,0)).2.1),.int .i64 ((F.getD i (0,0,0)).2.2)]),(25,.map (some b2)),(23,.agg #[.int .i64 ((F.getD i (0,0,0)).2.1),.int .i64 ((F.getD i (0,0,0)).2.2)]),(22,.map (some b2)),(7,.pointer (some ⟨b9,0,none⟩)),(21,.agg #[.int .i64 ((F.getD i (0,0,0)).2.1),.int .i64 ((F.getD i (0,0,0)).2.2)]),(20,.bool true),(19,.int .i64 1),(32,.int .i64 1),(31,.slice u9_1 (lz0.length+1) u9_2),(28,.slice pz0 (lz0.length) cz0),(27,.agg #[.int .i64 qd1,.int .i64 qd2]),(24,.agg #[.int .i64 qd1,.int .i64 qd2]),(18,.agg #[.int .i64 ((F.getD i (0,0,0)).1),.int .i64 ((F.getD i (0,0,0)).2.1),.int .i64 ((F.getD i (0,0,0)).2.1),.int .i64 ((F.getD i (0,0,0)).2.2),.int .i64 ((F.getD i (0,0,0)).2.2),.int .i64 ((F.getD i (0,0,0)).1)]),(4,.int .i64 ((i:Nat):Int)),(12,.int .i64 ((i:Nat):Int)),(11,.int .i64 ((nf:Nat):Int)),(10,.slice pf nf cf),(3,.map (some b2)),(2,.map none)],[rowA 3 (rI .i64) pz1 cz1 lz1,mapA b2 (fun z:Int×Int=> .agg #[.int .i64 z.1,.int .i64 z.2]) (fun z:Option Addr×Nat×Nat=> .slice z.1 z.2.1 z.2.2) (fun z=>InK .i64 z.1∧InK .i64 z.2) raw1],[emA,allA (mrest 3 (rI .i64) ((min ((F.getD i (0,0,0)).2.1) ((F.getD i (0,0,0)).2.2)),(max ((F.getD i (0,0,0)).2.1) ((F.getD i (0,0,0)).2.2))) raw1 Mq0),boxA b9 73 [.int .i64 ((F.getD i (0,0,0)).2.1),.int .i64 ((F.getD i (0,0,0)).2.2)],emA,boxA b8 73 [.int .i64 ((F.getD i (0,0,0)).1),.int .i64 ((F.getD i (0,0,0)).2.1)],boxA b7 44 [.int .i64 ((F.getD i (0,0,0)).1),.int .i64 ((F.getD i (0,0,0)).2.1),.int .i64 ((F.getD i (0,0,0)).2.2)],boxA b1 25 [.slice pv nv cv,.slice pf nf cf]],[slF (rI .i64) (some ⟨u8_1,0,none⟩) 1 ([((i:Nat):Int)]),slF (rI .i64) (some ⟨u8_1,0,none⟩) 1 ([((i:Nat):Int)]),slF (rI3 .i64) pv cv V,slF (rI3 .i64) pf cf F])) ?_ (fun hD6=> ?_)
   ·
    rintro u8_1
    dsimp only
    refine zE 2 (by kernel_rfl) ?_
    ·
     refine zqa rfl rfl rfl rfl (.c rfl .n) ce75 (zUa (ex:=((F.getD i (0,0,0)).2.1)) (ey:=((F.getD i (0,0,0)).2.2))) (.n) ?_
     exact zp (hD4 u8_1) (by kernel_rfl) ((.of rfl):SubM _ _) .rfl .rfl ((.of [0,0,2,3] rfl):SelR _ _ _)
   refine zMa 2 8 (by kernel_rfl) ?_ ?_
   ·
    refine zqa rfl rfl rfl rfl (.c rfl .n) ce75 (zUa (ex:=((F.getD i (0,0,0)).2.1)) (ey:=((F.getD i (0,0,0)).2.2))) (.n) ?_
    exact zp (hD5 ()) (by kernel_rfl) ((.of rfl):SubM _ _) .rfl .rfl ((.of [0,1,2] rfl):SelR _ _ _)
   ·
    refine zYb rfl rfl rfl rfl (zJ (enc:=fun z:Int=>[.int .i64 z]) (ok:=InK .i64) (h1:=fun _=>rfl) (h2:=fun _=>rfl) (k:=1) Try.underlying50 inf3 rfl (by decide) (by decide) (by decide) (.c (x:=((i:Nat):Int)) rfl rfl (fun _ _=>by exact zo.2 (by omega)) .n)) (fun u8_1 _=> ?_)
    refine zcb 0 rfl .z ?_
    exact zp (hD6 u8_1) (by kernel_rfl) ((.of rfl):SubM _ _) .rfl .rfl ((.of [0,0,2,3] rfl):SelR _ _ _)
  refine zL (X:=Nat×Option Addr×Nat) (k':=1) (L':=(lb 11 1023)) (fun (u8_1,u9_1,u9_2)=>([(31,.slice u9_1 (lz0.length+1) u9_2),(30,.slice (some ⟨u8_1,0,none⟩) 1 1),(28,.slice pz0 (lz0.length) cz0),(27,.agg #[.int .i64 (min ((F.getD i (0,0,0)).1) ((F.getD i (0,0,0)).2.1)),.int .i64 (max ((F.getD i (0,0,0)).1) ((F.getD i (0,0,0)).2.1))]),(24,.agg #[.int .i64 (min ((F.getD i (0,0,0)).1) ((F.getD i (0,0,0)).2.1)),.int .i64 (max ((F.getD i (0,0,0)).1) ((F.getD i (0,0,0)).2.1))]),(29,.int .i64 ((i:Nat):Int)),(26,.agg #[.int .i64 ((F.getD i (0,0,0)).1),.int .i64 ((F.getD i (0,0,0)).2.1)]),(25,.map (some b2)),(23,.agg #[.int .i64 ((F.getD i (0,0,0)).1),.int .i64 ((F.getD i (0,0,0)).2.1)]),(22,.map (some b2)),(7,.pointer (some ⟨b8,0,none⟩)),(21,.agg #[.int .i64 ((F.getD i (0,0,0)).1),.int .i64 ((F.getD i (0,0,0)).2.1)]),(20,.bool true),(19,.int .i64 0),(18,.agg #[.int .i64 ((F.getD i (0,0,0)).1),.int .i64 ((F.getD i (0,0,0)).2.1),.int .i64 ((F.getD i (0,0,0)).2.1),.int .i64 ((F.getD i (0,0,0)).2.2),.int .i64 ((F.getD i (0,0,0)).2.2),.int .i64 ((F.getD i (0,0,0)).1)]),(4,.int .i64 ((i:Nat):Int)),(12,.int .i64 ((i:Nat):Int)),(11,.int .i64 ((nf:Nat):Int)),(10,.slice pf nf cf),(3,.map (some b2)),(2,.map none)],[rowA 3 (rI .i64) u9_1 u9_2 (lz0++([((i:Nat):Int)])),mapA b2 (fun z:Int×Int=> .agg #[.int .i64 z.1,.int .i64 z.2]) (fun z:Option Addr×Nat×Nat=> .slice z.1 z.2.1 z.2.2) (fun z=>InK .i64 z.1∧InK .i64 z.2) raw0],[emA,allA (mrest 3 (rI .i64) ((min ((F.getD i (0,0,0)).1) ((F.getD i (0,0,0)).2.1)),(max ((F.getD i (0,0,0)).1) ((F.getD i (0,0,0)).2.1))) raw0 (Ms.sides (F.take i))),boxA b8 73 [.int .i64 ((F.getD i (0,0,0)).1),.int .i64 ((F.getD i (0,0,0)).2.1)],boxA b7 44 [.int .i64 ((F.getD i (0,0,0)).1),.int .i64 ((F.getD i (0,0,0)).2.1),.int .i64 ((F.getD i (0,0,0)).2.2)],boxA b1 25 [.slice pv nv cv,.slice pf nf cf]],[slF (rI .i64) (some ⟨u8_1,0,none⟩) 1 ([((i:Nat):Int)]),slF (rI3 .i64) pv cv V,slF (rI3 .i64) pf cf F])) ?_ (fun hD1=> ?_)
  ·
   rintro ⟨u8_1,u9_1,u9_2⟩
   dsimp only
   refine zE 10 (by kernel_rfl) ?_
   ·
    refine zzb (zia (i:=1) rfl)<|zTb (A':=fun _=>mapA b2 (fun z:Int×Int=> .agg #[.int .i64 z.1,.int .i64 z.2]) (fun z:Option Addr×Nat×Nat=> .slice z.1 z.2.1 z.2.2) (fun z=>InK .i64 z.1∧InK .i64 z.2) (mput raw0 ((min ((F.getD i (0,0,0)).1) ((F.getD i (0,0,0)).2.1)),(max ((F.getD i (0,0,0)).1) ((F.getD i (0,0,0)).2.1))) (u9_1,lz0.length+1,u9_2))) (by kernel_rfl) rfl rfl rfl (zya (a0:=((min ((F.getD i (0,0,0)).1) ((F.getD i (0,0,0)).2.1)),(max ((F.getD i (0,0,0)).1) ((F.getD i (0,0,0)).2.1)))) (v:=(u9_1,lz0.length+1,u9_2)) ky73 Try.underlying98 rfl rfl rfl (⟨zo.2 (by omega),zo.2 (by omega)⟩)) (fun _ _=> ?_)
    exact zp (hD0 (u8_1,u9_1,u9_2)) (by kernel_rfl) ((.of rfl):SubM _ _) .rfl .rfl ((.of [0,1,2] rfl):SelR _ _ _)
  refine zL (X:=Nat) (k':=2) (L':=(lb 11 511)) (fun u8_1=>([(30,.slice (some ⟨u8_1,0,none⟩) 1 1),(28,.slice pz0 (lz0.length) cz0),(27,.agg #[.int .i64 (min ((F.getD i (0,0,0)).1) ((F.getD i (0,0,0)).2.1)),.int .i64 (max ((F.getD i (0,0,0)).1) ((F.getD i (0,0,0)).2.1))]),(24,.agg #[.int .i64 (min ((F.getD i (0,0,0)).1) ((F.getD i (0,0,0)).2.1)),.int .i64 (max ((F.getD i (0,0,0)).1) ((F.getD i (0,0,0)).2.1))]),(29,.int .i64 ((i:Nat):Int)),(26,.agg #[.int .i64 ((F.getD i (0,0,0)).1),.int .i64 ((F.getD i (0,0,0)).2.1)]),(25,.map (some b2)),(23,.agg #[.int .i64 ((F.getD i (0,0,0)).1),.int .i64 ((F.getD i (0,0,0)).2.1)]),(22,.map (some b2)),(7,.pointer (some ⟨b8,0,none⟩)),(21,.agg #[.int .i64 ((F.getD i (0,0,0)).1),.int .i64 ((F.getD i (0,0,0)).2.1)]),(20,.bool true),(19,.int .i64 0),(18,.agg #[.int .i64 ((F.getD i (0,0,0)).1),.int .i64 ((F.getD i (0,0,0)).2.1),.int .i64 ((F.getD i (0,0,0)).2.1),.int .i64 ((F.getD i (0,0,0)).2.2),.int .i64 ((F.getD i (0,0,0)).2.2),.int .i64 ((F.getD i (0,0,0)).1)]),(4,.int .i64 ((i:Nat):Int)),(12,.int .i64 ((i:Nat):Int)),(11,.int .i64 ((nf:Nat):Int)),(10,.slice pf nf cf),(3,.map (some b2)),(2,.map none)],[rowA 3 (rI .i64) pz0 cz0 lz0,mapA b2 (fun z:Int×Int=> .agg #[.int .i64 z.1,.int .i64 z.2]) (fun z:Option Addr×Nat×Nat=> .slice z.1 z.2.1 z.2.2) (fun z=>InK .i64 z.1∧InK .i64 z.2) raw0],[emA,allA (mrest 3 (rI .i64) ((min ((F.getD i (0,0,0)).1) ((F.getD i (0,0,0)).2.1)),(max ((F.getD i (0,0,0)).1) ((F.getD i (0,0,0)).2.1))) raw0 (Ms.sides (F.take i))),boxA b8 73 [.int .i64 ((F.getD i (0,0,0)).1),.int .i64 ((F.getD i (0,0,0)).2.1)],boxA b7 44 [.int .i64 ((F.getD i (0,0,0)).1),.int .i64 ((F.getD i (0,0,0)).2.1),.int .i64 ((F.getD i (0,0,0)).2.2)],boxA b1 25 [.slice pv nv cv,.slice pf nf cf]],[slF (rI .i64) (some ⟨u8_1,0,none⟩) 1 ([((i:Nat):Int)]),slF (rI3 .i64) pv cv V,slF (rI3 .i64) pf cf F])) ?_ (fun hD2=> ?_)
  ·
   rintro u8_1
   dsimp only
   refine zE 9 (by kernel_rfl) ?_
   ·
    refine zTb (A':=fun v:Option Addr×Nat=>rowA 3 (rI .i64) v.1 v.2 (lz0++([((i:Nat):Int)]))) (by kernel_rfl) rfl rfl rfl (zsa 0 rfl Try.underlying50 inf3 (by decide) rfl rfl (by first|rfl|assumption|(simp;done)|omega) rfl (by first|rfl|assumption|(simp;done)|omega) (by omega) (by omega)) ?_
    rintro ⟨u9_1,u9_2⟩ -
    dsimp only [List.append_eq,List.nil_append,List.cons_append]
    exact zp (hD1 (u8_1,u9_1,u9_2)) (by kernel_rfl) ((.of rfl):SubM _ _) .rfl .rfl ((.of [0,1,2] rfl):SelR _ _ _)
  refine zL (X:=Unit) (k':=3) (L':=(lb 11 255)) (fun _=>([(28,.slice pz0 (lz0.length) cz0),(27,.agg #[.int .i64 (min ((F.getD i (0,0,0)).1) ((F.getD i (0,0,0)).2.1)),.int .i64 (max ((F.getD i (0,0,0)).1) ((F.getD i (0,0,0)).2.1))]),(24,.agg #[.int .i64 (min ((F.getD i (0,0,0)).1) ((F.getD i (0,0,0)).2.1)),.int .i64 (max ((F.getD i (0,0,0)).1) ((F.getD i (0,0,0)).2.1))]),(29,.int .i64 ((i:Nat):Int)),(26,.agg #[.int .i64 ((F.getD i (0,0,0)).1),.int .i64 ((F.getD i (0,0,0)).2.1)]),(25,.map (some b2)),(23,.agg #[.int .i64 ((F.getD i (0,0,0)).1),.int .i64 ((F.getD i (0,0,0)).2.1)]),(22,.map (some b2)),(7,.pointer (some ⟨b8,0,none⟩)),(21,.agg #[.int .i64 ((F.getD i (0,0,0)).1),.int .i64 ((F.getD i (0,0,0)).2.1)]),(20,.bool true),(19,.int .i64 0),(18,.agg #[.int .i64 ((F.getD i (0,0,0)).1),.int .i64 ((F.getD i (0,0,0)).2.1),.int .i64 ((F.getD i (0,0,0)).2.1),.int .i64 ((F.getD i (0,0,0)).2.2),.int .i64 ((F.getD i (0,0,0)).2.2),.int .i64 ((F.getD i (0,0,0)).1)]),(4,.int .i64 ((i:Nat):Int)),(12,.int .i64 ((i:Nat):Int)),(11,.int .i64 ((nf:Nat):Int)),(10,.slice pf nf cf),(3,.map (some b2)),(2,.map none)],[rowA 3 (rI .i64) pz0 cz0 lz0,mapA b2 (fun z:Int×Int=> .agg #[.int .i64 z.1,.int .i64 z.2]) (fun z:Option Addr×Nat×Nat=> .slice z.1 z.2.1 z.2.2) (fun z=>InK .i64 z.1∧InK .i64 z.2) raw0],[allA (mrest 3 (rI .i64) ((min ((F.getD i (0,0,0)).1) ((F.getD i (0,0,0)).2.1)),(max ((F.getD i (0,0,0)).1) ((F.getD i (0,0,0)).2.1))) raw0 (Ms.sides (F.take i))),boxA b8 73 [.int .i64 ((F.getD i (0,0,0)).1),.int .i64 ((F.getD i (0,0,0)).2.1)],boxA b7 44 [.int .i64 ((F.getD i (0,0,0)).1),.int .i64 ((F.getD i (0,0,0)).2.1),.int .i64 ((F.getD i (0,0,0)).2.2)],boxA b1 25 [.slice pv nv cv,.slice pf nf cf]],[slF (rI3 .i64) pv cv V,slF (rI3 .i64) pf cf F])) ?_ (fun hD3=> ?_)
  ·
   rintro ⟨⟩
   dsimp only
   refine zE 8 (by kernel_rfl) ?_
   ·
    refine zYb rfl rfl rfl rfl (zJ (enc:=fun z:Int=>[.int .i64 z]) (ok:=InK .i64) (h1:=fun _=>rfl) (h2:=fun _=>rfl) (k:=1) Try.underlying50 inf3 rfl (by decide) (by decide) (by decide) (.c (x:=((i:Nat):Int)) rfl rfl (fun _ _=>by exact zo.2 (by omega)) .n)) (fun u8_1 _=> ?_)
    refine zcb 0 rfl .z ?_
    exact zp (hD2 u8_1) (by kernel_rfl) ((.of rfl):SubM _ _) .rfl .rfl ((.of [0,1,2] rfl):SelR _ _ _)
  refine zL (X:=Nat) (k':=4) (L':=(lb 11 415)) (fun u8_1=>([(30,.slice (some ⟨u8_1,0,none⟩) 1 1),(24,.agg #[.int .i64 (min ((F.getD i (0,0,0)).1) ((F.getD i (0,0,0)).2.1)),.int .i64 (max ((F.getD i (0,0,0)).1) ((F.getD i (0,0,0)).2.1))]),(29,.int .i64 ((i:Nat):Int)),(26,.agg #[.int .i64 ((F.getD i (0,0,0)).1),.int .i64 ((F.getD i (0,0,0)).2.1)]),(25,.map (some b2)),(23,.agg #[.int .i64 ((F.getD i (0,0,0)).1),.int .i64 ((F.getD i (0,0,0)).2.1)]),(22,.map (some b2)),(7,.pointer (some ⟨b8,0,none⟩)),(21,.agg #[.int .i64 ((F.getD i (0,0,0)).1),.int .i64 ((F.getD i (0,0,0)).2.1)]),(20,.bool true),(19,.int .i64 0),(18,.agg #[.int .i64 ((F.getD i (0,0,0)).1),.int .i64 ((F.getD i (0,0,0)).2.1),.int .i64 ((F.getD i (0,0,0)).2.1),.int .i64 ((F.getD i (0,0,0)).2.2),.int .i64 ((F.getD i (0,0,0)).2.2),.int .i64 ((F.getD i (0,0,0)).1)]),(4,.int .i64 ((i:Nat):Int)),(12,.int .i64 ((i:Nat):Int)),(11,.int .i64 ((nf:Nat):Int)),(10,.slice pf nf cf),(3,.map (some b2)),(2,.map none)],[rowA 3 (rI .i64) pz0 cz0 lz0,mapA b2 (fun z:Int×Int=> .agg #[.int .i64 z.1,.int .i64 z.2]) (fun z:Option Addr×Nat×Nat=> .slice z.1 z.2.1 z.2.2) (fun z=>InK .i64 z.1∧InK .i64 z.2) raw0],[emA,allA (mrest 3 (rI .i64) ((min ((F.getD i (0,0,0)).1) ((F.getD i (0,0,0)).2.1)),(max ((F.getD i (0,0,0)).1) ((F.getD i (0,0,0)).2.1))) raw0 (Ms.sides (F.take i))),boxA b8 73 [.int .i64 ((F.getD i (0,0,0)).1),.int .i64 ((F.getD i (0,0,0)).2.1)],boxA b7 44 [.int .i64 ((F.getD i (0,0,0)).1),.int .i64 ((F.getD i (0,0,0)).2.1),.int .i64 ((F.getD i (0,0,0)).2.2)],boxA b1 25 [.slice pv nv cv,.slice pf nf cf]],[slF (rI .i64) (some ⟨u8_1,0,none⟩) 1 ([((i:Nat):Int)]),slF (rI3 .i64) pv cv V,slF (rI3 .i64) pf cf F])) ?_ (fun hD4=> ?_)
  ·
   rintro u8_1
   dsimp only
   refine zE 5 (by kernel_rfl) ?_
   ·
    refine zqa rfl rfl rfl rfl (.c rfl .n) ce75 (zUa (ex:=((F.getD i (0,0,0)).1)) (ey:=((F.getD i (0,0,0)).2.1))) (.n)<|d_uw 6 rfl rfl (by kernel_rfl) (by kernel_rfl) (by kernel_rfl) rfl rfl (zFa (z:=(none,0,0)) (a0:=((min ((F.getD i (0,0,0)).1) ((F.getD i (0,0,0)).2.1)),(max ((F.getD i (0,0,0)).1) ((F.getD i (0,0,0)).2.1)))) (v:= .slice pz0 (lz0.length) cz0) 1 rfl ky73 Try.underlying98 zr50 rfl rfl (⟨zo.2 (by omega),zo.2 (by omega)⟩) (by rw [hgt0])) ?_
    exact zp (hD2 u8_1) (by kernel_rfl) ((.of rfl):SubM _ _) .rfl .rfl ((.of [0,1,2] rfl):SelR _ _ _)
  refine zL (X:=Unit) (k':=5) (L':=(lb 11 159)) (fun _=>([(24,.agg #[.int .i64 (min ((F.getD i (0,0,0)).1) ((F.getD i (0,0,0)).2.1)),.int .i64 (max ((F.getD i (0,0,0)).1) ((F.getD i (0,0,0)).2.1))]),(29,.int .i64 ((i:Nat):Int)),(26,.agg #[.int .i64 ((F.getD i (0,0,0)).1),.int .i64 ((F.getD i (0,0,0)).2.1)]),(25,.map (some b2)),(23,.agg #[.int .i64 ((F.getD i (0,0,0)).1),.int .i64 ((F.getD i (0,0,0)).2.1)]),(22,.map (some b2)),(7,.pointer (some ⟨b8,0,none⟩)),(21,.agg #[.int .i64 ((F.getD i (0,0,0)).1),.int .i64 ((F.getD i (0,0,0)).2.1)]),(20,.bool true),(19,.int .i64 0),(18,.agg #[.int .i64 ((F.getD i (0,0,0)).1),.int .i64 ((F.getD i (0,0,0)).2.1),.int .i64 ((F.getD i (0,0,0)).2.1),.int .i64 ((F.getD i (0,0,0)).2.2),.int .i64 ((F.getD i (0,0,0)).2.2),.int .i64 ((F.getD i (0,0,0)).1)]),(4,.int .i64 ((i:Nat):Int)),(12,.int .i64 ((i:Nat):Int)),(11,.int .i64 ((nf:Nat):Int)),(10,.slice pf nf cf),(3,.map (some b2)),(2,.map none)],[rowA 3 (rI .i64) pz0 cz0 lz0,mapA b2 (fun z:Int×Int=> .agg #[.int .i64 z.1,.int .i64 z.2]) (fun z:Option Addr×Nat×Nat=> .slice z.1 z.2.1 z.2.2) (fun z=>InK .i64 z.1∧InK .i64 z.2) raw0],[allA (mrest 3 (rI .i64) ((min ((F.getD i (0,0,0)).1) ((F.getD i (0,0,0)).2.1)),(max ((F.getD i (0,0,0)).1) ((F.getD i (0,0,0)).2.1))) raw0 (Ms.sides (F.take i))),boxA b8 73 [.int .i64 ((F.getD i (0,0,0)).1),.int .i64 ((F.getD i (0,0,0)).2.1)],boxA b7 44 [.int .i64 ((F.getD i (0,0,0)).1),.int .i64 ((F.getD i (0,0,0)).2.1),.int .i64 ((F.getD i (0,0,0)).2.2)],boxA b1 25 [.slice pv nv cv,.slice pf nf cf]],[slF (rI3 .i64) pv cv V,slF (rI3 .i64) pf cf F])) ?_ (fun hD5=> ?_)
  ·
   rintro ⟨⟩
   dsimp only
   refine zMa 5 8 (by kernel_rfl) ?_ ?_
   ·
    refine zqa rfl rfl rfl rfl (.c rfl .n) ce75 (zUa (ex:=((F.getD i (0,0,0)).1)) (ey:=((F.getD i (0,0,0)).2.1))) (.n)<|d_uw 6 rfl rfl (by kernel_rfl) (by kernel_rfl) (by kernel_rfl) rfl rfl (zFa (z:=(none,0,0)) (a0:=((min ((F.getD i (0,0,0)).1) ((F.getD i (0,0,0)).2.1)),(max ((F.getD i (0,0,0)).1) ((F.getD i (0,0,0)).2.1)))) (v:= .slice pz0 (lz0.length) cz0) 1 rfl ky73 Try.underlying98 zr50 rfl rfl (⟨zo.2 (by omega),zo.2 (by omega)⟩) (by rw [hgt0])) ?_
    exact zp (hD3 ()) (by kernel_rfl) ((.of rfl):SubM _ _) .rfl .rfl ((.of [0,1] rfl):SelR _ _ _)
   ·
    refine zYb rfl rfl rfl rfl (zJ (enc:=fun z:Int=>[.int .i64 z]) (ok:=InK .i64) (h1:=fun _=>rfl) (h2:=fun _=>rfl) (k:=1) Try.underlying50 inf3 rfl (by decide) (by decide) (by decide) (.c (x:=((i:Nat):Int)) rfl rfl (fun _ _=>by exact zo.2 (by omega)) .n)) (fun u8_1 _=> ?_)
    refine zcb 0 rfl .z ?_
    exact zp (hD4 u8_1) (by kernel_rfl) ((.of rfl):SubM _ _) .rfl .rfl ((.of [0,1,2] rfl):SelR _ _ _)
  refine zL (X:=Nat) (k':=5) (L':=(lb 11 411)) (fun u8_1=>([(30,.slice (some ⟨u8_1,0,none⟩) 1 1),(29,.int .i64 ((i:Nat):Int)),(26,.agg #[.int .i64 ((F.getD i (0,0,0)).1),.int .i64 ((F.getD i (0,0,0)).2.1)]),(25,.map (some b2)),(23,.agg #[.int .i64 ((F.getD i (0,0,0)).1),.int .i64 ((F.getD i (0,0,0)).2.1)]),(22,.map (some b2)),(7,.pointer (some ⟨b8,0,none⟩)),(21,.agg #[.int .i64 ((F.getD i (0,0,0)).1),.int .i64 ((F.getD i (0,0,0)).2.1)]),(20,.bool true),(19,.int .i64 0),(18,.agg #[.int .i64 ((F.getD i (0,0,0)).1),.int .i64 ((F.getD i (0,0,0)).2.1),.int .i64 ((F.getD i (0,0,0)).2.1),.int .i64 ((F.getD i (0,0,0)).2.2),.int .i64 ((F.getD i (0,0,0)).2.2),.int .i64 ((F.getD i (0,0,0)).1)]),(4,.int .i64 ((i:Nat):Int)),(12,.int .i64 ((i:Nat):Int)),(11,.int .i64 ((nf:Nat):Int)),(10,.slice pf nf cf),(3,.map (some b2)),(2,.map none)],[rowA 3 (rI .i64) pz0 cz0 lz0,mapA b2 (fun z:Int×Int=> .agg #[.int .i64 z.1,.int .i64 z.2]) (fun z:Option Addr×Nat×Nat=> .slice z.1 z.2.1 z.2.2) (fun z=>InK .i64 z.1∧InK .i64 z.2) raw0],[emA,allA (mrest 3 (rI .i64) ((min ((F.getD i (0,0,0)).1) ((F.getD i (0,0,0)).2.1)),(max ((F.getD i (0,0,0)).1) ((F.getD i (0,0,0)).2.1))) raw0 (Ms.sides (F.take i))),boxA b8 73 [.int .i64 ((F.getD i (0,0,0)).1),.int .i64 ((F.getD i (0,0,0)).2.1)],boxA b7 44 [.int .i64 ((F.getD i (0,0,0)).1),.int .i64 ((F.getD i (0,0,0)).2.1),.int .i64 ((F.getD i (0,0,0)).2.2)],boxA b1 25 [.slice pv nv cv,.slice pf nf cf]],[slF (rI .i64) (some ⟨u8_1,0,none⟩) 1 ([((i:Nat):Int)]),slF (rI3 .i64) pv cv V,slF (rI3 .i64) pf cf F])) ?_ (fun hD6=> ?_)
  ·
   rintro u8_1
   dsimp only
   refine zE 2 (by kernel_rfl) ?_
   ·
    refine zqa rfl rfl rfl rfl (.c rfl .n) ce75 (zUa (ex:=((F.getD i (0,0,0)).1)) (ey:=((F.getD i (0,0,0)).2.1))) (.n) ?_
    exact zp (hD4 u8_1) (by kernel_rfl) ((.of rfl):SubM _ _) .rfl .rfl ((.of [0,1,2] rfl):SelR _ _ _)
  refine zMa 2 8 (by kernel_rfl) ?_ ?_
  ·
   refine zqa rfl rfl rfl rfl (.c rfl .n) ce75 (zUa (ex:=((F.getD i (0,0,0)).1)) (ey:=((F.getD i (0,0,0)).2.1))) (.n) ?_
   exact zp (hD5 ()) (by kernel_rfl) ((.of rfl):SubM _ _) .rfl .rfl ((.of [0,1] rfl):SelR _ _ _)
  ·
   refine zYb rfl rfl rfl rfl (zJ (enc:=fun z:Int=>[.int .i64 z]) (ok:=InK .i64) (h1:=fun _=>rfl) (h2:=fun _=>rfl) (k:=1) Try.underlying50 inf3 rfl (by decide) (by decide) (by decide) (.c (x:=((i:Nat):Int)) rfl rfl (fun _ _=>by exact zo.2 (by omega)) .n)) (fun u8_1 _=> ?_)
   refine zcb 0 rfl .z ?_
   exact zp (hD6 u8_1) (by kernel_rfl) ((.of rfl):SubM _ _) .rfl .rfl ((.of [0,1,2] rfl):SelR _ _ _)
 ·
  refine zaa<|zk<|zk<|zt<|zc<|zh ?_
  have e11:Ms.sides (F.take i)=Ms.sides F:=by rw [List.take_of_length_le (by omega)]
  rw [e11]
  refine zwd (fun w mm=>mm.mrFreeze 0 rfl) ?_
  rintro rawZ hrawZ
  dsimp only [List.set]
  refine za<|r_pv rfl rfl (zb rfl)<|r_pv rfl rfl (ze rfl)<|zj<|zc<|zP ?_
  exact zG Try.results66 (b2,rawZ) hrawZ (zz rfl) rfl (ho:=((.c (i:=0) rfl .n):PickO _ _ _)) ((.c (j:=0) rfl .n):SelR _ _ _)
end Go.Proofs.Ytalfgjpbbongcaa.Sp
namespace Go.Proofs.Ytalfgjpbbongcaa.Sp
open Go
set_option linter.unusedVariables false
set_option maxRecDepth 100000
set_option maxHeartbeats 1000000
theorem zye {pv:Option Addr} {nv:Nat} {cv:Nat} {V:List (Int×Int×Int)} {pf:Option Addr} {nf:Nat} {cf:Nat} {F:List (Int×Int×Int)} (hnv:V.length=nv) (hnf:F.length=nf):Con Try.prog 25 [.agg #[.slice pv nv cv,.slice pf nf cf]] [] [slF (rI3 .i64) pv cv V,slF (rI3 .i64) pf cf F] (Y:=Unit) (fun y=>True) (fun y=> .tuple #[.int .i64 (Ms.eulerR V F),.int .i64 (Ms.check V F)]) (fun y=>[]) (fun y=>[]):=by
 refine zB Try.func25 rfl rfl rfl (fun c=> ?_)
 show RunC _ _ _ _ _ [(0,.agg #[.slice pv nv cv,.slice pf nf cf])] [] [slF (rI3 .i64) pv cv V,slF (rI3 .i64) pf cf F]
 refine zoa 0 rfl (fun hL0=> ?_)
 refine zoa 1 rfl (fun hL1=> ?_)
 refine zh<|za<|zS rfl rfl (zca rfl rfl) (fun b1=> ?_)
 refine r_pv rfl rfl (ze rfl)<|r_pv rfl rfl (ze rfl)<|zj<|zc<|zh<|zh<|za<|r_u rfl rfl (zf 0 ty25 rfl rfl (.take (.take .nil)))<|zY rfl rfl (.c rfl .n) ce14 (zJb (pv:=pv) (nv:=nv) (cv:=cv) (V:=V) (pf:=pf) (nf:=nf) (cf:=cf) (F:=F) (hnv:=by assumption) (hnf:=by assumption)) (.c (j:=0) rfl (.c (j:=1) rfl .n))<|r_pv rfl rfl (ze rfl)<|zj<|zc<|zh<|za<|r_pv rfl rfl (zb rfl)<|r_pv rfl rfl (zZa rfl rfl)<|zj<|zc<|zI rfl (fun hcode=> ?_) (fun hcode=> ?_)
 ·
  refine zh<|za<|r_pv rfl rfl (zb rfl)<|r_pv rfl rfl (ze rfl)<|r_pv rfl rfl (ze rfl)<|zj<|zc<|zP<|zl ?_
  have hz:Ms.eulerR V F=0:=by unfold Ms.eulerR;rw [if_neg hcode]
  exact zmb Try.results25 () trivial (zz rfl) (zz rfl) (by rw [hz]) (ho:=(.n:PickO _ _ _)) (.n:SelR _ _ _)
 ·
  have hc0:=Decidable.not_not.1 hcode
  have hf0:=Ms.check_form hc0
  have hg:=Ms.form_zero.1 hf0
  have hnv5:nv≤512:=by have:=hg.nv;omega
  have hnf5:nf≤1024:=by have:=hg.nf;omega
  refine zw<|zc<|zh<|za<|zKa rfl rfl (zQa (κ:=Int) (ν:=Bool) (fun z:Int=> .int .i64 z) (fun z:Bool=> .bool z) (InK .i64)) (fun b2 _=> ?_)
  refine r_pv rfl rfl (ze rfl)<|zj<|zc<|zh<|zh<|za<|r_pv rfl rfl (zm Try.underlying25 rfl sz23 rfl rfl)<|r_u rfl rfl (zd 1 ty23 rfl rfl rfl)<|r_pv rfl rfl (zX Try.underlying23 rfl)<|r_pv rfl rfl (zb rfl)<|zj<|zc<|zr<|zua (X:=Nat) (fun x:Nat=>x≤nf) (fun x=>[(19,.int .i64 ((x:Nat):Int)),(18,.int .i64 ((nf:Nat):Int)),(17,.slice pf nf cf),(5,.map (some b2)),(3,.int .i64 0),(2,.int .i64 0),(1,.pointer (some ⟨b1,0,none⟩))]) (fun x=>[mapA b2 (fun z:Int=> .int .i64 z) (fun z:Bool=> .bool z) (InK .i64) (Ms.usedM (F.take x)),boxA b1 25 [.slice pv nv cv,.slice pf nf cf]]) (fun x=>[slF (rI3 .i64) pv cv V,slF (rI3 .i64) pf cf F]) (fun x:Nat=>nf - x) 0 (show 0≤nf from by exact Nat.zero_le _) ((.e rfl (by first|rfl|(congr 1;omega)|simp_all) (.of rfl)):SubM _ _) (ho:=((.e (i:=0) rfl (by rfl) (.c (i:=0) rfl .n)):PickO _ _ _)) ((.of [0,1] rfl):SelR _ _ _) ?_
  rintro i hI
  replace hI:i≤nf:=hI
  try dsimp only
  refine zh<|za<|r_pv rfl rfl (zD rfl rfl)<|zj<|zc<|zh<|zI rfl (fun h3=> ?_) (fun h3=> ?_)
  ·
   have hat:=hg.at (show i<F.length by omega)
   refine zw<|zc<|zh<|zr<|zh<|za<|zW (x0:=(F.getD i (0,0,0))) 1 i rfl Try.underlying23 sz44 rfl rfl rfl (by first|rfl|assumption|(simp_all;done)|omega) rfl rfl (gD (d:=(0,0,0)) (by omega)) (fun b4 o5 hok6=> ?_)
   obtain ⟨hok6x,hok6y,hok6z⟩:=hok6
   replace hok6x:=zo.1 hok6x
   replace hok6y:=zo.1 hok6y
   replace hok6z:=zo.1 hok6z
   refine r_u rfl rfl (zN (j:=0) 0 ty44 rfl rfl rfl (.take (.take (.take .nil))))<|zS rfl rfl (zn zr44 rfl) (fun b7=> ?_)
   refine zx 0 rfl rfl rfl rfl rfl sz44 rfl (.take (.take (.take .nil))) .z<|zj<|zc<|zh<|za<|r_u rfl rfl (zf 0 ty44 rfl rfl (.take (.take (.take .nil))))<|r_pv rfl rfl (zb rfl)<|zj<|zc<|zr<|zSa<|zQ<|zh<|za<|r_pv rfl rfl (zD rfl rfl)<|zj<|zc<|zh<|zT rfl rfl<|zw<|zc<|zh<|zr<|zh<|za<|r_pv rfl rfl (zAa (i:=0) Try.underlying44 ty3 rfl rfl (by decide) rfl)<|r_pv rfl rfl (ze rfl)<|zj<|zc<|za<|r_pv rfl rfl (zb rfl)<|r_pv rfl rfl (zb rfl)<|zJa 1 rfl rfl rfl (zya (a0:=(F.getD i (0,0,0)).1) (v:=true) ky3 Try.underlying94 rfl rfl rfl (zo.2 (by omega))) (fun _=>(.s .z)) (fun _ _=> ?_)
   refine zj<|zA<|zc<|za<|r_pv rfl rfl (zC (z:=1) rfl rfl (w64 (by decide)))<|r_pv rfl rfl (zb rfl)<|zj<|zba<|zQ<|zh<|za<|r_pv rfl rfl (zD rfl rfl)<|zj<|zc<|zh<|zT rfl rfl<|zw<|zc<|zh<|zr<|zh<|za<|r_pv rfl rfl (zAa (i:=1) Try.underlying44 ty3 rfl rfl (by decide) rfl)<|r_pv rfl rfl (ze rfl)<|zj<|zc<|za<|r_pv rfl rfl (zb rfl)<|r_pv rfl rfl (zb rfl)<|zJa 1 rfl rfl rfl (zya (a0:=(F.getD i (0,0,0)).2.1) (v:=true) ky3 Try.underlying94 rfl rfl rfl (zo.2 (by omega))) (fun _=>(.s .z)) (fun _ _=> ?_)
   refine zj<|zA<|zc<|za<|r_pv rfl rfl (zC (z:=2) rfl rfl (w64 (by decide)))<|r_pv rfl rfl (zb rfl)<|zj<|zba<|zQ<|zh<|za<|r_pv rfl rfl (zD rfl rfl)<|zj<|zc<|zh<|zT rfl rfl<|zw<|zc<|zh<|zr<|zh<|za<|r_pv rfl rfl (zAa (i:=2) Try.underlying44 ty3 rfl rfl (by decide) rfl)<|r_pv rfl rfl (ze rfl)<|zj<|zc<|za<|r_pv rfl rfl (zb rfl)<|r_pv rfl rfl (zb rfl)<|zJa 1 rfl rfl rfl (zya (a0:=(F.getD i (0,0,0)).2.2) (v:=true) ky3 Try.underlying94 rfl rfl rfl (zo.2 (by omega))) (fun _=>(.s .z)) (fun _ _=> ?_)
   refine zj<|zA<|zc<|za<|r_pv rfl rfl (zC (z:=3) rfl rfl (w64 (by decide)))<|r_pv rfl rfl (zb rfl)<|zj<|zba<|zQ<|zh<|za<|r_pv rfl rfl (zD rfl rfl)<|zj<|zc<|zh<|zva rfl rfl<|zaa<|zk<|zk<|zt<|zA<|zc<|za<|r_pv rfl rfl (zC (z:=(((i+1):Nat):Int)) rfl rfl (w64 (by omega)))<|r_pv rfl rfl (zb rfl)<|zj<|zga (i+1) (show (i+1)≤nf from by exact (by omega:i+1≤nf)) (by show nf - (i+1)<nf - i;omega) ((.of rfl):SubM _ _) (ho:=((.e (i:=1) rfl (by rw [Ms.usedM_take (by omega)]) (.c (i:=1) rfl .n)):PickO _ _ _)) ((.of [1,2] rfl):SelR _ _ _)
  ·
   have hul:=Ms.usedM_len F
   have hsn:=Ms.sidesN_len F
   refine zaa<|zk<|zk<|zt<|zc<|zh ?_
   have e8:Ms.usedM (F.take i)=Ms.usedM F:=by rw [List.take_of_length_le (by omega)]
   rw [e8]
   refine zla (OW:=[]) (O:=[mapA b2 (fun z:Int=> .int .i64 z) (fun z:Bool=> .bool z) (InK .i64) (Ms.usedM F),boxA b1 25 [.slice pv nv cv,.slice pf nf cf]]) 100000 mixed (.then .ret) (by kernel_rfl)<|d_pv 0 rfl rfl (by kernel_rfl) (by kernel_rfl) rfl rfl (zb rfl)<|d_u 1 rfl rfl (by kernel_rfl) (by kernel_rfl) rfl rfl (zDb (encK:=(fun z:Int=> .int .i64 z)) (encV:=(fun z:Bool=> .bool z)) (ok:=(InK .i64)) (m:=Ms.usedM F) 0 rfl Try.underlying94 rfl)<|d_u 2 rfl rfl (by kernel_rfl) (by kernel_rfl) rfl rfl (zf 1 ty25 rfl rfl (.take (.take .nil)))<|d_pv 6 rfl rfl (by kernel_rfl) (by kernel_rfl) rfl rfl (zm Try.underlying25 rfl sz23 rfl rfl)<|d_u 7 rfl rfl (by kernel_rfl) (by kernel_rfl) rfl rfl (zd 1 ty23 rfl rfl rfl)<|d_pv 8 rfl rfl (by kernel_rfl) (by kernel_rfl) rfl rfl (zX Try.underlying23 rfl)<|zE 3 (by kernel_rfl) (zu rfl rfl rfl rfl (.c rfl .n) ce66 (zxe (pv:=pv) (nv:=nv) (cv:=cv) (V:=V) (pf:=pf) (nf:=nf) (cf:=cf) (F:=F) (hnv:=by assumption) (hnf:=by assumption) (hg:=by first|rfl|assumption|omega|(simp;done)|(simp;omega)|(simp_all;done))) (.c (j:=0) rfl (.c (j:=1) rfl .n)) ?_)
   rintro ⟨bZ,rawZ⟩ hraw
   dsimp only [List.append_eq,List.nil_append,List.cons_append]
   replace hraw:Raw rawZ (Ms.sides F):=hraw
   refine d_u 4 rfl rfl (by kernel_rfl) (by kernel_rfl) rfl rfl (zDb (encK:=(fun z:Int×Int=> .agg #[.int .i64 z.1,.int .i64 z.2])) (encV:=(fun z:Option Addr×Nat×Nat=> .slice z.1 z.2.1 z.2.2)) (ok:=(fun z=>InK .i64 z.1∧InK .i64 z.2)) (m:=rawZ) 0 rfl Try.underlying98 rfl) ?_
   have hrl:=hraw.length
   refine d_pv 5 rfl rfl (by kernel_rfl) (by kernel_rfl) rfl rfl (zOa (z:=((((Ms.usedM F).length:Nat):Int) - (((rawZ).length:Nat):Int))) rfl rfl (w64 (by omega)))<|d_pv 9 rfl rfl (by kernel_rfl) (by kernel_rfl) rfl rfl (zC (z:=(((((Ms.usedM F).length:Nat):Int) - (((rawZ).length:Nat):Int))+((nf:Nat):Int))) rfl rfl (w64 (by omega)))<|d_pv 10 rfl rfl (by kernel_rfl) (by kernel_rfl) rfl rfl (ze rfl)<|d_pv 11 rfl rfl (by kernel_rfl) (by kernel_rfl) rfl rfl (ze rfl)<|zma (by kernel_rfl)<|zc<|zP ?_
   have hz:Ms.eulerR V F=Ms.eulerP F:=by unfold Ms.eulerR;rw [if_pos hc0]
   exact zmb Try.results25 () trivial (zz rfl) (zz rfl) (by rw [hz,hc0,Ms.eulerP,hnf,hraw.length]) (ho:=(.n:PickO _ _ _)) (.n:SelR _ _ _)
theorem zUb:Con Try.prog 44 [] [] [] (Y:=(Option Addr)×(Option Addr)) (fun y=>True) (fun y=> .agg #[.slice (y.1) 4 4,.slice (y.2) 4 4]) (fun y=>[]) (fun y=>[slF (rI3 .i64) (y.1) 4 (Ms.exV),slF (rI3 .i64) (y.2) 4 (Ms.exF)]):=by
 refine zB Try.func44 rfl rfl rfl (fun c=> ?_)
 show RunC _ _ _ _ _ [] [] []
 refine zh<|za<|zS rfl rfl (zn zr25 rfl) (fun b1=> ?_)
 refine zj<|zc<|zh<|za<|r_pv rfl rfl (zna zr42 rfl Try.underlying42 (.c sz3 (.c sz3 (.c sz3 .n))) .n .n)<|r_pv rfl rfl (zna zr42 rfl Try.underlying42 (.c sz3 (.c sz3 (.c sz3 .n))) (.c rfl .n) (.c rfl rfl rfl (.take .nil) .n))<|r_pv rfl rfl (zna zr42 rfl Try.underlying42 (.c sz3 (.c sz3 (.c sz3 .n))) (.c rfl .n) (.c rfl rfl rfl (.skip (.take .nil)) .n))<|r_pv rfl rfl (zna zr42 rfl Try.underlying42 (.c sz3 (.c sz3 (.c sz3 .n))) (.c rfl .n) (.c rfl rfl rfl (.skip (.skip (.take .nil))) .n))<|zKa rfl rfl (zJ (enc:=fun z:Int×Int×Int=>[.int .i64 z.1,.int .i64 z.2.1,.int .i64 z.2.2]) (ok:=fun z=>InK .i64 z.1∧InK .i64 z.2.1∧InK .i64 z.2.2) (h1:=fun _=>rfl) (h2:=fun _=>rfl) (k:=4) Try.underlying22 inf42 rfl (by decide) (by decide) (by decide) (.c (x:=(0,0,0)) rfl rfl (fun _ _=>by exact ⟨zo.2 (by first|omega|decide|(dsimp only;omega)),zo.2 (by first|omega|decide|(dsimp only;omega)),zo.2 (by first|omega|decide|(dsimp only;omega))⟩) (.c (x:=(1,0,0)) rfl rfl (fun _ _=>by exact ⟨zo.2 (by first|omega|decide|(dsimp only;omega)),zo.2 (by first|omega|decide|(dsimp only;omega)),zo.2 (by first|omega|decide|(dsimp only;omega))⟩) (.c (x:=(0,1,0)) rfl rfl (fun _ _=>by exact ⟨zo.2 (by first|omega|decide|(dsimp only;omega)),zo.2 (by first|omega|decide|(dsimp only;omega)),zo.2 (by first|omega|decide|(dsimp only;omega))⟩) (.c (x:=(0,0,1)) rfl rfl (fun _ _=>by exact ⟨zo.2 (by first|omega|decide|(dsimp only;omega)),zo.2 (by first|omega|decide|(dsimp only;omega)),zo.2 (by first|omega|decide|(dsimp only;omega))⟩) .n))))) (fun b2 _=> ?_)
 refine r_pv rfl rfl (zK zr44 rfl Try.underlying44 sz3 (.c rfl (.c rfl (.c rfl .n))) (.c rfl rfl rfl (.take .nil) (.c rfl rfl rfl (.skip (.take .nil)) (.c rfl rfl rfl (.skip (.skip (.take .nil))) .n))))<|r_pv rfl rfl (zK zr44 rfl Try.underlying44 sz3 (.c rfl (.c rfl (.c rfl .n))) (.c rfl rfl rfl (.take .nil) (.c rfl rfl rfl (.skip (.take .nil)) (.c rfl rfl rfl (.skip (.skip (.take .nil))) .n))))<|r_pv rfl rfl (zK zr44 rfl Try.underlying44 sz3 (.c rfl (.c rfl (.c rfl .n))) (.c rfl rfl rfl (.take .nil) (.c rfl rfl rfl (.skip (.take .nil)) (.c rfl rfl rfl (.skip (.skip (.take .nil))) .n))))<|r_pv rfl rfl (zK zr44 rfl Try.underlying44 sz3 (.c rfl (.c rfl (.c rfl .n))) (.c rfl rfl rfl (.take .nil) (.c rfl rfl rfl (.skip (.take .nil)) (.c rfl rfl rfl (.skip (.skip (.take .nil))) .n))))<|zKa rfl rfl (zJ (enc:=fun z:Int×Int×Int=>[.int .i64 z.1,.int .i64 z.2.1,.int .i64 z.2.2]) (ok:=fun z=>InK .i64 z.1∧InK .i64 z.2.1∧InK .i64 z.2.2) (h1:=fun _=>rfl) (h2:=fun _=>rfl) (k:=4) Try.underlying23 inf44 rfl (by decide) (by decide) (by decide) (.c (x:=(0,2,1)) rfl rfl (fun _ _=>by exact ⟨zo.2 (by first|omega|decide|(dsimp only;omega)),zo.2 (by first|omega|decide|(dsimp only;omega)),zo.2 (by first|omega|decide|(dsimp only;omega))⟩) (.c (x:=(0,1,3)) rfl rfl (fun _ _=>by exact ⟨zo.2 (by first|omega|decide|(dsimp only;omega)),zo.2 (by first|omega|decide|(dsimp only;omega)),zo.2 (by first|omega|decide|(dsimp only;omega))⟩) (.c (x:=(0,3,2)) rfl rfl (fun _ _=>by exact ⟨zo.2 (by first|omega|decide|(dsimp only;omega)),zo.2 (by first|omega|decide|(dsimp only;omega)),zo.2 (by first|omega|decide|(dsimp only;omega))⟩) (.c (x:=(1,2,3)) rfl rfl (fun _ _=>by exact ⟨zo.2 (by first|omega|decide|(dsimp only;omega)),zo.2 (by first|omega|decide|(dsimp only;omega)),zo.2 (by first|omega|decide|(dsimp only;omega))⟩) .n))))) (fun b3 _=> ?_)
 refine r_pv rfl rfl (zna zr25 rfl Try.underlying25 (.c sz22 (.c sz23 .n)) (.c rfl (.c rfl .n)) (.c rfl rfl rfl (.take .nil) (.c rfl rfl rfl (.skip (.take .nil)) .n)))<|zx 2 rfl rfl rfl rfl rfl sz25 rfl (.take (.take .nil)) (.s (.s .z))<|zj<|zc<|zP<|zkb 0 rfl .z<|zkb 1 rfl (.s .z) ?_
 exact zG Try.results44 (some ⟨b2,0,none⟩,some ⟨b3,0,none⟩) trivial (zV 2 ty25 rfl rfl (.take (.take .nil))) rfl (ho:=(.n:PickO _ _ _)) ((.e (j:=0) rfl rfl (.e (j:=1) rfl rfl .n)):SelR _ _ _)
end Go.Proofs.Ytalfgjpbbongcaa.Sp
