/- Lemmas on the walk and plain lemmas that the claim of this folder uses; each states its own conditions. Lines were printed by a program of ours. -/
import Derived.Test.YtefbbhiaalcjfaaGreatZ3B
set_option linter.unusedVariables false
set_option linter.unusedSimpArgs false
set_option linter.unusedSectionVars false
namespace Go.Proofs.YtefbbhiaalcjfaaGreat.Sp
open Go
set_option linter.unusedVariables false
set_option maxRecDepth 100000
set_option maxHeartbeats 1000000
theorem zwd {w:Nat} {h:Nat} {m:Int} {p:Option Addr} {n:Nat} {cap:Nat} {l:List Int} {tb:Nat} {th:Int} {p2:Option Addr} {c2:Nat} (hn:l.length=n) (hw:1≤w∧w≤64) (hh:1≤h∧h≤64) (hwh:n=w*h) (hb:n≤4096):Con Tryz.prog 49 [.agg #[.int .i64 ((w:Nat):Int),.int .i64 ((h:Nat):Int),.int .i64 m,.slice p n cap],.func (.func 55) #[] #[.pointer (some ⟨tb,0,none⟩)],.slice p2 4 c2] [] [slF (rI .i64) p cap l,atF tb 0 [.int .i64 th],slF (rI2 .i64) p2 c2 (Fl.st4)] (Y:=(Option Addr)×Nat×(List Int)×(Nat→Nat)) (fun y=>Fl.Lst (fun j=>(Fl.ge l th) j=true) (Fl.nb false w n) y.2.2.2∧Fl.OutI n (Fl.ge l th) y.2.2.2 n y.2.2.1) (fun y=> .tuple #[.slice (y.1) n (y.2.1),.int .i64 (((Fl.cnt (Fl.ldr (Fl.ge l th) y.2.2.2) n):Nat):Int)]) (fun y=>[]) (fun y=>[slF (rI .i64) (y.1) (y.2.1) (y.2.2.1)]):=by
 refine zp Tryz.func49 rfl rfl rfl (fun c=> ?_)
 show RunC _ _ _ _ _ [(0,.agg #[.int .i64 ((w:Nat):Int),.int .i64 ((h:Nat):Int),.int .i64 m,.slice p n cap]),(1,.func (.func 55) #[] #[.pointer (some ⟨tb,0,none⟩)]),(2,.slice p2 4 c2)] [] [slF (rI .i64) p cap l,atF tb 0 [.int .i64 th],slF (rI2 .i64) p2 c2 (Fl.st4)]
 refine zea 0 rfl (fun hL0=> ?_)
 refine zea 2 rfl (fun hL2=> ?_)
 obtain ⟨cc,hcc⟩:=Fl.Lst.exists (inn:=fun j=>(Fl.ge l th) j=true) (adj:=(Fl.nb false w n)) (fun _ _=>Fl.nb_symm)
 have hin:∀j,(Fl.ge l th) j=true→j<n:=fun j hj=>by have:=Fl.ge_lt hj;omega
 refine zh<|zc<|zS rfl rfl (zX rfl rfl) (fun b1=> ?_)
 refine r_pv rfl rfl (zd rfl)<|r_pv rfl rfl (zd rfl)<|zj<|ze<|zh<|zc<|r_pv rfl rfl (zg Tryz.underlying24 rfl sz22 rfl rfl)<|r_u rfl rfl (zf 0 ty22 rfl rfl rfl)<|r_pv rfl rfl (zM Tryz.underlying22 rfl)<|zra rfl rfl (zSa (r:=rI .i64) (k:=n) (x0:=0) (γ0:=()) Tryz.underlying22 inf3 rfl rfl rfl rfl (by omega) (by omega) rfl (fun _ _=>by exact zk.2 (by decide)) (by decide)) (fun b2 _=> ?_)
 refine r_pv rfl rfl (zd rfl)<|zj<|ze<|zh<|zh<|zc<|r_pv rfl rfl (zb rfl)<|r_pv rfl rfl (zM Tryz.underlying22 rfl)<|r_pv rfl rfl (zb rfl)<|zj<|ze<|zx<|zka (X:=Nat×(List Int)) (fun x:Nat×(List Int)=>x.1≤n∧x.2.length=n∧∀j,j<x.1→x.2.getD j 0= -1) (fun x=>[(26,.int .i64 ((x.1:Nat):Int)),(25,.int .i64 ((n:Nat):Int)),(8,.slice (some ⟨b2,0,none⟩) n n),(7,.int .i64 0),(6,.slice none 0 0),(3,.pointer (some ⟨b1,0,none⟩)),(1,.func (.func 55) #[] #[.pointer (some ⟨tb,0,none⟩)]),(2,.slice p2 4 c2)]) (fun x=>[rowA 3 (rI .i64) (some ⟨b2,0,none⟩) n (x.2),boxA b1 24 [.int .i64 ((w:Nat):Int),.int .i64 ((h:Nat):Int),.int .i64 m,.slice p n cap]]) (fun x=>[slF (rI .i64) p cap l,atF tb 0 [.int .i64 th],slF (rI2 .i64) p2 c2 (Fl.st4)]) (fun x:Nat×(List Int)=>n - x.1) (0,List.replicate n 0) (show 0≤n∧(List.replicate n 0).length=n∧∀j,j<0→(List.replicate n 0).getD j 0= -1 from by exact ⟨Nat.zero_le _,by simp,fun j hj=>by omega⟩) ((.e rfl (by first|rfl|(congr 1;omega)|simp_all) (.of rfl)):SubM _ _) (ho:=((.of [0,0] rfl):PickO _ _ _)) ((.of [0,1,2] rfl):SelR _ _ _) ?_
 rintro ⟨i,A⟩ hI
 replace hI:i≤n∧A.length=n∧∀j,j<i→A.getD j 0= -1:=hI
 try dsimp only
 obtain ⟨hi,hAl,hA⟩:=hI
 refine zh<|zc<|r_pv rfl rfl (zY rfl rfl)<|zj<|ze<|zh<|zD rfl (fun h3=> ?_) (fun h3=> ?_)
 ·
  refine zy<|ze<|zh<|zx<|zh<|zc<|r_pv rfl rfl (zb rfl)<|r_pv rfl rfl (zd rfl)<|zj<|ze<|zc<|r_pv rfl rfl (zb rfl)<|r_pv rfl rfl (zb rfl)<|r_pv rfl rfl (zR (j:=i) Tryz.underlying22 sz3 rfl rfl rfl (by omega))<|zta 0 rfl rfl rfl (zO (j:=i) (x0:=(-1)) (γ0:=()) rfl rfl (by first|omega|(rw [List.length_map];omega)|(simp only [List.length_set];omega)|(simp;omega)) rfl rfl sz3 (fun _ _=>by exact zk.2 (by omega))) (fun _=> .z) (fun _ _=> ?_)
  refine zj<|zP<|ze<|zc<|r_pv rfl rfl (zz (z:=(((i+1):Nat):Int)) rfl rfl (w64 (by omega)))<|r_pv rfl rfl (zb rfl)<|zj<|zaa ((i+1),(A.set i (-1))) (show (i+1)≤n∧(A.set i (-1)).length=n∧∀j,j<(i+1)→(A.set i (-1)).getD j 0= -1 from by exact ⟨by omega,by rw [List.length_set];exact hAl,fun j hj=>by by_cases e9:j=i;exact e9 ▸ Big.getD_set_self (by omega) _;rw [Big.getD_set_ne e9];exact hA j (by omega)⟩) (by show n - (i+1)<n - i;omega) ((.of rfl):SubM _ _) (ho:=((.of [0,0] rfl):PickO _ _ _)) ((.of [0,1,2] rfl):SelR _ _ _)
 ·
  refine zha<|zm<|zm<|zu<|ze<|zh<|zc<|r_pv rfl rfl (zd rfl)<|zj<|ze<|zh<|zh<|zc<|r_pv rfl rfl (zg Tryz.underlying24 rfl sz22 rfl rfl)<|r_u rfl rfl (zf 1 ty22 rfl rfl rfl)<|r_pv rfl rfl (zM Tryz.underlying22 rfl)<|r_pv rfl rfl (zb rfl)<|zj<|ze<|zx ?_
  have hin9:i=n:=by omega
  refine zka (X:=Nat×(List Int)) (fun x:Nat×(List Int)=>x.1≤n∧Fl.OutI n (Fl.ge l th) cc x.1 x.2) (fun x=>[(10,.int .i64 (((Fl.cnt (Fl.ldr (Fl.ge l th) cc) x.1):Nat):Int)),(36,.int .i64 ((x.1:Nat):Int)),(35,.int .i64 ((n:Nat):Int)),(34,.slice p n cap),(8,.slice (some ⟨b2,0,none⟩) n n),(7,.int .i64 0),(6,.slice none 0 0),(3,.pointer (some ⟨b1,0,none⟩)),(1,.func (.func 55) #[] #[.pointer (some ⟨tb,0,none⟩)]),(2,.slice p2 4 c2)]) (fun x=>[rowA 3 (rI .i64) (some ⟨b2,0,none⟩) n (x.2),boxA b1 24 [.int .i64 ((w:Nat):Int),.int .i64 ((h:Nat):Int),.int .i64 m,.slice p n cap]]) (fun x=>[slF (rI .i64) p cap l,atF tb 0 [.int .i64 th],slF (rI2 .i64) p2 c2 (Fl.st4)]) (fun x:Nat×(List Int)=>n - x.1) (0,A) (show 0≤n∧Fl.OutI n (Fl.ge l th) cc 0 A from by exact ⟨Nat.zero_le _,⟨hAl,fun j _ _ hj=>by omega,fun j hj _=>hA j (by omega)⟩⟩) ((.e rfl (by first|rfl|(congr 1;omega)|simp_all) (.e rfl (by first|rfl|(congr 1;omega)|simp_all) (.of rfl))):SubM _ _) (ho:=((.of [0,0] rfl):PickO _ _ _)) ((.of [0,1,2] rfl):SelR _ _ _) ?_
  rintro ⟨i,o⟩ hI
  replace hI:i≤n∧Fl.OutI n (Fl.ge l th) cc i o:=hI
  try dsimp only
  obtain ⟨hi,ho⟩:=hI
  have hol:=ho.len
  have hcn:=Fl.cnt_le (Fl.ldr (Fl.ge l th) cc) i
  refine zh<|zc<|r_pv rfl rfl (zY rfl rfl)<|zj<|ze<|zh<|zD rfl (fun h4=> ?_) (fun h4=> ?_)
  ·
   refine zy<|ze<|zh<|zx<|zh<|zc<|r_pv rfl rfl (zb rfl)<|zL (x0:=(l.getD i 0)) 0 i rfl Tryz.underlying22 sz3 rfl rfl rfl (by first|rfl|assumption|(simp only [List.length_append,List.length_map,List.length_cons,List.length_nil];done)|(simp only [List.length_append,List.length_map,List.length_cons,List.length_nil];omega)|omega) rfl rfl (gD (d:=0) (by omega)) (fun b5 o6 hok7=> ?_)
   replace hok7:=zk.1 hok7
   refine r_u rfl rfl (zn (j:=0) 0 ty3 rfl rfl rfl rfl)<|r_pv rfl rfl (zd rfl)<|r_pv rfl rfl (zd rfl)<|zj<|ze<|zh<|zRa (X:=Unit) (fun x=>True) (fun x=>[(51,.bool (decide (¬o.getD i 0<0∨¬(Fl.ge l th) i=true))),(11,.int .i64 ((i:Nat):Int)),(10,.int .i64 (((Fl.cnt (Fl.ldr (Fl.ge l th) cc) i):Nat):Int)),(36,.int .i64 ((i:Nat):Int)),(35,.int .i64 ((n:Nat):Int)),(34,.slice p n cap),(8,.slice (some ⟨b2,0,none⟩) n n),(7,.int .i64 0),(6,.slice none 0 0),(3,.pointer (some ⟨b1,0,none⟩)),(1,.func (.func 55) #[] #[.pointer (some ⟨tb,0,none⟩)]),(2,.slice p2 4 c2)]) (fun x=>[rowA 3 (rI .i64) (some ⟨b2,0,none⟩) n o,boxA b1 24 [.int .i64 ((w:Nat):Int),.int .i64 ((h:Nat):Int),.int .i64 m,.slice p n cap]]) (fun x=>[atF b5 o6 [.int .i64 (l.getD i 0)],slF (rI .i64) p cap l,atF tb 0 [.int .i64 th],slF (rI2 .i64) p2 c2 (Fl.st4)]) ?_ ?_
   ·
    refine zc<|r_pv rfl rfl (zb rfl)<|r_pv rfl rfl (zb rfl)<|r_pv rfl rfl (zR (j:=i) Tryz.underlying22 sz3 rfl rfl rfl (by omega))<|r_vl rfl rfl (zU 0 i rfl ty3 rfl rfl (gD (d:=0) (by omega)) rfl) (fun _ hok8=> ?_)
    replace hok8:=zk.1 hok8
    refine r_pv rfl rfl (zBa rfl rfl)<|zT rfl rfl (zb rfl) (fun hk1=> ?_) (fun hk1=> ?_)
    ·
     refine za rfl rfl<|za rfl rfl<|za rfl rfl<|za rfl rfl<|r_pv rfl rfl (zl rfl rfl)<|zj ?_
     exact zga () (show True from by first|trivial|omega|simp_all) ((.e rfl (congrArg Value.bool (by exact Eq.symm (decide_eq_true (.inl (by omega))))) (.of rfl)):SubM _ _) (ho:=((.of [0,0] rfl):PickO _ _ _)) ((.of [0,1,2,3] rfl):SelR _ _ _)
    ·
     refine r_pv rfl rfl (zb rfl)<|r_pv rfl rfl (zb rfl)<|zSb (first:=[]) (cap:=[.pointer (some ⟨tb,0,none⟩)]) rfl rfl rfl (.c rfl .n) ce55 (zVb (g:=(l.getD i 0)) (th:=th) (tb:=tb)) (.c (j:=2) rfl .n) ?_
     rintro ⟨⟩ -
     dsimp only [List.append_eq,List.nil_append,List.cons_append]
     refine r_pv rfl rfl (zgb rfl)<|r_pv rfl rfl (zl rfl rfl)<|zj ?_
     exact zga () (show True from by first|trivial|omega|simp_all) ((.e rfl (congrArg Value.bool (by exact decide_eq_decide.2 ⟨fun h9=> .inr (fun h8=>h9 ((Fl.ge_iff (by omega)).1 h8)),fun h9 h8=>h9.elim (fun h7=>h7 (by omega)) (fun h7=>h7 ((Fl.ge_iff (by omega)).2 h8))⟩)) (.of rfl)):SubM _ _) (ho:=((.of [0,0] rfl):PickO _ _ _)) ((.of [0,1,2,3] rfl):SelR _ _ _)
   ·
    rintro ⟨⟩ -
    try dsimp only
    refine zD rfl (fun hout=> ?_) (fun hout=> ?_)
    ·
     refine zha<|zm<|zu<|ze<|zc<|r_pv rfl rfl (zz (z:=(((i+1):Nat):Int)) rfl rfl (w64 (by omega)))<|r_pv rfl rfl (zb rfl)<|zj<|zaa ((i+1),o) (show (i+1)≤n∧Fl.OutI n (Fl.ge l th) cc (i+1) o from by exact ⟨by omega,(ho.none hcc (by omega) hout).1⟩) (by show n - (i+1)<n - i;omega) ((.e rfl (congrArg (Value.int .i64) (by dsimp only;rw [Fl.cnt_succ,(ho.none hcc (by omega) hout).2];simp)) (.of rfl)):SubM _ _) (ho:=((.of [0,0] rfl):PickO _ _ _)) ((.of [1,2,3] rfl):SelR _ _ _)
    ·
     refine zy<|ze<|zh<|zc<|r_pv rfl rfl (zb rfl)<|r_pv rfl rfl (zb rfl)<|r_pv rfl rfl (zb rfl)<|r_pv rfl rfl (zR (j:=i) Tryz.underlying22 sz3 rfl rfl rfl (by omega))<|zta 0 rfl rfl rfl (zO (j:=i) (x0:=(((Fl.cnt (Fl.ldr (Fl.ge l th) cc) i):Nat):Int)) (γ0:=()) rfl rfl (by first|omega|(rw [List.length_map];omega)|(simp only [List.length_set];omega)|(simp;omega)) rfl rfl sz3 (fun _ _=>by exact zk.2 (by omega))) (fun _=> .z) (fun _ _=> ?_)
     refine zj<|ze<|zh<|zh<|zc<|r_pv rfl rfl (zb rfl)<|zra rfl rfl (zE (enc:=fun z:Int=>[.int .i64 z]) (ok:=InK .i64) (h1:=fun _=>rfl) (h2:=fun _=>rfl) (k:=1) Tryz.underlying22 inf3 rfl (by decide) (by decide) (by decide) (.c (x:=((i:Nat):Int)) rfl rfl (fun _ _=>by exact zk.2 (by omega)) .n)) (fun b9 _=> ?_)
     refine r_pv rfl rfl (zd rfl)<|zj<|ze<|zx ?_
     have hfi:(Fl.ge l th) i=true:=by by_cases h9:(Fl.ge l th) i=true;exact h9;exact absurd (.inr h9) hout
     have hoi:o.getD i 0<0:=by by_cases h9:o.getD i 0<0;exact h9;exact absurd (.inl h9) hout
     have hld:=(ho.lead hcc (by omega) hoi hfi).2
     refine zka (X:=(List Int)×(List Nat)×(Option Addr)×Nat) (fun x:(List Int)×(List Nat)×(Option Addr)×Nat=>Fl.Fld n (Fl.ge l th) (Fl.nb false w n) cc i x.1 x.2.1∧2*Fl.unv x.1+x.2.1.length≤2*n+1) (fun x=>[(13,.slice (x.2.2.1) (x.2.1.length) (x.2.2.2)),(10,.int .i64 (((Fl.cnt (Fl.ldr (Fl.ge l th) cc) i):Nat):Int)),(36,.int .i64 ((i:Nat):Int)),(35,.int .i64 ((n:Nat):Int)),(34,.slice p n cap),(8,.slice (some ⟨b2,0,none⟩) n n),(7,.int .i64 0),(6,.slice none 0 0),(3,.pointer (some ⟨b1,0,none⟩)),(1,.func (.func 55) #[] #[.pointer (some ⟨tb,0,none⟩)]),(2,.slice p2 4 c2)]) (fun x=>[rowA 3 (rI .i64) (x.2.2.1) (x.2.2.2) (x.2.1.map Fl.iz),rowA 3 (rI .i64) (some ⟨b2,0,none⟩) n (x.1),boxA b1 24 [.int .i64 ((w:Nat):Int),.int .i64 ((h:Nat):Int),.int .i64 m,.slice p n cap]]) (fun x=>[atF b5 o6 [.int .i64 (l.getD i 0)],slF (rI .i64) p cap l,atF tb 0 [.int .i64 th],slF (rI2 .i64) p2 c2 (Fl.st4)]) (fun x:(List Int)×(List Nat)×(Option Addr)×Nat=>2*Fl.unv x.1+x.2.1.length) ((o.set i (((Fl.cnt (Fl.ldr (Fl.ge l th) cc) i):Nat):Int)),[i],some ⟨b9,0,none⟩,1) (show Fl.Fld n (Fl.ge l th) (Fl.nb false w n) cc i (o.set i (((Fl.cnt (Fl.ldr (Fl.ge l th) cc) i):Nat):Int)) ([i])∧2*Fl.unv (o.set i (((Fl.cnt (Fl.ldr (Fl.ge l th) cc) i):Nat):Int))+([i]).length≤2*n+1 from by exact ⟨(ho.lead hcc (by omega) hoi hfi).1,by have h9:=Fl.unv_le (o.set i ((Fl.cnt (Fl.ldr (Fl.ge l th) cc) i:Nat):Int));rw [List.length_set] at h9;simp only [List.length_cons,List.length_nil];omega⟩) ((.e rfl (by first|rfl|(congr 1;omega)|simp_all) (.of rfl)):SubM _ _) (ho:=((.e (i:=0) rfl (by first|rfl|(congr 1;omega)|simp_all) (.of [0,0] rfl)):PickO _ _ _)) ((.of [0,1,2,3] rfl):SelR _ _ _) ?_
     rintro ⟨o2,sk,p4,c4⟩ hFF
     replace hFF:Fl.Fld n (Fl.ge l th) (Fl.nb false w n) cc i o2 sk∧2*Fl.unv o2+sk.length≤2*n+1:=hFF
     try dsimp only
     obtain ⟨hF,hFm⟩:=hFF
     have ho2:=hF.len
     refine zh<|zh<|zc<|r_pv rfl rfl (zb rfl)<|r_pv rfl rfl (zM Tryz.underlying22 rfl)<|r_pv rfl rfl (zza rfl rfl)<|zj<|ze<|zD rfl (fun hso=> ?_) (fun hso=> ?_)
     ·
      obtain ⟨st,pp,rfl⟩:=Fl.snoc (sk:=sk) (fun e9=>by rw [e9] at hso;simp at hso)
      have hsl9:st.length+1≤2*n+1:=by have h8:=hFm;rw [List.length_append] at h8;simp only [List.length_cons,List.length_nil] at h8;omega
      have hsl8:((st++[pp]).map Fl.iz).length=st.length+1:=by simp
      refine zHc 0 rfl (fun hcl=> ?_)
      have e10:(.slice p4 ((st++[pp]).length) c4:Value)= .slice p4 (st.length+1) c4:=by simp
      rw [e10]
      refine zy<|ze<|zx<|zh<|zc<|r_pv rfl rfl (zb rfl)<|r_pv rfl rfl (zb rfl)<|r_pv rfl rfl (zM Tryz.underlying22 rfl)<|r_pv rfl rfl (zia (z:=(((st.length):Nat):Int)) rfl rfl (w64 (by omega)))<|r_u rfl rfl (zca 0 (st.length) rfl Tryz.underlying22 sz3 rfl (by first|rfl|assumption|(simp only [List.length_append,List.length_map,List.length_cons,List.length_nil];done)|(simp only [List.length_append,List.length_map,List.length_cons,List.length_nil];omega)|omega) rfl rfl (by omega))<|r_vl rfl rfl (zU 0 (st.length) rfl ty3 rfl rfl (gD (d:=0) (by omega)) rfl) (fun _ hok11=> ?_)
      replace hok11:=zk.1 hok11
      refine r_pv rfl rfl (zd rfl)<|zj<|ze<|zh ?_
      have e12:((((st++[pp]).map Fl.iz).getD (st.length) 0):Int)=((pp:Nat):Int):=by exact Fl.getD_iz st pp
      rw [e12]
      refine zc<|r_pv rfl rfl (zb rfl)<|r_pv rfl rfl (zb rfl)<|r_pv rfl rfl (zM Tryz.underlying22 rfl)<|r_pv rfl rfl (zia (z:=(((st.length):Nat):Int)) rfl rfl (w64 (by omega)))<|r_pv rfl rfl (zZa (hi:=(st.length)) Tryz.underlying22 sz3 rfl (.s rfl) (.inr ⟨_,rfl⟩) (by omega))<|r_pv rfl rfl (zd rfl)<|zj<|ze<|zh<|c_mem (fun w mm=>mm.rowTake 0 rfl (st.length)) ?_
      dsimp only [List.set]
      have e13:((st++[pp]).map Fl.iz).take (st.length)=st.map Fl.iz:=by simp
      rw [e13]
      refine zc<|r_pv rfl rfl (zb rfl)<|r_pv rfl rfl (zM Tryz.underlying76 rfl)<|r_pv rfl rfl (zb rfl)<|zj<|ze<|zx<|zka (X:=Nat×(List Int)×(List Nat)×(Option Addr)×Nat) (fun x:Nat×(List Int)×(List Nat)×(Option Addr)×Nat=>x.1≤4∧Fl.FlP n (Fl.ge l th) (Fl.nb false w n) cc i x.2.1 x.2.2.1 pp (Fl.Dst w h pp Fl.st4 x.1)∧2*Fl.unv x.2.1+x.2.2.1.length≤2*Fl.unv o2+st.length) (fun x=>[(13,.slice (x.2.2.2.1) (x.2.2.1.length) (x.2.2.2.2)),(74,.int .i64 ((x.1:Nat):Int)),(73,.int .i64 ((4:Nat):Int)),(72,.slice p2 4 c2),(14,.int .i64 ((pp:Nat):Int)),(10,.int .i64 (((Fl.cnt (Fl.ldr (Fl.ge l th) cc) i):Nat):Int)),(36,.int .i64 ((i:Nat):Int)),(35,.int .i64 ((n:Nat):Int)),(34,.slice p n cap),(8,.slice (some ⟨b2,0,none⟩) n n),(7,.int .i64 0),(6,.slice none 0 0),(3,.pointer (some ⟨b1,0,none⟩)),(1,.func (.func 55) #[] #[.pointer (some ⟨tb,0,none⟩)]),(2,.slice p2 4 c2)]) (fun x=>[rowA 3 (rI .i64) (x.2.2.2.1) (x.2.2.2.2) (x.2.2.1.map Fl.iz),rowA 3 (rI .i64) (some ⟨b2,0,none⟩) n (x.2.1),boxA b1 24 [.int .i64 ((w:Nat):Int),.int .i64 ((h:Nat):Int),.int .i64 m,.slice p n cap]]) (fun x=>[atF b5 o6 [.int .i64 (l.getD i 0)],slF (rI .i64) p cap l,atF tb 0 [.int .i64 th],slF (rI2 .i64) p2 c2 (Fl.st4)]) (fun x:Nat×(List Int)×(List Nat)×(Option Addr)×Nat=>4 - x.1) (0,o2,st,p4,c4) (show 0≤4∧Fl.FlP n (Fl.ge l th) (Fl.nb false w n) cc i o2 st pp (Fl.Dst w h pp Fl.st4 0)∧2*Fl.unv o2+st.length≤2*Fl.unv o2+st.length from by exact ⟨Nat.zero_le _,Fl.FlP.start hF,Nat.le_refl _⟩) ((.c rfl (.e rfl (by first|rfl|(congr 1;omega)|simp_all) (.of rfl))):SubM _ _) (ho:=((.of [0,0,0] rfl):PickO _ _ _)) ((.of [0,1,2,3] rfl):SelR _ _ _) ?_
      rintro ⟨q,o3,s3,p5,c5⟩ hQ
      replace hQ:q≤4∧Fl.FlP n (Fl.ge l th) (Fl.nb false w n) cc i o3 s3 pp (Fl.Dst w h pp Fl.st4 q)∧2*Fl.unv o3+s3.length≤2*Fl.unv o2+st.length:=hQ
      try dsimp only
      obtain ⟨hq,hP1,hP2⟩:=hQ
      have ho3:=hP1.len
      refine zh<|zc<|r_pv rfl rfl (zY rfl rfl)<|zj<|ze<|zh<|zD rfl (fun h14=> ?_) (fun h14=> ?_)
      ·
       have hst9:Fl.st4.length=4:=rfl
       have hd9:=Fl.stp4.ok _ (Fl.gD_mem (l:=Fl.st4) (q:=q) (by show q<4;omega))
       have hpb:=Fl.at_b hw hP1.pop.1 hb hd9.1 hd9.2.1
       refine zy<|ze<|zh<|zx<|zh<|zc<|zL (x0:=(Fl.st4.getD q (0,0))) 3 q rfl Tryz.underlying76 sz91 rfl rfl rfl (by first|rfl|assumption|(simp only [List.length_append,List.length_map,List.length_cons,List.length_nil];done)|(simp only [List.length_append,List.length_map,List.length_cons,List.length_nil];omega)|omega) rfl rfl (gD (d:=(0,0)) (by omega)) (fun b15 o16 hok17=> ?_)
       obtain ⟨hok17x,hok17y⟩:=hok17
       replace hok17x:=zk.1 hok17x
       replace hok17y:=zk.1 hok17y
       refine r_u rfl rfl (zya (j:=0) 0 ty91 rfl rfl rfl (.take (.take .nil)))<|zS rfl rfl (zI zr91 rfl) (fun b18=> ?_)
       refine zr 0 rfl rfl rfl rfl rfl sz91 rfl (.take (.take .nil)) .z<|zj<|ze<|zh<|zla (OW:=[]) (O:=[boxA b18 91 [.int .i64 ((Fl.st4.getD q (0,0)).1),.int .i64 ((Fl.st4.getD q (0,0)).2)],rowA 3 (rI .i64) p5 c5 (s3.map Fl.iz),rowA 3 (rI .i64) (some ⟨b2,0,none⟩) n o3,boxA b1 24 [.int .i64 ((w:Nat):Int),.int .i64 ((h:Nat):Int),.int .i64 m,.slice p n cap]]) 100000 mixed (.then (.block (.then (.then (.block (.block (.then (.block (.then (.block (.then (.then (.block (.then .ret)))))))))))))) (by kernel_rfl)<|d_pv 0 rfl rfl (by kernel_rfl) (by kernel_rfl) rfl rfl (zb rfl)<|d_pv 1 rfl rfl (by kernel_rfl) (by kernel_rfl) rfl rfl (zg Tryz.underlying24 rfl sz3 rfl rfl)<|d_u 2 rfl rfl (by kernel_rfl) (by kernel_rfl) rfl rfl (zf 3 ty3 rfl rfl rfl)<|d_pv 3 rfl rfl (by kernel_rfl) (by kernel_rfl) rfl rfl (zGa (z:=(((pp%w):Nat):Int)) rfl rfl (by omega) (remN (by omega) (by omega)))<|d_pv 4 rfl rfl (by kernel_rfl) (by kernel_rfl) rfl rfl (zMa (i:=0) Tryz.underlying91 sz3 rfl rfl (by decide) rfl)<|d_u 5 rfl rfl (by kernel_rfl) (by kernel_rfl) rfl rfl (zf 0 ty3 rfl rfl rfl)<|d_pv 6 rfl rfl (by kernel_rfl) (by kernel_rfl) rfl rfl (zz (z:=((((pp%w):Nat):Int)+(Fl.st4.getD q (0,0)).1)) rfl rfl (w64 (by omega)))<|d_pv 7 rfl rfl (by kernel_rfl) (by kernel_rfl) rfl rfl (zb rfl)<|d_pv 8 rfl rfl (by kernel_rfl) (by kernel_rfl) rfl rfl (zg Tryz.underlying24 rfl sz3 rfl rfl)<|d_u 9 rfl rfl (by kernel_rfl) (by kernel_rfl) rfl rfl (zf 3 ty3 rfl rfl rfl)<|d_pv 10 rfl rfl (by kernel_rfl) (by kernel_rfl) rfl rfl (zFa (z:=(((pp / w):Nat):Int)) rfl rfl (by omega) (by rw [quoN (z:=(((pp / w):Nat):Int)) (by omega) (by omega)];exact w64 (by omega)))<|d_pv 11 rfl rfl (by kernel_rfl) (by kernel_rfl) rfl rfl (zMa (i:=1) Tryz.underlying91 sz3 rfl rfl (by decide) rfl)<|d_u 12 rfl rfl (by kernel_rfl) (by kernel_rfl) rfl rfl (zf 0 ty3 rfl rfl rfl)<|d_pv 13 rfl rfl (by kernel_rfl) (by kernel_rfl) rfl rfl (zz (z:=((((pp / w):Nat):Int)+(Fl.st4.getD q (0,0)).2)) rfl rfl (w64 (by omega)))<|d_pv 14 rfl rfl (by kernel_rfl) (by kernel_rfl) rfl rfl (zd rfl)<|d_pv 15 rfl rfl (by kernel_rfl) (by kernel_rfl) rfl rfl (zd rfl)<|zfa (by kernel_rfl)<|ze<|zh ?_
       obtain ⟨kx,hkx⟩:∃z,z=((((pp%w):Nat):Int)+(Fl.st4.getD q (0,0)).1):=⟨_,rfl⟩
       rw [← hkx]
       obtain ⟨ky,hky⟩:∃z,z=((((pp / w):Nat):Int)+(Fl.st4.getD q (0,0)).2):=⟨_,rfl⟩
       rw [← hky]
       have hkyw: -64≤ky*((w:Nat):Int)∧ky*((w:Nat):Int)≤4160:=by rw [hky];exact hpb.1
       have hkxb: -1≤kx∧kx≤64:=by rw [hkx];exact hpb.2.1
       refine zc<|r_pv rfl rfl (zb rfl)<|r_pv rfl rfl (zg Tryz.underlying24 rfl sz3 rfl rfl)<|r_u rfl rfl (zf 3 ty3 rfl rfl rfl)<|r_pv rfl rfl (zna (z:=(ky*((w:Nat):Int))) rfl rfl (w64 (by omega)))<|r_pv rfl rfl (zb rfl)<|r_pv rfl rfl (zz (z:=((ky*((w:Nat):Int))+kx)) rfl rfl (w64 (by omega)))<|r_pv rfl rfl (zd rfl)<|zj<|ze ?_
       obtain ⟨kj,hkj⟩:∃z,z=((ky*((w:Nat):Int))+kx):=⟨_,rfl⟩
       rw [← hkj]
       refine zRa (X:=Unit) (fun x=>True) (fun x=>[(131,.bool (decide (Fl.CP w h pp (Fl.ge l th) o3 (Fl.st4.getD q (0,0))))),(19,.int .i64 kj),(13,.slice p5 (s3.length) c5),(74,.int .i64 ((q:Nat):Int)),(73,.int .i64 ((4:Nat):Int)),(72,.slice p2 4 c2),(14,.int .i64 ((pp:Nat):Int)),(10,.int .i64 (((Fl.cnt (Fl.ldr (Fl.ge l th) cc) i):Nat):Int)),(36,.int .i64 ((i:Nat):Int)),(35,.int .i64 ((n:Nat):Int)),(34,.slice p n cap),(8,.slice (some ⟨b2,0,none⟩) n n),(7,.int .i64 0),(6,.slice none 0 0),(3,.pointer (some ⟨b1,0,none⟩)),(1,.func (.func 55) #[] #[.pointer (some ⟨tb,0,none⟩)]),(2,.slice p2 4 c2)]) (fun x=>[boxA b18 91 [.int .i64 ((Fl.st4.getD q (0,0)).1),.int .i64 ((Fl.st4.getD q (0,0)).2)],rowA 3 (rI .i64) p5 c5 (s3.map Fl.iz),rowA 3 (rI .i64) (some ⟨b2,0,none⟩) n o3,boxA b1 24 [.int .i64 ((w:Nat):Int),.int .i64 ((h:Nat):Int),.int .i64 m,.slice p n cap]]) (fun x=>[atF b15 o16 [.int .i64 ((Fl.st4.getD q (0,0)).1),.int .i64 ((Fl.st4.getD q (0,0)).2)],atF b5 o6 [.int .i64 (l.getD i 0)],slF (rI .i64) p cap l,atF tb 0 [.int .i64 th],slF (rI2 .i64) p2 c2 (Fl.st4)]) ?_ ?_
       ·
        refine zc<|r_pv rfl rfl (zb rfl)<|r_pv rfl rfl (zBa rfl rfl)<|zT rfl rfl (zb rfl) (fun hx0=> ?_) (fun hx0=> ?_)
        ·
         refine r_pv rfl rfl (zb rfl)<|r_pv rfl rfl (zBa rfl rfl)<|r_pv rfl rfl (zl rfl rfl)<|zT rfl rfl (zb rfl) (fun hx1=> ?_) (fun hx1=> ?_)
         ·
          refine r_pv rfl rfl (zb rfl)<|r_pv rfl rfl (zg Tryz.underlying24 rfl sz3 rfl rfl)<|r_u rfl rfl (zf 3 ty3 rfl rfl rfl)<|r_pv rfl rfl (zY rfl rfl)<|r_pv rfl rfl (zl rfl rfl)<|zT rfl rfl (zb rfl) (fun hx2=> ?_) (fun hx2=> ?_)
          ·
           refine r_pv rfl rfl (zb rfl)<|r_pv rfl rfl (zg Tryz.underlying24 rfl sz3 rfl rfl)<|r_u rfl rfl (zf 3 ty3 rfl rfl rfl)<|r_pv rfl rfl (zY rfl rfl)<|r_pv rfl rfl (zl rfl rfl)<|zT rfl rfl (zb rfl) (fun hx3=> ?_) (fun hx3=> ?_)
           ·
            have hat:kj.toNat=Fl.atD w pp (Fl.st4.getD q (0,0)):=by rw [hkj,hky,hkx];rfl
            have hiD:Fl.inD w h pp (Fl.st4.getD q (0,0)):=⟨hkx ▸ hx0,hky ▸ hx1,hkx ▸ hx2,hky ▸ hx3⟩
            have hpx:=hiD.pix
            have hkj0:0≤kj∧kj.toNat<n:=⟨by rw [hkj,hky,hkx];exact hpx.1,by rw [hat,hwh];exact hpx.2⟩
            refine r_pv rfl rfl (zb rfl)<|r_pv rfl rfl (zb rfl)<|r_pv rfl rfl (zR (j:=(kj).toNat) Tryz.underlying22 sz3 rfl rfl (by omega) (by omega))<|r_vl rfl rfl (zU 2 ((kj).toNat) rfl ty3 rfl rfl (gD (d:=0) (by omega)) rfl) (fun _ hok19=> ?_)
            replace hok19:=zk.1 hok19
            refine r_pv rfl rfl (zY rfl rfl)<|r_pv rfl rfl (zl rfl rfl)<|zT rfl rfl (zb rfl) (fun hx4=> ?_) (fun hx4=> ?_)
            ·
             refine r_pv rfl rfl (zb rfl)<|r_pv rfl rfl (zg Tryz.underlying24 rfl sz22 rfl rfl)<|r_u rfl rfl (zf 3 ty22 rfl rfl rfl)<|r_pv rfl rfl (zb rfl)<|zL (x0:=(l.getD ((kj).toNat) 0)) 2 ((kj).toNat) rfl Tryz.underlying22 sz3 rfl rfl rfl (by first|rfl|assumption|(simp only [List.length_append,List.length_map,List.length_cons,List.length_nil];done)|(simp only [List.length_append,List.length_map,List.length_cons,List.length_nil];omega)|omega) rfl (by omega) (gD (d:=0) (by omega)) (fun b20 o21 hok22=> ?_)
             replace hok22:=zk.1 hok22
             refine r_u rfl rfl (zn (j:=0) 0 ty3 rfl rfl rfl rfl)<|zSb (first:=[]) (cap:=[.pointer (some ⟨tb,0,none⟩)]) rfl rfl rfl (.c rfl .n) ce55 (zVb (g:=(l.getD ((kj).toNat) 0)) (th:=th) (tb:=tb)) (.c (j:=4) rfl .n) ?_
             rintro ⟨⟩ -
             dsimp only [List.append_eq,List.nil_append,List.cons_append]
             refine r_pv rfl rfl (zl rfl rfl)<|zj ?_
             exact zga () (show True from by first|trivial|omega|simp_all) ((.e rfl (congrArg Value.bool (by exact decide_eq_decide.2 ⟨fun h9=>⟨hiD,by rw [← hat];exact hx4,by rw [← hat];exact (Fl.ge_iff (by omega)).2 h9⟩,fun h9=>(Fl.ge_iff (by omega)).1 (by rw [hat];exact h9.2.2)⟩)) (.of rfl)):SubM _ _) (ho:=((.of [0,0,0,0] rfl):PickO _ _ _)) ((.of [1,2,3,4,5] rfl):SelR _ _ _)
            ·
             refine za rfl rfl<|za rfl rfl<|za rfl rfl<|za rfl rfl<|za rfl rfl<|za rfl rfl<|za rfl rfl<|r_pv rfl rfl (zl rfl rfl)<|zj ?_
             exact zga () (show True from by first|trivial|omega|simp_all) ((.e rfl (congrArg Value.bool (by exact Eq.symm (decide_eq_false (fun h9=>hx4 (by rw [hat];exact h9.2.1))))) (.of rfl)):SubM _ _) (ho:=((.of [0,0,0,0] rfl):PickO _ _ _)) ((.of [0,1,2,3,4] rfl):SelR _ _ _)
           ·
            refine za rfl rfl<|za rfl rfl<|za rfl rfl<|za rfl rfl<|za rfl rfl<|r_pv rfl rfl (zl rfl rfl)<|r_pv rfl rfl (zb rfl)<|za rfl rfl<|za rfl rfl<|za rfl rfl<|za rfl rfl<|za rfl rfl<|za rfl rfl<|za rfl rfl<|r_pv rfl rfl (zl rfl rfl)<|zj ?_
            exact zga () (show True from by first|trivial|omega|simp_all) ((.e rfl (congrArg Value.bool (by exact Eq.symm (decide_eq_false (fun h9=>hx3 (by rw [hky];exact h9.1.2.2.2))))) (.of rfl)):SubM _ _) (ho:=((.of [0,0,0,0] rfl):PickO _ _ _)) ((.of [0,1,2,3,4] rfl):SelR _ _ _)
          ·
           refine za rfl rfl<|za rfl rfl<|za rfl rfl<|za rfl rfl<|r_pv rfl rfl (zl rfl rfl)<|r_pv rfl rfl (zb rfl)<|za rfl rfl<|za rfl rfl<|za rfl rfl<|za rfl rfl<|za rfl rfl<|r_pv rfl rfl (zl rfl rfl)<|r_pv rfl rfl (zb rfl)<|za rfl rfl<|za rfl rfl<|za rfl rfl<|za rfl rfl<|za rfl rfl<|za rfl rfl<|za rfl rfl<|r_pv rfl rfl (zl rfl rfl)<|zj ?_
           exact zga () (show True from by first|trivial|omega|simp_all) ((.e rfl (congrArg Value.bool (by exact Eq.symm (decide_eq_false (fun h9=>hx2 (by rw [hkx];exact h9.1.2.2.1))))) (.of rfl)):SubM _ _) (ho:=((.of [0,0,0,0] rfl):PickO _ _ _)) ((.of [0,1,2,3,4] rfl):SelR _ _ _)
         ·
          refine za rfl rfl<|za rfl rfl<|za rfl rfl<|za rfl rfl<|r_pv rfl rfl (zl rfl rfl)<|r_pv rfl rfl (zb rfl)<|za rfl rfl<|za rfl rfl<|za rfl rfl<|za rfl rfl<|r_pv rfl rfl (zl rfl rfl)<|r_pv rfl rfl (zb rfl)<|za rfl rfl<|za rfl rfl<|za rfl rfl<|za rfl rfl<|za rfl rfl<|r_pv rfl rfl (zl rfl rfl)<|r_pv rfl rfl (zb rfl)<|za rfl rfl<|za rfl rfl<|za rfl rfl<|za rfl rfl<|za rfl rfl<|za rfl rfl<|za rfl rfl<|r_pv rfl rfl (zl rfl rfl)<|zj ?_
          exact zga () (show True from by first|trivial|omega|simp_all) ((.e rfl (congrArg Value.bool (by exact Eq.symm (decide_eq_false (fun h9=>hx1 (by rw [hky];exact h9.1.2.1))))) (.of rfl)):SubM _ _) (ho:=((.of [0,0,0,0] rfl):PickO _ _ _)) ((.of [0,1,2,3,4] rfl):SelR _ _ _)
        ·
         refine za rfl rfl<|za rfl rfl<|r_pv rfl rfl (zl rfl rfl)<|r_pv rfl rfl (zb rfl)<|za rfl rfl<|za rfl rfl<|za rfl rfl<|za rfl rfl<|r_pv rfl rfl (zl rfl rfl)<|r_pv rfl rfl (zb rfl)<|za rfl rfl<|za rfl rfl<|za rfl rfl<|za rfl rfl<|r_pv rfl rfl (zl rfl rfl)<|r_pv rfl rfl (zb rfl)<|za rfl rfl<|za rfl rfl<|za rfl rfl<|za rfl rfl<|za rfl rfl<|r_pv rfl rfl (zl rfl rfl)<|r_pv rfl rfl (zb rfl)<|za rfl rfl<|za rfl rfl<|za rfl rfl<|za rfl rfl<|za rfl rfl<|za rfl rfl<|za rfl rfl<|r_pv rfl rfl (zl rfl rfl)<|zj ?_
         exact zga () (show True from by first|trivial|omega|simp_all) ((.e rfl (congrArg Value.bool (by exact Eq.symm (decide_eq_false (fun h9=>hx0 (by rw [hkx];exact h9.1.1))))) (.of rfl)):SubM _ _) (ho:=((.of [0,0,0,0] rfl):PickO _ _ _)) ((.of [0,1,2,3,4] rfl):SelR _ _ _)
       ·
        rintro ⟨⟩ -
        try dsimp only
        refine zD rfl (fun hc=> ?_) (fun hc=> ?_)
        ·
         have hat:kj.toNat=Fl.atD w pp (Fl.st4.getD q (0,0)):=by rw [hkj,hky,hkx];rfl
         have hpx:=hc.1.pix
         have hkj0:0≤kj∧kj.toNat<n:=⟨by rw [hkj,hky,hkx];exact hpx.1,by rw [hat,hwh];exact hpx.2⟩
         refine zh<|zc<|r_pv rfl rfl (zb rfl)<|r_pv rfl rfl (zb rfl)<|r_pv rfl rfl (zb rfl)<|r_pv rfl rfl (zR (j:=(kj).toNat) Tryz.underlying22 sz3 rfl rfl (by omega) (by omega))<|zta 2 rfl rfl rfl (zO (j:=(kj).toNat) (x0:=(((Fl.cnt (Fl.ldr (Fl.ge l th) cc) i):Nat):Int)) (γ0:=()) rfl rfl (by first|omega|(rw [List.length_map];omega)|(simp only [List.length_set];omega)|(simp;omega)) rfl rfl sz3 (fun _ _=>by exact zk.2 (by omega))) (fun _=>(.s (.s .z))) (fun _ _=> ?_)
         refine zj<|ze<|zc<|r_pv rfl rfl (zb rfl)<|r_pv rfl rfl (zb rfl)<|zra rfl rfl (zE (enc:=fun z:Int=>[.int .i64 z]) (ok:=InK .i64) (h1:=fun _=>rfl) (h2:=fun _=>rfl) (k:=1) Tryz.underlying22 inf3 rfl (by decide) (by decide) (by decide) (.c (x:=kj) rfl rfl (fun _ _=>by exact zk.2 (by omega)) .n)) (fun b23 _=> ?_)
         refine zda 0 rfl .z<|zta 2 rfl rfl rfl (zpa 0 rfl Tryz.underlying22 inf3 (by decide) rfl rfl (by first|rfl|assumption|(simp only [List.length_append,List.length_map,List.length_cons,List.length_nil];done)|(simp only [List.length_append,List.length_map,List.length_cons,List.length_nil];omega)|omega) rfl (by first|rfl|assumption|(simp only [List.length_append,List.length_map,List.length_cons,List.length_nil];done)|(simp only [List.length_append,List.length_map,List.length_cons,List.length_nil];omega)|omega) (by omega) (by omega)) (fun _=>(.s (.s .z))) ?_
         rintro ⟨p24,c25⟩ -
         dsimp only [List.append_eq,List.nil_append,List.cons_append]
         refine r_pv rfl rfl (zd rfl)<|zj<|zP<|ze<|zc<|r_pv rfl rfl (zz (z:=(((q+1):Nat):Int)) rfl rfl (w64 (by omega)))<|r_pv rfl rfl (zb rfl)<|zj<|zaa ((q+1),(o3.set ((kj).toNat) (((Fl.cnt (Fl.ldr (Fl.ge l th) cc) i):Nat):Int)),(s3++[(kj).toNat]),p24,c25) (show (q+1)≤4∧Fl.FlP n (Fl.ge l th) (Fl.nb false w n) cc i (o3.set ((kj).toNat) (((Fl.cnt (Fl.ldr (Fl.ge l th) cc) i):Nat):Int)) (s3++[(kj).toNat]) pp (Fl.Dst w h pp Fl.st4 (q+1))∧2*Fl.unv (o3.set ((kj).toNat) (((Fl.cnt (Fl.ldr (Fl.ge l th) cc) i):Nat):Int))+(s3++[(kj).toNat]).length≤2*Fl.unv o2+st.length from by have h9:=hP1.yes Fl.stp4 hwh (by show q<4;omega) hcc hc.1 hc.2.1 hc.2.2;rw [← hat] at h9;exact ⟨by omega,h9.1,by omega⟩) (by show 4 - (q+1)<4 - q;omega) ((.e rfl (by simp) (.of rfl)):SubM _ _) (ho:=((.e (i:=2) rfl (by first|rfl|(dsimp only;rw [List.map_append,List.map_cons,List.map_nil,show Fl.iz ((kj).toNat)=kj by unfold Fl.iz;omega])) (.of [2,2] rfl)):PickO _ _ _)) ((.of [2,3,4,5] rfl):SelR _ _ _)
        ·
         refine zy<|zP<|ze<|zc<|r_pv rfl rfl (zz (z:=(((q+1):Nat):Int)) rfl rfl (w64 (by omega)))<|r_pv rfl rfl (zb rfl)<|zj<|zaa ((q+1),o3,s3,p5,c5) (show (q+1)≤4∧Fl.FlP n (Fl.ge l th) (Fl.nb false w n) cc i o3 s3 pp (Fl.Dst w h pp Fl.st4 (q+1))∧2*Fl.unv o3+s3.length≤2*Fl.unv o2+st.length from by exact ⟨by omega,hP1.no Fl.stp4 hwh (by show q<4;omega) hcc hc,hP2⟩) (by show 4 - (q+1)<4 - q;omega) ((.of rfl):SubM _ _) (ho:=((.of [1,1,1] rfl):PickO _ _ _)) ((.of [1,2,3,4] rfl):SelR _ _ _)
      ·
       refine zha<|zm<|zm<|zu<|zP<|zaa (o3,s3,p5,c5) (show Fl.Fld n (Fl.ge l th) (Fl.nb false w n) cc i o3 s3∧2*Fl.unv o3+s3.length≤2*n+1 from by refine ⟨?_,?_⟩;(have h9:q=4:=(by omega));subst h9;exact hP1.end_ Fl.stp4 (by omega) hwh;have h8:=hFm;rw [List.length_append] at h8;simp only [List.length_cons,List.length_nil] at h8;omega) (by have h9:=hP2;rw [List.length_append];simp only [List.length_cons,List.length_nil];omega) ((.of rfl):SubM _ _) (ho:=((.of [0,0,0] rfl):PickO _ _ _)) ((.of [0,1,2,3] rfl):SelR _ _ _)
     ·
      refine zha<|zm<|zm<|zu<|ze<|zc<|r_pv rfl rfl (zb rfl)<|r_pv rfl rfl (zz (z:=((((Fl.cnt (Fl.ldr (Fl.ge l th) cc) i)+1):Nat):Int)) rfl rfl (w64 (by omega)))<|r_pv rfl rfl (zd rfl)<|zj<|zP<|ze<|zc<|r_pv rfl rfl (zz (z:=(((i+1):Nat):Int)) rfl rfl (w64 (by omega)))<|r_pv rfl rfl (zb rfl)<|zj<|zaa ((i+1),o2) (show (i+1)≤n∧Fl.OutI n (Fl.ge l th) cc (i+1) o2 from by exact ⟨by omega,(by have h9:sk=[]:=(by cases sk with|nil=>rfl|cons a t=>simp at hso);subst h9;exact hF.fin hcc (fun _ _=>Fl.nb_symm) (fun _ _ h8=>Fl.nb_lt h8) (by omega) hfi)⟩) (by show n - (i+1)<n - i;omega) ((.e rfl (congrArg (Value.int .i64) (by dsimp only;rw [Fl.cnt_succ,hld];simp)) (.of rfl)):SubM _ _) (ho:=((.of [1,1] rfl):PickO _ _ _)) ((.of [1,2,3] rfl):SelR _ _ _)
  ·
   refine zha<|zm<|zm<|zu<|ze<|zh<|zc<|r_pv rfl rfl (zb rfl)<|r_pv rfl rfl (zb rfl)<|r_pv rfl rfl (zd rfl)<|r_pv rfl rfl (zd rfl)<|zj<|ze<|zG ?_
   have hin8:i=n:=by omega
   rw [hin8] at ho
   refine zIa 0 rfl .z ?_
   exact zwa Tryz.results49 (some ⟨b2,0,none⟩,n,o,cc) (⟨hcc,ho⟩) (zo rfl) (zo rfl) (by rw [hin8]) (ho:=(.n:PickO _ _ _)) ((.c (j:=0) rfl .n):SelR _ _ _)
theorem zYc {w:Nat} {h:Nat} {m:Int} {p:Option Addr} {n:Nat} {cap:Nat} {l:List Int} {tb:Nat} {th:Int} {p2:Option Addr} {c2:Nat} (hn:l.length=n) (hw:1≤w∧w≤64) (hh:1≤h∧h≤64) (hwh:n=w*h) (hb:n≤4096):Con Tryz.prog 49 [.agg #[.int .i64 ((w:Nat):Int),.int .i64 ((h:Nat):Int),.int .i64 m,.slice p n cap],.func (.func 50) #[] #[.pointer (some ⟨tb,0,none⟩)],.slice p2 8 c2] [] [slF (rI .i64) p cap l,atF tb 0 [.int .i64 th],slF (rI2 .i64) p2 c2 (Fl.st8)] (Y:=(Option Addr)×Nat×(List Int)×(Nat→Nat)) (fun y=>Fl.Lst (fun j=>(Fl.lo l th) j=true) (Fl.nb true w n) y.2.2.2∧Fl.OutI n (Fl.lo l th) y.2.2.2 n y.2.2.1) (fun y=> .tuple #[.slice (y.1) n (y.2.1),.int .i64 (((Fl.cnt (Fl.ldr (Fl.lo l th) y.2.2.2) n):Nat):Int)]) (fun y=>[]) (fun y=>[slF (rI .i64) (y.1) (y.2.1) (y.2.2.1)]):=by
 refine zp Tryz.func49 rfl rfl rfl (fun c=> ?_)
 show RunC _ _ _ _ _ [(0,.agg #[.int .i64 ((w:Nat):Int),.int .i64 ((h:Nat):Int),.int .i64 m,.slice p n cap]),(1,.func (.func 50) #[] #[.pointer (some ⟨tb,0,none⟩)]),(2,.slice p2 8 c2)] [] [slF (rI .i64) p cap l,atF tb 0 [.int .i64 th],slF (rI2 .i64) p2 c2 (Fl.st8)]
 refine zea 0 rfl (fun hL0=> ?_)
 refine zea 2 rfl (fun hL2=> ?_)
 obtain ⟨cc,hcc⟩:=Fl.Lst.exists (inn:=fun j=>(Fl.lo l th) j=true) (adj:=(Fl.nb true w n)) (fun _ _=>Fl.nb_symm)
 have hin:∀j,(Fl.lo l th) j=true→j<n:=fun j hj=>by have:=Fl.lo_lt hj;omega
 refine zh<|zc<|zS rfl rfl (zX rfl rfl) (fun b1=> ?_)
 refine r_pv rfl rfl (zd rfl)<|r_pv rfl rfl (zd rfl)<|zj<|ze<|zh<|zc<|r_pv rfl rfl (zg Tryz.underlying24 rfl sz22 rfl rfl)<|r_u rfl rfl (zf 0 ty22 rfl rfl rfl)<|r_pv rfl rfl (zM Tryz.underlying22 rfl)<|zra rfl rfl (zSa (r:=rI .i64) (k:=n) (x0:=0) (γ0:=()) Tryz.underlying22 inf3 rfl rfl rfl rfl (by omega) (by omega) rfl (fun _ _=>by exact zk.2 (by decide)) (by decide)) (fun b2 _=> ?_)
 refine r_pv rfl rfl (zd rfl)<|zj<|ze<|zh<|zh<|zc<|r_pv rfl rfl (zb rfl)<|r_pv rfl rfl (zM Tryz.underlying22 rfl)<|r_pv rfl rfl (zb rfl)<|zj<|ze<|zx<|zka (X:=Nat×(List Int)) (fun x:Nat×(List Int)=>x.1≤n∧x.2.length=n∧∀j,j<x.1→x.2.getD j 0= -1) (fun x=>[(26,.int .i64 ((x.1:Nat):Int)),(25,.int .i64 ((n:Nat):Int)),(8,.slice (some ⟨b2,0,none⟩) n n),(7,.int .i64 0),(6,.slice none 0 0),(3,.pointer (some ⟨b1,0,none⟩)),(1,.func (.func 50) #[] #[.pointer (some ⟨tb,0,none⟩)]),(2,.slice p2 8 c2)]) (fun x=>[rowA 3 (rI .i64) (some ⟨b2,0,none⟩) n (x.2),boxA b1 24 [.int .i64 ((w:Nat):Int),.int .i64 ((h:Nat):Int),.int .i64 m,.slice p n cap]]) (fun x=>[slF (rI .i64) p cap l,atF tb 0 [.int .i64 th],slF (rI2 .i64) p2 c2 (Fl.st8)]) (fun x:Nat×(List Int)=>n - x.1) (0,List.replicate n 0) (show 0≤n∧(List.replicate n 0).length=n∧∀j,j<0→(List.replicate n 0).getD j 0= -1 from by exact ⟨Nat.zero_le _,by simp,fun j hj=>by omega⟩) ((.e rfl (by first|rfl|(congr 1;omega)|simp_all) (.of rfl)):SubM _ _) (ho:=((.of [0,0] rfl):PickO _ _ _)) ((.of [0,1,2] rfl):SelR _ _ _) ?_
 rintro ⟨i,A⟩ hI
 replace hI:i≤n∧A.length=n∧∀j,j<i→A.getD j 0= -1:=hI
 try dsimp only
 obtain ⟨hi,hAl,hA⟩:=hI
 refine zh<|zc<|r_pv rfl rfl (zY rfl rfl)<|zj<|ze<|zh<|zD rfl (fun h3=> ?_) (fun h3=> ?_)
 ·
  refine zy<|ze<|zh<|zx<|zh<|zc<|r_pv rfl rfl (zb rfl)<|r_pv rfl rfl (zd rfl)<|zj<|ze<|zc<|r_pv rfl rfl (zb rfl)<|r_pv rfl rfl (zb rfl)<|r_pv rfl rfl (zR (j:=i) Tryz.underlying22 sz3 rfl rfl rfl (by omega))<|zta 0 rfl rfl rfl (zO (j:=i) (x0:=(-1)) (γ0:=()) rfl rfl (by first|omega|(rw [List.length_map];omega)|(simp only [List.length_set];omega)|(simp;omega)) rfl rfl sz3 (fun _ _=>by exact zk.2 (by omega))) (fun _=> .z) (fun _ _=> ?_)
  refine zj<|zP<|ze<|zc<|r_pv rfl rfl (zz (z:=(((i+1):Nat):Int)) rfl rfl (w64 (by omega)))<|r_pv rfl rfl (zb rfl)<|zj<|zaa ((i+1),(A.set i (-1))) (show (i+1)≤n∧(A.set i (-1)).length=n∧∀j,j<(i+1)→(A.set i (-1)).getD j 0= -1 from by exact ⟨by omega,by rw [List.length_set];exact hAl,fun j hj=>by by_cases e9:j=i;exact e9 ▸ Big.getD_set_self (by omega) _;rw [Big.getD_set_ne e9];exact hA j (by omega)⟩) (by show n - (i+1)<n - i;omega) ((.of rfl):SubM _ _) (ho:=((.of [0,0] rfl):PickO _ _ _)) ((.of [0,1,2] rfl):SelR _ _ _)
 ·
  refine zha<|zm<|zm<|zu<|ze<|zh<|zc<|r_pv rfl rfl (zd rfl)<|zj<|ze<|zh<|zh<|zc<|r_pv rfl rfl (zg Tryz.underlying24 rfl sz22 rfl rfl)<|r_u rfl rfl (zf 1 ty22 rfl rfl rfl)<|r_pv rfl rfl (zM Tryz.underlying22 rfl)<|r_pv rfl rfl (zb rfl)<|zj<|ze<|zx ?_
  have hin9:i=n:=by omega
  refine zka (X:=Nat×(List Int)) (fun x:Nat×(List Int)=>x.1≤n∧Fl.OutI n (Fl.lo l th) cc x.1 x.2) (fun x=>[(10,.int .i64 (((Fl.cnt (Fl.ldr (Fl.lo l th) cc) x.1):Nat):Int)),(36,.int .i64 ((x.1:Nat):Int)),(35,.int .i64 ((n:Nat):Int)),(34,.slice p n cap),(8,.slice (some ⟨b2,0,none⟩) n n),(7,.int .i64 0),(6,.slice none 0 0),(3,.pointer (some ⟨b1,0,none⟩)),(1,.func (.func 50) #[] #[.pointer (some ⟨tb,0,none⟩)]),(2,.slice p2 8 c2)]) (fun x=>[rowA 3 (rI .i64) (some ⟨b2,0,none⟩) n (x.2),boxA b1 24 [.int .i64 ((w:Nat):Int),.int .i64 ((h:Nat):Int),.int .i64 m,.slice p n cap]]) (fun x=>[slF (rI .i64) p cap l,atF tb 0 [.int .i64 th],slF (rI2 .i64) p2 c2 (Fl.st8)]) (fun x:Nat×(List Int)=>n - x.1) (0,A) (show 0≤n∧Fl.OutI n (Fl.lo l th) cc 0 A from by exact ⟨Nat.zero_le _,⟨hAl,fun j _ _ hj=>by omega,fun j hj _=>hA j (by omega)⟩⟩) ((.e rfl (by first|rfl|(congr 1;omega)|simp_all) (.e rfl (by first|rfl|(congr 1;omega)|simp_all) (.of rfl))):SubM _ _) (ho:=((.of [0,0] rfl):PickO _ _ _)) ((.of [0,1,2] rfl):SelR _ _ _) ?_
  rintro ⟨i,o⟩ hI
  replace hI:i≤n∧Fl.OutI n (Fl.lo l th) cc i o:=hI
  try dsimp only
  obtain ⟨hi,ho⟩:=hI
  have hol:=ho.len
  have hcn:=Fl.cnt_le (Fl.ldr (Fl.lo l th) cc) i
  refine zh<|zc<|r_pv rfl rfl (zY rfl rfl)<|zj<|ze<|zh<|zD rfl (fun h4=> ?_) (fun h4=> ?_)
  ·
   refine zy<|ze<|zh<|zx<|zh<|zc<|r_pv rfl rfl (zb rfl)<|zL (x0:=(l.getD i 0)) 0 i rfl Tryz.underlying22 sz3 rfl rfl rfl (by first|rfl|assumption|(simp only [List.length_append,List.length_map,List.length_cons,List.length_nil];done)|(simp only [List.length_append,List.length_map,List.length_cons,List.length_nil];omega)|omega) rfl rfl (gD (d:=0) (by omega)) (fun b5 o6 hok7=> ?_)
   replace hok7:=zk.1 hok7
   refine r_u rfl rfl (zn (j:=0) 0 ty3 rfl rfl rfl rfl)<|r_pv rfl rfl (zd rfl)<|r_pv rfl rfl (zd rfl)<|zj<|ze<|zh<|zRa (X:=Unit) (fun x=>True) (fun x=>[(51,.bool (decide (¬o.getD i 0<0∨¬(Fl.lo l th) i=true))),(11,.int .i64 ((i:Nat):Int)),(10,.int .i64 (((Fl.cnt (Fl.ldr (Fl.lo l th) cc) i):Nat):Int)),(36,.int .i64 ((i:Nat):Int)),(35,.int .i64 ((n:Nat):Int)),(34,.slice p n cap),(8,.slice (some ⟨b2,0,none⟩) n n),(7,.int .i64 0),(6,.slice none 0 0),(3,.pointer (some ⟨b1,0,none⟩)),(1,.func (.func 50) #[] #[.pointer (some ⟨tb,0,none⟩)]),(2,.slice p2 8 c2)]) (fun x=>[rowA 3 (rI .i64) (some ⟨b2,0,none⟩) n o,boxA b1 24 [.int .i64 ((w:Nat):Int),.int .i64 ((h:Nat):Int),.int .i64 m,.slice p n cap]]) (fun x=>[atF b5 o6 [.int .i64 (l.getD i 0)],slF (rI .i64) p cap l,atF tb 0 [.int .i64 th],slF (rI2 .i64) p2 c2 (Fl.st8)]) ?_ ?_
   ·
    refine zc<|r_pv rfl rfl (zb rfl)<|r_pv rfl rfl (zb rfl)<|r_pv rfl rfl (zR (j:=i) Tryz.underlying22 sz3 rfl rfl rfl (by omega))<|r_vl rfl rfl (zU 0 i rfl ty3 rfl rfl (gD (d:=0) (by omega)) rfl) (fun _ hok8=> ?_)
    replace hok8:=zk.1 hok8
    refine r_pv rfl rfl (zBa rfl rfl)<|zT rfl rfl (zb rfl) (fun hk1=> ?_) (fun hk1=> ?_)
    ·
     refine za rfl rfl<|za rfl rfl<|za rfl rfl<|za rfl rfl<|r_pv rfl rfl (zl rfl rfl)<|zj ?_
     exact zga () (show True from by first|trivial|omega|simp_all) ((.e rfl (congrArg Value.bool (by exact Eq.symm (decide_eq_true (.inl (by omega))))) (.of rfl)):SubM _ _) (ho:=((.of [0,0] rfl):PickO _ _ _)) ((.of [0,1,2,3] rfl):SelR _ _ _)
    ·
     refine r_pv rfl rfl (zb rfl)<|r_pv rfl rfl (zb rfl)<|zSb (first:=[]) (cap:=[.pointer (some ⟨tb,0,none⟩)]) rfl rfl rfl (.c rfl .n) ce50 (zyc (g:=(l.getD i 0)) (th:=th) (tb:=tb)) (.c (j:=2) rfl .n) ?_
     rintro ⟨⟩ -
     dsimp only [List.append_eq,List.nil_append,List.cons_append]
     refine r_pv rfl rfl (zgb rfl)<|r_pv rfl rfl (zl rfl rfl)<|zj ?_
     exact zga () (show True from by first|trivial|omega|simp_all) ((.e rfl (congrArg Value.bool (by exact decide_eq_decide.2 ⟨fun h9=> .inr (fun h8=>h9 ((Fl.lo_iff (by omega)).1 h8)),fun h9 h8=>h9.elim (fun h7=>h7 (by omega)) (fun h7=>h7 ((Fl.lo_iff (by omega)).2 h8))⟩)) (.of rfl)):SubM _ _) (ho:=((.of [0,0] rfl):PickO _ _ _)) ((.of [0,1,2,3] rfl):SelR _ _ _)
   ·
    rintro ⟨⟩ -
    try dsimp only
    refine zD rfl (fun hout=> ?_) (fun hout=> ?_)
    ·
     refine zha<|zm<|zu<|ze<|zc<|r_pv rfl rfl (zz (z:=(((i+1):Nat):Int)) rfl rfl (w64 (by omega)))<|r_pv rfl rfl (zb rfl)<|zj<|zaa ((i+1),o) (show (i+1)≤n∧Fl.OutI n (Fl.lo l th) cc (i+1) o from by exact ⟨by omega,(ho.none hcc (by omega) hout).1⟩) (by show n - (i+1)<n - i;omega) ((.e rfl (congrArg (Value.int .i64) (by dsimp only;rw [Fl.cnt_succ,(ho.none hcc (by omega) hout).2];simp)) (.of rfl)):SubM _ _) (ho:=((.of [0,0] rfl):PickO _ _ _)) ((.of [1,2,3] rfl):SelR _ _ _)
    ·
     refine zy<|ze<|zh<|zc<|r_pv rfl rfl (zb rfl)<|r_pv rfl rfl (zb rfl)<|r_pv rfl rfl (zb rfl)<|r_pv rfl rfl (zR (j:=i) Tryz.underlying22 sz3 rfl rfl rfl (by omega))<|zta 0 rfl rfl rfl (zO (j:=i) (x0:=(((Fl.cnt (Fl.ldr (Fl.lo l th) cc) i):Nat):Int)) (γ0:=()) rfl rfl (by first|omega|(rw [List.length_map];omega)|(simp only [List.length_set];omega)|(simp;omega)) rfl rfl sz3 (fun _ _=>by exact zk.2 (by omega))) (fun _=> .z) (fun _ _=> ?_)
     refine zj<|ze<|zh<|zh<|zc<|r_pv rfl rfl (zb rfl)<|zra rfl rfl (zE (enc:=fun z:Int=>[.int .i64 z]) (ok:=InK .i64) (h1:=fun _=>rfl) (h2:=fun _=>rfl) (k:=1) Tryz.underlying22 inf3 rfl (by decide) (by decide) (by decide) (.c (x:=((i:Nat):Int)) rfl rfl (fun _ _=>by exact zk.2 (by omega)) .n)) (fun b9 _=> ?_)
     refine r_pv rfl rfl (zd rfl)<|zj<|ze<|zx ?_
     have hfi:(Fl.lo l th) i=true:=by by_cases h9:(Fl.lo l th) i=true;exact h9;exact absurd (.inr h9) hout
     have hoi:o.getD i 0<0:=by by_cases h9:o.getD i 0<0;exact h9;exact absurd (.inl h9) hout
     have hld:=(ho.lead hcc (by omega) hoi hfi).2
     refine zka (X:=(List Int)×(List Nat)×(Option Addr)×Nat) (fun x:(List Int)×(List Nat)×(Option Addr)×Nat=>Fl.Fld n (Fl.lo l th) (Fl.nb true w n) cc i x.1 x.2.1∧2*Fl.unv x.1+x.2.1.length≤2*n+1) (fun x=>[(13,.slice (x.2.2.1) (x.2.1.length) (x.2.2.2)),(10,.int .i64 (((Fl.cnt (Fl.ldr (Fl.lo l th) cc) i):Nat):Int)),(36,.int .i64 ((i:Nat):Int)),(35,.int .i64 ((n:Nat):Int)),(34,.slice p n cap),(8,.slice (some ⟨b2,0,none⟩) n n),(7,.int .i64 0),(6,.slice none 0 0),(3,.pointer (some ⟨b1,0,none⟩)),(1,.func (.func 50) #[] #[.pointer (some ⟨tb,0,none⟩)]),(2,.slice p2 8 c2)]) (fun x=>[rowA 3 (rI .i64) (x.2.2.1) (x.2.2.2) (x.2.1.map Fl.iz),rowA 3 (rI .i64) (some ⟨b2,0,none⟩) n (x.1),boxA b1 24 [.int .i64 ((w:Nat):Int),.int .i64 ((h:Nat):Int),.int .i64 m,.slice p n cap]]) (fun x=>[atF b5 o6 [.int .i64 (l.getD i 0)],slF (rI .i64) p cap l,atF tb 0 [.int .i64 th],slF (rI2 .i64) p2 c2 (Fl.st8)]) (fun x:(List Int)×(List Nat)×(Option Addr)×Nat=>2*Fl.unv x.1+x.2.1.length) ((o.set i (((Fl.cnt (Fl.ldr (Fl.lo l th) cc) i):Nat):Int)),[i],some ⟨b9,0,none⟩,1) (show Fl.Fld n (Fl.lo l th) (Fl.nb true w n) cc i (o.set i (((Fl.cnt (Fl.ldr (Fl.lo l th) cc) i):Nat):Int)) ([i])∧2*Fl.unv (o.set i (((Fl.cnt (Fl.ldr (Fl.lo l th) cc) i):Nat):Int))+([i]).length≤2*n+1 from by exact ⟨(ho.lead hcc (by omega) hoi hfi).1,by have h9:=Fl.unv_le (o.set i ((Fl.cnt (Fl.ldr (Fl.lo l th) cc) i:Nat):Int));rw [List.length_set] at h9;simp only [List.length_cons,List.length_nil];omega⟩) ((.e rfl (by first|rfl|(congr 1;omega)|simp_all) (.of rfl)):SubM _ _) (ho:=((.e (i:=0) rfl (by first|rfl|(congr 1;omega)|simp_all) (.of [0,0] rfl)):PickO _ _ _)) ((.of [0,1,2,3] rfl):SelR _ _ _) ?_
     rintro ⟨o2,sk,p4,c4⟩ hFF
     replace hFF:Fl.Fld n (Fl.lo l th) (Fl.nb true w n) cc i o2 sk∧2*Fl.unv o2+sk.length≤2*n+1:=hFF
     try dsimp only
     obtain ⟨hF,hFm⟩:=hFF
     have ho2:=hF.len
     refine zh<|zh<|zc<|r_pv rfl rfl (zb rfl)<|r_pv rfl rfl (zM Tryz.underlying22 rfl)<|r_pv rfl rfl (zza rfl rfl)<|zj<|ze<|zD rfl (fun hso=> ?_) (fun hso=> ?_)
     ·
      obtain ⟨st,pp,rfl⟩:=Fl.snoc (sk:=sk) (fun e9=>by rw [e9] at hso;simp at hso)
      have hsl9:st.length+1≤2*n+1:=by have h8:=hFm;rw [List.length_append] at h8;simp only [List.length_cons,List.length_nil] at h8;omega
      have hsl8:((st++[pp]).map Fl.iz).length=st.length+1:=by simp
      refine zHc 0 rfl (fun hcl=> ?_)
      have e10:(.slice p4 ((st++[pp]).length) c4:Value)= .slice p4 (st.length+1) c4:=by simp
      rw [e10]
      refine zy<|ze<|zx<|zh<|zc<|r_pv rfl rfl (zb rfl)<|r_pv rfl rfl (zb rfl)<|r_pv rfl rfl (zM Tryz.underlying22 rfl)<|r_pv rfl rfl (zia (z:=(((st.length):Nat):Int)) rfl rfl (w64 (by omega)))<|r_u rfl rfl (zca 0 (st.length) rfl Tryz.underlying22 sz3 rfl (by first|rfl|assumption|(simp only [List.length_append,List.length_map,List.length_cons,List.length_nil];done)|(simp only [List.length_append,List.length_map,List.length_cons,List.length_nil];omega)|omega) rfl rfl (by omega))<|r_vl rfl rfl (zU 0 (st.length) rfl ty3 rfl rfl (gD (d:=0) (by omega)) rfl) (fun _ hok11=> ?_)
      replace hok11:=zk.1 hok11
      refine r_pv rfl rfl (zd rfl)<|zj<|ze<|zh ?_
      have e12:((((st++[pp]).map Fl.iz).getD (st.length) 0):Int)=((pp:Nat):Int):=by exact Fl.getD_iz st pp
      rw [e12]
      refine zc<|r_pv rfl rfl (zb rfl)<|r_pv rfl rfl (zb rfl)<|r_pv rfl rfl (zM Tryz.underlying22 rfl)<|r_pv rfl rfl (zia (z:=(((st.length):Nat):Int)) rfl rfl (w64 (by omega)))<|r_pv rfl rfl (zZa (hi:=(st.length)) Tryz.underlying22 sz3 rfl (.s rfl) (.inr ⟨_,rfl⟩) (by omega))<|r_pv rfl rfl (zd rfl)<|zj<|ze<|zh<|c_mem (fun w mm=>mm.rowTake 0 rfl (st.length)) ?_
      dsimp only [List.set]
      have e13:((st++[pp]).map Fl.iz).take (st.length)=st.map Fl.iz:=by simp
      rw [e13]
      refine zc<|r_pv rfl rfl (zb rfl)<|r_pv rfl rfl (zM Tryz.underlying76 rfl)<|r_pv rfl rfl (zb rfl)<|zj<|ze<|zx<|zka (X:=Nat×(List Int)×(List Nat)×(Option Addr)×Nat) (fun x:Nat×(List Int)×(List Nat)×(Option Addr)×Nat=>x.1≤8∧Fl.FlP n (Fl.lo l th) (Fl.nb true w n) cc i x.2.1 x.2.2.1 pp (Fl.Dst w h pp Fl.st8 x.1)∧2*Fl.unv x.2.1+x.2.2.1.length≤2*Fl.unv o2+st.length) (fun x=>[(13,.slice (x.2.2.2.1) (x.2.2.1.length) (x.2.2.2.2)),(74,.int .i64 ((x.1:Nat):Int)),(73,.int .i64 ((8:Nat):Int)),(72,.slice p2 8 c2),(14,.int .i64 ((pp:Nat):Int)),(10,.int .i64 (((Fl.cnt (Fl.ldr (Fl.lo l th) cc) i):Nat):Int)),(36,.int .i64 ((i:Nat):Int)),(35,.int .i64 ((n:Nat):Int)),(34,.slice p n cap),(8,.slice (some ⟨b2,0,none⟩) n n),(7,.int .i64 0),(6,.slice none 0 0),(3,.pointer (some ⟨b1,0,none⟩)),(1,.func (.func 50) #[] #[.pointer (some ⟨tb,0,none⟩)]),(2,.slice p2 8 c2)]) (fun x=>[rowA 3 (rI .i64) (x.2.2.2.1) (x.2.2.2.2) (x.2.2.1.map Fl.iz),rowA 3 (rI .i64) (some ⟨b2,0,none⟩) n (x.2.1),boxA b1 24 [.int .i64 ((w:Nat):Int),.int .i64 ((h:Nat):Int),.int .i64 m,.slice p n cap]]) (fun x=>[atF b5 o6 [.int .i64 (l.getD i 0)],slF (rI .i64) p cap l,atF tb 0 [.int .i64 th],slF (rI2 .i64) p2 c2 (Fl.st8)]) (fun x:Nat×(List Int)×(List Nat)×(Option Addr)×Nat=>8 - x.1) (0,o2,st,p4,c4) (show 0≤8∧Fl.FlP n (Fl.lo l th) (Fl.nb true w n) cc i o2 st pp (Fl.Dst w h pp Fl.st8 0)∧2*Fl.unv o2+st.length≤2*Fl.unv o2+st.length from by exact ⟨Nat.zero_le _,Fl.FlP.start hF,Nat.le_refl _⟩) ((.c rfl (.e rfl (by first|rfl|(congr 1;omega)|simp_all) (.of rfl))):SubM _ _) (ho:=((.of [0,0,0] rfl):PickO _ _ _)) ((.of [0,1,2,3] rfl):SelR _ _ _) ?_
      rintro ⟨q,o3,s3,p5,c5⟩ hQ
      replace hQ:q≤8∧Fl.FlP n (Fl.lo l th) (Fl.nb true w n) cc i o3 s3 pp (Fl.Dst w h pp Fl.st8 q)∧2*Fl.unv o3+s3.length≤2*Fl.unv o2+st.length:=hQ
      try dsimp only
      obtain ⟨hq,hP1,hP2⟩:=hQ
      have ho3:=hP1.len
      refine zh<|zc<|r_pv rfl rfl (zY rfl rfl)<|zj<|ze<|zh<|zD rfl (fun h14=> ?_) (fun h14=> ?_)
      ·
       have hst9:Fl.st8.length=8:=rfl
       have hd9:=Fl.stp8.ok _ (Fl.gD_mem (l:=Fl.st8) (q:=q) (by show q<8;omega))
       have hpb:=Fl.at_b hw hP1.pop.1 hb hd9.1 hd9.2.1
       refine zy<|ze<|zh<|zx<|zh<|zc<|zL (x0:=(Fl.st8.getD q (0,0))) 3 q rfl Tryz.underlying76 sz91 rfl rfl rfl (by first|rfl|assumption|(simp only [List.length_append,List.length_map,List.length_cons,List.length_nil];done)|(simp only [List.length_append,List.length_map,List.length_cons,List.length_nil];omega)|omega) rfl rfl (gD (d:=(0,0)) (by omega)) (fun b15 o16 hok17=> ?_)
       obtain ⟨hok17x,hok17y⟩:=hok17
       replace hok17x:=zk.1 hok17x
       replace hok17y:=zk.1 hok17y
       refine r_u rfl rfl (zya (j:=0) 0 ty91 rfl rfl rfl (.take (.take .nil)))<|zS rfl rfl (zI zr91 rfl) (fun b18=> ?_)
       refine zr 0 rfl rfl rfl rfl rfl sz91 rfl (.take (.take .nil)) .z<|zj<|ze<|zh<|zla (OW:=[]) (O:=[boxA b18 91 [.int .i64 ((Fl.st8.getD q (0,0)).1),.int .i64 ((Fl.st8.getD q (0,0)).2)],rowA 3 (rI .i64) p5 c5 (s3.map Fl.iz),rowA 3 (rI .i64) (some ⟨b2,0,none⟩) n o3,boxA b1 24 [.int .i64 ((w:Nat):Int),.int .i64 ((h:Nat):Int),.int .i64 m,.slice p n cap]]) 100000 mixed (.then (.block (.then (.then (.block (.block (.then (.block (.then (.block (.then (.then (.block (.then .ret)))))))))))))) (by kernel_rfl)<|d_pv 0 rfl rfl (by kernel_rfl) (by kernel_rfl) rfl rfl (zb rfl)<|d_pv 1 rfl rfl (by kernel_rfl) (by kernel_rfl) rfl rfl (zg Tryz.underlying24 rfl sz3 rfl rfl)<|d_u 2 rfl rfl (by kernel_rfl) (by kernel_rfl) rfl rfl (zf 3 ty3 rfl rfl rfl)<|d_pv 3 rfl rfl (by kernel_rfl) (by kernel_rfl) rfl rfl (zGa (z:=(((pp%w):Nat):Int)) rfl rfl (by omega) (remN (by omega) (by omega)))<|d_pv 4 rfl rfl (by kernel_rfl) (by kernel_rfl) rfl rfl (zMa (i:=0) Tryz.underlying91 sz3 rfl rfl (by decide) rfl)<|d_u 5 rfl rfl (by kernel_rfl) (by kernel_rfl) rfl rfl (zf 0 ty3 rfl rfl rfl)<|d_pv 6 rfl rfl (by kernel_rfl) (by kernel_rfl) rfl rfl (zz (z:=((((pp%w):Nat):Int)+(Fl.st8.getD q (0,0)).1)) rfl rfl (w64 (by omega)))<|d_pv 7 rfl rfl (by kernel_rfl) (by kernel_rfl) rfl rfl (zb rfl)<|d_pv 8 rfl rfl (by kernel_rfl) (by kernel_rfl) rfl rfl (zg Tryz.underlying24 rfl sz3 rfl rfl)<|d_u 9 rfl rfl (by kernel_rfl) (by kernel_rfl) rfl rfl (zf 3 ty3 rfl rfl rfl)<|d_pv 10 rfl rfl (by kernel_rfl) (by kernel_rfl) rfl rfl (zFa (z:=(((pp / w):Nat):Int)) rfl rfl (by omega) (by rw [quoN (z:=(((pp / w):Nat):Int)) (by omega) (by omega)];exact w64 (by omega)))<|d_pv 11 rfl rfl (by kernel_rfl) (by kernel_rfl) rfl rfl (zMa (i:=1) Tryz.underlying91 sz3 rfl rfl (by decide) rfl)<|d_u 12 rfl rfl (by kernel_rfl) (by kernel_rfl) rfl rfl (zf 0 ty3 rfl rfl rfl)<|d_pv 13 rfl rfl (by kernel_rfl) (by kernel_rfl) rfl rfl (zz (z:=((((pp / w):Nat):Int)+(Fl.st8.getD q (0,0)).2)) rfl rfl (w64 (by omega)))<|d_pv 14 rfl rfl (by kernel_rfl) (by kernel_rfl) rfl rfl (zd rfl)<|d_pv 15 rfl rfl (by kernel_rfl) (by kernel_rfl) rfl rfl (zd rfl)<|zfa (by kernel_rfl)<|ze<|zh ?_
       obtain ⟨kx,hkx⟩:∃z,z=((((pp%w):Nat):Int)+(Fl.st8.getD q (0,0)).1):=⟨_,rfl⟩
       rw [← hkx]
       obtain ⟨ky,hky⟩:∃z,z=((((pp / w):Nat):Int)+(Fl.st8.getD q (0,0)).2):=⟨_,rfl⟩
       rw [← hky]
       have hkyw: -64≤ky*((w:Nat):Int)∧ky*((w:Nat):Int)≤4160:=by rw [hky];exact hpb.1
       have hkxb: -1≤kx∧kx≤64:=by rw [hkx];exact hpb.2.1
       refine zc<|r_pv rfl rfl (zb rfl)<|r_pv rfl rfl (zg Tryz.underlying24 rfl sz3 rfl rfl)<|r_u rfl rfl (zf 3 ty3 rfl rfl rfl)<|r_pv rfl rfl (zna (z:=(ky*((w:Nat):Int))) rfl rfl (w64 (by omega)))<|r_pv rfl rfl (zb rfl)<|r_pv rfl rfl (zz (z:=((ky*((w:Nat):Int))+kx)) rfl rfl (w64 (by omega)))<|r_pv rfl rfl (zd rfl)<|zj<|ze ?_
       obtain ⟨kj,hkj⟩:∃z,z=((ky*((w:Nat):Int))+kx):=⟨_,rfl⟩
       rw [← hkj]
       refine zRa (X:=Unit) (fun x=>True) (fun x=>[(131,.bool (decide (Fl.CP w h pp (Fl.lo l th) o3 (Fl.st8.getD q (0,0))))),(19,.int .i64 kj),(13,.slice p5 (s3.length) c5),(74,.int .i64 ((q:Nat):Int)),(73,.int .i64 ((8:Nat):Int)),(72,.slice p2 8 c2),(14,.int .i64 ((pp:Nat):Int)),(10,.int .i64 (((Fl.cnt (Fl.ldr (Fl.lo l th) cc) i):Nat):Int)),(36,.int .i64 ((i:Nat):Int)),(35,.int .i64 ((n:Nat):Int)),(34,.slice p n cap),(8,.slice (some ⟨b2,0,none⟩) n n),(7,.int .i64 0),(6,.slice none 0 0),(3,.pointer (some ⟨b1,0,none⟩)),(1,.func (.func 50) #[] #[.pointer (some ⟨tb,0,none⟩)]),(2,.slice p2 8 c2)]) (fun x=>[boxA b18 91 [.int .i64 ((Fl.st8.getD q (0,0)).1),.int .i64 ((Fl.st8.getD q (0,0)).2)],rowA 3 (rI .i64) p5 c5 (s3.map Fl.iz),rowA 3 (rI .i64) (some ⟨b2,0,none⟩) n o3,boxA b1 24 [.int .i64 ((w:Nat):Int),.int .i64 ((h:Nat):Int),.int .i64 m,.slice p n cap]]) (fun x=>[atF b15 o16 [.int .i64 ((Fl.st8.getD q (0,0)).1),.int .i64 ((Fl.st8.getD q (0,0)).2)],atF b5 o6 [.int .i64 (l.getD i 0)],slF (rI .i64) p cap l,atF tb 0 [.int .i64 th],slF (rI2 .i64) p2 c2 (Fl.st8)]) ?_ ?_
       ·
        refine zc<|r_pv rfl rfl (zb rfl)<|r_pv rfl rfl (zBa rfl rfl)<|zT rfl rfl (zb rfl) (fun hx0=> ?_) (fun hx0=> ?_)
        ·
         refine r_pv rfl rfl (zb rfl)<|r_pv rfl rfl (zBa rfl rfl)<|r_pv rfl rfl (zl rfl rfl)<|zT rfl rfl (zb rfl) (fun hx1=> ?_) (fun hx1=> ?_)
         ·
          refine r_pv rfl rfl (zb rfl)<|r_pv rfl rfl (zg Tryz.underlying24 rfl sz3 rfl rfl)<|r_u rfl rfl (zf 3 ty3 rfl rfl rfl)<|r_pv rfl rfl (zY rfl rfl)<|r_pv rfl rfl (zl rfl rfl)<|zT rfl rfl (zb rfl) (fun hx2=> ?_) (fun hx2=> ?_)
          ·
           refine r_pv rfl rfl (zb rfl)<|r_pv rfl rfl (zg Tryz.underlying24 rfl sz3 rfl rfl)<|r_u rfl rfl (zf 3 ty3 rfl rfl rfl)<|r_pv rfl rfl (zY rfl rfl)<|r_pv rfl rfl (zl rfl rfl)<|zT rfl rfl (zb rfl) (fun hx3=> ?_) (fun hx3=> ?_)
           ·
            have hat:kj.toNat=Fl.atD w pp (Fl.st8.getD q (0,0)):=by rw [hkj,hky,hkx];rfl
            have hiD:Fl.inD w h pp (Fl.st8.getD q (0,0)):=⟨hkx ▸ hx0,hky ▸ hx1,hkx ▸ hx2,hky ▸ hx3⟩
            have hpx:=hiD.pix
            have hkj0:0≤kj∧kj.toNat<n:=⟨by rw [hkj,hky,hkx];exact hpx.1,by rw [hat,hwh];exact hpx.2⟩
            refine r_pv rfl rfl (zb rfl)<|r_pv rfl rfl (zb rfl)<|r_pv rfl rfl (zR (j:=(kj).toNat) Tryz.underlying22 sz3 rfl rfl (by omega) (by omega))<|r_vl rfl rfl (zU 2 ((kj).toNat) rfl ty3 rfl rfl (gD (d:=0) (by omega)) rfl) (fun _ hok19=> ?_)
            replace hok19:=zk.1 hok19
            refine r_pv rfl rfl (zY rfl rfl)<|r_pv rfl rfl (zl rfl rfl)<|zT rfl rfl (zb rfl) (fun hx4=> ?_) (fun hx4=> ?_)
            ·
             refine r_pv rfl rfl (zb rfl)<|r_pv rfl rfl (zg Tryz.underlying24 rfl sz22 rfl rfl)<|r_u rfl rfl (zf 3 ty22 rfl rfl rfl)<|r_pv rfl rfl (zb rfl)<|zL (x0:=(l.getD ((kj).toNat) 0)) 2 ((kj).toNat) rfl Tryz.underlying22 sz3 rfl rfl rfl (by first|rfl|assumption|(simp only [List.length_append,List.length_map,List.length_cons,List.length_nil];done)|(simp only [List.length_append,List.length_map,List.length_cons,List.length_nil];omega)|omega) rfl (by omega) (gD (d:=0) (by omega)) (fun b20 o21 hok22=> ?_)
             replace hok22:=zk.1 hok22
             refine r_u rfl rfl (zn (j:=0) 0 ty3 rfl rfl rfl rfl)<|zSb (first:=[]) (cap:=[.pointer (some ⟨tb,0,none⟩)]) rfl rfl rfl (.c rfl .n) ce50 (zyc (g:=(l.getD ((kj).toNat) 0)) (th:=th) (tb:=tb)) (.c (j:=4) rfl .n) ?_
             rintro ⟨⟩ -
             dsimp only [List.append_eq,List.nil_append,List.cons_append]
             refine r_pv rfl rfl (zl rfl rfl)<|zj ?_
             exact zga () (show True from by first|trivial|omega|simp_all) ((.e rfl (congrArg Value.bool (by exact decide_eq_decide.2 ⟨fun h9=>⟨hiD,by rw [← hat];exact hx4,by rw [← hat];exact (Fl.lo_iff (by omega)).2 h9⟩,fun h9=>(Fl.lo_iff (by omega)).1 (by rw [hat];exact h9.2.2)⟩)) (.of rfl)):SubM _ _) (ho:=((.of [0,0,0,0] rfl):PickO _ _ _)) ((.of [1,2,3,4,5] rfl):SelR _ _ _)
            ·
             refine za rfl rfl<|za rfl rfl<|za rfl rfl<|za rfl rfl<|za rfl rfl<|za rfl rfl<|za rfl rfl<|r_pv rfl rfl (zl rfl rfl)<|zj ?_
             exact zga () (show True from by first|trivial|omega|simp_all) ((.e rfl (congrArg Value.bool (by exact Eq.symm (decide_eq_false (fun h9=>hx4 (by rw [hat];exact h9.2.1))))) (.of rfl)):SubM _ _) (ho:=((.of [0,0,0,0] rfl):PickO _ _ _)) ((.of [0,1,2,3,4] rfl):SelR _ _ _)
           ·
            refine za rfl rfl<|za rfl rfl<|za rfl rfl<|za rfl rfl<|za rfl rfl<|r_pv rfl rfl (zl rfl rfl)<|r_pv rfl rfl (zb rfl)<|za rfl rfl<|za rfl rfl<|za rfl rfl<|za rfl rfl<|za rfl rfl<|za rfl rfl<|za rfl rfl<|r_pv rfl rfl (zl rfl rfl)<|zj ?_
            exact zga () (show True from by first|trivial|omega|simp_all) ((.e rfl (congrArg Value.bool (by exact Eq.symm (decide_eq_false (fun h9=>hx3 (by rw [hky];exact h9.1.2.2.2))))) (.of rfl)):SubM _ _) (ho:=((.of [0,0,0,0] rfl):PickO _ _ _)) ((.of [0,1,2,3,4] rfl):SelR _ _ _)
          ·
           refine za rfl rfl<|za rfl rfl<|za rfl rfl<|za rfl rfl<|r_pv rfl rfl (zl rfl rfl)<|r_pv rfl rfl (zb rfl)<|za rfl rfl<|za rfl rfl<|za rfl rfl<|za rfl rfl<|za rfl rfl<|r_pv rfl rfl (zl rfl rfl)<|r_pv rfl rfl (zb rfl)<|za rfl rfl<|za rfl rfl<|za rfl rfl<|za rfl rfl<|za rfl rfl<|za rfl rfl<|za rfl rfl<|r_pv rfl rfl (zl rfl rfl)<|zj ?_
           exact zga () (show True from by first|trivial|omega|simp_all) ((.e rfl (congrArg Value.bool (by exact Eq.symm (decide_eq_false (fun h9=>hx2 (by rw [hkx];exact h9.1.2.2.1))))) (.of rfl)):SubM _ _) (ho:=((.of [0,0,0,0] rfl):PickO _ _ _)) ((.of [0,1,2,3,4] rfl):SelR _ _ _)
         ·
          refine za rfl rfl<|za rfl rfl<|za rfl rfl<|za rfl rfl<|r_pv rfl rfl (zl rfl rfl)<|r_pv rfl rfl (zb rfl)<|za rfl rfl<|za rfl rfl<|za rfl rfl<|za rfl rfl<|r_pv rfl rfl (zl rfl rfl)<|r_pv rfl rfl (zb rfl)<|za rfl rfl<|za rfl rfl<|za rfl rfl<|za rfl rfl<|za rfl rfl<|r_pv rfl rfl (zl rfl rfl)<|r_pv rfl rfl (zb rfl)<|za rfl rfl<|za rfl rfl<|za rfl rfl<|za rfl rfl<|za rfl rfl<|za rfl rfl<|za rfl rfl<|r_pv rfl rfl (zl rfl rfl)<|zj ?_
          exact zga () (show True from by first|trivial|omega|simp_all) ((.e rfl (congrArg Value.bool (by exact Eq.symm (decide_eq_false (fun h9=>hx1 (by rw [hky];exact h9.1.2.1))))) (.of rfl)):SubM _ _) (ho:=((.of [0,0,0,0] rfl):PickO _ _ _)) ((.of [0,1,2,3,4] rfl):SelR _ _ _)
        ·
         refine za rfl rfl<|za rfl rfl<|r_pv rfl rfl (zl rfl rfl)<|r_pv rfl rfl (zb rfl)<|za rfl rfl<|za rfl rfl<|za rfl rfl<|za rfl rfl<|r_pv rfl rfl (zl rfl rfl)<|r_pv rfl rfl (zb rfl)<|za rfl rfl<|za rfl rfl<|za rfl rfl<|za rfl rfl<|r_pv rfl rfl (zl rfl rfl)<|r_pv rfl rfl (zb rfl)<|za rfl rfl<|za rfl rfl<|za rfl rfl<|za rfl rfl<|za rfl rfl<|r_pv rfl rfl (zl rfl rfl)<|r_pv rfl rfl (zb rfl)<|za rfl rfl<|za rfl rfl<|za rfl rfl<|za rfl rfl<|za rfl rfl<|za rfl rfl<|za rfl rfl<|r_pv rfl rfl (zl rfl rfl)<|zj ?_
         exact zga () (show True from by first|trivial|omega|simp_all) ((.e rfl (congrArg Value.bool (by exact Eq.symm (decide_eq_false (fun h9=>hx0 (by rw [hkx];exact h9.1.1))))) (.of rfl)):SubM _ _) (ho:=((.of [0,0,0,0] rfl):PickO _ _ _)) ((.of [0,1,2,3,4] rfl):SelR _ _ _)
       ·
        rintro ⟨⟩ -
        try dsimp only
        refine zD rfl (fun hc=> ?_) (fun hc=> ?_)
        ·
         have hat:kj.toNat=Fl.atD w pp (Fl.st8.getD q (0,0)):=by rw [hkj,hky,hkx];rfl
         have hpx:=hc.1.pix
         have hkj0:0≤kj∧kj.toNat<n:=⟨by rw [hkj,hky,hkx];exact hpx.1,by rw [hat,hwh];exact hpx.2⟩
         refine zh<|zc<|r_pv rfl rfl (zb rfl)<|r_pv rfl rfl (zb rfl)<|r_pv rfl rfl (zb rfl)<|r_pv rfl rfl (zR (j:=(kj).toNat) Tryz.underlying22 sz3 rfl rfl (by omega) (by omega))<|zta 2 rfl rfl rfl (zO (j:=(kj).toNat) (x0:=(((Fl.cnt (Fl.ldr (Fl.lo l th) cc) i):Nat):Int)) (γ0:=()) rfl rfl (by first|omega|(rw [List.length_map];omega)|(simp only [List.length_set];omega)|(simp;omega)) rfl rfl sz3 (fun _ _=>by exact zk.2 (by omega))) (fun _=>(.s (.s .z))) (fun _ _=> ?_)
         refine zj<|ze<|zc<|r_pv rfl rfl (zb rfl)<|r_pv rfl rfl (zb rfl)<|zra rfl rfl (zE (enc:=fun z:Int=>[.int .i64 z]) (ok:=InK .i64) (h1:=fun _=>rfl) (h2:=fun _=>rfl) (k:=1) Tryz.underlying22 inf3 rfl (by decide) (by decide) (by decide) (.c (x:=kj) rfl rfl (fun _ _=>by exact zk.2 (by omega)) .n)) (fun b23 _=> ?_)
         refine zda 0 rfl .z<|zta 2 rfl rfl rfl (zpa 0 rfl Tryz.underlying22 inf3 (by decide) rfl rfl (by first|rfl|assumption|(simp only [List.length_append,List.length_map,List.length_cons,List.length_nil];done)|(simp only [List.length_append,List.length_map,List.length_cons,List.length_nil];omega)|omega) rfl (by first|rfl|assumption|(simp only [List.length_append,List.length_map,List.length_cons,List.length_nil];done)|(simp only [List.length_append,List.length_map,List.length_cons,List.length_nil];omega)|omega) (by omega) (by omega)) (fun _=>(.s (.s .z))) ?_
         rintro ⟨p24,c25⟩ -
         dsimp only [List.append_eq,List.nil_append,List.cons_append]
         refine r_pv rfl rfl (zd rfl)<|zj<|zP<|ze<|zc<|r_pv rfl rfl (zz (z:=(((q+1):Nat):Int)) rfl rfl (w64 (by omega)))<|r_pv rfl rfl (zb rfl)<|zj<|zaa ((q+1),(o3.set ((kj).toNat) (((Fl.cnt (Fl.ldr (Fl.lo l th) cc) i):Nat):Int)),(s3++[(kj).toNat]),p24,c25) (show (q+1)≤8∧Fl.FlP n (Fl.lo l th) (Fl.nb true w n) cc i (o3.set ((kj).toNat) (((Fl.cnt (Fl.ldr (Fl.lo l th) cc) i):Nat):Int)) (s3++[(kj).toNat]) pp (Fl.Dst w h pp Fl.st8 (q+1))∧2*Fl.unv (o3.set ((kj).toNat) (((Fl.cnt (Fl.ldr (Fl.lo l th) cc) i):Nat):Int))+(s3++[(kj).toNat]).length≤2*Fl.unv o2+st.length from by have h9:=hP1.yes Fl.stp8 hwh (by show q<8;omega) hcc hc.1 hc.2.1 hc.2.2;rw [← hat] at h9;exact ⟨by omega,h9.1,by omega⟩) (by show 8 - (q+1)<8 - q;omega) ((.e rfl (by simp) (.of rfl)):SubM _ _) (ho:=((.e (i:=2) rfl (by first|rfl|(dsimp only;rw [List.map_append,List.map_cons,List.map_nil,show Fl.iz ((kj).toNat)=kj by unfold Fl.iz;omega])) (.of [2,2] rfl)):PickO _ _ _)) ((.of [2,3,4,5] rfl):SelR _ _ _)
        ·
         refine zy<|zP<|ze<|zc<|r_pv rfl rfl (zz (z:=(((q+1):Nat):Int)) rfl rfl (w64 (by omega)))<|r_pv rfl rfl (zb rfl)<|zj<|zaa ((q+1),o3,s3,p5,c5) (show (q+1)≤8∧Fl.FlP n (Fl.lo l th) (Fl.nb true w n) cc i o3 s3 pp (Fl.Dst w h pp Fl.st8 (q+1))∧2*Fl.unv o3+s3.length≤2*Fl.unv o2+st.length from by exact ⟨by omega,hP1.no Fl.stp8 hwh (by show q<8;omega) hcc hc,hP2⟩) (by show 8 - (q+1)<8 - q;omega) ((.of rfl):SubM _ _) (ho:=((.of [1,1,1] rfl):PickO _ _ _)) ((.of [1,2,3,4] rfl):SelR _ _ _)
      ·
       refine zha<|zm<|zm<|zu<|zP<|zaa (o3,s3,p5,c5) (show Fl.Fld n (Fl.lo l th) (Fl.nb true w n) cc i o3 s3∧2*Fl.unv o3+s3.length≤2*n+1 from by refine ⟨?_,?_⟩;(have h9:q=8:=(by omega));subst h9;exact hP1.end_ Fl.stp8 (by omega) hwh;have h8:=hFm;rw [List.length_append] at h8;simp only [List.length_cons,List.length_nil] at h8;omega) (by have h9:=hP2;rw [List.length_append];simp only [List.length_cons,List.length_nil];omega) ((.of rfl):SubM _ _) (ho:=((.of [0,0,0] rfl):PickO _ _ _)) ((.of [0,1,2,3] rfl):SelR _ _ _)
     ·
      refine zha<|zm<|zm<|zu<|ze<|zc<|r_pv rfl rfl (zb rfl)<|r_pv rfl rfl (zz (z:=((((Fl.cnt (Fl.ldr (Fl.lo l th) cc) i)+1):Nat):Int)) rfl rfl (w64 (by omega)))<|r_pv rfl rfl (zd rfl)<|zj<|zP<|ze<|zc<|r_pv rfl rfl (zz (z:=(((i+1):Nat):Int)) rfl rfl (w64 (by omega)))<|r_pv rfl rfl (zb rfl)<|zj<|zaa ((i+1),o2) (show (i+1)≤n∧Fl.OutI n (Fl.lo l th) cc (i+1) o2 from by exact ⟨by omega,(by have h9:sk=[]:=(by cases sk with|nil=>rfl|cons a t=>simp at hso);subst h9;exact hF.fin hcc (fun _ _=>Fl.nb_symm) (fun _ _ h8=>Fl.nb_lt h8) (by omega) hfi)⟩) (by show n - (i+1)<n - i;omega) ((.e rfl (congrArg (Value.int .i64) (by dsimp only;rw [Fl.cnt_succ,hld];simp)) (.of rfl)):SubM _ _) (ho:=((.of [1,1] rfl):PickO _ _ _)) ((.of [1,2,3] rfl):SelR _ _ _)
  ·
   refine zha<|zm<|zm<|zu<|ze<|zh<|zc<|r_pv rfl rfl (zb rfl)<|r_pv rfl rfl (zb rfl)<|r_pv rfl rfl (zd rfl)<|r_pv rfl rfl (zd rfl)<|zj<|ze<|zG ?_
   have hin8:i=n:=by omega
   rw [hin8] at ho
   refine zIa 0 rfl .z ?_
   exact zwa Tryz.results49 (some ⟨b2,0,none⟩,n,o,cc) (⟨hcc,ho⟩) (zo rfl) (zo rfl) (by rw [hin8]) (ho:=(.n:PickO _ _ _)) ((.c (j:=0) rfl .n):SelR _ _ _)
end Go.Proofs.YtefbbhiaalcjfaaGreat.Sp
namespace Go.Proofs.YtefbbhiaalcjfaaGreat.Fl
section
variable {n i k : Nat} {f : Nat → Bool} {adj : Nat → Nat → Prop} {c : Nat → Nat} {num A : List Int}
structure LbI (n:Nat) (f:Nat→Bool) (c:Nat→Nat) (i:Nat) (num:List Int) (A:List Int):Prop where
  nl:num.length=n
  al:A.length=i
  lead:∀j,j<i→ldr f c j=true→num.getD j 0=(cnt (ldr f c) j:Int)
  yes:∀j,j<i→f j=true→A.getD j 0=(cnt (ldr f c) (c j):Int)
  not:∀j,j<i→¬f j=true→A.getD j 0= -1
theorem getD_snoc_lt {A:List Int} {x:Int} {j:Nat} (h:j<A.length):(A++[x]).getD j 0=A.getD j 0:=by
  rw [List.getD_eq_getElem?_getD,List.getElem?_append_left h,←List.getD_eq_getElem?_getD]
theorem getD_snoc_eq {A:List Int} {x:Int}:(A++[x]).getD A.length 0=x:=by
  rw [List.getD_eq_getElem?_getD,List.getElem?_append_right (Nat.le_refl _)];simp
theorem LbI.start:LbI n f c 0 (List.replicate n 0) []:=⟨by simp,rfl,fun j h=>by omega,fun j h=>by omega,fun j h=>by omega⟩
theorem ldr_iff {j:Nat}:ldr f c j=true↔f j=true∧c j=j:=by simp [ldr]
theorem LbI.out (h:LbI n f c i num A) (hf:¬f i=true):LbI n f c (i+1) num (A++[-1])∧cnt (ldr f c) (i+1)=cnt (ldr f c) i:=by
  have hl:¬ldr f c i=true:=fun k=>hf (ldr_iff.1 k).1
  refine ⟨⟨h.nl,by simp [h.al],fun j hj hx=> ?_,fun j hj hx=> ?_,fun j hj hx=> ?_⟩,by rw [cnt_succ,if_neg hl];rfl⟩
  · exact h.lead j (by by_cases e:j=i;exact absurd (e ▸ hx) hl;omega) hx
  · have e : j ≠ i := fun e => hf (e ▸ hx)
    rw [getD_snoc_lt (by rw [h.al];omega)];exact h.yes j (by omega) hx
  · by_cases e : j = i
    · rw [e,←h.al];exact getD_snoc_eq
    · rw [getD_snoc_lt (by rw [h.al];omega)];exact h.not j (by omega) hx
theorem LbI.led (h:LbI n f c i num A) (hi:i<n) (hf:f i=true) (hc:c i=i):LbI n f c (i+1) (num.set i (cnt (ldr f c) i:Int)) (A++[(num.set i (cnt (ldr f c) i:Int)).getD (c i) 0])∧cnt (ldr f c) (i+1)=cnt (ldr f c) i+1:=by
  have hl:ldr f c i=true:=ldr_iff.2 ⟨hf,hc⟩
  have hs:(num.set i (cnt (ldr f c) i:Int)).getD i 0=(cnt (ldr f c) i:Int):=Big.getD_set_self (by rw [h.nl];exact hi) _
  refine ⟨⟨by rw [List.length_set];exact h.nl,by simp [h.al],fun j hj hx=> ?_,fun j hj hx=> ?_,fun j hj hx=> ?_⟩,by rw [cnt_succ,if_pos hl]⟩
  · by_cases e : j = i
    · rw [e];exact hs
    · rw [Big.getD_set_ne e];exact h.lead j (by omega) hx
  · by_cases e : j = i
    · subst e;rw [hc,hs,←h.al];exact getD_snoc_eq
    · rw [getD_snoc_lt (by rw [h.al];omega)];exact h.yes j (by omega) hx
  · have e : j ≠ i := fun e => hx (e ▸ hf)
    rw [getD_snoc_lt (by rw [h.al];omega)];exact h.not j (by omega) hx
theorem LbI.fol (h:LbI n f c i num A) (hcl:Lst (fun j=>f j=true) adj c) (hf:f i=true) (hc:¬c i=i):LbI n f c (i+1) num (A++[num.getD (c i) 0])∧cnt (ldr f c) (i+1)=cnt (ldr f c) i:=by
  have hl:¬ldr f c i=true:=fun k=>hc (ldr_iff.1 k).2
  have hlt:c i<i:=by have:=hcl.le i hf;omega
  refine ⟨⟨h.nl,by simp [h.al],fun j hj hx=> ?_,fun j hj hx=> ?_,fun j hj hx=> ?_⟩,by rw [cnt_succ,if_neg hl];rfl⟩
  · exact h.lead j (by by_cases e:j=i;exact absurd (e ▸ hx) hl;omega) hx
  · by_cases e : j = i
    · subst e
      have h9:=h.lead (c j) hlt (ldr_iff.2 ⟨hcl.mem hf,hcl.idem hf⟩)
      rw [← h9,←h.al];exact getD_snoc_eq
    · rw [getD_snoc_lt (by rw [h.al];omega)];exact h.yes j (by omega) hx
  · have e : j ≠ i := fun e => hx (e ▸ hf)
    rw [getD_snoc_lt (by rw [h.al];omega)];exact h.not j (by omega) hx
theorem LbI.lab (h:LbI n f c n num A) (hcl:Lst (fun j=>f j=true) adj c):Lab n f adj A:=⟨h.al,c,hcl,h.yes,h.not⟩
end
def gel (l:List Int) (th:Int) (i:Nat):List Bool:=(List.range i).map (fun j=>decide (th≤l.getD j 0))
def lol (l:List Int) (th:Int) (i:Nat):List Bool:=(List.range i).map (fun j=>decide (l.getD j 0<th))
theorem gel_succ (l:List Int) (th:Int) (i:Nat):gel l th (i+1)=gel l th i++[decide (th≤l.getD i 0)]:=by unfold gel;rw [List.range_succ,List.map_append];rfl
theorem gel_len (l:List Int) (th:Int) (i:Nat):(gel l th i).length=i:=by simp [gel]
theorem lol_len (l:List Int) (th:Int) (i:Nat):(lol l th i).length=i:=by simp [lol]
theorem gel_get {l:List Int} {th:Int} {i j:Nat} (h:j<i):(gel l th i).getD j false=decide (th≤l.getD j 0):=by
  unfold gel;rw [List.getD_eq_getElem?_getD,List.getElem?_map,List.getElem?_range h];rfl
theorem fl_gel {l:List Int} {th:Int} {n:Nat} (h:l.length=n):fl (gel l th n)=ge l th:=by
  funext j;unfold fl ge
  by_cases k:j<n
  · rw [gel_get k,h];simp [k]
  · rw [List.getD_eq_getElem?_getD,List.getElem?_eq_none (by rw [gel_len];omega),h];simp [k]
def LabR (w h m:Int) (l:List Int) (th:Int) (o:List Int):Prop:=
  (Bl.rok w h m l∧0≤th∧th≤65536→Lab l.length (ge l th) (nb false w.toNat l.length) o)∧(¬(Bl.rok w h m l∧0≤th∧th≤65536)→o=[])
theorem LabR.uniq {w h m th:Int} {l o o2:List Int} (a:LabR w h m l th o) (b:LabR w h m l th o2):o=o2:=by
  by_cases e:Bl.rok w h m l∧0≤th∧th≤65536
  · exact (a.1 e).uniq (b.1 e)
  · rw [a.2 e,b.2 e]
theorem LabR.no {w h m th:Int} {l:List Int} (e:¬(Bl.rok w h m l∧0≤th∧th≤65536)):LabR w h m l th []:=⟨fun k=>absurd k e,fun _=>rfl⟩
theorem LabR.yes {w n:Nat} {h m th:Int} {l o:List Int} (e:Bl.rok w h m l∧0≤th∧th≤65536) (hn:l.length=n) (k:Lab n (ge l th) (nb false w n) o):LabR w h m l th o:=by
  subst hn;exact ⟨fun _=>k,fun x=>absurd e x⟩
theorem ask0 {w h m th:Int} {l:List Int}:(if Bl.rok w h m l then (if 0≤th∧th≤65536 then (0:Int) else 2) else 1)=0↔Bl.rok w h m l∧0≤th∧th≤65536:=by
  by_cases e:Bl.rok w h m l
  · rw [if_pos e]; by_cases k : 0 ≤ th ∧ th ≤ 65536
    · rw [if_pos k];exact ⟨fun _=>⟨e,k⟩,fun _=>rfl⟩
    · rw [if_neg k];exact ⟨fun x=>by omega,fun x=>absurd x.2 k⟩
  · rw [if_neg e];exact ⟨fun x=>by omega,fun x=>absurd x.1 e⟩
theorem rok_n {w h m:Int} {l:List Int} {n:Nat} (e:Bl.rok w h m l) (hn:l.length=n):∃a b:Nat,w=(a:Int)∧h=(b:Int)∧(1≤a∧a≤64)∧(1≤b∧b≤64)∧n=a*b∧n≤4096:=by
  obtain ⟨h1,h2,_,h4,_⟩:=e
  obtain ⟨a,ha⟩:∃a:Nat,w=(a:Int):=⟨w.toNat,by omega⟩
  obtain ⟨b,hb⟩:∃b:Nat,h=(b:Int):=⟨h.toNat,by omega⟩
  subst ha;subst hb
  rw [← Int.natCast_mul] at h4
  have h5:n=a*b:=by omega
  have h6:a*b≤64*64:=Nat.mul_le_mul (by omega) (by omega)
  exact ⟨a,b,rfl,rfl,by omega,by omega,h5,by omega⟩
end Go.Proofs.YtefbbhiaalcjfaaGreat.Fl
namespace Go.Proofs.YtefbbhiaalcjfaaGreat.Sp
open Go
set_option linter.unusedVariables false
set_option maxRecDepth 100000
set_option maxHeartbeats 1000000
theorem zgc {w:Nat} {h:Nat} {m:Int} {p:Option Addr} {n:Nat} {cap:Nat} {l:List Int} {th:Int} (hn:l.length=n) (hw:1≤w∧w≤64) (hh:1≤h∧h≤64) (hwh:n=w*h) (hb:n≤4096):Con Tryz.prog 25 [.agg #[.int .i64 ((w:Nat):Int),.int .i64 ((h:Nat):Int),.int .i64 m,.slice p n cap],.int .i64 th] [] [slF (rI .i64) p cap l] (Y:=(Option Addr)×Nat×(List Int)×(Nat→Nat)) (fun y=>Fl.Lst (fun j=>Fl.ge l th j=true) (Fl.nb false w n) y.2.2.2∧Fl.OutI n (Fl.ge l th) y.2.2.2 n y.2.2.1) (fun y=> .tuple #[.slice (y.1) n (y.2.1),.int .i64 (((Fl.cnt (Fl.ldr (Fl.ge l th) y.2.2.2) n):Nat):Int)]) (fun y=>[]) (fun y=>[slF (rI .i64) (y.1) (y.2.1) (y.2.2.1)]):=by
 refine zp Tryz.func25 rfl rfl rfl (fun c=> ?_)
 show RunC _ _ _ _ _ [(0,.agg #[.int .i64 ((w:Nat):Int),.int .i64 ((h:Nat):Int),.int .i64 m,.slice p n cap]),(1,.int .i64 th)] [] [slF (rI .i64) p cap l]
 refine zea 0 rfl (fun hL0=> ?_)
 refine zh<|zc<|zS rfl rfl (zX rfl rfl) (fun b1=> ?_)
 refine zS rfl rfl (zX rfl rfl) (fun b2=> ?_)
 refine r_pv rfl rfl (zd rfl)<|r_pv rfl rfl (zd rfl)<|zj<|ze<|zh<|zCb 0 rfl .z<|zla (OW:=[]) (O:=[emA,boxA b1 24 [.int .i64 ((w:Nat):Int),.int .i64 ((h:Nat):Int),.int .i64 m,.slice p n cap]]) 100000 mixed (.then .ret) (by kernel_rfl)<|d_u 0 rfl rfl (by kernel_rfl) (by kernel_rfl) rfl rfl (zi 1 ty24 rfl rfl (.take (.take (.take (.take .nil)))))<|d_pv 1 rfl rfl (by kernel_rfl) (by kernel_rfl) rfl rfl (zYa .n (.c rfl .n))<|zV 2 (by kernel_rfl) (zW rfl rfl rfl rfl (.n) ce56 (zkf) (.n) ?_)
 rintro ⟨p33,c34⟩ -
 dsimp only [List.append_eq,List.nil_append,List.cons_append]
 refine zV 3 (by kernel_rfl) (zW rfl rfl rfl rfl (.c rfl (.c rfl (.c rfl .n))) ce49 (zwd (w:=w) (h:=h) (m:=m) (p:=p) (n:=n) (cap:=cap) (l:=l) (tb:=b2) (th:=th) (p2:=p33) (c2:=c34) (hn:=by assumption) (hw:=by assumption) (hh:=by assumption) (hwh:=by assumption) (hb:=by assumption)) (.c (j:=2) rfl (.c (j:=1) rfl (.c (j:=0) rfl .n))) ?_)
 rintro ⟨p35,c36,o,cc⟩ hcl
 dsimp only [List.append_eq,List.nil_append,List.cons_append]
 replace hcl:Fl.Lst (fun j=>(Fl.ge l th) j=true) (Fl.nb false w n) cc∧Fl.OutI n (Fl.ge l th) cc n o:=hcl
 refine d_pv 4 rfl rfl (by kernel_rfl) (by kernel_rfl) rfl rfl (zt rfl rfl)<|d_pv 5 rfl rfl (by kernel_rfl) (by kernel_rfl) rfl rfl (zt rfl rfl)<|d_pv 6 rfl rfl (by kernel_rfl) (by kernel_rfl) rfl rfl (zd rfl)<|d_pv 7 rfl rfl (by kernel_rfl) (by kernel_rfl) rfl rfl (zd rfl)<|zfa (by kernel_rfl)<|ze<|zG ?_
 exact zwa Tryz.results25 (p35,c36,o,cc) hcl (zo rfl) (zo rfl) rfl (ho:=(.n:PickO _ _ _)) ((.c (j:=0) rfl .n):SelR _ _ _)
theorem zKe {w:Int} {h:Int} {m:Int} {p:Option Addr} {n:Nat} {cap:Nat} {l:List Int} {th:Int} (hn:l.length=n):Con Tryz.prog 20 [.agg #[.int .i64 w,.int .i64 h,.int .i64 m,.slice p n cap],.int .i64 th] [] [slF (rI .i64) p cap l] (Y:=(Option Addr)×Nat×(List Int)) (fun y=>Fl.LabR w h m l th y.2.2) (fun y=> .tuple #[.slice (y.1) (y.2.2.length) (y.2.1),.int .i64 (if Bl.rok w h m l then (if 0≤th∧th≤65536 then 0 else 2) else 1)]) (fun y=>[]) (fun y=>[slF (rI .i64) (y.1) (y.2.1) (y.2.2)]):=by
 refine zp Tryz.func20 rfl rfl rfl (fun c=> ?_)
 show RunC _ _ _ _ _ [(0,.agg #[.int .i64 w,.int .i64 h,.int .i64 m,.slice p n cap]),(1,.int .i64 th)] [] [slF (rI .i64) p cap l]
 refine zea 0 rfl (fun hL0=> ?_)
 refine zh<|zc<|zS rfl rfl (zX rfl rfl) (fun b1=> ?_)
 refine r_pv rfl rfl (zd rfl)<|r_pv rfl rfl (zd rfl)<|zj<|ze<|zh<|zh<|zc<|r_u rfl rfl (zi 0 ty24 rfl rfl (.take (.take (.take (.take .nil)))))<|r_pv rfl rfl (zb rfl)<|zQ rfl rfl (.c rfl (.c rfl .n)) ce24 (zyb (w:=w) (h:=h) (m:=m) (p:=p) (n:=n) (cap:=cap) (l:=l) (th:=th) (hn:=by assumption)) (.c (j:=0) rfl .n)<|r_pv rfl rfl (zd rfl)<|zj<|ze<|zh<|zc<|r_pv rfl rfl (zb rfl)<|r_pv rfl rfl (zHa rfl rfl)<|zj<|ze<|zD rfl (fun hc=> ?_) (fun hc=> ?_)
 ·
  have hno:=fun k=>hc (Fl.ask0.2 k)
  refine zh<|zc<|r_pv rfl rfl (zb rfl)<|r_pv rfl rfl (zd rfl)<|r_pv rfl rfl (zd rfl)<|zj<|ze<|zG<|zq<|zDb (rI .i64) ?_
  exact zwa Tryz.results20 (none,0,[]) (Fl.LabR.no hno) (zo rfl) (zo rfl) rfl (ho:=(.n:PickO _ _ _)) ((.c (j:=0) rfl .n):SelR _ _ _)
 ·
  have hok:=Fl.ask0.1 (Decidable.not_not.1 hc)
  obtain ⟨wn,hn9,rfl,rfl,hw9,hh9,hwh,hb9⟩:=Fl.rok_n hok.1 hn
  refine zy<|ze<|zh<|zc<|r_u rfl rfl (zi 0 ty24 rfl rfl (.take (.take (.take (.take .nil)))))<|r_pv rfl rfl (zb rfl)<|zC rfl rfl (.c rfl (.c rfl .n)) ce25 (zgc (w:=wn) (h:=hn9) (m:=m) (p:=p) (n:=n) (cap:=cap) (l:=l) (th:=th) (hn:=by assumption) (hw:=by first|rfl|assumption|omega) (hh:=by first|rfl|assumption|omega) (hwh:=by first|rfl|assumption|omega) (hb:=by first|rfl|assumption|omega)) (.c (j:=0) rfl .n) ?_
  rintro ⟨p32,c33,o,cc⟩ hcl
  dsimp only [List.append_eq,List.nil_append,List.cons_append]
  replace hcl:Fl.Lst (fun j=>Fl.ge l th j=true) (Fl.nb false wn n) cc∧Fl.OutI n (Fl.ge l th) cc n o:=hcl
  refine r_pv rfl rfl (zb rfl)<|r_pv rfl rfl (zt rfl rfl)<|r_pv rfl rfl (zt rfl rfl)<|r_pv rfl rfl (zd rfl)<|r_pv rfl rfl (zd rfl)<|zj<|ze<|zh<|zc<|r_pv rfl rfl (zb rfl)<|r_pv rfl rfl (zd rfl)<|r_pv rfl rfl (zd rfl)<|zj<|ze<|zG ?_
  have hol:=hcl.2.len
  exact zwa Tryz.results20 (p32,c33,o) (Fl.LabR.yes hok hn (hcl.2.lab hcl.1 (fun j hj=>by have:=Fl.ge_lt hj;omega))) (zo rfl) (zo rfl) (by rw [Decidable.not_not.1 hc,hol]) (ho:=(.n:PickO _ _ _)) ((.c (j:=0) rfl .n):SelR _ _ _)
theorem zbe {w:Int} {h:Int} {m:Int} {p:Option Addr} {n:Nat} {cap:Nat} {l:List Int} {th:Int} (hn:l.length=n):Con Tryz.prog 27 [.agg #[.int .i64 w,.int .i64 h,.int .i64 m,.slice p n cap],.int .i64 th] [] [slF (rI .i64) p cap l] (Y:=(Option Addr)×Nat×(List Int)) (fun y=>Fl.LabR w h m l th y.2.2) (fun y=> .tuple #[.slice (y.1) (y.2.2.length) (y.2.1),.int .i64 (if Bl.rok w h m l then (if 0≤th∧th≤65536 then 0 else 2) else 1)]) (fun y=>[]) (fun y=>[slF (rI .i64) (y.1) (y.2.1) (y.2.2)]):=by
 refine zp Tryz.func27 rfl rfl rfl (fun c=> ?_)
 show RunC _ _ _ _ _ [(0,.agg #[.int .i64 w,.int .i64 h,.int .i64 m,.slice p n cap]),(1,.int .i64 th)] [] [slF (rI .i64) p cap l]
 refine zea 0 rfl (fun hL0=> ?_)
 refine zh<|zc<|zS rfl rfl (zX rfl rfl) (fun b1=> ?_)
 refine r_pv rfl rfl (zd rfl)<|r_pv rfl rfl (zd rfl)<|zj<|ze<|zh<|zc<|r_u rfl rfl (zi 0 ty24 rfl rfl (.take (.take (.take (.take .nil)))))<|r_pv rfl rfl (zb rfl)<|zQ rfl rfl (.c rfl (.c rfl .n)) ce57 (zZd (w:=w) (h:=h) (m:=m) (p:=p) (n:=n) (cap:=cap) (l:=l) (th:=th) (hn:=by assumption)) (.c (j:=0) rfl .n)<|r_pv rfl rfl (zd rfl)<|zj<|ze<|zh<|zh<|zc<|r_pv rfl rfl (zb rfl)<|r_pv rfl rfl (zHa rfl rfl)<|zj<|ze<|zD rfl (fun hc=> ?_) (fun hc=> ?_)
 ·
  have hno:=fun k=>hc (Fl.ask0.2 k)
  refine zh<|zc<|r_pv rfl rfl (zb rfl)<|r_pv rfl rfl (zd rfl)<|r_pv rfl rfl (zd rfl)<|zj<|ze<|zG<|zq<|zDb (rI .i64) ?_
  exact zwa Tryz.results27 (none,0,[]) (Fl.LabR.no hno) (zo rfl) (zo rfl) rfl (ho:=(.n:PickO _ _ _)) ((.c (j:=0) rfl .n):SelR _ _ _)
 ·
  have hok:=Fl.ask0.1 (Decidable.not_not.1 hc)
  obtain ⟨wn,hn9,rfl,rfl,hw9,hh9,hwh,hb9⟩:=Fl.rok_n hok.1 hn
  refine zy<|ze<|zh<|zc<|zra rfl rfl (zma rB Tryz.underlying82 inf4) (fun b2 _=> ?_)
  refine r_pv rfl rfl (zd rfl)<|zj<|ze<|zh<|zh<|zc<|r_pv rfl rfl (zd rfl)<|zj<|ze<|zx<|zka (X:=Nat×(Option Addr)×Nat) (fun x:Nat×(Option Addr)×Nat=>x.1≤n) (fun x=>[(7,.slice (x.2.1) (x.1) (x.2.2)),(8,.int .i64 ((x.1:Nat):Int)),(5,.int .i64 0),(4,.slice none 0 0),(2,.pointer (some ⟨b1,0,none⟩)),(1,.int .i64 th)]) (fun x=>[rowA 4 rB (x.2.1) (x.2.2) (Fl.gel l th x.1),boxA b1 24 [.int .i64 ((wn:Nat):Int),.int .i64 ((hn9:Nat):Int),.int .i64 m,.slice p n cap]]) (fun x=>[slF (rI .i64) p cap l]) (fun x:Nat×(Option Addr)×Nat=>n - x.1) (0,some ⟨b2,0,none⟩,0) (show 0≤n from by exact Nat.zero_le _) ((.c rfl (.e rfl (by first|rfl|(congr 1;omega)|simp_all) (.of rfl))):SubM _ _) (ho:=((.e (i:=0) rfl (by first|rfl|(congr 1;omega)|simp_all) (.c (i:=0) rfl .n)):PickO _ _ _)) ((.c (j:=0) rfl .n):SelR _ _ _) ?_
  rintro ⟨i,p7,c7⟩ hI
  replace hI:i≤n:=hI
  try dsimp only
  have hil:=Fl.gel_len l th i
  refine zh<|zh<|zc<|r_pv rfl rfl (zb rfl)<|r_pv rfl rfl (zg Tryz.underlying24 rfl sz22 rfl rfl)<|r_u rfl rfl (zf 1 ty22 rfl rfl rfl)<|r_pv rfl rfl (zM Tryz.underlying22 rfl)<|r_pv rfl rfl (zY rfl rfl)<|zj<|ze<|zD rfl (fun h3=> ?_) (fun h3=> ?_)
  ·
   refine zy<|ze<|zh<|zx<|zc<|r_pv rfl rfl (zb rfl)<|r_pv rfl rfl (zg Tryz.underlying24 rfl sz22 rfl rfl)<|r_u rfl rfl (zf 1 ty22 rfl rfl rfl)<|r_pv rfl rfl (zb rfl)<|zL (x0:=(l.getD i 0)) 0 i rfl Tryz.underlying22 sz3 rfl rfl rfl (by first|rfl|assumption|(simp only [Fl.gel_len,Fl.lol_len];done)|omega) rfl rfl (gD (d:=0) (by omega)) (fun b4 o5 hok6=> ?_)
   replace hok6:=zk.1 hok6
   refine r_u rfl rfl (zn (j:=0) 0 ty3 rfl rfl rfl rfl)<|r_pv rfl rfl (zb rfl)<|r_pv rfl rfl (zBa rfl rfl)<|zra rfl rfl (zE (enc:=fun b:Bool=>[.bool b]) (ok:=fun _=>True) (h1:=fun _=>rfl) (h2:=fun _=>rfl) (k:=1) Tryz.underlying82 inf4 rfl (by decide) (by decide) (by decide) (.c (x:=decide (th≤(l.getD i 0))) rfl rfl (fun _ _=>by trivial) .n)) (fun b7 _=> ?_)
   refine zda 0 rfl .z<|zta 1 rfl rfl rfl (zpa 0 rfl Tryz.underlying82 inf4 (by decide) rfl rfl (by first|rfl|assumption|(simp only [Fl.gel_len,Fl.lol_len];done)|omega) rfl (by first|rfl|assumption|(simp only [Fl.gel_len,Fl.lol_len];done)|omega) (by omega) (by omega)) (fun _=>(.s .z)) ?_
   rintro ⟨p8,c9⟩ -
   dsimp only [List.append_eq,List.nil_append,List.cons_append]
   refine r_pv rfl rfl (zd rfl)<|zj<|zP<|ze<|zc<|r_pv rfl rfl (zb rfl)<|r_pv rfl rfl (zz (z:=(((i+1):Nat):Int)) rfl rfl (w64 (by omega)))<|r_pv rfl rfl (zd rfl)<|zj<|zaa (i+1,p8,c9) (show (i+1)≤n from by omega) (by show n - (i+1)<n - i;omega) ((.c rfl (.e rfl (by first|rfl|(congr 1;omega)|simp_all) (.of rfl))):SubM _ _) (ho:=((.e (i:=1) rfl (by dsimp only;rw [Fl.gel_succ]) (.c (i:=1) rfl .n)):PickO _ _ _)) ((.c (j:=2) rfl .n):SelR _ _ _)
  ·
   refine zha<|zm<|zm<|zu<|ze<|zh ?_
   have e10:Fl.gel l th i=Fl.gel l th n:=by rw [show i=n by omega]
   rw [e10]
   have e11:(.slice p7 i c7:Value)= .slice p7 n c7:=by rw [show i=n by omega]
   rw [e11]
   refine zFd 0 rfl .z ?_
   have hgl:=Fl.gel_len l th n
   refine zc<|r_pv rfl rfl (zg Tryz.underlying24 rfl sz3 rfl rfl)<|r_u rfl rfl (zf 1 ty3 rfl rfl rfl)<|r_pv rfl rfl (zb rfl)<|zC rfl rfl (.c rfl (.c rfl (.c rfl .n))) ce58 (zXc (w:=wn) (h:=hn9) (e:=false) (p:=p7) (n:=n) (cap:=c7) (l:=Fl.gel l th n) (hn:=by first|rfl|assumption|omega) (hw:=by first|rfl|assumption|omega) (hwh:=by first|rfl|assumption|omega) (hb:=by first|rfl|assumption|omega)) (.c (j:=0) rfl .n) ?_
   rintro ⟨pco,cco,co⟩ hR
   dsimp only [List.append_eq,List.nil_append,List.cons_append]
   replace hR:Fl.Rds n (Fl.fl (Fl.gel l th n)) (Fl.nb false wn n) co false:=hR
   refine r_pv rfl rfl (zd rfl)<|zj<|ze<|zh ?_
   have hL:Fl.Lst (fun j=>(Fl.ge l th) j=true) (Fl.nb false wn n) (fun jj=>(co.getD jj 0).toNat):=by have h9:=hR.lst (Fl.gel_len l th n);rw [Fl.fl_gel hn] at h9;exact h9
   have hcol:=hR.rd.len
   refine zc<|r_pv rfl rfl (zb rfl)<|r_pv rfl rfl (zM Tryz.underlying82 rfl)<|zra rfl rfl (zSa (r:=rI .i64) (k:=n) (x0:=0) (γ0:=()) Tryz.underlying22 inf3 rfl rfl rfl rfl (by omega) (by omega) rfl (fun _ _=>by exact zk.2 (by decide)) (by decide)) (fun b12 _=> ?_)
   refine r_pv rfl rfl (zd rfl)<|zj<|ze<|zh<|zc<|r_pv rfl rfl (zd rfl)<|zj<|ze<|zh<|zc<|zra rfl rfl (zma (rI .i64) Tryz.underlying22 inf3) (fun b13 _=> ?_)
   refine r_pv rfl rfl (zd rfl)<|zj<|ze<|zh<|zh<|zc<|r_pv rfl rfl (zd rfl)<|zj<|ze<|zx<|zka (X:=Nat×(List Int)×(List Int)×(Option Addr)×Nat) (fun x:Nat×(List Int)×(List Int)×(Option Addr)×Nat=>x.1≤n∧Fl.LbI n (Fl.ge l th) (fun jj=>(co.getD jj 0).toNat) x.1 x.2.1 x.2.2.1) (fun x=>[(12,.slice (x.2.2.2.1) (x.1) (x.2.2.2.2)),(11,.int .i64 (((Fl.cnt (Fl.ldr (Fl.ge l th) (fun jj=>(co.getD jj 0).toNat)) x.1):Nat):Int)),(13,.int .i64 ((x.1:Nat):Int)),(10,.slice (some ⟨b12,0,none⟩) n n),(9,.slice pco n cco),(7,.slice p7 n c7),(5,.int .i64 0),(4,.slice none 0 0)]) (fun x=>[rowA 3 (rI .i64) (x.2.2.2.1) (x.2.2.2.2) (x.2.2.1),rowA 3 (rI .i64) (some ⟨b12,0,none⟩) n (x.2.1),boxA b1 24 [.int .i64 ((wn:Nat):Int),.int .i64 ((hn9:Nat):Int),.int .i64 m,.slice p n cap]]) (fun x=>[slF (rI .i64) pco cco co,slF rB p7 c7 (Fl.gel l th n),slF (rI .i64) p cap l]) (fun x:Nat×(List Int)×(List Int)×(Option Addr)×Nat=>n - x.1) (0,List.replicate n 0,([]:List Int),some ⟨b13,0,none⟩,0) (show 0≤n∧Fl.LbI n (Fl.ge l th) (fun jj=>(co.getD jj 0).toNat) 0 (List.replicate n 0) ([]:List Int) from by exact ⟨Nat.zero_le _,Fl.LbI.start⟩) ((.c rfl (.e rfl (by first|rfl|(congr 1;omega)|simp_all) (.e rfl (by first|rfl|(congr 1;omega)|simp_all) (.of rfl)))):SubM _ _) (ho:=((.e (i:=0) rfl (by first|rfl|(congr 1;omega)|simp_all) (.of [0,1] rfl)):PickO _ _ _)) ((.of [0,1,2] rfl):SelR _ _ _) ?_
   rintro ⟨i,num,A,p12,c12⟩ hI
   replace hI:i≤n∧Fl.LbI n (Fl.ge l th) (fun jj=>(co.getD jj 0).toNat) i num A:=hI
   try dsimp only
   obtain ⟨hi,hB⟩:=hI
   have hnl:=hB.nl
   have hal:=hB.al
   refine zh<|zh<|zc<|r_pv rfl rfl (zb rfl)<|r_pv rfl rfl (zb rfl)<|r_pv rfl rfl (zM Tryz.underlying82 rfl)<|r_pv rfl rfl (zY rfl rfl)<|zj<|ze<|zD rfl (fun h14=> ?_) (fun h14=> ?_)
   ·
    have hcn:=Fl.cnt_le (Fl.ldr (Fl.ge l th) (fun jj=>(co.getD jj 0).toNat)) i
    have hrg:=hR.rd.lo i (by omega)
    refine zy<|ze<|zh<|zx<|zh<|zc<|r_pv rfl rfl (zb rfl)<|r_pv rfl rfl (zb rfl)<|zL (x0:=((Fl.gel l th n).getD i false)) 1 i rfl Tryz.underlying82 sz4 rfl rfl rfl (by first|rfl|assumption|(simp only [Fl.gel_len,Fl.lol_len];done)|omega) rfl rfl (gD (d:=false) (by omega)) (fun b15 o16 hok17=> ?_)
    refine r_u rfl rfl (zn (j:=0) 0 ty4 rfl rfl rfl rfl)<|r_pv rfl rfl (zpb rfl)<|zj<|ze<|znb rfl (fun hx=> ?_) (fun hx=> ?_)
    ·
     have hfi:¬(Fl.ge l th) i=true:=by rw [← Fl.fl_gel hn];exact (by unfold Fl.fl;simpa using hx)
     refine zc<|r_pv rfl rfl (zb rfl)<|zra rfl rfl (zE (enc:=fun z:Int=>[.int .i64 z]) (ok:=InK .i64) (h1:=fun _=>rfl) (h2:=fun _=>rfl) (k:=1) Tryz.underlying22 inf3 rfl (by decide) (by decide) (by decide) (.c (x:=(-1)) rfl rfl (fun _ _=>by exact zk.2 (by omega)) .n)) (fun b18 _=> ?_)
     refine zda 0 rfl .z<|zta 1 rfl rfl rfl (zpa 0 rfl Tryz.underlying22 inf3 (by decide) rfl rfl (by first|rfl|assumption|(simp only [Fl.gel_len,Fl.lol_len];done)|omega) rfl (by first|rfl|assumption|(simp only [Fl.gel_len,Fl.lol_len];done)|omega) (by omega) (by omega)) (fun _=>(.s .z)) ?_
     rintro ⟨p19,c20⟩ -
     dsimp only [List.append_eq,List.nil_append,List.cons_append]
     refine r_pv rfl rfl (zd rfl)<|zj<|zP<|ze<|zc<|r_pv rfl rfl (zb rfl)<|r_pv rfl rfl (zz (z:=(((i+1):Nat):Int)) rfl rfl (w64 (by omega)))<|r_pv rfl rfl (zd rfl)<|zj<|zaa (i+1,num,(A++([(-1)])),p19,c20) (show (i+1)≤n∧Fl.LbI n (Fl.ge l th) (fun jj=>(co.getD jj 0).toNat) (i+1) num (A++([(-1)])) from by exact ⟨by omega,(hB.out hfi).1⟩) (by show n - (i+1)<n - i;omega) ((.c rfl (.e rfl (congrArg (Value.int .i64) (by dsimp only;rw [(hB.out hfi).2])) (.e rfl (by first|rfl|(congr 1;omega)|simp_all) (.of rfl)))):SubM _ _) (ho:=((.of [1,1,1] rfl):PickO _ _ _)) ((.of [2,3,4] rfl):SelR _ _ _)
    ·
     have hfi:(Fl.ge l th) i=true:=by rw [← Fl.fl_gel hn];exact (by unfold Fl.fl;simpa using hx)
     refine zh<|zh<|zc<|r_pv rfl rfl (zb rfl)<|r_pv rfl rfl (zb rfl)<|zL (x0:=(co.getD i 0)) 1 i rfl Tryz.underlying22 sz3 rfl rfl rfl (by first|rfl|assumption|(simp only [Fl.gel_len,Fl.lol_len];done)|omega) rfl rfl (gD (d:=0) (by omega)) (fun b21 o22 hok23=> ?_)
     replace hok23:=zk.1 hok23
     refine r_u rfl rfl (zn (j:=0) 0 ty3 rfl rfl rfl rfl)<|r_pv rfl rfl (zb rfl)<|r_pv rfl rfl (zCa rfl rfl)<|zj<|ze<|zD rfl (fun hy=> ?_) (fun hy=> ?_)
     ·
      have hci:(fun jj=>(co.getD jj 0).toNat) i=i:=by show (co.getD i 0).toNat=i;omega
      refine zh<|zc<|r_pv rfl rfl (zb rfl)<|r_pv rfl rfl (zb rfl)<|r_pv rfl rfl (zb rfl)<|r_pv rfl rfl (zR (j:=i) Tryz.underlying22 sz3 rfl rfl rfl (by omega))<|zta 1 rfl rfl rfl (zO (j:=i) (x0:=(((Fl.cnt (Fl.ldr (Fl.ge l th) (fun jj=>(co.getD jj 0).toNat)) i):Nat):Int)) (γ0:=()) rfl rfl (by first|omega|(rw [List.length_map];omega)|(simp only [List.length_set];omega)|(simp;omega)) rfl rfl sz3 (fun _ _=>by exact zk.2 (by omega))) (fun _=>(.s .z)) (fun _ _=> ?_)
      refine zj<|ze<|zc<|r_pv rfl rfl (zb rfl)<|r_pv rfl rfl (zz (z:=((((Fl.cnt (Fl.ldr (Fl.ge l th) (fun jj=>(co.getD jj 0).toNat)) i)+1):Nat):Int)) rfl rfl (w64 (by omega)))<|r_pv rfl rfl (zd rfl)<|zj<|ze<|zc<|r_pv rfl rfl (zb rfl)<|r_pv rfl rfl (zb rfl)<|r_pv rfl rfl (zb rfl)<|r_pv rfl rfl (zb rfl)<|zL (x0:=(co.getD i 0)) 2 i rfl Tryz.underlying22 sz3 rfl rfl rfl (by first|rfl|assumption|(simp only [Fl.gel_len,Fl.lol_len];done)|omega) rfl rfl (gD (d:=0) (by omega)) (fun b24 o25 hok26=> ?_)
      replace hok26:=zk.1 hok26
      refine r_u rfl rfl (zn (j:=0) 0 ty3 rfl rfl rfl rfl)<|r_pv rfl rfl (zR (j:=(co.getD i 0).toNat) Tryz.underlying22 sz3 rfl rfl (by first|omega|(rw [List.length_set];omega)) (by first|omega|(rw [List.length_set];omega)))<|r_vl rfl rfl (zU 1 ((co.getD i 0).toNat) rfl ty3 rfl rfl (gD (d:=0) (by first|omega|(rw [List.length_set];omega))) rfl) (fun _ hok27=> ?_)
      replace hok27:=zk.1 hok27
      refine zra rfl rfl (zE (enc:=fun z:Int=>[.int .i64 z]) (ok:=InK .i64) (h1:=fun _=>rfl) (h2:=fun _=>rfl) (k:=1) Tryz.underlying22 inf3 rfl (by decide) (by decide) (by decide) (.c (x:=((num.set i (((Fl.cnt (Fl.ldr (Fl.ge l th) (fun jj=>(co.getD jj 0).toNat)) i):Nat):Int)).getD ((co.getD i 0).toNat) 0)) rfl rfl (fun _ _=>by exact zk.2 (by omega)) .n)) (fun b28 _=> ?_)
      refine zda 0 rfl .z<|zta 1 rfl rfl rfl (zpa 0 rfl Tryz.underlying22 inf3 (by decide) rfl rfl (by first|rfl|assumption|(simp only [Fl.gel_len,Fl.lol_len];done)|omega) rfl (by first|rfl|assumption|(simp only [Fl.gel_len,Fl.lol_len];done)|omega) (by omega) (by omega)) (fun _=>(.s .z)) ?_
      rintro ⟨p29,c30⟩ -
      dsimp only [List.append_eq,List.nil_append,List.cons_append]
      refine r_pv rfl rfl (zd rfl)<|zj<|zP<|ze<|zc<|r_pv rfl rfl (zb rfl)<|r_pv rfl rfl (zz (z:=(((i+1):Nat):Int)) rfl rfl (w64 (by omega)))<|r_pv rfl rfl (zd rfl)<|zj<|zaa (i+1,(num.set i (((Fl.cnt (Fl.ldr (Fl.ge l th) (fun jj=>(co.getD jj 0).toNat)) i):Nat):Int)),(A++([((num.set i (((Fl.cnt (Fl.ldr (Fl.ge l th) (fun jj=>(co.getD jj 0).toNat)) i):Nat):Int)).getD ((co.getD i 0).toNat) 0)])),p29,c30) (show (i+1)≤n∧Fl.LbI n (Fl.ge l th) (fun jj=>(co.getD jj 0).toNat) (i+1) (num.set i (((Fl.cnt (Fl.ldr (Fl.ge l th) (fun jj=>(co.getD jj 0).toNat)) i):Nat):Int)) (A++([((num.set i (((Fl.cnt (Fl.ldr (Fl.ge l th) (fun jj=>(co.getD jj 0).toNat)) i):Nat):Int)).getD ((co.getD i 0).toNat) 0)])) from by exact ⟨by omega,(hB.led (by omega) hfi hci).1⟩) (by show n - (i+1)<n - i;omega) ((.c rfl (.e rfl (congrArg (Value.int .i64) (by dsimp only;rw [(hB.led (by omega) hfi hci).2])) (.e rfl (by first|rfl|(congr 1;omega)|simp_all) (.of rfl)))):SubM _ _) (ho:=((.of [1,1,1] rfl):PickO _ _ _)) ((.of [4,5,6] rfl):SelR _ _ _)
     ·
      have hci:¬(fun jj=>(co.getD jj 0).toNat) i=i:=by show ¬(co.getD i 0).toNat=i;omega
      refine zy<|ze<|zc<|r_pv rfl rfl (zb rfl)<|r_pv rfl rfl (zb rfl)<|r_pv rfl rfl (zb rfl)<|r_pv rfl rfl (zb rfl)<|zL (x0:=(co.getD i 0)) 2 i rfl Tryz.underlying22 sz3 rfl rfl rfl (by first|rfl|assumption|(simp only [Fl.gel_len,Fl.lol_len];done)|omega) rfl rfl (gD (d:=0) (by omega)) (fun b31 o32 hok33=> ?_)
      replace hok33:=zk.1 hok33
      refine r_u rfl rfl (zn (j:=0) 0 ty3 rfl rfl rfl rfl)<|r_pv rfl rfl (zR (j:=(co.getD i 0).toNat) Tryz.underlying22 sz3 rfl rfl (by first|omega|(rw [List.length_set];omega)) (by first|omega|(rw [List.length_set];omega)))<|r_vl rfl rfl (zU 1 ((co.getD i 0).toNat) rfl ty3 rfl rfl (gD (d:=0) (by first|omega|(rw [List.length_set];omega))) rfl) (fun _ hok34=> ?_)
      replace hok34:=zk.1 hok34
      refine zra rfl rfl (zE (enc:=fun z:Int=>[.int .i64 z]) (ok:=InK .i64) (h1:=fun _=>rfl) (h2:=fun _=>rfl) (k:=1) Tryz.underlying22 inf3 rfl (by decide) (by decide) (by decide) (.c (x:=(num.getD ((co.getD i 0).toNat) 0)) rfl rfl (fun _ _=>by exact zk.2 (by omega)) .n)) (fun b35 _=> ?_)
      refine zda 0 rfl .z<|zta 1 rfl rfl rfl (zpa 0 rfl Tryz.underlying22 inf3 (by decide) rfl rfl (by first|rfl|assumption|(simp only [Fl.gel_len,Fl.lol_len];done)|omega) rfl (by first|rfl|assumption|(simp only [Fl.gel_len,Fl.lol_len];done)|omega) (by omega) (by omega)) (fun _=>(.s .z)) ?_
      rintro ⟨p36,c37⟩ -
      dsimp only [List.append_eq,List.nil_append,List.cons_append]
      refine r_pv rfl rfl (zd rfl)<|zj<|zP<|ze<|zc<|r_pv rfl rfl (zb rfl)<|r_pv rfl rfl (zz (z:=(((i+1):Nat):Int)) rfl rfl (w64 (by omega)))<|r_pv rfl rfl (zd rfl)<|zj<|zaa (i+1,num,(A++([(num.getD ((co.getD i 0).toNat) 0)])),p36,c37) (show (i+1)≤n∧Fl.LbI n (Fl.ge l th) (fun jj=>(co.getD jj 0).toNat) (i+1) num (A++([(num.getD ((co.getD i 0).toNat) 0)])) from by exact ⟨by omega,(hB.fol hL hfi hci).1⟩) (by show n - (i+1)<n - i;omega) ((.c rfl (.e rfl (congrArg (Value.int .i64) (by dsimp only;rw [(hB.fol hL hfi hci).2])) (.e rfl (by first|rfl|(congr 1;omega)|simp_all) (.of rfl)))):SubM _ _) (ho:=((.of [1,1,1] rfl):PickO _ _ _)) ((.of [4,5,6] rfl):SelR _ _ _)
   ·
    refine zha<|zm<|zm<|zu<|ze<|zh<|zc<|r_pv rfl rfl (zb rfl)<|r_pv rfl rfl (zd rfl)<|r_pv rfl rfl (zd rfl)<|zj<|ze<|zG ?_
    have hin8:i=n:=by omega
    rw [hin8] at hB
    refine zIa 0 rfl .z ?_
    exact zwa Tryz.results27 (p12,c12,A) (Fl.LabR.yes hok hn (hB.lab hL)) (zo rfl) (zo rfl) (by rw [Decidable.not_not.1 hc,hal]) (ho:=(.n:PickO _ _ _)) ((.c (j:=0) rfl .n):SelR _ _ _)
end Go.Proofs.YtefbbhiaalcjfaaGreat.Sp
namespace Go.Proofs.YtefbbhiaalcjfaaGreat.Fl
open Sp
def edg (w h k:Nat):Bool:=decide (k%w=0∨k / w=0∨k%w+1=w∨k / w+1=h)
theorem edg_iff {w h k:Nat}:edg w h k=true↔(k%w=0∨k / w=0∨k%w+1=w∨k / w+1=h):=by simp [edg]
def brd (n:Nat) (f:Nat→Bool) (c:Nat→Nat) (g:Nat→Bool) (j:Nat):Bool:=(List.range n).any (fun k=>f k&&g k&&decide (c k=j))
theorem brd_iff {n:Nat} {f:Nat→Bool} {c:Nat→Nat} {g:Nat→Bool} {j:Nat}:brd n f c g j=true↔∃k,k<n∧f k=true∧g k=true∧c k=j:=by
  simp [brd,and_assoc]
def hol (n:Nat) (f:Nat→Bool) (c:Nat→Nat) (g:Nat→Bool):Nat:=cnt (fun j=>ldr f c j&& !brd n f c g j) n
theorem cnt_split (q b:Nat→Bool) (i:Nat):cnt q i=cnt (fun j=>q j&&b j) i+cnt (fun j=>q j&& !b j) i:=by
  induction i with
  |zero=>rfl
  |succ i ih=>rw [cnt_succ,cnt_succ,cnt_succ,ih];cases q i <;> cases b i <;> simp <;> omega
section
variable {n i : Nat} {f g : Nat → Bool} {adj : Nat → Nat → Prop} {c d : Nat → Nat}
theorem brd_uniq (hc:Lst (fun j=>f j=true) adj c) (hd:Lst (fun j=>f j=true) adj d):brd n f c g=brd n f d g:=by
  funext j
  rw [Bool.eq_iff_iff,brd_iff,brd_iff]
  exact ⟨fun ⟨k,h1,h2,h3,h4⟩=>⟨k,h1,h2,h3,by rw [← hc.uniq hd h2];exact h4⟩,fun ⟨k,h1,h2,h3,h4⟩=>⟨k,h1,h2,h3,by rw [hc.uniq hd h2];exact h4⟩⟩
theorem hol_uniq (hc:Lst (fun j=>f j=true) adj c) (hd:Lst (fun j=>f j=true) adj d):hol n f c g=hol n f d g:=by
  unfold hol;rw [ldr_uniq hc hd,brd_uniq hc hd]
structure OpnI (f:Nat→Bool) (c:Nat→Nat) (g:Nat→Bool) (i:Nat) (mp:List (Int×Bool)):Prop where
  nd:(mp.map (·.1)).Nodup
  mem:∀z,z∈mp.map (·.1)↔∃k,k<i∧f k=true∧g k=true∧z=(cnt (ldr f c) (c k):Int)
theorem OpnI.start:OpnI f c g 0 []:=⟨by simp,fun z=>⟨fun h=>(by cases h),fun ⟨_,h,_⟩=>(by omega)⟩⟩
theorem OpnI.skip {mp:List (Int×Bool)} (h:OpnI f c g i mp) (hx:¬(f i=true∧g i=true)):OpnI f c g (i+1) mp:=
  ⟨h.nd,fun z=>(h.mem z).trans ⟨fun ⟨k,a,b⟩=>⟨k,by omega,b⟩,fun ⟨k,a,b,e,e2⟩=>⟨k,by
    by_cases x:k=i
    · exact absurd ⟨x ▸ b,x ▸ e⟩ hx
    · omega,b,e,e2⟩⟩⟩
theorem OpnI.put {mp:List (Int×Bool)} (h:OpnI f c g i mp) (hf:f i=true) (hg:g i=true):OpnI f c g (i+1) (mput mp (cnt (ldr f c) (c i):Int) true):=by
  refine ⟨mput_nodup h.nd,fun z=> ?_⟩
  have key:z∈(mput mp (cnt (ldr f c) (c i):Int) true).map (·.1)↔z∈mp.map (·.1)∨z=(cnt (ldr f c) (c i):Int):=by
    rw [mput_keys];split
    · rename_i hm;exact ⟨.inl,fun x=>x.elim id fun x=>x ▸ hm⟩
    · simp
  rw [key,h.mem]
  constructor
  · rintro (⟨k, a, b⟩ | e)
    · exact ⟨k,by omega,b⟩
    · exact ⟨i,by omega,hf,hg,e⟩
  · rintro ⟨k, a, b, e, e2⟩
    by_cases x:k=i
    · subst x;exact .inr e2
    · exact .inl ⟨k,by omega,b,e,e2⟩
theorem OpnI.fin {mp:List (Int×Bool)} (hc:Lst (fun j=>f j=true) adj c) (hn:∀j,f j=true→j<n) (h:OpnI f c g n mp):mp.length=cnt (fun j=>ldr f c j&&brd n f c g j) n:=by
  have hP:((((List.range n).filter (fun j=>ldr f c j&&brd n f c g j)).map (fun j=>(cnt (ldr f c) j:Int)))).Nodup:=by
    refine List.pairwise_map.2 (List.Pairwise.imp_of_mem (fun {a b} ha _ hlt=> ?_) (List.Pairwise.filter _ (List.pairwise_lt_range (n:=n))))
    have h1:=(List.mem_filter.1 ha).2
    rw [Bool.and_eq_true] at h1
    have:=cnt_lt (ldr f c) hlt h1.1
    intro e;omega
  have hp:=(List.perm_ext_iff_of_nodup h.nd hP).2 fun z=>by
    rw [h.mem,List.mem_map]
    constructor
    · rintro ⟨k, a, b, e, e2⟩
      refine ⟨c k,List.mem_filter.2 ⟨List.mem_range.2 (hn _ (hc.mem b)),?_⟩,e2.symm⟩
      rw [Bool.and_eq_true]
      exact ⟨ldr_iff.2 ⟨hc.mem b,hc.idem b⟩,brd_iff.2 ⟨k,a,b,e,rfl⟩⟩
    · rintro ⟨j, hj, e2⟩
      have h1:=(List.mem_filter.1 hj).2
      rw [Bool.and_eq_true] at h1
      obtain ⟨k,a,b,e,e3⟩:=brd_iff.1 h1.2
      exact ⟨k,a,b,e,by rw [e3];exact e2.symm⟩
  have:=hp.length_eq
  rw [List.length_map,List.length_map] at this
  exact this
theorem OpnI.hol {mp:List (Int×Bool)} (hc:Lst (fun j=>f j=true) adj c) (hn:∀j,f j=true→j<n) (h:OpnI f c g n mp):((cnt (ldr f c) n:Nat):Int) - ((mp.length:Nat):Int)=(hol n f c g:Int):=by
  rw [h.fin hc hn,cnt_split (ldr f c) (brd n f c g) n];unfold Fl.hol;omega
structure BdI (n:Nat) (c:Nat→Nat) (g:Nat→Bool) (i:Nat) (b:List Bool):Prop where
  len:b.length=n
  iff:∀j,j<n→(b.getD j false=true↔∃k,k<i∧g k=true∧c k=j)
theorem getD_setB {b:List Bool} {j k:Nat} {v:Bool} (h:k<b.length):(b.set k v).getD j false=if j=k then v else b.getD j false:=by
  rw [List.getD_eq_getElem?_getD,List.getElem?_set]
  by_cases e:k=j
  · subst e;simp [h]
  · rw [if_neg e,if_neg (fun x=>e x.symm),←List.getD_eq_getElem?_getD]
theorem BdI.start:BdI n c g 0 (List.replicate n false):=⟨by simp,fun j hj=>by
  rw [List.getD_eq_getElem?_getD,List.getElem?_replicate];simp [hj]⟩
theorem BdI.skip {b:List Bool} (h:BdI n c g i b) (hg:¬g i=true):BdI n c g (i+1) b:=
  ⟨h.len,fun j hj=>(h.iff j hj).trans ⟨fun ⟨k,a,e⟩=>⟨k,by omega,e⟩,fun ⟨k,a,e,e2⟩=>⟨k,by
    by_cases x:k=i
    · exact absurd (x ▸ e) hg
    · omega,e,e2⟩⟩⟩
theorem BdI.put {b:List Bool} (h:BdI n c g i b) (hg:g i=true) (hk:c i<n):BdI n c g (i+1) (b.set (c i) true):=by
  refine ⟨by rw [List.length_set];exact h.len,fun j hj=> ?_⟩
  rw [getD_setB (by rw [h.len];exact hk)]
  by_cases e:j=c i
  · rw [if_pos e];exact ⟨fun _=>⟨i,by omega,hg,e.symm⟩,fun _=>rfl⟩
  · rw [if_neg e, h.iff j hj]
    exact ⟨fun ⟨k,a,b⟩=>⟨k,by omega,b⟩,fun ⟨k,a,b1,b2⟩=>⟨k,by
      by_cases x:k=i
      · exact absurd (by rw [← b2,x]) e
      · omega,b1,b2⟩⟩
theorem BdI.brd {b:List Bool} (h:BdI n c g n b) (hc:Lst (fun j=>f j=true) adj c) (ho:∀k,k<n→¬f k=true→c k=k) {j:Nat} (hj:j<n) (hf:f j=true):b.getD j false=brd n f c g j:=by
  rw [Bool.eq_iff_iff,h.iff j hj,brd_iff]
  exact ⟨fun ⟨k,a,e,e2⟩=>⟨k,a,by
    by_cases x:f k=true
    · exact x
    · rw [ho k a x] at e2;exact absurd (e2 ▸ hf) x,e,e2⟩,fun ⟨k,a,_,e,e2⟩=>⟨k,a,e,e2⟩⟩
theorem cnt_congr {q r:Nat→Bool} {i:Nat} (h:∀j,j<i→q j=r j):cnt q i=cnt r i:=by
  induction i with
  |zero=>rfl
  |succ i ih=>rw [cnt_succ,cnt_succ,ih (fun j hj=>h j (by omega)),h i (by omega)]
theorem BdI.hol {b:List Bool} (h:BdI n c g n b) (hc:Lst (fun j=>f j=true) adj c) (ho:∀k,k<n→¬f k=true→c k=k):cnt (fun j=>ldr f c j&& !(b.getD j false)) n=hol n f c g:=by
  refine cnt_congr fun j hj=> ?_
  by_cases e:f j=true
  · rw [h.brd hc ho hj e]
  · simp [ldr,e]
end
def HolR (w h m:Int) (l:List Int) (th:Int) (z:Int):Prop:=
  (Bl.rok w h m l∧0≤th∧th≤65536→∃c,Lst (fun j=>lo l th j=true) (nb true w.toNat l.length) c∧z=(hol l.length (lo l th) c (edg w.toNat h.toNat):Int))∧(¬(Bl.rok w h m l∧0≤th∧th≤65536)→z=0)
theorem HolR.uniq {w h m th:Int} {l:List Int} {z y:Int} (a:HolR w h m l th z) (b:HolR w h m l th y):z=y:=by
  by_cases e:Bl.rok w h m l∧0≤th∧th≤65536
  · obtain ⟨c, hc, h1⟩ := a.1 e
    obtain ⟨d,hd,h2⟩:=b.1 e
    rw [h1,h2,hol_uniq hc hd]
  · rw [a.2 e,b.2 e]
theorem HolR.no {w h m th:Int} {l:List Int} (e:¬(Bl.rok w h m l∧0≤th∧th≤65536)):HolR w h m l th 0:=⟨fun k=>absurd k e,fun _=>rfl⟩
theorem HolR.yes {w h n:Nat} {m th z:Int} {l:List Int} {c:Nat→Nat} (e:Bl.rok w h m l∧0≤th∧th≤65536) (hn:l.length=n) (hc:Lst (fun j=>lo l th j=true) (nb true w n) c) (hz:z=(hol n (lo l th) c (edg w h):Int)):HolR w h m l th z:=by
  subst hn;exact ⟨fun _=>⟨c,hc,hz⟩,fun x=>absurd e x⟩
end Go.Proofs.YtefbbhiaalcjfaaGreat.Fl
namespace Go.Proofs.YtefbbhiaalcjfaaGreat.Sp
open Go
set_option linter.unusedVariables false
set_option maxRecDepth 100000
set_option maxHeartbeats 1000000
theorem zLe {w:Int} {h:Int} {m:Int} {p:Option Addr} {n:Nat} {cap:Nat} {l:List Int} {th:Int} (hn:l.length=n):Con Tryz.prog 22 [.agg #[.int .i64 w,.int .i64 h,.int .i64 m,.slice p n cap],.int .i64 th] [] [slF (rI .i64) p cap l] (Y:=Int) (fun y=>Fl.HolR w h m l th y) (fun y=> .tuple #[.int .i64 y,.int .i64 (if Bl.rok w h m l then (if 0≤th∧th≤65536 then 0 else 2) else 1)]) (fun y=>[]) (fun y=>[]):=by
 refine zp Tryz.func22 rfl rfl rfl (fun c=> ?_)
 show RunC _ _ _ _ _ [(0,.agg #[.int .i64 w,.int .i64 h,.int .i64 m,.slice p n cap]),(1,.int .i64 th)] [] [slF (rI .i64) p cap l]
 refine zea 0 rfl (fun hL0=> ?_)
 refine zh<|zc<|zS rfl rfl (zX rfl rfl) (fun b1=> ?_)
 refine zS rfl rfl (zX rfl rfl) (fun b2=> ?_)
 refine r_pv rfl rfl (zd rfl)<|r_pv rfl rfl (zd rfl)<|zj<|ze<|zh<|zh<|zc<|r_u rfl rfl (zi 1 ty24 rfl rfl (.take (.take (.take (.take .nil)))))<|r_u rfl rfl (zf 0 ty3 rfl rfl rfl)<|zQ rfl rfl (.c rfl (.c rfl .n)) ce24 (zyb (w:=w) (h:=h) (m:=m) (p:=p) (n:=n) (cap:=cap) (l:=l) (th:=th) (hn:=by assumption)) (.c (j:=0) rfl .n)<|r_pv rfl rfl (zd rfl)<|zj<|ze<|zh<|zc<|r_pv rfl rfl (zb rfl)<|r_pv rfl rfl (zHa rfl rfl)<|zj<|ze<|zD rfl (fun hc=> ?_) (fun hc=> ?_)
 ·
  have hno:=fun k=>hc (Fl.ask0.2 k)
  refine zh<|zc<|r_pv rfl rfl (zb rfl)<|r_pv rfl rfl (zd rfl)<|r_pv rfl rfl (zd rfl)<|zj<|ze<|zG<|zq ?_
  exact zwa Tryz.results22 0 (Fl.HolR.no hno) (zo rfl) (zo rfl) rfl (ho:=(.n:PickO _ _ _)) (.n:SelR _ _ _)
 ·
  have hok:=Fl.ask0.1 (Decidable.not_not.1 hc)
  obtain ⟨wn,hn9,rfl,rfl,hw9,hh9,hwh,hb9⟩:=Fl.rok_n hok.1 hn
  refine zy<|ze<|zh<|zCb 0 rfl .z<|zla (OW:=[]) (O:=[emA,boxA b1 24 [.int .i64 ((wn:Nat):Int),.int .i64 ((hn9:Nat):Int),.int .i64 m,.slice p n cap]]) 100000 mixed (.then .ret) (by kernel_rfl)<|d_u 0 rfl rfl (by kernel_rfl) (by kernel_rfl) rfl rfl (zi 1 ty24 rfl rfl (.take (.take (.take (.take .nil)))))<|d_pv 1 rfl rfl (by kernel_rfl) (by kernel_rfl) rfl rfl (zYa .n (.c rfl .n))<|zV 2 (by kernel_rfl) (zW rfl rfl rfl rfl (.n) ce51 (zIe) (.n) ?_)
  rintro ⟨p33,c34⟩ -
  dsimp only [List.append_eq,List.nil_append,List.cons_append]
  refine zV 3 (by kernel_rfl) (zW rfl rfl rfl rfl (.c rfl (.c rfl (.c rfl .n))) ce49 (zYc (w:=wn) (h:=hn9) (m:=m) (p:=p) (n:=n) (cap:=cap) (l:=l) (tb:=b2) (th:=th) (p2:=p33) (c2:=c34) (hn:=by assumption) (hw:=by first|rfl|assumption|omega) (hh:=by first|rfl|assumption|omega) (hwh:=by first|rfl|assumption|omega) (hb:=by first|rfl|assumption|omega)) (.c (j:=2) rfl (.c (j:=1) rfl (.c (j:=0) rfl .n))) ?_)
  rintro ⟨p35,c36,o,cc⟩ hcl
  dsimp only [List.append_eq,List.nil_append,List.cons_append]
  replace hcl:Fl.Lst (fun j=>(Fl.lo l th) j=true) (Fl.nb true wn n) cc∧Fl.OutI n (Fl.lo l th) cc n o:=hcl
  refine d_pv 4 rfl rfl (by kernel_rfl) (by kernel_rfl) rfl rfl (zb rfl)<|d_pv 5 rfl rfl (by kernel_rfl) (by kernel_rfl) rfl rfl (zt rfl rfl)<|d_pv 6 rfl rfl (by kernel_rfl) (by kernel_rfl) rfl rfl (zt rfl rfl)<|d_pv 7 rfl rfl (by kernel_rfl) (by kernel_rfl) rfl rfl (zd rfl)<|d_pv 8 rfl rfl (by kernel_rfl) (by kernel_rfl) rfl rfl (zd rfl)<|zfa (by kernel_rfl)<|ze<|zh<|zc<|zra rfl rfl (zVd (κ:=Int) (ν:=Bool) (fun z:Int=> .int .i64 z) (fun z:Bool=> .bool z) (InK .i64)) (fun b7 _=> ?_)
  refine r_pv rfl rfl (zd rfl)<|zj<|ze<|zh<|zh ?_
  have hin:∀j,(Fl.lo l th) j=true→j<n:=fun j hj=>by have:=Fl.lo_lt hj;omega
  have hol:=hcl.2.len
  refine zc<|r_pv rfl rfl (zb rfl)<|r_pv rfl rfl (zM Tryz.underlying22 rfl)<|r_pv rfl rfl (zb rfl)<|zj<|ze<|zx<|zka (X:=Nat×(List (Int×Bool))) (fun x:Nat×(List (Int×Bool))=>x.1≤n∧Fl.OpnI (Fl.lo l th) cc (Fl.edg wn hn9) x.1 x.2) (fun x=>[(30,.int .i64 ((x.1:Nat):Int)),(29,.int .i64 ((n:Nat):Int)),(28,.slice p35 n c36),(9,.map (some b7)),(8,.int .i64 (((Fl.cnt (Fl.ldr (Fl.lo l th) cc) n):Nat):Int)),(5,.int .i64 0),(4,.int .i64 0),(2,.pointer (some ⟨b1,0,none⟩))]) (fun x=>[mapA b7 (fun z:Int=> .int .i64 z) (fun z:Bool=> .bool z) (InK .i64) (x.2),boxA b1 24 [.int .i64 ((wn:Nat):Int),.int .i64 ((hn9:Nat):Int),.int .i64 m,.slice p n cap]]) (fun x=>[slF (rI .i64) p35 c36 o,slF (rI2 .i64) p33 c34 ([((1:Int),(0:Int)),(-1,0),(0,1),(0,-1)]++[(1,1),(-1,1),(1,-1),(-1,-1)]),atF b2 0 [.int .i64 th],slF (rI .i64) p cap l]) (fun x:Nat×(List (Int×Bool))=>n - x.1) (0,([]:List (Int×Bool))) (show 0≤n∧Fl.OpnI (Fl.lo l th) cc (Fl.edg wn hn9) 0 ([]:List (Int×Bool)) from by exact ⟨Nat.zero_le _,Fl.OpnI.start⟩) ((.e rfl (by first|rfl|(congr 1;omega)|simp_all) (.of rfl)):SubM _ _) (ho:=((.e (i:=0) rfl (by first|rfl|(congr 1;omega)|simp_all) (.c (i:=1) rfl .n)):PickO _ _ _)) ((.of [0,1,2,3] rfl):SelR _ _ _) ?_
  rintro ⟨i,mp⟩ hI
  replace hI:i≤n∧Fl.OpnI (Fl.lo l th) cc (Fl.edg wn hn9) i mp:=hI
  try dsimp only
  obtain ⟨hi,hM⟩:=hI
  refine zh<|zc<|r_pv rfl rfl (zY rfl rfl)<|zj<|ze<|zh<|zD rfl (fun h8=> ?_) (fun h8=> ?_)
  ·
   have hqd:=Nat.div_le_self i wn
   have hq0:=Int.natCast_nonneg (i / wn)
   have hm0:=Int.natCast_nonneg (i%wn)
   have hmd:=Nat.mod_lt i (show 0<wn by omega)
   have hoe:=hcl.2.old i (by omega)
   have hon:=hcl.2.new i (by omega)
   have hcn:=Fl.cnt_le (Fl.ldr (Fl.lo l th) cc) (cc i)
   refine zy<|ze<|zh<|zx<|zh<|zc<|r_pv rfl rfl (zb rfl)<|zL (x0:=(o.getD i 0)) 0 i rfl Tryz.underlying22 sz3 rfl rfl rfl (by first|rfl|assumption|(simp_all;done)|omega) rfl rfl (gD (d:=0) (by omega)) (fun b9 o10 hok11=> ?_)
   replace hok11:=zk.1 hok11
   refine r_u rfl rfl (zn (j:=0) 0 ty3 rfl rfl rfl rfl)<|r_pv rfl rfl (zd rfl)<|r_pv rfl rfl (zd rfl)<|zj<|ze<|zh<|zla (OW:=[]) (O:=[mapA b7 (fun z:Int=> .int .i64 z) (fun z:Bool=> .bool z) (InK .i64) mp,boxA b1 24 [.int .i64 ((wn:Nat):Int),.int .i64 ((hn9:Nat):Int),.int .i64 m,.slice p n cap]]) 100000 mixed (.then (.block (.then (.then (.block (.then .ret)))))) (by kernel_rfl)<|d_pv 0 rfl rfl (by kernel_rfl) (by kernel_rfl) rfl rfl (zb rfl)<|d_pv 1 rfl rfl (by kernel_rfl) (by kernel_rfl) rfl rfl (zg Tryz.underlying24 rfl sz3 rfl rfl)<|d_u 2 rfl rfl (by kernel_rfl) (by kernel_rfl) rfl rfl (zf 1 ty3 rfl rfl rfl)<|d_pv 3 rfl rfl (by kernel_rfl) (by kernel_rfl) rfl rfl (zGa (z:=(((i%wn):Nat):Int)) rfl rfl (by omega) (remN (by omega) (by omega)))<|d_pv 4 rfl rfl (by kernel_rfl) (by kernel_rfl) rfl rfl (zb rfl)<|d_pv 5 rfl rfl (by kernel_rfl) (by kernel_rfl) rfl rfl (zg Tryz.underlying24 rfl sz3 rfl rfl)<|d_u 6 rfl rfl (by kernel_rfl) (by kernel_rfl) rfl rfl (zf 1 ty3 rfl rfl rfl)<|d_pv 7 rfl rfl (by kernel_rfl) (by kernel_rfl) rfl rfl (zFa (z:=(((i / wn):Nat):Int)) rfl rfl (by omega) (by rw [quoN (z:=(((i / wn):Nat):Int)) (by omega) (by omega)];exact w64 (by omega)))<|d_pv 8 rfl rfl (by kernel_rfl) (by kernel_rfl) rfl rfl (zd rfl)<|d_pv 9 rfl rfl (by kernel_rfl) (by kernel_rfl) rfl rfl (zd rfl)<|zfa (by kernel_rfl)<|ze<|zRa (X:=Unit) (fun x=>True) (fun x=>[(66,.bool (decide (0≤o.getD i 0∧(Fl.edg wn hn9) i=true))),(11,.int .i64 (o.getD i 0)),(30,.int .i64 ((i:Nat):Int)),(29,.int .i64 ((n:Nat):Int)),(28,.slice p35 n c36),(9,.map (some b7)),(8,.int .i64 (((Fl.cnt (Fl.ldr (Fl.lo l th) cc) n):Nat):Int)),(5,.int .i64 0),(4,.int .i64 0),(2,.pointer (some ⟨b1,0,none⟩))]) (fun x=>[mapA b7 (fun z:Int=> .int .i64 z) (fun z:Bool=> .bool z) (InK .i64) mp,boxA b1 24 [.int .i64 ((wn:Nat):Int),.int .i64 ((hn9:Nat):Int),.int .i64 m,.slice p n cap]]) (fun x=>[atF b9 o10 [.int .i64 (o.getD i 0)],slF (rI .i64) p35 c36 o,slF (rI2 .i64) p33 c34 ([((1:Int),(0:Int)),(-1,0),(0,1),(0,-1)]++[(1,1),(-1,1),(1,-1),(-1,-1)]),atF b2 0 [.int .i64 th],slF (rI .i64) p cap l]) ?_ ?_
   ·
    refine zc<|r_pv rfl rfl (zb rfl)<|r_pv rfl rfl (zBa rfl rfl)<|zT rfl rfl (zb rfl) (fun hk0=> ?_) (fun hk0=> ?_)
    ·
     refine r_pv rfl rfl (zb rfl)<|r_pv rfl rfl (zCa rfl rfl)<|zT rfl rfl (zb rfl) (fun hx0=> ?_) (fun hx0=> ?_)
     ·
      refine za rfl rfl<|za rfl rfl<|r_pv rfl rfl (zl rfl rfl)<|r_pv rfl rfl (zb rfl)<|za rfl rfl<|za rfl rfl<|za rfl rfl<|za rfl rfl<|za rfl rfl<|r_pv rfl rfl (zl rfl rfl)<|r_pv rfl rfl (zb rfl)<|za rfl rfl<|za rfl rfl<|za rfl rfl<|za rfl rfl<|za rfl rfl<|r_pv rfl rfl (zl rfl rfl)<|r_pv rfl rfl (zl rfl rfl)<|zj ?_
      exact zga () (show True from by first|trivial|omega|simp_all) ((.e rfl (congrArg Value.bool (by exact Eq.symm (decide_eq_true ⟨by omega,Fl.edg_iff.2 (by omega)⟩))) (.of rfl)):SubM _ _) (ho:=((.of [0,0] rfl):PickO _ _ _)) ((.of [0,1,2,3,4] rfl):SelR _ _ _)
     ·
      refine r_pv rfl rfl (zb rfl)<|r_pv rfl rfl (zCa rfl rfl)<|r_pv rfl rfl (zl rfl rfl)<|zT rfl rfl (zb rfl) (fun hx1=> ?_) (fun hx1=> ?_)
      ·
       refine za rfl rfl<|za rfl rfl<|za rfl rfl<|za rfl rfl<|za rfl rfl<|r_pv rfl rfl (zl rfl rfl)<|r_pv rfl rfl (zb rfl)<|za rfl rfl<|za rfl rfl<|za rfl rfl<|za rfl rfl<|za rfl rfl<|r_pv rfl rfl (zl rfl rfl)<|r_pv rfl rfl (zl rfl rfl)<|zj ?_
       exact zga () (show True from by first|trivial|omega|simp_all) ((.e rfl (congrArg Value.bool (by exact Eq.symm (decide_eq_true ⟨by omega,Fl.edg_iff.2 (by omega)⟩))) (.of rfl)):SubM _ _) (ho:=((.of [0,0] rfl):PickO _ _ _)) ((.of [0,1,2,3,4] rfl):SelR _ _ _)
      ·
       refine r_pv rfl rfl (zb rfl)<|r_pv rfl rfl (zg Tryz.underlying24 rfl sz3 rfl rfl)<|r_u rfl rfl (zf 1 ty3 rfl rfl rfl)<|r_pv rfl rfl (zia (z:=(((wn:Nat):Int) - 1)) rfl rfl (w64 (by omega)))<|r_pv rfl rfl (zCa rfl rfl)<|r_pv rfl rfl (zl rfl rfl)<|zT rfl rfl (zb rfl) (fun hx2=> ?_) (fun hx2=> ?_)
       ·
        refine za rfl rfl<|za rfl rfl<|za rfl rfl<|za rfl rfl<|za rfl rfl<|r_pv rfl rfl (zl rfl rfl)<|r_pv rfl rfl (zl rfl rfl)<|zj ?_
        exact zga () (show True from by first|trivial|omega|simp_all) ((.e rfl (congrArg Value.bool (by exact Eq.symm (decide_eq_true ⟨by omega,Fl.edg_iff.2 (by omega)⟩))) (.of rfl)):SubM _ _) (ho:=((.of [0,0] rfl):PickO _ _ _)) ((.of [0,1,2,3,4] rfl):SelR _ _ _)
       ·
        refine r_pv rfl rfl (zb rfl)<|r_pv rfl rfl (zg Tryz.underlying24 rfl sz3 rfl rfl)<|r_u rfl rfl (zf 1 ty3 rfl rfl rfl)<|r_pv rfl rfl (zia (z:=(((hn9:Nat):Int) - 1)) rfl rfl (w64 (by omega)))<|r_pv rfl rfl (zCa rfl rfl)<|r_pv rfl rfl (zl rfl rfl)<|r_pv rfl rfl (zl rfl rfl)<|zj ?_
        exact zga () (show True from by first|trivial|omega|simp_all) ((.e rfl (congrArg Value.bool (by exact decide_eq_decide.2 ⟨fun h9=>⟨by omega,Fl.edg_iff.2 (by omega)⟩,fun h9=>by have h8:=Fl.edg_iff.1 h9.2;omega⟩)) (.of rfl)):SubM _ _) (ho:=((.of [0,0] rfl):PickO _ _ _)) ((.of [0,1,2,3,4] rfl):SelR _ _ _)
    ·
     refine za rfl rfl<|za rfl rfl<|za rfl rfl<|za rfl rfl<|za rfl rfl<|za rfl rfl<|za rfl rfl<|za rfl rfl<|za rfl rfl<|za rfl rfl<|za rfl rfl<|za rfl rfl<|za rfl rfl<|za rfl rfl<|za rfl rfl<|za rfl rfl<|za rfl rfl<|za rfl rfl<|za rfl rfl<|za rfl rfl<|r_pv rfl rfl (zl rfl rfl)<|zj ?_
     exact zga () (show True from by first|trivial|omega|simp_all) ((.e rfl (congrArg Value.bool (by exact Eq.symm (decide_eq_false (fun h9=>hk0 (by omega))))) (.of rfl)):SubM _ _) (ho:=((.of [0,0] rfl):PickO _ _ _)) ((.of [0,1,2,3,4] rfl):SelR _ _ _)
   ·
    rintro ⟨⟩ -
    try dsimp only
    refine zD rfl (fun hx=> ?_) (fun hx=> ?_)
    ·
     have hfi:(Fl.lo l th) i=true:=by by_cases h9:(Fl.lo l th) i=true;exact h9;have h8:=hon (fun h7=>h9 h7.1);omega
     have hoi:=hoe hfi (hin _ (hcl.1.mem hfi))
     have hci:=hcl.1.le i hfi
     refine zc<|r_pv rfl rfl (zb rfl)<|r_pv rfl rfl (zb rfl)<|zta 0 rfl rfl rfl (zue (a0:=(o.getD i 0)) (v:=true) ky3 Tryz.underlying78 rfl rfl rfl (zk.2 (by omega))) (fun _=> .z) (fun _ _=> ?_)
     refine zj<|zP<|ze<|zc<|r_pv rfl rfl (zz (z:=(((i+1):Nat):Int)) rfl rfl (w64 (by omega)))<|r_pv rfl rfl (zb rfl)<|zj<|zaa ((i+1),mput mp (o.getD i 0) true) (show (i+1)≤n∧Fl.OpnI (Fl.lo l th) cc (Fl.edg wn hn9) (i+1) (mput mp (o.getD i 0) true) from by have h9:=hM.put hfi hx.2;rw [← hoi] at h9;exact ⟨by omega,h9⟩) (by show n - (i+1)<n - i;omega) ((.of rfl):SubM _ _) (ho:=((.of [0,0] rfl):PickO _ _ _)) ((.of [1,2,3,4] rfl):SelR _ _ _)
    ·
     refine zy<|zP<|ze<|zc<|r_pv rfl rfl (zz (z:=(((i+1):Nat):Int)) rfl rfl (w64 (by omega)))<|r_pv rfl rfl (zb rfl)<|zj<|zaa ((i+1),mp) (show (i+1)≤n∧Fl.OpnI (Fl.lo l th) cc (Fl.edg wn hn9) (i+1) mp from by exact ⟨by omega,hM.skip (fun h9=>hx ⟨by have h8:=hoe h9.1 (hin _ (hcl.1.mem h9.1));omega,h9.2⟩)⟩) (by show n - (i+1)<n - i;omega) ((.of rfl):SubM _ _) (ho:=((.of [0,0] rfl):PickO _ _ _)) ((.of [1,2,3,4] rfl):SelR _ _ _)
  ·
   refine zha<|zm<|zm<|zu<|ze<|zh ?_
   have hin8:i=n:=by omega
   rw [hin8] at hM
   have hml:=hM.hol hcl.1 hin
   have hcn:=Fl.cnt_le (Fl.ldr (Fl.lo l th) cc) n
   refine zc<|r_pv rfl rfl (zb rfl)<|r_pv rfl rfl (zb rfl)<|r_u rfl rfl (zve (encK:=(fun z:Int=> .int .i64 z)) (encV:=(fun z:Bool=> .bool z)) (ok:=(InK .i64)) (m:=mp) 0 rfl Tryz.underlying78 rfl)<|r_pv rfl rfl (zia (z:=((((Fl.cnt (Fl.ldr (Fl.lo l th) cc) n):Nat):Int) - (((mp).length:Nat):Int))) rfl rfl (w64 (by omega)))<|r_pv rfl rfl (zd rfl)<|r_pv rfl rfl (zd rfl)<|zj<|ze<|zG ?_
   exact zwa Tryz.results22 ((Fl.hol n (Fl.lo l th) cc (Fl.edg wn hn9):Nat):Int) (Fl.HolR.yes hok hn hcl.1 rfl) (zo rfl) (zo rfl) (by rw [Decidable.not_not.1 hc,hM.hol hcl.1 hin]) (ho:=(.n:PickO _ _ _)) (.n:SelR _ _ _)
end Go.Proofs.YtefbbhiaalcjfaaGreat.Sp
namespace Go.Proofs.YtefbbhiaalcjfaaGreat.Fl
open Sp (Bb b0)
def one (w:Nat) (l:List Int) (i:Nat):Bb:=
  ⟨1,((i%w:Nat):Int),((i / w:Nat):Int),((i%w:Nat):Int),((i / w:Nat):Int),((i%w:Nat):Int),((i / w:Nat):Int),((i%w:Nat):Int)*((i%w:Nat):Int),((i%w:Nat):Int)*((i / w:Nat):Int),((i / w:Nat):Int)*((i / w:Nat):Int),l.getD i 0,l.getD i 0*((i%w:Nat):Int),l.getD i 0*((i / w:Nat):Int)⟩
def tog (a b:Bb):Bb:=
  ⟨a.ar+b.ar,min a.le b.le,min a.tp b.tp,max a.rt b.rt,max a.bt b.bt,a.sx+b.sx,a.sy+b.sy,a.xx+b.xx,a.xy+b.xy,a.yy+b.yy,a.ms+b.ms,a.mx+b.mx,a.my+b.my⟩
def okb (a:Bb):Prop:=Bl.ok a.ar a.le a.tp a.rt a.bt a.sx a.sy a.xx a.xy a.yy a.ms a.mx a.my
instance (a:Bb):Decidable (okb a):=inferInstanceAs (Decidable (Bl.ok ..))
def acc (w:Nat) (l o:List Int) (k:Int):Nat→Option Bb
  |0=>none
  |i+1=>if o.getD i 0=k then some (match acc w l o k i with|none=>one w l i|some a=>tog a (one w l i)) else acc w l o k i
theorem one_ok {w h n i:Nat} {l:List Int} (hw:1≤w∧w≤64) (hh:h≤64) (hn:n=w*h) (hi:i<n) (hg:0≤l.getD i 0∧l.getD i 0≤65535):okb (one w l i):=by
  have h1:i%w≤63:=by have:=Nat.mod_lt i (show 0<w by omega);omega
  have h2:i / w≤63:=by have:=Nat.div_lt_of_lt_mul (show i<w*h by omega);omega
  unfold okb one Bl.ok
  dsimp only
  generalize ((i%w:Nat))=X at *;generalize i / w=Y at *;generalize l.getD i 0=G at*
  have a1:=Bl.mul_b (x:=(X:Int)) (y:=(X:Int)) (m:=63) (n:=63) (by omega) (by omega)
  have a2:=Bl.mul_b (x:=(X:Int)) (y:=(Y:Int)) (m:=63) (n:=63) (by omega) (by omega)
  have a3:=Bl.mul_b (x:=(Y:Int)) (y:=(Y:Int)) (m:=63) (n:=63) (by omega) (by omega)
  omega
theorem mul_le2 {a b x y s:Int} (ha:0≤a) (hx:y≤x) (hs:a*x≤s):a*y≤s:=Int.le_trans (Int.mul_le_mul_of_nonneg_left hx ha) hs
theorem mul_ge2 {a b x y s:Int} (ha:0≤a) (hx:x≤y) (hs:s≤a*x):s≤a*y:=Int.le_trans hs (Int.mul_le_mul_of_nonneg_left hx ha)
theorem tog_ok {a b:Bb} (ha:okb a) (hb:okb b) (h:a.ar+b.ar≤4096):okb (tog a b):=by
  unfold okb Bl.ok at ha hb
  unfold okb tog Bl.ok
  dsimp only
  obtain ⟨a1,a2,a3,a4,a5,a6,a7,a8,a9,a10,a11,a12,a13⟩:=ha
  obtain ⟨b1,b2,b3,b4,b5,b6,b7,b8,b9,b10,b11,b12,b13⟩:=hb
  simp only [Int.add_mul]
  have m1:min a.le b.le≤a.le:=by omega
  have m2:min a.le b.le≤b.le:=by omega
  have m3:min a.tp b.tp≤a.tp:=by omega
  have m4:min a.tp b.tp≤b.tp:=by omega
  have m5:a.rt≤max a.rt b.rt:=by omega
  have m6:b.rt≤max a.rt b.rt:=by omega
  have m7:a.bt≤max a.bt b.bt:=by omega
  have m8:b.bt≤max a.bt b.bt:=by omega
  have c1:=mul_le2 (b:=0) (by omega) m1 a6.1
  have c2:=mul_le2 (b:=0) (by omega) m2 b6.1
  have c3:=mul_ge2 (b:=0) (by omega) m5 a6.2
  have c4:=mul_ge2 (b:=0) (by omega) m6 b6.2
  have c5:=mul_le2 (b:=0) (by omega) m3 a7.1
  have c6:=mul_le2 (b:=0) (by omega) m4 b7.1
  have c7:=mul_ge2 (b:=0) (by omega) m7 a7.2
  have c8:=mul_ge2 (b:=0) (by omega) m8 b7.2
  have d1:=mul_le2 (b:=0) (by omega) m1 a12.1
  have d2:=mul_le2 (b:=0) (by omega) m2 b12.1
  have d3:=mul_ge2 (b:=0) (by omega) m5 a12.2
  have d4:=mul_ge2 (b:=0) (by omega) m6 b12.2
  have d5:=mul_le2 (b:=0) (by omega) m3 a13.1
  have d6:=mul_le2 (b:=0) (by omega) m4 b13.1
  have d7:=mul_ge2 (b:=0) (by omega) m7 a13.2
  have d8:=mul_ge2 (b:=0) (by omega) m8 b13.2
  clear a6 b6 a7 b7 a12 b12 a13 b13
  omega
theorem acc_ok {w h n:Nat} {l o:List Int} {k:Int} (hw:1≤w∧w≤64) (hh:h≤64) (hn:n=w*h) (hb:n≤4096) (hg:∀i,i<n→0≤l.getD i 0∧l.getD i 0≤65535):∀i,i≤n→∀a,acc w l o k i=some a→okb a∧a.ar≤(i:Int):=by
  intro i
  induction i with
  |zero=>intro _ a e;cases e
  |succ i ih=>
    intro hi a e
    have ho:=one_ok hw hh hn (show i<n by omega) (hg i (by omega))
    unfold acc at e
    split at e
    · cases hc : acc w l o k i with
      |none=>rw [hc] at e;cases e;exact ⟨ho,by show (1:Int)≤_;omega⟩
      |some b=>
        rw [hc] at e;cases e
        obtain ⟨h1,h2⟩:=ih (by omega) b hc
        have h3:b.ar+(one w l i).ar≤((i+1:Nat):Int):=by show b.ar+1≤_;omega
        exact ⟨tog_ok h1 ho (by omega),h3⟩
    · obtain ⟨h1,h2⟩:=ih (by omega) a e;exact ⟨h1,by omega⟩
def gb (a:Option Bb):Bb:=a.getD b0
def bls (w:Nat) (l o:List Int) (N n:Nat):List Bb:=(List.range N).map (fun k:Nat=>gb (acc w l o (k:Int) n))
theorem bls_len (w:Nat) (l o:List Int) (N n:Nat):(bls w l o N n).length=N:=by simp [bls]
theorem bls_get {w:Nat} {l o:List Int} {N n k:Nat} (h:k<N):(bls w l o N n).getD k b0=gb (acc w l o (k:Int) n):=by
  unfold bls;rw [List.getD_eq_getElem?_getD,List.getElem?_map,List.getElem?_range h];rfl
theorem ext_gD {A B:List Bb} (hl:A.length=B.length) (h:∀k,k<A.length→A.getD k b0=B.getD k b0):A=B:=by
  refine List.ext_getElem hl fun k h1 h2=> ?_
  have:=h k h1
  rw [List.getD_eq_getElem?_getD,List.getD_eq_getElem?_getD,List.getElem?_eq_getElem h1,List.getElem?_eq_getElem h2] at this
  exact this
theorem gB_mem {A:List Bb} {k:Nat} (h:k<A.length):A.getD k b0∈A:=by
  rw [List.getD_eq_getElem?_getD,List.getElem?_eq_getElem h];exact List.getElem_mem h
theorem mem_gB {A:List Bb} {g:Bb} (h:g∈A):∃k,k<A.length∧A.getD k b0=g:=by
  obtain ⟨q,hq,e⟩:=List.getElem_of_mem h
  exact ⟨q,hq,by rw [List.getD_eq_getElem?_getD,List.getElem?_eq_getElem hq];exact e⟩
theorem gD_set {A:List Bb} {k j:Nat} {v:Bb} (h:k<A.length):(A.set k v).getD j b0=if j=k then v else A.getD j b0:=by
  rw [List.getD_eq_getElem?_getD,List.getElem?_set]
  by_cases e:k=j
  · subst e;simp [h]
  · rw [if_neg e,if_neg (fun x=>e x.symm),←List.getD_eq_getElem?_getD]
section
variable {w h n N i : Nat} {l o : List Int} {A : List Bb}
structure TbI (w:Nat) (l o:List Int) (N i:Nat) (A:List Bb):Prop where
  len:A.length=N
  get:∀k,k<N→A.getD k b0=gb (acc w l o (k:Int) i)
theorem TbI.start:TbI w l o N 0 (List.replicate N b0):=⟨by simp,fun k hk=>by
  rw [List.getD_eq_getElem?_getD,List.getElem?_replicate];simp [hk,acc,gb]⟩
theorem TbI.skip (h:TbI w l o N i A) (hx:o.getD i 0<0):TbI w l o N (i+1) A:=
  ⟨h.len,fun k hk=>by rw [h.get k hk];unfold acc;rw [if_neg (show ¬o.getD i 0=(k:Int) by omega)];cases i <;> rfl⟩
theorem acc_next {k:Int} (hx:o.getD i 0=k):acc w l o k (i+1)=some (match acc w l o k i with|none=>one w l i|some a=>tog a (one w l i)):=by
  rw [acc,if_pos hx]
theorem acc_keep {k:Int} (hx:¬o.getD i 0=k):acc w l o k (i+1)=acc w l o k i:=by rw [acc,if_neg hx]
theorem TbI.put (h:TbI w l o N i A) {k:Nat} {v:Bb} (hk:k<N) (ho:o.getD i 0=(k:Int)) (hv:v=gb (acc w l o (k:Int) (i+1))):TbI w l o N (i+1) (A.set k v):=
  ⟨by rw [List.length_set];exact h.len,fun j hj=>by
    rw [gD_set (by rw [h.len];exact hk)]
    by_cases e:j=k
    · rw [if_pos e,hv,e]
    · rw [if_neg e,h.get j hj,acc_keep (show ¬o.getD i 0=(j:Int) by omega)]⟩
theorem gb_new {k:Int} (hx:o.getD i 0=k) (ha:(gb (acc w l o k i)).ar=0) (hok:∀a,acc w l o k i=some a→okb a):one w l i=gb (acc w l o k (i+1)):=by
  rw [acc_next hx]
  cases e:acc w l o k i with
  |none=>rfl
  |some a=>rw [e] at ha;have:=(hok a e).1;change a.ar=0 at ha;omega
theorem gb_old {k:Int} (hx:o.getD i 0=k) (ha:¬(gb (acc w l o k i)).ar=0):tog (gb (acc w l o k i)) (one w l i)=gb (acc w l o k (i+1)):=by
  rw [acc_next hx]
  cases e:acc w l o k i with
  |none=>rw [e] at ha;exact absurd rfl ha
  |some a=>rfl
theorem gb_ok {k:Int} (ha:¬(gb (acc w l o k i)).ar=0) (hok:∀a,acc w l o k i=some a→okb a∧a.ar≤(i:Int)):okb (gb (acc w l o k i))∧(gb (acc w l o k i)).ar≤(i:Int):=by
  cases e:acc w l o k i with
  |none=>rw [e] at ha;exact absurd rfl ha
  |some a=>exact hok a e
theorem gb_okn {k:Int} (ha:acc w l o k i≠none) (hok:∀a,acc w l o k i=some a→okb a∧a.ar≤(i:Int)):okb (gb (acc w l o k i)):=by
  cases e:acc w l o k i with
  |none=>exact absurd e ha
  |some a=>exact (hok a e).1
theorem gb_nextn {k:Int} (hx:o.getD i 0=k) (ha:acc w l o k i≠none):gb (acc w l o k (i+1))=tog (gb (acc w l o k i)) (one w l i):=by
  rw [acc_next hx]
  cases e:acc w l o k i with
  |none=>exact absurd e ha
  |some a=>rfl
theorem TbI.fin (h:TbI w l o N n A):A=bls w l o N n:=ext_gD (by rw [h.len,bls_len]) fun k hk=>by
  rw [h.len] at hk;rw [h.get k hk,bls_get hk]
end
structure LabC (n:Nat) (f:Nat→Bool) (c:Nat→Nat) (o:List Int):Prop where
  len:o.length=n
  yes:∀j,j<n→f j=true→o.getD j 0=(cnt (ldr f c) (c j):Int)
  not:∀j,j<n→¬f j=true→o.getD j 0= -1
section
variable {w n i : Nat} {f : Nat → Bool} {adj : Nat → Nat → Prop} {c : Nat → Nat} {l o : List Int}
theorem OutI.labc (hc:Lst (fun j=>f j=true) adj c) (hn:∀j,f j=true→j<n) (h:OutI n f c n o):LabC n f c o:=
  ⟨h.len,fun j hj hf=>h.old j hj hf (hn _ (hc.mem hf)),fun j hj hf=>h.new j hj fun k=>hf k.1⟩
theorem Lab.labc (h:Lab n f adj o):∃c,Lst (fun j=>f j=true) adj c∧LabC n f c o:=let ⟨c,a,b,d⟩:=h.ex;⟨c,a,h.len,b,d⟩
theorem LabC.lt (hc:Lst (fun j=>f j=true) adj c) (hn:∀j,f j=true→j<n) (h:LabC n f c o) (hi:i<n) (hf:f i=true):o.getD i 0<(cnt (ldr f c) n:Int)∧0≤o.getD i 0:=by
  rw [h.yes i hi hf]
  have:=cnt_lt (ldr f c) (hn _ (hc.mem hf)) (ldr_iff.2 ⟨hc.mem hf,hc.idem hf⟩)
  omega
theorem LabC.pos (h:LabC n f c o) (hi:i<n):(0≤o.getD i 0↔f i=true):=by
  by_cases e:f i=true
  · rw [h.yes i hi e];exact ⟨fun _=>e,fun _=>by omega⟩
  · rw [h.not i hi e];exact ⟨fun x=>by omega,fun x=>absurd x e⟩
theorem LabC.fresh (hc:Lst (fun j=>f j=true) adj c) (h:LabC n f c o):∀i,i≤n→∀k:Nat,cnt (ldr f c) i≤k→acc w l o (k:Int) i=none:=by
  intro i
  induction i with
  |zero=>intro _ k _;rfl
  |succ i ih=>
    intro hi k hk
    have h1:=cnt_mono (ldr f c) (show i≤i+1 by omega)
    rw [acc_keep,ih (by omega) k (by omega)]
    intro e
    by_cases hf:f i=true
    · rw [h.yes i (by omega) hf] at e
      have h2:=cnt_lt (ldr f c) (show c i<i+1 by have:=hc.le i hf;omega) (ldr_iff.2 ⟨hc.mem hf,hc.idem hf⟩)
      omega
    · rw [h.not i (by omega) hf] at e;omega
theorem LabC.step0 (h:LabC n f c o) (hi:i<n) (hf:¬f i=true):bls w l o (cnt (ldr f c) (i+1)) (i+1)=bls w l o (cnt (ldr f c) i) i:=by
  rw [cnt_succ,if_neg (fun x=>hf (ldr_iff.1 x).1)]
  unfold bls
  refine List.map_congr_left fun k hk=> ?_
  rw [acc_keep];rw [h.not i hi hf];omega
theorem LabC.step1 (hc:Lst (fun j=>f j=true) adj c) (h:LabC n f c o) (hi:i<n) (hf:f i=true) (he:o.getD i 0=(cnt (ldr f c) i:Int)):bls w l o (cnt (ldr f c) (i+1)) (i+1)=bls w l o (cnt (ldr f c) i) i++[one w l i]:=by
  have hci:c i=i:=by
    by_cases e:c i<i
    · have h2 := cnt_lt (ldr f c) e (ldr_iff.2 ⟨hc.mem hf, hc.idem hf⟩)
      rw [h.yes i hi hf] at he;omega
    · have:=hc.le i hf;omega
  have hl:ldr f c i=true:=ldr_iff.2 ⟨hf,hci⟩
  rw [cnt_succ,if_pos hl]
  unfold bls
  rw [List.range_succ,List.map_append]
  congr 1
  · refine List.map_congr_left fun k hk => ?_
    have:=List.mem_range.1 hk
    rw [acc_keep (by rw [he];omega)]
  · rw [List.map_cons,List.map_nil,acc_next he,LabC.fresh hc h i (by omega) _ (Nat.le_refl _)];rfl
theorem LabC.step2 (hc:Lst (fun j=>f j=true) adj c) (h:LabC n f c o) (hi:i<n) (hf:f i=true) (he:¬o.getD i 0=(cnt (ldr f c) i:Int)):
    (o.getD i 0).toNat<cnt (ldr f c) i∧bls w l o (cnt (ldr f c) (i+1)) (i+1)=(bls w l o (cnt (ldr f c) i) i).set (o.getD i 0).toNat (gb (acc w l o (o.getD i 0) (i+1))):=by
  have hci:¬c i=i:=fun e=>he (by rw [h.yes i hi hf,e])
  have hl:¬ldr f c i=true:=fun x=>hci (ldr_iff.1 x).2
  have h2:=cnt_lt (ldr f c) (show c i<i by have:=hc.le i hf;omega) (ldr_iff.2 ⟨hc.mem hf,hc.idem hf⟩)
  have ho:=h.yes i hi hf
  have hlt:(o.getD i 0).toNat<cnt (ldr f c) i:=by omega
  refine ⟨hlt,?_⟩
  rw [cnt_succ,if_neg hl,Nat.add_zero]
  refine ext_gD (by rw [List.length_set,bls_len,bls_len]) fun k hk=> ?_
  rw [bls_len] at hk
  rw [bls_get hk,gD_set (by rw [bls_len];exact hlt)]
  by_cases e:k=(o.getD i 0).toNat
  · rw [if_pos e,e,show ((o.getD i 0).toNat:Int)=o.getD i 0 by omega]
  · rw [if_neg e,bls_get hk,acc_keep (by omega)]
theorem LabC.lead (hc:Lst (fun j=>f j=true) adj c) (h:LabC n f c o) (hi:i<n) (hf:f i=true) (he:o.getD i 0=(cnt (ldr f c) i:Int)):ldr f c i=true:=by
  have hci:c i=i:=by
    by_cases e:c i<i
    · have h2 := cnt_lt (ldr f c) e (ldr_iff.2 ⟨hc.mem hf, hc.idem hf⟩)
      rw [h.yes i hi hf] at he;omega
    · have:=hc.le i hf;omega
  exact ldr_iff.2 ⟨hf,hci⟩
theorem LabC.nolead (h:LabC n f c o) (hi:i<n) (he:¬o.getD i 0=(cnt (ldr f c) i:Int)):cnt (ldr f c) (i+1)=cnt (ldr f c) i:=by
  rw [cnt_succ,if_neg (fun x=>he (by rw [h.yes i hi (ldr_iff.1 x).1,(ldr_iff.1 x).2]))];rfl
theorem acc_some {k:Int}:∀i,(∃j,j<i∧o.getD j 0=k)→acc w l o k i≠none:=by
  intro i
  induction i with
  |zero=>rintro ⟨j,h,_⟩;omega
  |succ i ih=>
    rintro ⟨j,h,e⟩
    by_cases x:o.getD i 0=k
    · rw [acc_next x];exact fun y=>by cases y
    · rw [acc_keep x];exact ih ⟨j,by by_cases z:j=i;exact absurd (z ▸ e) x;omega,e⟩
theorem LabC.seen (hc:Lst (fun j=>f j=true) adj c) (h:LabC n f c o) (hi:i<n) (hf:f i=true) (he:¬o.getD i 0=(cnt (ldr f c) i:Int)):acc w l o (o.getD i 0) i≠none:=by
  have hci:¬c i=i:=fun e=>he (by rw [h.yes i hi hf,e])
  have hlt:c i<i:=by have:=hc.le i hf;omega
  refine acc_some i ⟨c i,hlt,?_⟩
  rw [h.yes i hi hf,h.yes (c i) (by omega) (hc.mem hf),hc.idem hf]
end
def BlsR (w h m:Int) (l:List Int) (th:Int) (A:List Bb):Prop:=
  (Bl.rok w h m l∧0≤th∧th≤65536→∃c o,Lst (fun j=>ge l th j=true) (nb false w.toNat l.length) c∧LabC l.length (ge l th) c o∧A=bls w.toNat l o (cnt (ldr (ge l th) c) l.length) l.length)∧(¬(Bl.rok w h m l∧0≤th∧th≤65536)→A=[])
theorem LabC.lab {n:Nat} {f:Nat→Bool} {adj:Nat→Nat→Prop} {c:Nat→Nat} {o:List Int} (hc:Lst (fun j=>f j=true) adj c) (h:LabC n f c o):Lab n f adj o:=⟨h.len,c,hc,h.yes,h.not⟩
theorem BlsR.uniq {w h m th:Int} {l:List Int} {A B:List Bb} (a:BlsR w h m l th A) (b:BlsR w h m l th B):A=B:=by
  by_cases e:Bl.rok w h m l∧0≤th∧th≤65536
  · obtain ⟨c, o, h1, h2, h3⟩ := a.1 e
    obtain ⟨d,p,k1,k2,k3⟩:=b.1 e
    have e1:o=p:=(h2.lab h1).uniq (k2.lab k1)
    rw [h3,k3,e1,ldr_uniq h1 k1]
  · rw [a.2 e,b.2 e]
theorem BlsR.no {w h m th:Int} {l:List Int} (e:¬(Bl.rok w h m l∧0≤th∧th≤65536)):BlsR w h m l th []:=⟨fun k=>absurd k e,fun _=>rfl⟩
theorem BlsR.yes {w n:Nat} {h m th:Int} {l o:List Int} {c:Nat→Nat} {A:List Bb} (e:Bl.rok w h m l∧0≤th∧th≤65536) (hn:l.length=n) (hc:Lst (fun j=>ge l th j=true) (nb false w n) c) (ho:LabC n (ge l th) c o) (hA:A=bls w l o (cnt (ldr (ge l th) c) n) n):BlsR w h m l th A:=by
  subst hn;exact ⟨fun _=>⟨c,o,hc,ho,hA⟩,fun x=>absurd e x⟩
theorem rok_g {w h m:Int} {l:List Int} {n:Nat} (e:Bl.rok w h m l) (hn:l.length=n):∀i,i<n→0≤l.getD i 0∧l.getD i 0≤65535:=fun i hi=>by
  obtain ⟨_,_,h3,_,h5⟩:=e
  have hm:l.getD i 0∈l:=Big.getD_mem (by omega)
  by_cases k:l.getD i 0<0∨m<l.getD i 0
  · exact absurd ⟨_,hm,k⟩ h5
  · omega
end Go.Proofs.YtefbbhiaalcjfaaGreat.Fl
namespace Go.Proofs.YtefbbhiaalcjfaaGreat.Sp
open Go
set_option linter.unusedVariables false
set_option maxRecDepth 100000
set_option maxHeartbeats 1000000
theorem zZc {w:Int} {h:Int} {m:Int} {p:Option Addr} {n:Nat} {cap:Nat} {l:List Int} {th:Int} (hn:l.length=n):Con Tryz.prog 7 [.agg #[.int .i64 w,.int .i64 h,.int .i64 m,.slice p n cap],.int .i64 th] [] [slF (rI .i64) p cap l] (Y:=(Option Addr)×Nat×(List Bb)) (fun y=>Fl.BlsR w h m l th y.2.2) (fun y=> .tuple #[.slice (y.1) (y.2.2.length) (y.2.1),.int .i64 (if Bl.rok w h m l then (if 0≤th∧th≤65536 then 0 else 2) else 1)]) (fun y=>[]) (fun y=>[slF (rI13 .i64) (y.1) (y.2.1) (y.2.2)]):=by
 refine zp Tryz.func7 rfl rfl rfl (fun c=> ?_)
 show RunC _ _ _ _ _ [(0,.agg #[.int .i64 w,.int .i64 h,.int .i64 m,.slice p n cap]),(1,.int .i64 th)] [] [slF (rI .i64) p cap l]
 refine zea 0 rfl (fun hL0=> ?_)
 refine zh<|zc<|zS rfl rfl (zX rfl rfl) (fun b1=> ?_)
 refine r_pv rfl rfl (zd rfl)<|r_pv rfl rfl (zd rfl)<|zj<|ze<|zh<|zh<|zc<|r_u rfl rfl (zi 0 ty24 rfl rfl (.take (.take (.take (.take .nil)))))<|r_pv rfl rfl (zb rfl)<|zQ rfl rfl (.c rfl (.c rfl .n)) ce24 (zyb (w:=w) (h:=h) (m:=m) (p:=p) (n:=n) (cap:=cap) (l:=l) (th:=th) (hn:=by assumption)) (.c (j:=0) rfl .n)<|r_pv rfl rfl (zd rfl)<|zj<|ze<|zh<|zc<|r_pv rfl rfl (zb rfl)<|r_pv rfl rfl (zHa rfl rfl)<|zj<|ze<|zD rfl (fun hc=> ?_) (fun hc=> ?_)
 ·
  have hno:=fun k=>hc (Fl.ask0.2 k)
  refine zh<|zc<|r_pv rfl rfl (zb rfl)<|r_pv rfl rfl (zd rfl)<|r_pv rfl rfl (zd rfl)<|zj<|ze<|zG<|zq<|zDb (rI13 .i64) ?_
  exact zwa Tryz.results7 (none,0,[]) (Fl.BlsR.no hno) (zo rfl) (zo rfl) rfl (ho:=(.n:PickO _ _ _)) ((.c (j:=0) rfl .n):SelR _ _ _)
 ·
  have hok:=Fl.ask0.1 (Decidable.not_not.1 hc)
  obtain ⟨wn,hn9,rfl,rfl,hw9,hh9,hwh,hb9⟩:=Fl.rok_n hok.1 hn
  refine zy<|ze<|zh<|zc<|r_u rfl rfl (zi 0 ty24 rfl rfl (.take (.take (.take (.take .nil)))))<|r_pv rfl rfl (zb rfl)<|zC rfl rfl (.c rfl (.c rfl .n)) ce25 (zgc (w:=wn) (h:=hn9) (m:=m) (p:=p) (n:=n) (cap:=cap) (l:=l) (th:=th) (hn:=by assumption) (hw:=by first|rfl|assumption|omega) (hh:=by first|rfl|assumption|omega) (hwh:=by first|rfl|assumption|omega) (hb:=by first|rfl|assumption|omega)) (.c (j:=0) rfl .n) ?_
  rintro ⟨p32,c33,o,cc⟩ hcl
  dsimp only [List.append_eq,List.nil_append,List.cons_append]
  replace hcl:Fl.Lst (fun j=>Fl.ge l th j=true) (Fl.nb false wn n) cc∧Fl.OutI n (Fl.ge l th) cc n o:=hcl
  refine r_pv rfl rfl (zb rfl)<|r_pv rfl rfl (zt rfl rfl)<|r_pv rfl rfl (zt rfl rfl)<|r_pv rfl rfl (zd rfl)<|r_pv rfl rfl (zd rfl)<|zj<|ze<|zh ?_
  have hin:∀j,(Fl.ge l th) j=true→j<n:=fun j hj=>by have:=Fl.ge_lt hj;omega
  have hLC:=hcl.2.labc hcl.1 hin
  have hol:=hLC.len
  have hcn:=Fl.cnt_le (Fl.ldr (Fl.ge l th) cc) n
  refine zc<|r_pv rfl rfl (zb rfl)<|zra rfl rfl (zSa (r:=rI13 .i64) (k:=(Fl.cnt (Fl.ldr (Fl.ge l th) cc) n)) (x0:=b0) (γ0:=()) Tryz.underlying27 inf33 rfl rfl rfl rfl (by omega) (by omega) rfl (fun _ _=>by exact okB_0) (by decide)) (fun b4 _=> ?_)
  refine r_pv rfl rfl (zd rfl)<|zj<|ze<|zh<|zh<|zc<|r_pv rfl rfl (zb rfl)<|r_pv rfl rfl (zM Tryz.underlying22 rfl)<|r_pv rfl rfl (zb rfl)<|zj<|ze<|zx<|zka (X:=Nat×(List Bb)) (fun x:Nat×(List Bb)=>x.1≤n∧Fl.TbI wn l o (Fl.cnt (Fl.ldr (Fl.ge l th) cc) n) x.1 x.2) (fun x=>[(32,.int .i64 ((x.1:Nat):Int)),(31,.int .i64 ((n:Nat):Int)),(30,.slice p32 n c33),(9,.slice (some ⟨b4,0,none⟩) (Fl.cnt (Fl.ldr (Fl.ge l th) cc) n) (Fl.cnt (Fl.ldr (Fl.ge l th) cc) n)),(5,.int .i64 0),(4,.slice none 0 0),(2,.pointer (some ⟨b1,0,none⟩))]) (fun x=>[rowA 33 (rI13 .i64) (some ⟨b4,0,none⟩) (Fl.cnt (Fl.ldr (Fl.ge l th) cc) n) (x.2),boxA b1 24 [.int .i64 ((wn:Nat):Int),.int .i64 ((hn9:Nat):Int),.int .i64 m,.slice p n cap]]) (fun x=>[slF (rI .i64) p32 c33 o,slF (rI .i64) p cap l]) (fun x:Nat×(List Bb)=>n - x.1) (0,List.replicate (Fl.cnt (Fl.ldr (Fl.ge l th) cc) n) b0) (show 0≤n∧Fl.TbI wn l o (Fl.cnt (Fl.ldr (Fl.ge l th) cc) n) 0 (List.replicate (Fl.cnt (Fl.ldr (Fl.ge l th) cc) n) b0) from by exact ⟨Nat.zero_le _,Fl.TbI.start⟩) ((.e rfl (by first|rfl|(congr 1;omega)|simp_all) (.of rfl)):SubM _ _) (ho:=((.of [0,0] rfl):PickO _ _ _)) ((.of [0,1] rfl):SelR _ _ _) ?_
  rintro ⟨i,A⟩ hI
  replace hI:i≤n∧Fl.TbI wn l o (Fl.cnt (Fl.ldr (Fl.ge l th) cc) n) i A:=hI
  try dsimp only
  obtain ⟨hi,hT⟩:=hI
  have hAl:=hT.len
  refine zh<|zc<|r_pv rfl rfl (zY rfl rfl)<|zj<|ze<|zh<|zD rfl (fun h5=> ?_) (fun h5=> ?_)
  ·
   refine zy<|ze<|zh<|zx<|zh<|zc<|r_pv rfl rfl (zb rfl)<|zL (x0:=(o.getD i 0)) 0 i rfl Tryz.underlying22 sz3 rfl rfl rfl (by first|rfl|assumption|(simp_all;done)|omega) rfl rfl (gD (d:=0) (by omega)) (fun b6 o7 hok8=> ?_)
   replace hok8:=zk.1 hok8
   refine r_u rfl rfl (zn (j:=0) 0 ty3 rfl rfl rfl rfl)<|r_pv rfl rfl (zd rfl)<|r_pv rfl rfl (zd rfl)<|zj<|ze<|zh<|zh<|zc<|r_pv rfl rfl (zb rfl)<|r_pv rfl rfl (zY rfl rfl)<|zj<|ze<|zD rfl (fun hneg=> ?_) (fun hneg=> ?_)
   ·
    refine zha<|zm<|zu<|ze<|zc<|r_pv rfl rfl (zz (z:=(((i+1):Nat):Int)) rfl rfl (w64 (by omega)))<|r_pv rfl rfl (zb rfl)<|zj<|zaa ((i+1),A) (show (i+1)≤n∧Fl.TbI wn l o (Fl.cnt (Fl.ldr (Fl.ge l th) cc) n) (i+1) A from by exact ⟨by omega,hT.skip hneg⟩) (by show n - (i+1)<n - i;omega) ((.of rfl):SubM _ _) (ho:=((.of [0,0] rfl):PickO _ _ _)) ((.of [1,2] rfl):SelR _ _ _)
   ·
    have hqd:=Nat.div_le_self i wn
    have hq0:=Int.natCast_nonneg (i / wn)
    have hm0:=Int.natCast_nonneg (i%wn)
    have hfi:(Fl.ge l th) i=true:=(hLC.pos (by omega)).1 (by omega)
    obtain ⟨hlt9,hge9⟩:=hLC.lt hcl.1 hin (show i<n by omega) hfi
    obtain ⟨kk,hkk⟩:∃kk:Nat,o.getD i 0=(kk:Int):=⟨(o.getD i 0).toNat,by omega⟩
    have e9:((o.getD i 0):Int)=((kk:Nat):Int):=by exact hkk
    rw [e9]
    have hkN:kk<(Fl.cnt (Fl.ldr (Fl.ge l th) cc) n):=by omega
    have hget:=hT.get kk hkN
    have hacc:=Fl.acc_ok (l:=l) (o:=o) (k:=(kk:Int)) hw9 hh9.2 hwh hb9 (Fl.rok_g hok.1 hn) i (by omega)
    refine zy<|ze<|zh<|zla (OW:=[]) (O:=[rowA 33 (rI13 .i64) (some ⟨b4,0,none⟩) (Fl.cnt (Fl.ldr (Fl.ge l th) cc) n) A,boxA b1 24 [.int .i64 ((wn:Nat):Int),.int .i64 ((hn9:Nat):Int),.int .i64 m,.slice p n cap]]) 100000 mixed (.then (.block (.then (.then (.block (.then .ret)))))) (by kernel_rfl)<|d_pv 0 rfl rfl (by kernel_rfl) (by kernel_rfl) rfl rfl (zb rfl)<|d_pv 1 rfl rfl (by kernel_rfl) (by kernel_rfl) rfl rfl (zg Tryz.underlying24 rfl sz3 rfl rfl)<|d_u 2 rfl rfl (by kernel_rfl) (by kernel_rfl) rfl rfl (zf 1 ty3 rfl rfl rfl)<|d_pv 3 rfl rfl (by kernel_rfl) (by kernel_rfl) rfl rfl (zGa (z:=(((i%wn):Nat):Int)) rfl rfl (by omega) (remN (by omega) (by omega)))<|d_pv 4 rfl rfl (by kernel_rfl) (by kernel_rfl) rfl rfl (zb rfl)<|d_pv 5 rfl rfl (by kernel_rfl) (by kernel_rfl) rfl rfl (zg Tryz.underlying24 rfl sz3 rfl rfl)<|d_u 6 rfl rfl (by kernel_rfl) (by kernel_rfl) rfl rfl (zf 1 ty3 rfl rfl rfl)<|d_pv 7 rfl rfl (by kernel_rfl) (by kernel_rfl) rfl rfl (zFa (z:=(((i / wn):Nat):Int)) rfl rfl (by omega) (by rw [quoN (z:=(((i / wn):Nat):Int)) (by omega) (by omega)];exact w64 (by omega)))<|d_pv 8 rfl rfl (by kernel_rfl) (by kernel_rfl) rfl rfl (zg Tryz.underlying24 rfl sz22 rfl rfl)<|d_u 9 rfl rfl (by kernel_rfl) (by kernel_rfl) rfl rfl (zf 1 ty22 rfl rfl rfl)<|d_pv 10 rfl rfl (by kernel_rfl) (by kernel_rfl) rfl rfl (zb rfl)<|zja (x0:=(l.getD i 0)) 11 rfl rfl (by kernel_rfl) (by kernel_rfl) 2 i rfl Tryz.underlying22 sz3 rfl rfl rfl (by first|rfl|assumption|(simp_all;done)|omega) rfl rfl (gD (d:=0) (by omega)) (fun b10 o11 hok12=> ?_)
    replace hok12:=zk.1 hok12
    refine d_u 12 rfl rfl (by kernel_rfl) (by kernel_rfl) rfl rfl (zn (j:=0) 0 ty3 rfl rfl rfl rfl)<|d_pv 13 rfl rfl (by kernel_rfl) (by kernel_rfl) rfl rfl (zd rfl)<|d_pv 14 rfl rfl (by kernel_rfl) (by kernel_rfl) rfl rfl (zd rfl)<|d_pv 15 rfl rfl (by kernel_rfl) (by kernel_rfl) rfl rfl (zd rfl)<|zfa (by kernel_rfl)<|ze<|zh ?_
    obtain ⟨kx,hkx⟩:∃z,z=(i%wn):=⟨_,rfl⟩
    rw [← hkx]
    obtain ⟨ky,hky⟩:∃z,z=(i / wn):=⟨_,rfl⟩
    rw [← hky]
    obtain ⟨kg,hkg⟩:∃z,z=(l.getD i 0):=⟨_,rfl⟩
    rw [← hkg]
    have hkxb:kx≤63:=by rw [hkx];have:=Nat.mod_lt i (show 0<wn by omega);omega
    have hkyb:ky≤63:=by rw [hky];have:=Nat.div_lt_of_lt_mul (show i<wn*hn9 by omega);omega
    have hkgb:0≤kg∧kg≤65535:=by rw [hkg];exact Fl.rok_g hok.1 hn i (by omega)
    have hp1:kx*kx≤63*63:=Nat.mul_le_mul hkxb hkxb
    have hp2:kx*ky≤63*63:=Nat.mul_le_mul hkxb hkyb
    have hp3:ky*ky≤63*63:=Nat.mul_le_mul hkyb hkyb
    have hp4:=Bl.mul_b (x:=kg) (y:=(kx:Int)) (m:=65535) (n:=63) hkgb (by omega)
    have hp5:=Bl.mul_b (x:=kg) (y:=(ky:Int)) (m:=65535) (n:=63) hkgb (by omega)
    have hO1:Fl.okb (Fl.one wn l i):=Fl.one_ok hw9 hh9.2 hwh (by omega) (Fl.rok_g hok.1 hn i (by omega))
    refine zc<|r_pv rfl rfl (zb rfl)<|r_pv rfl rfl (zb rfl)<|r_pv rfl rfl (zb rfl)<|r_pv rfl rfl (zb rfl)<|r_pv rfl rfl (zb rfl)<|r_pv rfl rfl (zb rfl)<|r_pv rfl rfl (zb rfl)<|r_pv rfl rfl (zb rfl)<|r_pv rfl rfl (zna (z:=(((kx*kx):Nat):Int)) rfl rfl (w64 (by omega)))<|r_pv rfl rfl (zb rfl)<|r_pv rfl rfl (zb rfl)<|r_pv rfl rfl (zna (z:=(((kx*ky):Nat):Int)) rfl rfl (w64 (by omega)))<|r_pv rfl rfl (zb rfl)<|r_pv rfl rfl (zb rfl)<|r_pv rfl rfl (zna (z:=(((ky*ky):Nat):Int)) rfl rfl (w64 (by omega)))<|r_pv rfl rfl (zb rfl)<|r_pv rfl rfl (zb rfl)<|r_pv rfl rfl (zb rfl)<|r_pv rfl rfl (zna (z:=(kg*((kx:Nat):Int))) rfl rfl (w64 (by omega)))<|r_pv rfl rfl (zb rfl)<|r_pv rfl rfl (zb rfl)<|r_pv rfl rfl (zna (z:=(kg*((ky:Nat):Int))) rfl rfl (w64 (by omega)))<|r_pv rfl rfl (zK zr33 rfl Tryz.underlying33 (.c sz3 (.c sz3 (.c sz3 (.c sz3 (.c sz3 (.c sz3 (.c sz3 (.c sz3 (.c sz3 (.c sz3 (.c sz3 (.c sz3 (.c sz3 .n))))))))))))) (.c rfl (.c rfl (.c rfl (.c rfl (.c rfl (.c rfl (.c rfl (.c rfl (.c rfl (.c rfl (.c rfl (.c rfl (.c rfl .n))))))))))))) (.c rfl rfl rfl (.take .nil) (.c rfl rfl rfl (.skip (.take .nil)) (.c rfl rfl rfl (.skip (.skip (.skip (.take .nil)))) (.c rfl rfl rfl (.skip (.skip (.take .nil))) (.c rfl rfl rfl (.skip (.skip (.skip (.skip (.take .nil))))) (.c rfl rfl rfl (.skip (.skip (.skip (.skip (.skip (.take .nil)))))) (.c rfl rfl rfl (.skip (.skip (.skip (.skip (.skip (.skip (.take .nil))))))) (.c rfl rfl rfl (.skip (.skip (.skip (.skip (.skip (.skip (.skip (.take .nil)))))))) (.c rfl rfl rfl (.skip (.skip (.skip (.skip (.skip (.skip (.skip (.skip (.take .nil))))))))) (.c rfl rfl rfl (.skip (.skip (.skip (.skip (.skip (.skip (.skip (.skip (.skip (.take .nil)))))))))) (.c rfl rfl rfl (.skip (.skip (.skip (.skip (.skip (.skip (.skip (.skip (.skip (.skip (.take .nil))))))))))) (.c rfl rfl rfl (.skip (.skip (.skip (.skip (.skip (.skip (.skip (.skip (.skip (.skip (.skip (.take .nil)))))))))))) (.c rfl rfl rfl (.skip (.skip (.skip (.skip (.skip (.skip (.skip (.skip (.skip (.skip (.skip (.skip (.take .nil))))))))))))) .n))))))))))))))<|zS rfl rfl (zI zr33 rfl) (fun b13=> ?_)
    refine zr 0 rfl rfl rfl rfl rfl sz33 rfl (.take (.take (.take (.take (.take (.take (.take (.take (.take (.take (.take (.take (.take .nil))))))))))))) .z<|zj<|ze<|zh<|zc<|r_pv rfl rfl (zb rfl)<|r_pv rfl rfl (zb rfl)<|r_pv rfl rfl (zR (j:=kk) Tryz.underlying27 sz33 rfl rfl rfl (by omega))<|r_u rfl rfl (zUc 1 rfl Tryz.underlying33 rfl sz3 rfl (by omega) rfl)<|r_vl rfl rfl (zYb (x0:=(A.getD kk b0)) (v:= .int .i64 ((A.getD kk b0).ar)) 1 kk 0 rfl ty3 rfl rfl (gD (d:=b0) (by omega)) rfl) (fun _ hok14=> ?_)
    obtain ⟨hok140,hok141,hok142,hok143,hok144,hok145,hok146,hok147,hok148,hok149,hok1410,hok1411,hok1412⟩:=hok14
    replace hok140:=zk.1 hok140
    replace hok141:=zk.1 hok141
    replace hok142:=zk.1 hok142
    replace hok143:=zk.1 hok143
    replace hok144:=zk.1 hok144
    replace hok145:=zk.1 hok145
    replace hok146:=zk.1 hok146
    replace hok147:=zk.1 hok147
    replace hok148:=zk.1 hok148
    replace hok149:=zk.1 hok149
    replace hok1410:=zk.1 hok1410
    replace hok1411:=zk.1 hok1411
    replace hok1412:=zk.1 hok1412
    refine r_pv rfl rfl (zCa rfl rfl)<|zj<|ze<|zD rfl (fun hz=> ?_) (fun hz=> ?_)
    ·
     have hnew:=Fl.gb_new hkk (by rw [← hget];exact hz) (fun a ha=>(hacc a ha).1)
     refine zc<|r_pv rfl rfl (zb rfl)<|r_pv rfl rfl (zb rfl)<|r_u rfl rfl (zi 0 ty33 rfl rfl (.take (.take (.take (.take (.take (.take (.take (.take (.take (.take (.take (.take (.take .nil))))))))))))))<|r_pv rfl rfl (zR (j:=kk) Tryz.underlying27 sz33 rfl rfl rfl (by omega))<|zta 1 rfl rfl rfl (zO (j:=kk) (x0:=(⟨1,((kx:Nat):Int),((ky:Nat):Int),((kx:Nat):Int),((ky:Nat):Int),((kx:Nat):Int),((ky:Nat):Int),(((kx*kx):Nat):Int),(((kx*ky):Nat):Int),(((ky*ky):Nat):Int),kg,(kg*((kx:Nat):Int)),(kg*((ky:Nat):Int))⟩:Bb)) (γ0:=()) rfl rfl (by first|omega|(rw [List.length_map];omega)|(simp only [List.length_set];omega)|(simp;omega)) rfl rfl sz33 (fun _ _=>by exact ⟨zk.2 (by first|omega|decide|(dsimp only;omega)),zk.2 (by first|omega|decide|(dsimp only;omega)),zk.2 (by first|omega|decide|(dsimp only;omega)),zk.2 (by first|omega|decide|(dsimp only;omega)),zk.2 (by first|omega|decide|(dsimp only;omega)),zk.2 (by first|omega|decide|(dsimp only;omega)),zk.2 (by first|omega|decide|(dsimp only;omega)),zk.2 (by first|omega|decide|(dsimp only;omega)),zk.2 (by first|omega|decide|(dsimp only;omega)),zk.2 (by first|omega|decide|(dsimp only;omega)),zk.2 (by first|omega|decide|(dsimp only;omega)),zk.2 (by first|omega|decide|(dsimp only;omega)),zk.2 (by first|omega|decide|(dsimp only;omega))⟩)) (fun _=>(.s .z)) (fun _ _=> ?_)
     refine zj<|zP<|ze<|zc<|r_pv rfl rfl (zz (z:=(((i+1):Nat):Int)) rfl rfl (w64 (by omega)))<|r_pv rfl rfl (zb rfl)<|zj<|zaa ((i+1),(A.set kk (⟨1,((kx:Nat):Int),((ky:Nat):Int),((kx:Nat):Int),((ky:Nat):Int),((kx:Nat):Int),((ky:Nat):Int),(((kx*kx):Nat):Int),(((kx*ky):Nat):Int),(((ky*ky):Nat):Int),kg,(kg*((kx:Nat):Int)),(kg*((ky:Nat):Int))⟩:Bb))) (show (i+1)≤n∧Fl.TbI wn l o (Fl.cnt (Fl.ldr (Fl.ge l th) cc) n) (i+1) (A.set kk (⟨1,((kx:Nat):Int),((ky:Nat):Int),((kx:Nat):Int),((ky:Nat):Int),((kx:Nat):Int),((ky:Nat):Int),(((kx*kx):Nat):Int),(((kx*ky):Nat):Int),(((ky*ky):Nat):Int),kg,(kg*((kx:Nat):Int)),(kg*((ky:Nat):Int))⟩:Bb)) from by exact ⟨by omega,hT.put hkN hkk (by rw [← hnew,hkx,hky,hkg];rfl)⟩) (by show n - (i+1)<n - i;omega) ((.of rfl):SubM _ _) (ho:=((.of [1,1] rfl):PickO _ _ _)) ((.of [2,3] rfl):SelR _ _ _)
    ·
     have hold:=Fl.gb_old (w:=wn) (l:=l) hkk (by rw [← hget];exact hz)
     have hA1:Fl.okb (A.getD kk b0):=by rw [hget];exact (Fl.gb_ok (by rw [← hget];exact hz) hacc).1
     rw [← hget] at hold
     have hbd1:=Bl.ok_bd hA1
     unfold Bl.bd at hbd1
     refine zAa (.c (i:=1) rfl (.c (i:=0) rfl (.c (i:=0) rfl .n)))<|zla (OW:=[rowA 33 (rI13 .i64) (some ⟨b4,0,none⟩) (Fl.cnt (Fl.ldr (Fl.ge l th) cc) n) A]) (O:=[boxA b13 33 [.int .i64 1,.int .i64 ((kx:Nat):Int),.int .i64 ((ky:Nat):Int),.int .i64 ((kx:Nat):Int),.int .i64 ((ky:Nat):Int),.int .i64 ((kx:Nat):Int),.int .i64 ((ky:Nat):Int),.int .i64 (((kx*kx):Nat):Int),.int .i64 (((kx*ky):Nat):Int),.int .i64 (((ky*ky):Nat):Int),.int .i64 kg,.int .i64 (kg*((kx:Nat):Int)),.int .i64 (kg*((ky:Nat):Int))],boxA b1 24 [.int .i64 ((wn:Nat):Int),.int .i64 ((hn9:Nat):Int),.int .i64 m,.slice p n cap]]) 9 mixed (.block (.then (.then (.block (.then .ret))))) (by kernel_rfl)<|d_pv 0 rfl rfl (by kernel_rfl) (by kernel_rfl) rfl rfl (zb rfl)<|d_pv 1 rfl rfl (by kernel_rfl) (by kernel_rfl) rfl rfl (zb rfl)<|d_pv 2 rfl rfl (by kernel_rfl) (by kernel_rfl) rfl rfl (zb rfl)<|d_pv 3 rfl rfl (by kernel_rfl) (by kernel_rfl) rfl rfl (zb rfl)<|d_pv 4 rfl rfl (by kernel_rfl) (by kernel_rfl) rfl rfl (zR (j:=kk) Tryz.underlying27 sz33 rfl rfl rfl (by omega))<|zAf 5 rfl rfl (by kernel_rfl) (by kernel_rfl) (by kernel_rfl) rfl rfl (zrb 0 kk rfl ty33 rfl rfl (gD (d:=b0) (by omega))) (fun _ hok15=> ?_)
     obtain ⟨hok150,hok151,hok152,hok153,hok154,hok155,hok156,hok157,hok158,hok159,hok1510,hok1511,hok1512⟩:=hok15
     replace hok150:=zk.1 hok150
     replace hok151:=zk.1 hok151
     replace hok152:=zk.1 hok152
     replace hok153:=zk.1 hok153
     replace hok154:=zk.1 hok154
     replace hok155:=zk.1 hok155
     replace hok156:=zk.1 hok156
     replace hok157:=zk.1 hok157
     replace hok158:=zk.1 hok158
     replace hok159:=zk.1 hok159
     replace hok1510:=zk.1 hok1510
     replace hok1511:=zk.1 hok1511
     replace hok1512:=zk.1 hok1512
     refine d_uw 6 rfl rfl (by kernel_rfl) (by kernel_rfl) (by kernel_rfl) rfl rfl (zi 1 ty33 rfl rfl (.take (.take (.take (.take (.take (.take (.take (.take (.take (.take (.take (.take (.take .nil))))))))))))))<|zV 7 (by kernel_rfl) (zTa rfl rfl rfl rfl (.c rfl (.c rfl .n)) ce26 (zae (ar1:=(A.getD kk b0).ar) (le1:=(A.getD kk b0).le) (tp1:=(A.getD kk b0).tp) (rt1:=(A.getD kk b0).rt) (bt1:=(A.getD kk b0).bt) (sx1:=(A.getD kk b0).sx) (sy1:=(A.getD kk b0).sy) (xx1:=(A.getD kk b0).xx) (xy1:=(A.getD kk b0).xy) (yy1:=(A.getD kk b0).yy) (ms1:=(A.getD kk b0).ms) (mx1:=(A.getD kk b0).mx) (my1:=(A.getD kk b0).my) (ar2:=1) (le2:=((kx:Nat):Int)) (tp2:=((ky:Nat):Int)) (rt2:=((kx:Nat):Int)) (bt2:=((ky:Nat):Int)) (sx2:=((kx:Nat):Int)) (sy2:=((ky:Nat):Int)) (xx2:=(((kx*kx):Nat):Int)) (xy2:=(((kx*ky):Nat):Int)) (yy2:=(((ky*ky):Nat):Int)) (ms2:=kg) (mx2:=(kg*((kx:Nat):Int))) (my2:=(kg*((ky:Nat):Int))) (hb1:=by exact Bl.ok_bd hA1) (hb2:=by exact Bl.ok_bd (by rw [hkx,hky,hkg];exact hO1))) (.n) ?_)
     refine d_pv 8 rfl rfl (by kernel_rfl) (by kernel_rfl) rfl rfl (zR (j:=kk) Tryz.underlying27 sz33 rfl rfl rfl (by omega))<|zV 9 (by kernel_rfl) (zpe (A':=fun _=>rowA 33 (rI13 .i64) (some ⟨b4,0,none⟩) (Fl.cnt (Fl.ldr (Fl.ge l th) cc) n) (A.set kk (⟨(((A.getD kk b0).ar)+1),(min ((A.getD kk b0).le) ((kx:Nat):Int)),(min ((A.getD kk b0).tp) ((ky:Nat):Int)),(max ((A.getD kk b0).rt) ((kx:Nat):Int)),(max ((A.getD kk b0).bt) ((ky:Nat):Int)),(((A.getD kk b0).sx)+((kx:Nat):Int)),(((A.getD kk b0).sy)+((ky:Nat):Int)),(((A.getD kk b0).xx)+(((kx*kx):Nat):Int)),(((A.getD kk b0).xy)+(((kx*ky):Nat):Int)),(((A.getD kk b0).yy)+(((ky*ky):Nat):Int)),(((A.getD kk b0).ms)+kg),(((A.getD kk b0).mx)+(kg*((kx:Nat):Int))),(((A.getD kk b0).my)+(kg*((ky:Nat):Int)))⟩:Bb))) (by kernel_rfl) rfl rfl rfl (zO (j:=kk) (x0:=(⟨(((A.getD kk b0).ar)+1),(min ((A.getD kk b0).le) ((kx:Nat):Int)),(min ((A.getD kk b0).tp) ((ky:Nat):Int)),(max ((A.getD kk b0).rt) ((kx:Nat):Int)),(max ((A.getD kk b0).bt) ((ky:Nat):Int)),(((A.getD kk b0).sx)+((kx:Nat):Int)),(((A.getD kk b0).sy)+((ky:Nat):Int)),(((A.getD kk b0).xx)+(((kx*kx):Nat):Int)),(((A.getD kk b0).xy)+(((kx*ky):Nat):Int)),(((A.getD kk b0).yy)+(((ky*ky):Nat):Int)),(((A.getD kk b0).ms)+kg),(((A.getD kk b0).mx)+(kg*((kx:Nat):Int))),(((A.getD kk b0).my)+(kg*((ky:Nat):Int)))⟩:Bb)) (γ0:=()) rfl rfl (by first|omega|(rw [List.length_map];omega)|(simp only [List.length_set];omega)|(simp;omega)) rfl rfl sz33 (fun _ _=>by exact ⟨zk.2 (by first|omega|decide|(dsimp only;omega)),zk.2 (by first|omega|decide|(dsimp only;omega)),zk.2 (by first|omega|decide|(dsimp only;omega)),zk.2 (by first|omega|decide|(dsimp only;omega)),zk.2 (by first|omega|decide|(dsimp only;omega)),zk.2 (by first|omega|decide|(dsimp only;omega)),zk.2 (by first|omega|decide|(dsimp only;omega)),zk.2 (by first|omega|decide|(dsimp only;omega)),zk.2 (by first|omega|decide|(dsimp only;omega)),zk.2 (by first|omega|decide|(dsimp only;omega)),zk.2 (by first|omega|decide|(dsimp only;omega)),zk.2 (by first|omega|decide|(dsimp only;omega)),zk.2 (by first|omega|decide|(dsimp only;omega))⟩)) (fun _ _=> ?_))
     refine zfa (by kernel_rfl)<|zP<|ze<|zc<|r_pv rfl rfl (zz (z:=(((i+1):Nat):Int)) rfl rfl (w64 (by omega)))<|r_pv rfl rfl (zb rfl)<|zj<|zaa ((i+1),(A.set kk (⟨(((A.getD kk b0).ar)+1),(min ((A.getD kk b0).le) ((kx:Nat):Int)),(min ((A.getD kk b0).tp) ((ky:Nat):Int)),(max ((A.getD kk b0).rt) ((kx:Nat):Int)),(max ((A.getD kk b0).bt) ((ky:Nat):Int)),(((A.getD kk b0).sx)+((kx:Nat):Int)),(((A.getD kk b0).sy)+((ky:Nat):Int)),(((A.getD kk b0).xx)+(((kx*kx):Nat):Int)),(((A.getD kk b0).xy)+(((kx*ky):Nat):Int)),(((A.getD kk b0).yy)+(((ky*ky):Nat):Int)),(((A.getD kk b0).ms)+kg),(((A.getD kk b0).mx)+(kg*((kx:Nat):Int))),(((A.getD kk b0).my)+(kg*((ky:Nat):Int)))⟩:Bb))) (show (i+1)≤n∧Fl.TbI wn l o (Fl.cnt (Fl.ldr (Fl.ge l th) cc) n) (i+1) (A.set kk (⟨(((A.getD kk b0).ar)+1),(min ((A.getD kk b0).le) ((kx:Nat):Int)),(min ((A.getD kk b0).tp) ((ky:Nat):Int)),(max ((A.getD kk b0).rt) ((kx:Nat):Int)),(max ((A.getD kk b0).bt) ((ky:Nat):Int)),(((A.getD kk b0).sx)+((kx:Nat):Int)),(((A.getD kk b0).sy)+((ky:Nat):Int)),(((A.getD kk b0).xx)+(((kx*kx):Nat):Int)),(((A.getD kk b0).xy)+(((kx*ky):Nat):Int)),(((A.getD kk b0).yy)+(((ky*ky):Nat):Int)),(((A.getD kk b0).ms)+kg),(((A.getD kk b0).mx)+(kg*((kx:Nat):Int))),(((A.getD kk b0).my)+(kg*((ky:Nat):Int)))⟩:Bb)) from by exact ⟨by omega,hT.put hkN hkk (by rw [← hold,hkx,hky,hkg];rfl)⟩) (by show n - (i+1)<n - i;omega) ((.of rfl):SubM _ _) (ho:=((.of [0,1] rfl):PickO _ _ _)) ((.of [2,3] rfl):SelR _ _ _)
  ·
   refine zha<|zm<|zm<|zu<|ze<|zh<|zc<|r_pv rfl rfl (zb rfl)<|r_pv rfl rfl (zd rfl)<|r_pv rfl rfl (zd rfl)<|zj<|ze<|zG ?_
   have hin8:i=n:=by omega
   rw [hin8] at hT
   refine zIa 0 rfl .z ?_
   exact zwa Tryz.results7 (some ⟨b4,0,none⟩,(Fl.cnt (Fl.ldr (Fl.ge l th) cc) n),A) (Fl.BlsR.yes hok hn hcl.1 hLC hT.fin) (zo rfl) (zo rfl) (by rw [Decidable.not_not.1 hc,hAl]) (ho:=(.n:PickO _ _ _)) ((.c (j:=0) rfl .n):SelR _ _ _)
end Go.Proofs.YtefbbhiaalcjfaaGreat.Sp
namespace Go.Proofs.YtefbbhiaalcjfaaGreat.Sp
open Go
set_option linter.unusedVariables false
set_option maxRecDepth 100000
set_option maxHeartbeats 1000000
theorem zEa {s:Bool} {p:Option Addr} {n:Nat} {cap:Nat} {l:List Int} (hn:l.length=n) (ho:Big.okL l) (hln:n≤4398046511104):Con Tryz.prog 103 [.bool s,.slice p n cap] [] [slF (rI .u32) p cap l] (Y:=(Option Addr)×Nat) (fun y=>True) (fun y=> .agg #[.bool (decide ((Big.sg s (Big.valL l))<0)),.slice (y.1) ((Big.digs ((Big.sg s (Big.valL l)).natAbs)).length) (y.2)]) (fun y=>[]) (fun y=>[slF (rI .u32) (y.1) (y.2) (Big.digs ((Big.sg s (Big.valL l)).natAbs))]):=by
 refine zp Tryz.func103 rfl rfl rfl (fun c=> ?_)
 show RunC _ _ _ _ _ [(0,.bool s),(1,.slice p n cap)] [] [slF (rI .u32) p cap l]
 refine zea 0 rfl (fun hL0=> ?_)
 refine zh<|zc<|zS rfl rfl (zI zr40 rfl) (fun b1=> ?_)
 refine zj<|ze<|zh<|zc<|r_pv rfl rfl (zb rfl)<|r_pv rfl rfl (zM Tryz.underlying38 rfl)<|r_pv rfl rfl (zd rfl)<|zj<|ze<|zh<|zx<|zka (X:=Nat) (fun x:Nat=>x≤n∧Big.trimL (l.take x)=Big.trimL l) (fun x=>[(5,.int .i64 ((x:Nat):Int)),(4,.pointer (some ⟨b1,0,none⟩)),(0,.bool s),(1,.slice p n cap)]) (fun x=>[boxA b1 40 [.bool false,.slice none 0 0]]) (fun x=>[slF (rI .u32) p cap l]) (fun x:Nat=>x) n (show n≤n∧Big.trimL (l.take n)=Big.trimL l from by exact ⟨by omega,by rw [List.take_of_length_le (by omega)]⟩) ((.of rfl):SubM _ _) (ho:=((.c (i:=0) rfl .n):PickO _ _ _)) ((.c (j:=0) rfl .n):SelR _ _ _) ?_
 rintro k hI
 replace hI:k≤n∧Big.trimL (l.take k)=Big.trimL l:=hI
 try dsimp only
 obtain ⟨hk,hT⟩:=hI
 refine zh<|zRa (X:=Unit) (fun x=>True) (fun x=>[(17,.bool (decide (0<k∧l.getD (k - 1) 0=0))),(5,.int .i64 ((k:Nat):Int)),(4,.pointer (some ⟨b1,0,none⟩)),(0,.bool s),(1,.slice p n cap)]) (fun x=>[boxA b1 40 [.bool false,.slice none 0 0]]) (fun x=>[slF (rI .u32) p cap l]) ?_ ?_
 ·
  refine zc<|r_pv rfl rfl (zb rfl)<|r_pv rfl rfl (zza rfl rfl)<|zT rfl rfl (zb rfl) (fun h2=> ?_) (fun h2=> ?_)
  ·
   refine r_pv rfl rfl (zb rfl)<|r_pv rfl rfl (zb rfl)<|r_pv rfl rfl (zia (z:=(((k:Nat):Int) - 1)) rfl rfl (w64 (by omega)))<|zL (x0:=(l.getD ((((k:Nat):Int) - 1).toNat) 0)) 0 ((((k:Nat):Int) - 1).toNat) rfl Tryz.underlying38 sz105 rfl rfl rfl (by first|rfl|assumption|(simp_all;done)|omega) rfl (by omega) (gD (d:=0) (by omega)) (fun b3 o4 hok5=> ?_)
   replace hok5:=zw.1 hok5
   refine r_u rfl rfl (zn (j:=0) 0 ty105 rfl rfl rfl rfl)<|r_pv rfl rfl (zCa rfl rfl)<|r_pv rfl rfl (zl rfl rfl)<|zj ?_
   exact zga () (show True from by first|trivial|omega|simp_all) ((.e rfl (congrArg Value.bool (by have h1:0<k:=(by omega);have h2:((k:Int) - 1).toNat=k - 1:=(by omega);simp [h1,h2])) (.of rfl)):SubM _ _) (ho:=((.c (i:=0) rfl .n):PickO _ _ _)) ((.c (j:=1) rfl .n):SelR _ _ _)
  ·
   refine za rfl rfl<|za rfl rfl<|za rfl rfl<|za rfl rfl<|za rfl rfl<|za rfl rfl<|r_pv rfl rfl (zl rfl rfl)<|zj ?_
   exact zga () (show True from by first|trivial|omega|simp_all) ((.e rfl (congrArg Value.bool (by have h1:¬0<k:=(by omega);simp [h1])) (.of rfl)):SubM _ _) (ho:=((.c (i:=0) rfl .n):PickO _ _ _)) ((.c (j:=0) rfl .n):SelR _ _ _)
 ·
  rintro ⟨⟩ -
  try dsimp only
  refine zD rfl (fun hc=> ?_) (fun hc=> ?_)
  ·
   refine zy<|ze<|zx<|zc<|r_pv rfl rfl (zb rfl)<|r_pv rfl rfl (zia (z:=(((k - 1):Nat):Int)) rfl rfl (w64 (by omega)))<|r_pv rfl rfl (zd rfl)<|zj<|zP<|zaa (k - 1) (show (k - 1)≤n∧Big.trimL (l.take (k - 1))=Big.trimL l from by exact ⟨by omega,by rw [← hT,Big.trim_go l hc.1 (by omega) hc.2]⟩) (by show k - 1<k;omega) ((.e rfl (by first|rfl|(congr 1;omega)|simp_all) (.of rfl)):SubM _ _) (ho:=((.c (i:=0) rfl .n):PickO _ _ _)) ((.c (j:=0) rfl .n):SelR _ _ _)
  ·
   have htr:l.take k=Big.digs (Big.sg s (Big.valL l)).natAbs:=by rw [Big.sg_abs (Big.valL_nonneg ho),←Big.digs_valL ho,←hT];exact (Big.trim_stop l (by omega) hc).symm
   have hlt:(l.take k).length=k:=by rw [List.length_take];omega
   have hsg:=Big.made_sign (s:=s) ho htr hlt
   refine zha<|zm<|zm<|zu<|ze<|zh<|zc<|r_pv rfl rfl (zb rfl)<|r_pv_b rfl rfl (zb rfl) (fun hs=> ?_) (fun hs=> ?_)
   ·
    refine r_pv rfl rfl (zb rfl)<|r_pv rfl rfl (zza rfl rfl)<|r_pv rfl rfl (zl rfl rfl)<|zra rfl rfl (zma (rI .u32) Tryz.underlying38 inf105) (fun b6 _=> ?_)
    refine r_pv rfl rfl (zb rfl)<|r_pv rfl rfl (zb rfl)<|r_pv rfl rfl (zZa (hi:=k) Tryz.underlying38 sz105 rfl (.s rfl) (.inr ⟨_,rfl⟩) (by omega))<|ztc (zZb 0 rfl k (by omega)) (fun _ _=> ?_)
    refine zta 0 rfl rfl rfl (zpa 0 rfl Tryz.underlying38 inf105 (by decide) rfl rfl (by first|rfl|assumption|(simp_all;done)|omega) rfl (by first|rfl|assumption|(simp_all;done)|omega) (by omega) (by omega)) (fun _=> .z) ?_
    rintro ⟨p7,c8⟩ -
    dsimp only [List.append_eq,List.nil_append,List.cons_append]
    refine r_pv rfl rfl (zK zr40 rfl Tryz.underlying40 (.c sz4 (.c sz38 .n)) (.c rfl (.c rfl .n)) (.c rfl rfl rfl (.take .nil) (.c rfl rfl rfl (.skip (.take .nil)) .n)))<|zr 1 rfl rfl rfl rfl rfl sz40 rfl (.take (.take .nil)) (.s .z)<|zj<|ze<|zG ?_
    subst hs
    refine zIa 0 rfl .z ?_
    exact zB Tryz.results103 (p7,c8) trivial (zv 1 ty40 rfl rfl (.take (.take .nil))) (by rw [hsg,←htr,hlt,Nat.zero_add] <;> simp) (ho:=(.n:PickO _ _ _)) ((.e (j:=0) rfl (by rw [htr] <;> rfl) .n):SelR _ _ _)
   ·
    refine za rfl rfl<|za rfl rfl<|r_pv rfl rfl (zl rfl rfl)<|zra rfl rfl (zma (rI .u32) Tryz.underlying38 inf105) (fun b9 _=> ?_)
    refine r_pv rfl rfl (zb rfl)<|r_pv rfl rfl (zb rfl)<|r_pv rfl rfl (zZa (hi:=k) Tryz.underlying38 sz105 rfl (.s rfl) (.inr ⟨_,rfl⟩) (by omega))<|ztc (zZb 0 rfl k (by omega)) (fun _ _=> ?_)
    refine zta 0 rfl rfl rfl (zpa 0 rfl Tryz.underlying38 inf105 (by decide) rfl rfl (by first|rfl|assumption|(simp_all;done)|omega) rfl (by first|rfl|assumption|(simp_all;done)|omega) (by omega) (by omega)) (fun _=> .z) ?_
    rintro ⟨p10,c11⟩ -
    dsimp only [List.append_eq,List.nil_append,List.cons_append]
    refine r_pv rfl rfl (zK zr40 rfl Tryz.underlying40 (.c sz4 (.c sz38 .n)) (.c rfl (.c rfl .n)) (.c rfl rfl rfl (.take .nil) (.c rfl rfl rfl (.skip (.take .nil)) .n)))<|zr 1 rfl rfl rfl rfl rfl sz40 rfl (.take (.take .nil)) (.s .z)<|zj<|ze<|zG ?_
    subst hs
    refine zIa 0 rfl .z ?_
    exact zB Tryz.results103 (p10,c11) trivial (zv 1 ty40 rfl rfl (.take (.take .nil))) (by rw [hsg,←htr,hlt,Nat.zero_add] <;> simp) (ho:=(.n:PickO _ _ _)) ((.e (j:=0) rfl (by rw [htr] <;> rfl) .n):SelR _ _ _)
theorem zXa {s:Bool} {a:Nat} {p:Option Addr} {cap:Nat} (hln:(Big.digs (a)).length≤4398046511104):Con Tryz.prog 103 [.bool (s),.slice (p) ((Big.digs (a)).length) (cap)] [] [slF (rI .u32) (p) (cap) (Big.digs (a))] (Y:=(Option Addr)×(Nat)) (fun y=>True) (fun y=> .agg #[.bool (decide ((Big.sg s (a:Int))<0)),.slice (y.1) ((Big.digs ((Big.sg s (a:Int)).natAbs)).length) (y.2)]) (fun y=>[]) (fun y=>[slF (rI .u32) (y.1) (y.2) (Big.digs ((Big.sg s (a:Int)).natAbs))]):=by
  have h:= @zEa s p (Big.digs a).length cap (Big.digs a) rfl (Big.digs_ok a) hln
  rw [Big.valL_digs] at h
  exact h
theorem zPa {p:Option Addr} {n:Nat} {cap:Nat} {l:List Int} {i:Nat} (hn:l.length=n) (hi:i≤4611686018427387904):Con Tryz.prog 123 [.slice p n cap,.int .i64 ((i:Nat):Int)] [] [slF (rI .u32) p cap l] (Y:=Unit) (fun y=>True) (fun y=> .int .u64 (l.getD i 0)) (fun y=>[]) (fun y=>[]):=by
 refine zp Tryz.func123 rfl rfl rfl (fun c=> ?_)
 show RunC _ _ _ _ _ [(0,.slice p n cap),(1,.int .i64 ((i:Nat):Int))] [] [slF (rI .u32) p cap l]
 refine zea 0 rfl (fun hL0=> ?_)
 refine zh<|zc<|r_pv rfl rfl (zd rfl)<|zj<|ze<|zh<|zh<|zc<|r_pv rfl rfl (zb rfl)<|r_pv rfl rfl (zb rfl)<|r_pv rfl rfl (zM Tryz.underlying38 rfl)<|r_pv rfl rfl (zY rfl rfl)<|zj<|ze<|zD rfl (fun h1=> ?_) (fun h1=> ?_)
 ·
  refine zh<|zc<|r_pv rfl rfl (zb rfl)<|r_pv rfl rfl (zb rfl)<|zL (x0:=(l.getD i 0)) 0 i rfl Tryz.underlying38 sz105 rfl rfl rfl (by first|rfl|assumption|(simp_all;done)|omega) rfl rfl (gD (d:=0) (by omega)) (fun b2 o3 hok4=> ?_)
  replace hok4:=zw.1 hok4
  refine r_u rfl rfl (zn (j:=0) 0 ty105 rfl rfl rfl rfl)<|r_pv rfl rfl (zA (z:=(l.getD i 0)) rfl (by rw [Tryz.underlying105];rfl) Tryz.underlying102 (wu64 (by omega)))<|r_pv rfl rfl (zd rfl)<|zj<|ze<|zG<|zq ?_
  exact zB Tryz.results123 () trivial (zo rfl) rfl (ho:=(.n:PickO _ _ _)) (.n:SelR _ _ _)
 ·
  refine zy<|ze<|zh<|zc<|r_pv rfl rfl (zd rfl)<|zj<|ze<|zG ?_
  exact zB Tryz.results123 () trivial (zo rfl) (by rw [show l.getD i 0=0 by simp [List.getD,List.getElem?_eq_none (show l.length≤i by omega)]]) (ho:=(.n:PickO _ _ _)) (.n:SelR _ _ _)
theorem zNb {s:Bool} {p:Option Addr} {n:Nat} {cap:Nat} {l:List Int} (hn:l.length=n):Con Tryz.prog 85 [.agg #[.bool s,.slice p n cap]] [] [slF (rI .u32) p cap l] (Y:=Unit) (fun y=>True) (fun y=> .bool (decide (Big.canon s l))) (fun y=>[]) (fun y=>[]):=by
 refine zp Tryz.func85 rfl rfl rfl (fun c=> ?_)
 show RunC _ _ _ _ _ [(0,.agg #[.bool s,.slice p n cap])] [] [slF (rI .u32) p cap l]
 refine zea 0 rfl (fun hL0=> ?_)
 refine zh<|zc<|zS rfl rfl (zX rfl rfl) (fun b1=> ?_)
 refine r_pv rfl rfl (zd rfl)<|zj<|ze<|zh<|zc<|r_pv rfl rfl (zg Tryz.underlying40 rfl sz38 rfl rfl)<|r_u rfl rfl (zf 0 ty38 rfl rfl rfl)<|r_pv rfl rfl (zM Tryz.underlying38 rfl)<|r_pv rfl rfl (zd rfl)<|zj<|ze<|zh<|zh<|zc<|r_pv rfl rfl (zd rfl)<|zj<|ze<|zx<|zka (X:=Nat) (fun x:Nat=>x≤n∧∀j,j<x→l.getD j 0<1000000000) (fun x=>[(4,.int .i64 ((x:Nat):Int)),(3,.int .i64 ((n:Nat):Int)),(1,.pointer (some ⟨b1,0,none⟩))]) (fun x=>[boxA b1 40 [.bool s,.slice p n cap]]) (fun x=>[slF (rI .u32) p cap l]) (fun x:Nat=>n - x) 0 (show 0≤n∧∀j,j<0→l.getD j 0<1000000000 from by exact ⟨by omega,fun j h=>by omega⟩) ((.e rfl (by first|rfl|(congr 1;omega)|simp_all) (.c rfl (.c rfl .n))):SubM _ _) (ho:=((.c (i:=0) rfl .n):PickO _ _ _)) ((.c (j:=0) rfl .n):SelR _ _ _) ?_
 rintro i hI
 replace hI:i≤n∧∀j,j<i→l.getD j 0<1000000000:=hI
 try dsimp only
 obtain ⟨hi,hall⟩:=hI
 refine zh<|zh<|zc<|r_pv rfl rfl (zb rfl)<|r_pv rfl rfl (zb rfl)<|r_pv rfl rfl (zY rfl rfl)<|zj<|ze<|zD rfl (fun h2=> ?_) (fun h2=> ?_)
 ·
  refine zy<|ze<|zh<|zx<|zh<|zc<|r_pv rfl rfl (zg Tryz.underlying40 rfl sz38 rfl rfl)<|r_u rfl rfl (zf 0 ty38 rfl rfl rfl)<|r_pv rfl rfl (zb rfl)<|zL (x0:=(l.getD i 0)) 0 i rfl Tryz.underlying38 sz105 rfl rfl rfl (by first|rfl|assumption|(simp_all;done)|omega) rfl rfl (gD (d:=0) (by omega)) (fun b3 o4 hok5=> ?_)
  replace hok5:=zw.1 hok5
  refine r_u rfl rfl (zn (j:=0) 0 ty105 rfl rfl rfl rfl)<|r_pv rfl rfl (zBa rfl rfl)<|zj<|ze<|zD rfl (fun hb=> ?_) (fun hb=> ?_)
  ·
   refine zh<|zc<|r_pv rfl rfl (zd rfl)<|zj<|ze<|zG<|zZ<|zq<|zq<|zZ<|zq ?_
   exact zB Tryz.results85 () trivial (zo rfl) (congrArg Value.bool (decide_eq_false (fun h=>((Big.canon_more (by omega)).1 h).2 ⟨_,Big.getD_mem (by omega),hb⟩))) (ho:=(.n:PickO _ _ _)) (.n:SelR _ _ _)
  ·
   refine zy<|zP<|ze<|zc<|r_pv rfl rfl (zb rfl)<|r_pv rfl rfl (zz (z:=(((i+1):Nat):Int)) rfl rfl (w64 (by omega)))<|r_pv rfl rfl (zd rfl)<|zj<|zaa (i+1) (show (i+1)≤n∧∀j,j<(i+1)→l.getD j 0<1000000000 from by refine ⟨by omega,fun j hj=> ?_⟩;by_cases e:j=i;subst e;omega;exact hall j (by omega)) (by show n - (i+1)<n - i;omega) ((.of rfl):SubM _ _) (ho:=((.c (i:=0) rfl .n):PickO _ _ _)) ((.c (j:=1) rfl .n):SelR _ _ _)
 ·
  refine zha<|zm<|zm<|zu<|ze<|zh<|zh<|zc<|r_pv rfl rfl (zb rfl)<|r_pv rfl rfl (zCa rfl rfl)<|zj<|ze<|zD rfl (fun h0=> ?_) (fun h0=> ?_)
  ·
   refine zh<|zc<|r_pv rfl rfl (zg Tryz.underlying40 rfl sz4 rfl rfl)<|r_u rfl rfl (zf 0 ty4 rfl rfl rfl)<|r_pv rfl rfl (zpb rfl)<|r_pv rfl rfl (zd rfl)<|zj<|ze<|zG<|zq ?_
   exact zB Tryz.results85 () trivial (zo rfl) (congrArg Value.bool (by have:l.length=0:=(by omega);cases s <;> simp [Big.canon,this])) (ho:=(.n:PickO _ _ _)) (.n:SelR _ _ _)
  ·
   refine zy<|ze<|zh<|zc<|r_pv rfl rfl (zg Tryz.underlying40 rfl sz38 rfl rfl)<|r_u rfl rfl (zf 0 ty38 rfl rfl rfl)<|r_pv rfl rfl (zb rfl)<|r_pv rfl rfl (zia (z:=(((n:Nat):Int) - 1)) rfl rfl (w64 (by omega)))<|zL (x0:=(l.getD ((((n:Nat):Int) - 1).toNat) 0)) 0 ((((n:Nat):Int) - 1).toNat) rfl Tryz.underlying38 sz105 rfl rfl rfl (by first|rfl|assumption|(simp_all;done)|omega) rfl (by omega) (gD (d:=0) (by omega)) (fun b6 o7 hok8=> ?_)
   replace hok8:=zw.1 hok8
   refine r_u rfl rfl (zn (j:=0) 0 ty105 rfl rfl rfl rfl)<|r_pv rfl rfl (zHa rfl rfl)<|r_pv rfl rfl (zd rfl)<|zj<|ze<|zG ?_
   exact zB Tryz.results85 () trivial (zo rfl) (congrArg Value.bool (decide_eq_decide.2 (by rw [Big.canon_more (by omega),hn];have e:((n:Int) - 1).toNat=n - 1:=(by omega);rw [e];exact ⟨fun h=>h.1,fun h=>⟨h,fun ⟨g,hg,hb⟩=>by obtain ⟨j,hj,e⟩:=Big.mem_getD hg;have:=hall j (by omega);omega⟩⟩))) (ho:=(.n:PickO _ _ _)) (.n:SelR _ _ _)
theorem zLa {s:Bool} {p:Option Addr} {n:Nat} {cap:Nat} {l:List Int} (hn:l.length=n) (hln:n≤1099511627776):Con Tryz.prog 102 [.agg #[.bool s,.slice p n cap]] [] [slF (rI .u32) p cap l] (Y:=(Option Addr)×Nat) (fun y=>True) (fun y=> .agg #[.bool (decide ((Big.raw s l)<0)),.slice (y.1) ((Big.digs ((Big.raw s l).natAbs)).length) (y.2)]) (fun y=>[]) (fun y=>[slF (rI .u32) (y.1) (y.2) (Big.digs ((Big.raw s l).natAbs))]):=by
 refine zp Tryz.func102 rfl rfl rfl (fun c=> ?_)
 show RunC _ _ _ _ _ [(0,.agg #[.bool s,.slice p n cap])] [] [slF (rI .u32) p cap l]
 refine zea 0 rfl (fun hL0=> ?_)
 refine zbb 0 rfl (fun hE0=> ?_)
 have hnn:Big.nn l:=fun g hg=>(zw.1 (hE0 g hg)).1
 refine zh<|zc<|zS rfl rfl (zX rfl rfl) (fun b1=> ?_)
 refine zS rfl rfl (zI zr40 rfl) (fun b2=> ?_)
 refine zj<|ze<|zh<|zh<|zc<|r_u rfl rfl (zi 1 ty40 rfl rfl (.take (.take .nil)))<|zQ rfl rfl (.c rfl .n) ce85 (zNb (s:=s) (p:=p) (n:=n) (cap:=cap) (l:=l) (hn:=by assumption)) (.c (j:=0) rfl .n)<|r_pv rfl rfl (zgb rfl)<|zj<|ze<|zD rfl (fun hc=> ?_) (fun hc=> ?_)
 ·
  refine zh<|zc<|r_pv rfl rfl (zK zr40 rfl Tryz.underlying40 (.c sz4 (.c sz38 .n)) .n .n)<|zr 0 rfl rfl rfl rfl rfl sz40 rfl (.take (.take .nil)) .z<|zj<|ze<|zG<|zq ?_
  have hz:Big.raw s l=0:=by unfold Big.raw;rw [if_neg hc]
  refine zDb (rI .u32) ?_
  exact zB Tryz.results102 (none,0) trivial (zv 0 ty40 rfl rfl (.take (.take .nil))) (by rw [hz];rfl) (ho:=(.n:PickO _ _ _)) ((.e (j:=0) rfl (by rw [hz];rfl) .n):SelR _ _ _)
 ·
  refine zy<|ze<|zh<|zla (OW:=[boxA b2 40 [.bool false,.slice none 0 0]]) (O:=[boxA b1 40 [.bool s,.slice p n cap]]) 5 mixed (.then .ret) (by kernel_rfl)<|d_pv 0 rfl rfl (by kernel_rfl) (by kernel_rfl) rfl rfl (zg Tryz.underlying40 rfl sz4 rfl rfl)<|d_u 1 rfl rfl (by kernel_rfl) (by kernel_rfl) rfl rfl (zf 0 ty4 rfl rfl rfl)<|d_pv 3 rfl rfl (by kernel_rfl) (by kernel_rfl) rfl rfl (zg Tryz.underlying40 rfl sz38 rfl rfl)<|d_uw 4 rfl rfl (by kernel_rfl) (by kernel_rfl) (by kernel_rfl) rfl rfl (zf 1 ty38 rfl rfl rfl)<|zV 2 (by kernel_rfl) (zte rfl rfl rfl rfl (zma (rI .u32) Tryz.underlying38 inf105) (fun b3 _=> ?_))
  refine zV 5 (by kernel_rfl) (zpe (A':=fun v:Option Addr×Nat=>rowA 105 (rI .u32) v.1 v.2 (([])++l)) (by kernel_rfl) rfl rfl rfl (zpa 0 rfl Tryz.underlying38 inf105 (by decide) rfl rfl (by first|rfl|assumption|(simp_all;done)|omega) rfl (by first|rfl|assumption|(simp_all;done)|omega) (by omega) (by omega)) ?_)
  rintro ⟨p4,c5⟩ -
  dsimp only [List.append_eq,List.nil_append,List.cons_append]
  refine d_pv 6 rfl rfl (by kernel_rfl) (by kernel_rfl) rfl rfl (zK zr40 rfl Tryz.underlying40 (.c sz4 (.c sz38 .n)) (.c rfl (.c rfl .n)) (.c rfl rfl rfl (.take .nil) (.c rfl rfl rfl (.skip (.take .nil)) .n)))<|zOa (zqa (i:=1) rfl)<|zV 7 (by kernel_rfl) (zN (by kernel_rfl) rfl rfl rfl rfl rfl sz40 rfl (.take (.take .nil)) ?_)
  refine zfa (by kernel_rfl)<|ze<|zG ?_
  have hcc:Big.canon s l:=Decidable.not_not.1 hc
  have hd:Big.digs (Big.raw s l).natAbs=l:=by rw [Big.raw_digs hnn,if_pos hcc]
  have hs:=Big.raw_sign hnn hcc
  refine zIa 1 rfl (.s .z) ?_
  exact zB Tryz.results102 (p4,c5) trivial (zv 0 ty40 rfl rfl (.take (.take .nil))) (by rw [hs,hd,hn,Nat.zero_add]) (ho:=(.n:PickO _ _ _)) ((.e (j:=0) rfl (by rw [hd] <;> rfl) .n):SelR _ _ _)
theorem zhc {z:Int} {p:Option Addr} {cap:Nat} (hln:Big.ln z≤1099511627776):Con Tryz.prog 102 [.agg #[.bool (decide ((z)<0)),.slice (p) ((Big.digs ((z).natAbs)).length) (cap)]] [] [slF (rI .u32) (p) (cap) (Big.digs ((z).natAbs))] (Y:=(Option Addr)×(Nat)) (fun y=>True) (fun y=> .agg #[.bool (decide ((z)<0)),.slice (y.1) ((Big.digs ((z).natAbs)).length) (y.2)]) (fun y=>[]) (fun y=>[slF (rI .u32) (y.1) (y.2) (Big.digs ((z).natAbs))]):=by
  have h:= @zLa (decide ((z)<0)) p (Big.digs (z).natAbs).length cap (Big.digs (z).natAbs) rfl hln
  rw [Big.raw_big] at h
  exact h
theorem zMe {z:Int} (hz: -9223372036854775808≤z∧z≤9223372036854775807):Con Tryz.prog 79 [.int .i64 z] [] [] (Y:=(Option Addr)×Nat) (fun y=>True) (fun y=> .agg #[.bool (decide (z<0)),.slice (y.1) ((Big.digs ((z).natAbs)).length) (y.2)]) (fun y=>[]) (fun y=>[slF (rI .u32) (y.1) (y.2) (Big.digs ((z).natAbs))]):=by
 refine zp Tryz.func79 rfl rfl rfl (fun c=> ?_)
 show RunC _ _ _ _ _ [(0,.int .i64 z)] [] []
 refine zh<|zc<|zS rfl rfl (zI zr40 rfl) (fun b1=> ?_)
 refine zj<|ze<|zh<|zc<|r_pv rfl rfl (zb rfl)<|r_pv rfl rfl (zA (z:=(z%18446744073709551616)) rfl (by rw [Tryz.underlying3];rfl) Tryz.underlying102 (wu64m (by omega)))<|r_pv rfl rfl (zd rfl)<|zj<|ze<|zRa (X:=Unit) (fun x=>True) (fun x=>[(3,.int .u64 ((z.natAbs:Nat):Int)),(2,.pointer (some ⟨b1,0,none⟩)),(0,.int .i64 z)]) (fun x=>[boxA b1 40 [.bool false,.slice none 0 0]]) (fun x=>[]) ?_ ?_
 ·
  refine zh<|zc<|r_pv rfl rfl (zb rfl)<|r_pv rfl rfl (zY rfl rfl)<|zj<|ze<|zD rfl (fun hs=> ?_) (fun hs=> ?_)
  ·
   refine zc<|r_pv rfl rfl (zb rfl)<|r_pv rfl rfl (zz (z:=(z+1)) rfl rfl (w64 (by omega)))<|r_pv rfl rfl (zoe (z:=(-(z+1))) rfl (w64 (by omega)))<|r_pv rfl rfl (zA (z:=(-(z+1))) rfl (by rw [Tryz.underlying3];rfl) Tryz.underlying102 (wu64 (by omega)))<|r_pv rfl rfl (zz (z:=((z.natAbs:Nat):Int)) rfl rfl (wu64 (by omega)))<|r_pv rfl rfl (zd rfl)<|zj ?_
   exact zga () (show True from by first|trivial|omega|simp_all) ((.of rfl):SubM _ _) (ho:=((.c (i:=0) rfl .n):PickO _ _ _)) (.n:SelR _ _ _)
  ·
   have e2:((z%18446744073709551616):Int)=((z.natAbs:Nat):Int):=by omega
   rw [e2]
   refine zy ?_
   exact zga () (show True from by first|trivial|omega|simp_all) ((.of rfl):SubM _ _) (ho:=((.c (i:=0) rfl .n):PickO _ _ _)) (.n:SelR _ _ _)
 ·
  rintro ⟨⟩ -
  try dsimp only
  refine zh<|zc<|zra rfl rfl (zma (rI .u32) Tryz.underlying38 inf105) (fun b3 _=> ?_)
  refine r_pv rfl rfl (zd rfl)<|zj<|ze<|zh<|zx<|zka (X:=Nat×(Option Addr)×Nat×(List Int)) (fun x:Nat×(Option Addr)×Nat×(List Int)=>x.1≤z.natAbs∧x.2.2.2++Big.digs x.1=Big.digs z.natAbs) (fun x=>[(4,.slice (x.2.1) (x.2.2.2.length) (x.2.2.1)),(3,.int .u64 ((x.1:Nat):Int)),(2,.pointer (some ⟨b1,0,none⟩)),(0,.int .i64 z)]) (fun x=>[rowA 105 (rI .u32) (x.2.1) (x.2.2.1) (x.2.2.2),boxA b1 40 [.bool false,.slice none 0 0]]) (fun x=>[]) (fun x:Nat×(Option Addr)×Nat×(List Int)=>x.1) (z.natAbs,some ⟨b3,0,none⟩,0,[]) (show z.natAbs≤z.natAbs∧([])++Big.digs z.natAbs=Big.digs z.natAbs from by exact ⟨Nat.le_refl _,rfl⟩) ((.e rfl (by first|rfl|(congr 1;omega)|simp_all) (.of rfl)):SubM _ _) (ho:=((.of [0,0] rfl):PickO _ _ _)) (.n:SelR _ _ _) ?_
  rintro ⟨m,p,c,os⟩ hI
  replace hI:m≤z.natAbs∧os++Big.digs m=Big.digs z.natAbs:=hI
  try dsimp only
  obtain ⟨hnn,hos⟩:=hI
  have hlen0:os.length+(Big.digs m).length≤3:=by have:=congrArg List.length hos;rw [List.length_append] at this;have:=Big.zEe (show z.natAbs<18446744073709551616 by omega);omega
  refine zh<|zh<|zc<|r_pv rfl rfl (zb rfl)<|r_pv rfl rfl (zza rfl rfl)<|zj<|ze<|zD rfl (fun h4=> ?_) (fun h4=> ?_)
  ·
   refine zy<|ze<|zx<|zh<|zc<|r_pv rfl rfl (zb rfl)<|r_pv rfl rfl (zb rfl)<|r_pv rfl rfl (zGa (z:=(((m%1000000000):Nat):Int)) rfl rfl (by omega) (remN (by omega) (by omega)))<|r_pv rfl rfl (zA (z:=(((m%1000000000):Nat):Int)) rfl (by rw [Tryz.underlying102];rfl) Tryz.underlying105 (wu32 (by omega)))<|zra rfl rfl (zE (enc:=fun z:Int=>[.int .u32 z]) (ok:=InK .u32) (h1:=fun _=>rfl) (h2:=fun _=>rfl) (k:=1) Tryz.underlying38 inf105 rfl (by decide) (by decide) (by decide) (.c (x:=(((m%1000000000):Nat):Int)) rfl rfl (fun _ _=>by exact zw.2 (by omega)) .n)) (fun b5 _=> ?_)
   refine zda 0 rfl .z<|zta 1 rfl rfl rfl (zpa 0 rfl Tryz.underlying38 inf105 (by decide) rfl rfl (by first|rfl|assumption|(simp_all;done)|omega) rfl (by first|rfl|assumption|(simp_all;done)|omega) (by omega) (by omega)) (fun _=>(.s .z)) ?_
   rintro ⟨p6,c7⟩ -
   dsimp only [List.append_eq,List.nil_append,List.cons_append]
   refine r_pv rfl rfl (zd rfl)<|zj<|ze<|zc<|r_pv rfl rfl (zb rfl)<|r_pv rfl rfl (zFa (z:=(((m / 1000000000):Nat):Int)) rfl rfl (by omega) (by rw [quoN (z:=(((m / 1000000000):Nat):Int)) (by omega) (by omega)];exact wu64 (by omega)))<|r_pv rfl rfl (zd rfl)<|zj<|zP<|zaa ((m / 1000000000),p6,c7,os++[((m%1000000000:Nat):Int)]) (show (m / 1000000000)≤z.natAbs∧(os++[((m%1000000000:Nat):Int)])++Big.digs (m / 1000000000)=Big.digs z.natAbs from by exact ⟨by omega,Big.split_step (by omega) hos⟩) (by show m / 1000000000<m;omega) ((.e rfl (by simp) (.of rfl)):SubM _ _) (ho:=((.e (i:=1) rfl (by first|rfl|(congr 1;omega)|simp_all) (.c (i:=1) rfl .n)):PickO _ _ _)) (.n:SelR _ _ _)
  ·
   have hm0:m=0:=by omega
   subst hm0
   have hd:os=Big.digs z.natAbs:=by simpa [Big.digs_zero] using hos
   have hok:Big.okL os:=by rw [hd];exact Big.digs_ok _
   have hlen:os.length≤3:=by rw [hd];exact Big.zEe (by omega)
   have hsg:Big.sg (decide (z<0)) (Big.valL os)=z:=by rw [hd,Big.valL_digs];exact Big.sg_big z
   refine zha<|zm<|zm<|zu<|ze<|zh<|zc<|r_pv rfl rfl (zb rfl)<|r_pv rfl rfl (zY rfl rfl)<|r_pv rfl rfl (zb rfl)<|zda 0 rfl .z<|zC rfl rfl (.c rfl (.c rfl .n)) ce103 (zEa (s:=decide (z<0)) (p:=p) (n:=os.length) (cap:=c) (l:=os) (hn:=by first|rfl|omega) (ho:=by exact hok) (hln:=by first|rfl|omega)) (.c (j:=0) rfl .n) ?_
   rintro ⟨p28,c29⟩ -
   dsimp only [List.append_eq,List.nil_append,List.cons_append]
   refine zr 1 rfl rfl rfl rfl rfl sz40 rfl (.take (.take .nil)) (.s .z)<|zj<|ze<|zG ?_
   exact zB Tryz.results79 (p28,c29) trivial (zv 1 ty40 rfl rfl (.take (.take .nil))) (by rw [hsg]) (ho:=(.n:PickO _ _ _)) ((.e (j:=0) rfl (by rw [hsg]) .n):SelR _ _ _)
theorem zNe {a:Nat} {b:Nat} {p1:Option Addr} {c1:Nat} {p2:Option Addr} {c2:Nat} (hb1:(Big.digs a).length≤1099511627776) (hb2:(Big.digs b).length≤1099511627776):Con Tryz.prog 104 [.slice p1 ((Big.digs a).length) c1,.slice p2 ((Big.digs b).length) c2] [] [slF (rI .u32) p1 c1 (Big.digs a),slF (rI .u32) p2 c2 (Big.digs b)] (Y:=(Option Addr)×Nat) (fun y=>True) (fun y=> .slice (y.1) ((Big.digs (a+b)).length) (y.2)) (fun y=>[]) (fun y=>[slF (rI .u32) (y.1) (y.2) (Big.digs (a+b))]):=by
 refine zp Tryz.func104 rfl rfl rfl (fun c=> ?_)
 show RunC _ _ _ _ _ [(0,.slice p1 ((Big.digs a).length) c1),(1,.slice p2 ((Big.digs b).length) c2)] [] [slF (rI .u32) p1 c1 (Big.digs a),slF (rI .u32) p2 c2 (Big.digs b)]
 refine zea 0 rfl (fun hL0=> ?_)
 refine zea 1 rfl (fun hL1=> ?_)
 refine zh<|zc<|r_pv rfl rfl (zd rfl)<|zj<|ze<|zh<|zc<|zra rfl rfl (zma (rI .u32) Tryz.underlying38 inf105) (fun b1 _=> ?_)
 refine r_pv rfl rfl (zd rfl)<|zj<|ze<|zh<|zc<|r_pv rfl rfl (zd rfl)<|zj<|ze<|zh<|zh<|zc<|r_pv rfl rfl (zd rfl)<|zj<|ze<|zx<|zka (X:=Nat×(Option Addr)×Nat×(List Int)×Int) (fun x:Nat×(Option Addr)×Nat×(List Int)×Int=>x.1≤max (Big.digs a).length (Big.digs b).length∧x.2.2.2.1.length=x.1∧0≤x.2.2.2.2∧x.2.2.2.2≤1∧Big.okL x.2.2.2.1∧Big.valL x.2.2.2.1+Big.pw x.1*x.2.2.2.2=Big.valL ((Big.digs a).take x.1)+Big.valL ((Big.digs b).take x.1)) (fun x=>[(6,.int .u64 (x.2.2.2.2)),(5,.slice (x.2.1) (x.2.2.2.1.length) (x.2.2.1)),(7,.int .i64 ((x.1:Nat):Int)),(4,.slice none 0 0),(0,.slice p1 ((Big.digs a).length) c1),(1,.slice p2 ((Big.digs b).length) c2)]) (fun x=>[rowA 105 (rI .u32) (x.2.1) (x.2.2.1) (x.2.2.2.1)]) (fun x=>[slF (rI .u32) p1 c1 (Big.digs a),slF (rI .u32) p2 c2 (Big.digs b)]) (fun x:Nat×(Option Addr)×Nat×(List Int)×Int=>max (Big.digs a).length (Big.digs b).length - x.1) (0,some ⟨b1,0,none⟩,0,[],0) (show 0≤max (Big.digs a).length (Big.digs b).length∧([]).length=0∧0≤0∧0≤1∧Big.okL ([])∧Big.valL ([])+Big.pw 0*0=Big.valL ((Big.digs a).take 0)+Big.valL ((Big.digs b).take 0) from by exact ⟨by omega,rfl,by decide,by decide,Big.okL_nil,by simp [Big.valL]⟩) ((.c rfl (.e rfl (by first|rfl|(congr 1;omega)|simp_all) (.e rfl (by first|rfl|(congr 1;omega)|simp_all) (.of rfl)))):SubM _ _) (ho:=((.c (i:=0) rfl .n):PickO _ _ _)) ((.of [0,1] rfl):SelR _ _ _) ?_
 rintro ⟨i,p,c,os,cy⟩ hI
 replace hI:i≤max (Big.digs a).length (Big.digs b).length∧os.length=i∧0≤cy∧cy≤1∧Big.okL os∧Big.valL os+Big.pw i*cy=Big.valL ((Big.digs a).take i)+Big.valL ((Big.digs b).take i):=hI
 try dsimp only
 obtain ⟨hi,hol,hc0,hc1,hok,hv⟩:=hI
 have hg1:=Big.okL_getD (Big.digs_ok a) i
 have hg2:=Big.okL_getD (Big.digs_ok b) i
 refine zh<|zRa (X:=Unit) (fun x=>True) (fun x=>[(19,.bool (decide (i<(Big.digs a).length∨i<(Big.digs b).length))),(6,.int .u64 cy),(5,.slice p (os.length) c),(7,.int .i64 ((i:Nat):Int)),(4,.slice none 0 0),(0,.slice p1 ((Big.digs a).length) c1),(1,.slice p2 ((Big.digs b).length) c2)]) (fun x=>[rowA 105 (rI .u32) p c os]) (fun x=>[slF (rI .u32) p1 c1 (Big.digs a),slF (rI .u32) p2 c2 (Big.digs b)]) ?_ ?_
 ·
  refine zc<|r_pv rfl rfl (zb rfl)<|r_pv rfl rfl (zb rfl)<|r_pv rfl rfl (zM Tryz.underlying38 rfl)<|r_pv rfl rfl (zY rfl rfl)<|zT rfl rfl (zb rfl) (fun h2=> ?_) (fun h2=> ?_)
  ·
   refine za rfl rfl<|za rfl rfl<|za rfl rfl<|za rfl rfl<|r_pv rfl rfl (zl rfl rfl)<|zj ?_
   exact zga () (show True from by first|trivial|omega|simp_all) ((.e rfl (congrArg Value.bool (by simp;omega)) (.of rfl)):SubM _ _) (ho:=((.c (i:=0) rfl .n):PickO _ _ _)) ((.of [0,1] rfl):SelR _ _ _)
  ·
   refine r_pv rfl rfl (zb rfl)<|r_pv rfl rfl (zb rfl)<|r_pv rfl rfl (zM Tryz.underlying38 rfl)<|r_pv rfl rfl (zY rfl rfl)<|r_pv rfl rfl (zl rfl rfl)<|zj ?_
   exact zga () (show True from by first|trivial|omega|simp_all) ((.e rfl (congrArg Value.bool (by simp;omega)) (.of rfl)):SubM _ _) (ho:=((.c (i:=0) rfl .n):PickO _ _ _)) ((.of [0,1] rfl):SelR _ _ _)
 ·
  rintro ⟨⟩ -
  try dsimp only
  refine zD rfl (fun hc=> ?_) (fun hc=> ?_)
  ·
   refine zy<|ze<|zh<|zx<|zh<|zc<|r_pv rfl rfl (zb rfl)<|r_pv rfl rfl (zb rfl)<|zQ rfl rfl (.c rfl (.c rfl .n)) ce123 (zPa (p:=p1) (n:=(Big.digs a).length) (cap:=c1) (l:=Big.digs a) (i:=i) (hn:=by first|rfl|assumption|omega|(simp;done)|(simp;omega)|(simp_all;done)) (hi:=by first|rfl|assumption|omega|(simp;done)|(simp;omega)|(simp_all;done))) (.c (j:=0) rfl .n)<|r_pv rfl rfl (zb rfl)<|r_pv rfl rfl (zb rfl)<|zQ rfl rfl (.c rfl (.c rfl .n)) ce123 (zPa (p:=p2) (n:=(Big.digs b).length) (cap:=c2) (l:=Big.digs b) (i:=i) (hn:=by first|rfl|assumption|omega|(simp;done)|(simp;omega)|(simp_all;done)) (hi:=by first|rfl|assumption|omega|(simp;done)|(simp;omega)|(simp_all;done))) (.c (j:=1) rfl .n)<|r_pv rfl rfl (zz (z:=((Big.digs a).getD i 0+(Big.digs b).getD i 0)) rfl rfl (wu64 (by omega)))<|r_pv rfl rfl (zb rfl)<|r_pv rfl rfl (zz (z:=(((Big.digs a).getD i 0+(Big.digs b).getD i 0)+cy)) rfl rfl (wu64 (by omega)))<|r_pv rfl rfl (zd rfl)<|zj<|ze<|zh<|zc<|r_pv rfl rfl (zb rfl)<|r_pv rfl rfl (zb rfl)<|r_pv rfl rfl (zGa (z:=((((Big.digs a).getD i 0+(Big.digs b).getD i 0)+cy)%1000000000)) rfl rfl (by omega) (remN (by omega) (by omega)))<|r_pv rfl rfl (zA (z:=((((Big.digs a).getD i 0+(Big.digs b).getD i 0)+cy)%1000000000)) rfl (by rw [Tryz.underlying102];rfl) Tryz.underlying105 (wu32 (by omega)))<|zra rfl rfl (zE (enc:=fun z:Int=>[.int .u32 z]) (ok:=InK .u32) (h1:=fun _=>rfl) (h2:=fun _=>rfl) (k:=1) Tryz.underlying38 inf105 rfl (by decide) (by decide) (by decide) (.c (x:=((((Big.digs a).getD i 0+(Big.digs b).getD i 0)+cy)%1000000000)) rfl rfl (fun _ _=>by exact zw.2 (by omega)) .n)) (fun b3 _=> ?_)
   refine zda 0 rfl .z<|zta 1 rfl rfl rfl (zpa 0 rfl Tryz.underlying38 inf105 (by decide) rfl rfl (by first|rfl|assumption|(simp_all;done)|omega) rfl (by first|rfl|assumption|(simp_all;done)|omega) (by omega) (by omega)) (fun _=>(.s .z)) ?_
   rintro ⟨p4,c5⟩ -
   dsimp only [List.append_eq,List.nil_append,List.cons_append]
   refine r_pv rfl rfl (zd rfl)<|zj<|ze<|zc<|r_pv rfl rfl (zb rfl)<|r_pv rfl rfl (zFa (z:=((((Big.digs a).getD i 0+(Big.digs b).getD i 0)+cy) / 1000000000)) rfl rfl (by omega) (by rw [quoN (z:=((((Big.digs a).getD i 0+(Big.digs b).getD i 0)+cy) / 1000000000)) (by omega) (by omega)];exact wu64 (by omega)))<|r_pv rfl rfl (zd rfl)<|zj<|zP<|ze<|zc<|r_pv rfl rfl (zb rfl)<|r_pv rfl rfl (zz (z:=(((i+1):Nat):Int)) rfl rfl (w64 (by omega)))<|r_pv rfl rfl (zd rfl)<|zj<|zaa ((i+1),p4,c5,os++[((Big.digs a).getD i 0+(Big.digs b).getD i 0+cy)%1000000000],((Big.digs a).getD i 0+(Big.digs b).getD i 0+cy) / 1000000000) (show (i+1)≤max (Big.digs a).length (Big.digs b).length∧(os++[((Big.digs a).getD i 0+(Big.digs b).getD i 0+cy)%1000000000]).length=(i+1)∧0≤(((Big.digs a).getD i 0+(Big.digs b).getD i 0+cy) / 1000000000)∧(((Big.digs a).getD i 0+(Big.digs b).getD i 0+cy) / 1000000000)≤1∧Big.okL (os++[((Big.digs a).getD i 0+(Big.digs b).getD i 0+cy)%1000000000])∧Big.valL (os++[((Big.digs a).getD i 0+(Big.digs b).getD i 0+cy)%1000000000])+Big.pw (i+1)*(((Big.digs a).getD i 0+(Big.digs b).getD i 0+cy) / 1000000000)=Big.valL ((Big.digs a).take (i+1))+Big.valL ((Big.digs b).take (i+1)) from by exact ⟨by omega,by simp [hol],by omega,by omega,Big.okL_snoc hok (by omega) (by omega),Big.plus_step hol hv (by omega)⟩) (by show max (Big.digs a).length (Big.digs b).length - (i+1)<max (Big.digs a).length (Big.digs b).length - i;omega) ((.e rfl (by first|rfl|(congr 1;omega)|simp_all) (.e rfl (by simp) (.of rfl))):SubM _ _) (ho:=((.e (i:=1) rfl (by first|rfl|(congr 1;omega)|simp_all) .n):PickO _ _ _)) ((.of [1,2] rfl):SelR _ _ _)
  ·
   have hok2:=Big.okL_snoc hok hc0 (show cy<1000000000 by omega)
   have hfin:=Big.plus_end (a:=a) (b:=b) hol (by omega) (by omega) hv
   refine zha<|zm<|zm<|zu<|ze<|zh<|zc<|r_pv rfl rfl (zb rfl)<|r_pv rfl rfl (zb rfl)<|r_pv rfl rfl (zA (z:=cy) rfl (by rw [Tryz.underlying102];rfl) Tryz.underlying105 (wu32 (by omega)))<|zra rfl rfl (zE (enc:=fun z:Int=>[.int .u32 z]) (ok:=InK .u32) (h1:=fun _=>rfl) (h2:=fun _=>rfl) (k:=1) Tryz.underlying38 inf105 rfl (by decide) (by decide) (by decide) (.c (x:=cy) rfl rfl (fun _ _=>by exact zw.2 (by omega)) .n)) (fun b6 _=> ?_)
   refine zda 0 rfl .z<|zta 1 rfl rfl rfl (zpa 0 rfl Tryz.underlying38 inf105 (by decide) rfl rfl (by first|rfl|assumption|(simp_all;done)|omega) rfl (by first|rfl|assumption|(simp_all;done)|omega) (by omega) (by omega)) (fun _=>(.s .z)) ?_
   rintro ⟨p7,c8⟩ -
   dsimp only [List.append_eq,List.nil_append,List.cons_append]
   refine zda 1 rfl (.s .z)<|zC rfl rfl (.c rfl (.c rfl .n)) ce103 (zEa (s:=false) (p:=p7) (n:=os.length+1) (cap:=c8) (l:=(os++([cy]))) (hn:=by first|rfl|omega|(simp;done)|(simp;omega)) (ho:=by exact hok2) (hln:=by first|rfl|omega|(simp;done)|(simp;omega))) (.c (j:=0) rfl .n) ?_
   rintro ⟨p29,c210⟩ -
   dsimp only [List.append_eq,List.nil_append,List.cons_append]
   refine r_pv rfl rfl (zxa Tryz.underlying40 rfl ty38 rfl rfl)<|r_pv rfl rfl (zd rfl)<|zj<|ze<|zG ?_
   exact zB Tryz.results104 (p29,c210) trivial (zo rfl) (by rw [hfin]) (ho:=(.n:PickO _ _ _)) ((.e (j:=0) rfl (by rw [hfin]) .n):SelR _ _ _)
theorem zvb {a:Nat} {b:Nat} {p1:Option Addr} {c1:Nat} {p2:Option Addr} {c2:Nat} (hb1:(Big.digs a).length≤1099511627776) (hb2:(Big.digs b).length≤1099511627776) (hab:b≤a):Con Tryz.prog 106 [.slice p1 ((Big.digs a).length) c1,.slice p2 ((Big.digs b).length) c2] [] [slF (rI .u32) p1 c1 (Big.digs a),slF (rI .u32) p2 c2 (Big.digs b)] (Y:=(Option Addr)×Nat) (fun y=>True) (fun y=> .slice (y.1) ((Big.digs (a - b)).length) (y.2)) (fun y=>[]) (fun y=>[slF (rI .u32) (y.1) (y.2) (Big.digs (a - b))]):=by
 refine zp Tryz.func106 rfl rfl rfl (fun c=> ?_)
 show RunC _ _ _ _ _ [(0,.slice p1 ((Big.digs a).length) c1),(1,.slice p2 ((Big.digs b).length) c2)] [] [slF (rI .u32) p1 c1 (Big.digs a),slF (rI .u32) p2 c2 (Big.digs b)]
 refine zea 0 rfl (fun hL0=> ?_)
 refine zea 1 rfl (fun hL1=> ?_)
 refine zh<|zc<|r_pv rfl rfl (zd rfl)<|zj<|ze<|zh<|zc<|zra rfl rfl (zma (rI .u32) Tryz.underlying38 inf105) (fun b1 _=> ?_)
 refine r_pv rfl rfl (zd rfl)<|zj<|ze<|zh<|zc<|r_pv rfl rfl (zd rfl)<|zj<|ze<|zh<|zh<|zc<|r_pv rfl rfl (zd rfl)<|zj<|ze<|zx<|zka (X:=Nat×(Option Addr)×Nat×(List Int)×Int) (fun x:Nat×(Option Addr)×Nat×(List Int)×Int=>x.1≤(Big.digs a).length∧x.2.2.2.1.length=x.1∧0≤x.2.2.2.2∧x.2.2.2.2≤1∧Big.okL x.2.2.2.1∧Big.valL x.2.2.2.1+Big.valL ((Big.digs b).take x.1)=Big.valL ((Big.digs a).take x.1)+Big.pw x.1*x.2.2.2.2) (fun x=>[(6,.int .u64 (x.2.2.2.2)),(5,.slice (x.2.1) (x.2.2.2.1.length) (x.2.2.1)),(7,.int .i64 ((x.1:Nat):Int)),(4,.slice none 0 0),(0,.slice p1 ((Big.digs a).length) c1),(1,.slice p2 ((Big.digs b).length) c2)]) (fun x=>[rowA 105 (rI .u32) (x.2.1) (x.2.2.1) (x.2.2.2.1)]) (fun x=>[slF (rI .u32) p1 c1 (Big.digs a),slF (rI .u32) p2 c2 (Big.digs b)]) (fun x:Nat×(Option Addr)×Nat×(List Int)×Int=>(Big.digs a).length - x.1) (0,some ⟨b1,0,none⟩,0,[],0) (show 0≤(Big.digs a).length∧([]).length=0∧0≤0∧0≤1∧Big.okL ([])∧Big.valL ([])+Big.valL ((Big.digs b).take 0)=Big.valL ((Big.digs a).take 0)+Big.pw 0*0 from by exact ⟨by omega,rfl,by decide,by decide,Big.okL_nil,by simp [Big.valL]⟩) ((.c rfl (.e rfl (by first|rfl|(congr 1;omega)|simp_all) (.e rfl (by first|rfl|(congr 1;omega)|simp_all) (.of rfl)))):SubM _ _) (ho:=((.c (i:=0) rfl .n):PickO _ _ _)) ((.of [0,1] rfl):SelR _ _ _) ?_
 rintro ⟨i,p,c,os,bo⟩ hI
 replace hI:i≤(Big.digs a).length∧os.length=i∧0≤bo∧bo≤1∧Big.okL os∧Big.valL os+Big.valL ((Big.digs b).take i)=Big.valL ((Big.digs a).take i)+Big.pw i*bo:=hI
 try dsimp only
 obtain ⟨hi,hol,hc0,hc1,hok,hv⟩:=hI
 have hg1:=Big.okL_getD (Big.digs_ok a) i
 have hg2:=Big.okL_getD (Big.digs_ok b) i
 refine zh<|zh<|zc<|r_pv rfl rfl (zb rfl)<|r_pv rfl rfl (zb rfl)<|r_pv rfl rfl (zM Tryz.underlying38 rfl)<|r_pv rfl rfl (zY rfl rfl)<|zj<|ze<|zD rfl (fun h2=> ?_) (fun h2=> ?_)
 ·
  refine zy<|ze<|zh<|zx<|zh<|zc<|r_pv rfl rfl (zb rfl)<|r_pv rfl rfl (zb rfl)<|zQ rfl rfl (.c rfl (.c rfl .n)) ce123 (zPa (p:=p1) (n:=(Big.digs a).length) (cap:=c1) (l:=Big.digs a) (i:=i) (hn:=by first|rfl|assumption|omega|(simp;done)|(simp;omega)|(simp_all;done)) (hi:=by first|rfl|assumption|omega|(simp;done)|(simp;omega)|(simp_all;done))) (.c (j:=0) rfl .n)<|r_pv rfl rfl (zz (z:=(1000000000+(Big.digs a).getD i 0)) rfl rfl (wu64 (by omega)))<|r_pv rfl rfl (zb rfl)<|r_pv rfl rfl (zb rfl)<|zQ rfl rfl (.c rfl (.c rfl .n)) ce123 (zPa (p:=p2) (n:=(Big.digs b).length) (cap:=c2) (l:=Big.digs b) (i:=i) (hn:=by first|rfl|assumption|omega|(simp;done)|(simp;omega)|(simp_all;done)) (hi:=by first|rfl|assumption|omega|(simp;done)|(simp;omega)|(simp_all;done))) (.c (j:=1) rfl .n)<|r_pv rfl rfl (zia (z:=((1000000000+(Big.digs a).getD i 0) - (Big.digs b).getD i 0)) rfl rfl (wu64 (by omega)))<|r_pv rfl rfl (zb rfl)<|r_pv rfl rfl (zia (z:=(((1000000000+(Big.digs a).getD i 0) - (Big.digs b).getD i 0) - bo)) rfl rfl (wu64 (by omega)))<|r_pv rfl rfl (zd rfl)<|zj<|ze<|zh<|zc<|r_pv rfl rfl (zb rfl)<|r_pv rfl rfl (zb rfl)<|r_pv rfl rfl (zGa (z:=((((1000000000+(Big.digs a).getD i 0) - (Big.digs b).getD i 0) - bo)%1000000000)) rfl rfl (by omega) (remN (by omega) (by omega)))<|r_pv rfl rfl (zA (z:=((((1000000000+(Big.digs a).getD i 0) - (Big.digs b).getD i 0) - bo)%1000000000)) rfl (by rw [Tryz.underlying102];rfl) Tryz.underlying105 (wu32 (by omega)))<|zra rfl rfl (zE (enc:=fun z:Int=>[.int .u32 z]) (ok:=InK .u32) (h1:=fun _=>rfl) (h2:=fun _=>rfl) (k:=1) Tryz.underlying38 inf105 rfl (by decide) (by decide) (by decide) (.c (x:=((((1000000000+(Big.digs a).getD i 0) - (Big.digs b).getD i 0) - bo)%1000000000)) rfl rfl (fun _ _=>by exact zw.2 (by omega)) .n)) (fun b3 _=> ?_)
  refine zda 0 rfl .z<|zta 1 rfl rfl rfl (zpa 0 rfl Tryz.underlying38 inf105 (by decide) rfl rfl (by first|rfl|assumption|(simp_all;done)|omega) rfl (by first|rfl|assumption|(simp_all;done)|omega) (by omega) (by omega)) (fun _=>(.s .z)) ?_
  rintro ⟨p4,c5⟩ -
  dsimp only [List.append_eq,List.nil_append,List.cons_append]
  refine r_pv rfl rfl (zd rfl)<|zj<|ze<|zc<|r_pv rfl rfl (zb rfl)<|r_pv rfl rfl (zFa (z:=((((1000000000+(Big.digs a).getD i 0) - (Big.digs b).getD i 0) - bo) / 1000000000)) rfl rfl (by omega) (by rw [quoN (z:=((((1000000000+(Big.digs a).getD i 0) - (Big.digs b).getD i 0) - bo) / 1000000000)) (by omega) (by omega)];exact wu64 (by omega)))<|r_pv rfl rfl (zia (z:=(1 - ((((1000000000+(Big.digs a).getD i 0) - (Big.digs b).getD i 0) - bo) / 1000000000))) rfl rfl (wu64 (by omega)))<|r_pv rfl rfl (zd rfl)<|zj<|zP<|ze<|zc<|r_pv rfl rfl (zb rfl)<|r_pv rfl rfl (zz (z:=(((i+1):Nat):Int)) rfl rfl (w64 (by omega)))<|r_pv rfl rfl (zd rfl)<|zj<|zaa ((i+1),p4,c5,os++[(1000000000+(Big.digs a).getD i 0 - (Big.digs b).getD i 0 - bo)%1000000000],1 - (1000000000+(Big.digs a).getD i 0 - (Big.digs b).getD i 0 - bo) / 1000000000) (show (i+1)≤(Big.digs a).length∧(os++[(1000000000+(Big.digs a).getD i 0 - (Big.digs b).getD i 0 - bo)%1000000000]).length=(i+1)∧0≤(1 - (1000000000+(Big.digs a).getD i 0 - (Big.digs b).getD i 0 - bo) / 1000000000)∧(1 - (1000000000+(Big.digs a).getD i 0 - (Big.digs b).getD i 0 - bo) / 1000000000)≤1∧Big.okL (os++[(1000000000+(Big.digs a).getD i 0 - (Big.digs b).getD i 0 - bo)%1000000000])∧Big.valL (os++[(1000000000+(Big.digs a).getD i 0 - (Big.digs b).getD i 0 - bo)%1000000000])+Big.valL ((Big.digs b).take (i+1))=Big.valL ((Big.digs a).take (i+1))+Big.pw (i+1)*(1 - (1000000000+(Big.digs a).getD i 0 - (Big.digs b).getD i 0 - bo) / 1000000000) from by exact ⟨by omega,by simp [hol],by omega,by omega,Big.okL_snoc hok (by omega) (by omega),Big.minus_step hol hv (by omega)⟩) (by show (Big.digs a).length - (i+1)<(Big.digs a).length - i;omega) ((.e rfl (by first|rfl|(congr 1;omega)|simp_all) (.e rfl (by simp) (.of rfl))):SubM _ _) (ho:=((.e (i:=1) rfl (by first|rfl|(congr 1;omega)|simp_all) .n):PickO _ _ _)) ((.of [1,2] rfl):SelR _ _ _)
 ·
  have htr:Big.trimL os=Big.digs (a - b):=Big.minus_fin hab hok hc0 hol (by omega) hv
  have hfin:(Big.sg false (Big.valL os)).natAbs=a - b:=by rw [Big.sg_abs (Big.valL_nonneg hok)];have:=congrArg Big.valL htr;rw [Big.valL_trim,Big.valL_digs] at this;omega
  refine zha<|zm<|zm<|zu<|ze<|zh<|zc<|r_pv rfl rfl (zb rfl)<|zda 0 rfl .z<|zC rfl rfl (.c rfl (.c rfl .n)) ce103 (zEa (s:=false) (p:=p) (n:=os.length) (cap:=c) (l:=os) (hn:=by first|rfl|omega|(simp;done)|(simp;omega)) (ho:=by exact hok) (hln:=by first|rfl|omega|(simp;done)|(simp;omega))) (.c (j:=0) rfl .n) ?_
  rintro ⟨p26,c27⟩ -
  dsimp only [List.append_eq,List.nil_append,List.cons_append]
  refine r_pv rfl rfl (zxa Tryz.underlying40 rfl ty38 rfl rfl)<|r_pv rfl rfl (zd rfl)<|zj<|ze<|zG ?_
  exact zB Tryz.results106 (p26,c27) trivial (zo rfl) (by rw [hfin]) (ho:=(.n:PickO _ _ _)) ((.e (j:=0) rfl (by rw [hfin]) .n):SelR _ _ _)
theorem zic {a:Nat} {b:Nat} {p1:Option Addr} {c1:Nat} {p2:Option Addr} {c2:Nat}:Con Tryz.prog 105 [.slice p1 ((Big.digs a).length) c1,.slice p2 ((Big.digs b).length) c2] [] [slF (rI .u32) p1 c1 (Big.digs a),slF (rI .u32) p2 c2 (Big.digs b)] (Y:=Unit) (fun y=>True) (fun y=> .int .i64 (Big.cmp (a:Int) (b:Int))) (fun y=>[]) (fun y=>[]):=by
 refine zp Tryz.func105 rfl rfl rfl (fun c=> ?_)
 show RunC _ _ _ _ _ [(0,.slice p1 ((Big.digs a).length) c1),(1,.slice p2 ((Big.digs b).length) c2)] [] [slF (rI .u32) p1 c1 (Big.digs a),slF (rI .u32) p2 c2 (Big.digs b)]
 refine zea 0 rfl (fun hL0=> ?_)
 refine zea 1 rfl (fun hL1=> ?_)
 refine zh<|zc<|r_pv rfl rfl (zd rfl)<|zj<|ze<|zh<|zh<|zc<|r_pv rfl rfl (zb rfl)<|r_pv rfl rfl (zM Tryz.underlying38 rfl)<|r_pv rfl rfl (zb rfl)<|r_pv rfl rfl (zM Tryz.underlying38 rfl)<|r_pv rfl rfl (zHa rfl rfl)<|zj<|ze<|zD rfl (fun hlen=> ?_) (fun hlen=> ?_)
 ·
  refine zh<|zh<|zc<|r_pv rfl rfl (zb rfl)<|r_pv rfl rfl (zM Tryz.underlying38 rfl)<|r_pv rfl rfl (zb rfl)<|r_pv rfl rfl (zM Tryz.underlying38 rfl)<|r_pv rfl rfl (zY rfl rfl)<|zj<|ze<|zD rfl (fun hll=> ?_) (fun hll=> ?_)
  ·
   refine zh<|zc<|r_pv rfl rfl (zd rfl)<|zj<|ze<|zG<|zq<|zq ?_
   exact zB Tryz.results105 () trivial (zo rfl) (by rw [← Big.cmp_len (by omega),Big.cmp_lt (by omega)]) (ho:=(.n:PickO _ _ _)) (.n:SelR _ _ _)
  ·
   refine zy<|ze<|zh<|zc<|r_pv rfl rfl (zd rfl)<|zj<|ze<|zG<|zq ?_
   exact zB Tryz.results105 () trivial (zo rfl) (by rw [← Big.cmp_len (by omega),Big.cmp_gt (by omega)]) (ho:=(.n:PickO _ _ _)) (.n:SelR _ _ _)
 ·
  replace hlen:(Big.digs a).length=(Big.digs b).length:=by omega
  refine zy<|ze<|zh<|zh<|zc<|r_pv rfl rfl (zb rfl)<|r_pv rfl rfl (zM Tryz.underlying38 rfl)<|r_pv rfl rfl (zia (z:=((((Big.digs a).length:Nat):Int) - 1)) rfl rfl (w64 (by omega)))<|r_pv rfl rfl (zd rfl)<|zj<|ze<|zx<|zka (X:=Nat) (fun x:Nat=>x≤(Big.digs a).length∧(Big.digs a).drop x=(Big.digs b).drop x) (fun x=>[(5,.int .i64 (((x:Nat):Int) - 1)),(0,.slice p1 ((Big.digs a).length) c1),(1,.slice p2 ((Big.digs b).length) c2)]) (fun x=>[]) (fun x=>[slF (rI .u32) p1 c1 (Big.digs a),slF (rI .u32) p2 c2 (Big.digs b)]) (fun x:Nat=>x) ((Big.digs a).length) (show ((Big.digs a).length)≤(Big.digs a).length∧(Big.digs a).drop ((Big.digs a).length)=(Big.digs b).drop ((Big.digs a).length) from by exact ⟨Nat.le_refl _,by rw [List.drop_length,hlen,List.drop_length]⟩) ((.e rfl (by first|rfl|(congr 1;omega)|simp_all) (.c rfl (.c rfl .n))):SubM _ _) (ho:=(.n:PickO _ _ _)) ((.of [0,1] rfl):SelR _ _ _) ?_
  rintro j hI
  replace hI:j≤(Big.digs a).length∧(Big.digs a).drop j=(Big.digs b).drop j:=hI
  try dsimp only
  obtain ⟨hj,hd⟩:=hI
  refine zh<|zh<|zc<|r_pv rfl rfl (zb rfl)<|r_pv rfl rfl (zBa rfl rfl)<|zj<|ze<|zD rfl (fun h1=> ?_) (fun h1=> ?_)
  ·
   obtain ⟨k,rfl⟩:∃k,j=k+1:=⟨j - 1,by omega⟩
   have e2:(((((k+1):Nat):Int) - 1):Int)=((k:Nat):Int):=by omega
   rw [e2]
   refine zy<|ze<|zh<|zx<|zh<|zh<|zla (OW:=[]) (O:=[]) 100000 mixed (.then (.then (.block (.then (.then (.block (.then .ret))))))) (by kernel_rfl)<|d_pv 0 rfl rfl (by kernel_rfl) (by kernel_rfl) rfl rfl (zb rfl)<|d_pv 1 rfl rfl (by kernel_rfl) (by kernel_rfl) rfl rfl (zb rfl)<|zja (x0:=((Big.digs a).getD k 0)) 2 rfl rfl (by kernel_rfl) (by kernel_rfl) 0 k rfl Tryz.underlying38 sz105 rfl rfl rfl (by first|rfl|assumption|(simp_all;done)|omega) rfl rfl (gD (d:=0) (by omega)) (fun b3 o4 hok5=> ?_)
   replace hok5:=zw.1 hok5
   refine d_u 3 rfl rfl (by kernel_rfl) (by kernel_rfl) rfl rfl (zn (j:=0) 0 ty105 rfl rfl rfl rfl)<|d_pv 4 rfl rfl (by kernel_rfl) (by kernel_rfl) rfl rfl (zb rfl)<|d_pv 5 rfl rfl (by kernel_rfl) (by kernel_rfl) rfl rfl (zb rfl)<|zja (x0:=((Big.digs b).getD k 0)) 6 rfl rfl (by kernel_rfl) (by kernel_rfl) 2 k rfl Tryz.underlying38 sz105 rfl rfl rfl (by first|rfl|assumption|(simp_all;done)|omega) rfl rfl (gD (d:=0) (by omega)) (fun b6 o7 hok8=> ?_)
   replace hok8:=zw.1 hok8
   refine d_u 7 rfl rfl (by kernel_rfl) (by kernel_rfl) rfl rfl (zn (j:=0) 0 ty105 rfl rfl rfl rfl)<|d_pv 8 rfl rfl (by kernel_rfl) (by kernel_rfl) rfl rfl (zY rfl rfl)<|zfa (by kernel_rfl)<|ze<|zD rfl (fun hlt=> ?_) (fun hlt=> ?_)
   ·
    refine zh<|zc<|r_pv rfl rfl (zd rfl)<|zj<|ze<|zG<|zq<|zZ<|zq<|zq<|zZ<|zq ?_
    exact zB Tryz.results105 () trivial (zo rfl) (by rw [← Big.cmp_at hlen (by omega) hd (by omega),Big.cmp_lt (by omega)]) (ho:=(.n:PickO _ _ _)) (.n:SelR _ _ _)
   ·
    refine zy<|ze<|zh<|zla (OW:=[]) (O:=[]) 100000 mixed (.then (.block (.then (.then (.block (.then .ret)))))) (by kernel_rfl)<|d_pv 0 rfl rfl (by kernel_rfl) (by kernel_rfl) rfl rfl (zb rfl)<|d_pv 1 rfl rfl (by kernel_rfl) (by kernel_rfl) rfl rfl (zb rfl)<|zja (x0:=((Big.digs a).getD k 0)) 2 rfl rfl (by kernel_rfl) (by kernel_rfl) 2 k rfl Tryz.underlying38 sz105 rfl rfl rfl (by first|rfl|assumption|(simp_all;done)|omega) rfl rfl (gD (d:=0) (by omega)) (fun b9 o10 hok11=> ?_)
    replace hok11:=zw.1 hok11
    refine d_u 3 rfl rfl (by kernel_rfl) (by kernel_rfl) rfl rfl (zn (j:=0) 0 ty105 rfl rfl rfl rfl)<|d_pv 4 rfl rfl (by kernel_rfl) (by kernel_rfl) rfl rfl (zb rfl)<|d_pv 5 rfl rfl (by kernel_rfl) (by kernel_rfl) rfl rfl (zb rfl)<|zja (x0:=((Big.digs b).getD k 0)) 6 rfl rfl (by kernel_rfl) (by kernel_rfl) 4 k rfl Tryz.underlying38 sz105 rfl rfl rfl (by first|rfl|assumption|(simp_all;done)|omega) rfl rfl (gD (d:=0) (by omega)) (fun b12 o13 hok14=> ?_)
    replace hok14:=zw.1 hok14
    refine d_u 7 rfl rfl (by kernel_rfl) (by kernel_rfl) rfl rfl (zn (j:=0) 0 ty105 rfl rfl rfl rfl)<|d_pv 8 rfl rfl (by kernel_rfl) (by kernel_rfl) rfl rfl (zza rfl rfl)<|zfa (by kernel_rfl)<|ze<|zD rfl (fun hgt=> ?_) (fun hgt=> ?_)
    ·
     refine zh<|zc<|r_pv rfl rfl (zd rfl)<|zj<|ze<|zG<|zZ<|zq<|zq<|zZ<|zq ?_
     exact zB Tryz.results105 () trivial (zo rfl) (by rw [← Big.cmp_at hlen (by omega) hd (by omega),Big.cmp_gt (by omega)]) (ho:=(.n:PickO _ _ _)) (.n:SelR _ _ _)
    ·
     refine zy<|zP<|ze<|zc<|r_pv rfl rfl (zb rfl)<|r_pv rfl rfl (zia (z:=(((k:Nat):Int) - 1)) rfl rfl (w64 (by omega)))<|r_pv rfl rfl (zd rfl)<|zj<|zaa k (show k≤(Big.digs a).length∧(Big.digs a).drop k=(Big.digs b).drop k from by exact ⟨by omega,Big.drop_more (by omega) (by omega) hd (by omega)⟩) (by show k<k+1;omega) ((.of rfl):SubM _ _) (ho:=(.n:PickO _ _ _)) ((.of [4,5] rfl):SelR _ _ _)
  ·
   refine zha<|zm<|zm<|zu<|ze<|zh<|zc<|r_pv rfl rfl (zd rfl)<|zj<|ze<|zG ?_
   have hj0:j=0:=by omega
   subst hj0
   have heq:=Big.cmp_eq (show Big.digs a=Big.digs b by simpa using hd)
   exact zB Tryz.results105 () trivial (zo rfl) (by rw [heq] <;> simp [Big.cmp]) (ho:=(.n:PickO _ _ _)) (.n:SelR _ _ _)
theorem zNd {s:Bool} {p:Option Addr} {n:Nat} {cap:Nat} {l:List Int} (hn:l.length=n) (hln:n≤1099511627776):Con Tryz.prog 74 [.agg #[.bool s,.slice p n cap]] [] [slF (rI .u32) p cap l] (Y:=(Option Addr)×Nat) (fun y=>True) (fun y=> .agg #[.bool (decide ((- Big.raw s l)<0)),.slice (y.1) ((Big.digs ((- Big.raw s l).natAbs)).length) (y.2)]) (fun y=>[]) (fun y=>[slF (rI .u32) (y.1) (y.2) (Big.digs ((- Big.raw s l).natAbs))]):=by
 refine zp Tryz.func74 rfl rfl rfl (fun c=> ?_)
 show RunC _ _ _ _ _ [(0,.agg #[.bool s,.slice p n cap])] [] [slF (rI .u32) p cap l]
 refine zea 0 rfl (fun hL0=> ?_)
 refine zbb 0 rfl (fun hE0=> ?_)
 have hnn:Big.nn l:=fun g hg=>(zw.1 (hE0 g hg)).1
 have hb:Big.ln (Big.raw s l)≤n:=by have:=Big.zab (s:=s) hnn;omega
 unfold Big.ln at hb
 refine zh<|zc<|zS rfl rfl (zX rfl rfl) (fun b1=> ?_)
 refine zS rfl rfl (zI zr40 rfl) (fun b2=> ?_)
 refine zj<|ze<|zh<|zc<|r_u rfl rfl (zi 1 ty40 rfl rfl (.take (.take .nil)))<|zC rfl rfl (.c rfl .n) ce102 (zLa (s:=s) (p:=p) (n:=n) (cap:=cap) (l:=l) (hn:=by assumption) (hln:=by assumption)) (.c (j:=0) rfl .n) ?_
 rintro ⟨p23,c24⟩ -
 dsimp only [List.append_eq,List.nil_append,List.cons_append]
 refine zr 1 rfl rfl rfl rfl rfl sz40 rfl (.take (.take .nil)) (.s .z)<|zj<|ze<|zh<|zc<|r_pv rfl rfl (zg Tryz.underlying40 rfl sz4 rfl rfl)<|r_u rfl rfl (zf 1 ty4 rfl rfl rfl)<|r_pv rfl rfl (zpb rfl)<|r_pv rfl rfl (zg Tryz.underlying40 rfl sz38 rfl rfl)<|r_u rfl rfl (zf 1 ty38 rfl rfl rfl)<|zC rfl rfl (.c rfl (.c rfl .n)) ce103 (zXa (s:= !(decide ((Big.raw s l)<0))) (a:=(Big.raw s l).natAbs) (p:=p23) (cap:=c24) (hln:=by first|rfl|assumption|omega|(simp;done)|(simp;omega)|(simp_all;done))) (.c (j:=0) rfl .n) ?_
 rintro ⟨p25,c26⟩ -
 dsimp only [List.append_eq,List.nil_append,List.cons_append]
 refine zr 0 rfl rfl rfl rfl rfl sz40 rfl (.take (.take .nil)) .z<|zj<|ze<|zG ?_
 have hz:Big.sg (!decide (Big.raw s l<0)) ((Big.raw s l).natAbs:Int)= - Big.raw s l:=by rw [Big.sg_not,Big.sg_big]
 exact zB Tryz.results74 (p25,c26) trivial (zv 0 ty40 rfl rfl (.take (.take .nil))) (by rw [hz]) (ho:=(.n:PickO _ _ _)) ((.e (j:=0) rfl (by rw [hz]) .n):SelR _ _ _)
theorem zOe {z:Int} {p:Option Addr} {cap:Nat} (hln:Big.ln z≤1099511627776):Con Tryz.prog 74 [.agg #[.bool (decide ((z)<0)),.slice (p) ((Big.digs ((z).natAbs)).length) (cap)]] [] [slF (rI .u32) (p) (cap) (Big.digs ((z).natAbs))] (Y:=(Option Addr)×(Nat)) (fun y=>True) (fun y=> .agg #[.bool (decide ((- z)<0)),.slice (y.1) ((Big.digs ((- z).natAbs)).length) (y.2)]) (fun y=>[]) (fun y=>[slF (rI .u32) (y.1) (y.2) (Big.digs ((- z).natAbs))]):=by
  have h:= @zNd (decide ((z)<0)) p (Big.digs (z).natAbs).length cap (Big.digs (z).natAbs) rfl hln
  rw [Big.raw_big] at h
  exact h
theorem zad {w1:Wd} {x1:Int} (hln:Big.ln x1≤1099511627776):Con Tryz.prog 74 [.agg #[w1.b,w1.l]] [] [zF w1 (x1)] (Y:=(Wd)) (fun y=>True) (fun y=> .agg #[y.b,y.l]) (fun y=>[]) (fun y=>[zF y (- x1)]):=by
  exact zUb (zVc (fun p c=>zOe hln))
theorem zbd {s:Bool} {p:Option Addr} {n:Nat} {cap:Nat} {l:List Int} (hn:l.length=n) (hln:n≤1099511627776):Con Tryz.prog 78 [.agg #[.bool s,.slice p n cap]] [] [slF (rI .u32) p cap l] (Y:=Unit) (fun y=>True) (fun y=> .int .i64 ((Big.raw s l).sign)) (fun y=>[]) (fun y=>[]):=by
 refine zp Tryz.func78 rfl rfl rfl (fun c=> ?_)
 show RunC _ _ _ _ _ [(0,.agg #[.bool s,.slice p n cap])] [] [slF (rI .u32) p cap l]
 refine zea 0 rfl (fun hL0=> ?_)
 refine zbb 0 rfl (fun hE0=> ?_)
 have hnn:Big.nn l:=fun g hg=>(zw.1 (hE0 g hg)).1
 refine zh<|zc<|zS rfl rfl (zX rfl rfl) (fun b1=> ?_)
 refine r_pv rfl rfl (zd rfl)<|zj<|ze<|zh<|zc<|r_u rfl rfl (zi 0 ty40 rfl rfl (.take (.take .nil)))<|zC rfl rfl (.c rfl .n) ce102 (zLa (s:=s) (p:=p) (n:=n) (cap:=cap) (l:=l) (hn:=by assumption) (hln:=by assumption)) (.c (j:=0) rfl .n) ?_
 rintro ⟨p22,c23⟩ -
 dsimp only [List.append_eq,List.nil_append,List.cons_append]
 refine zr 0 rfl rfl rfl rfl rfl sz40 rfl (.take (.take .nil)) .z<|zj<|ze<|zh<|zh<|zc<|r_pv rfl rfl (zg Tryz.underlying40 rfl sz38 rfl rfl)<|r_u rfl rfl (zf 0 ty38 rfl rfl rfl)<|r_pv rfl rfl (zM Tryz.underlying38 rfl)<|r_pv rfl rfl (zCa rfl rfl)<|zj<|ze<|zD rfl (fun h0=> ?_) (fun h0=> ?_)
 ·
  refine zh<|zc<|r_pv rfl rfl (zd rfl)<|zj<|ze<|zG<|zq ?_
  exact zB Tryz.results78 () trivial (zo rfl) (by rw [show Big.raw s l=0 by have:=Big.len_digs_nil.1 (show (Big.digs (Big.raw s l).natAbs).length=0 by omega);omega];rfl) (ho:=(.n:PickO _ _ _)) (.n:SelR _ _ _)
 ·
  refine zy<|ze<|zh<|zh<|zc<|r_pv rfl rfl (zg Tryz.underlying40 rfl sz4 rfl rfl)<|r_u rfl rfl (zf 0 ty4 rfl rfl rfl)<|zj<|ze<|znb rfl (fun hs=> ?_) (fun hs=> ?_)
  ·
   refine zh<|zc<|r_pv rfl rfl (zd rfl)<|zj<|ze<|zG<|zq ?_
   exact zB Tryz.results78 () trivial (zo rfl) (by rw [Int.sign_eq_neg_one_of_neg (by simpa using hs)]) (ho:=(.n:PickO _ _ _)) (.n:SelR _ _ _)
  ·
   refine zy<|ze<|zh<|zc<|r_pv rfl rfl (zd rfl)<|zj<|ze<|zG ?_
   exact zB Tryz.results78 () trivial (zo rfl) (by rw [Int.sign_eq_one_of_pos (by have h2:¬Big.raw s l<0:=(by simpa using hs);have:(Big.raw s l).natAbs≠0:=(fun e=>h0 (by rw [e];rfl));omega)]) (ho:=(.n:PickO _ _ _)) (.n:SelR _ _ _)
theorem zzc {z:Int} {p:Option Addr} {cap:Nat} (hln:Big.ln z≤1099511627776):Con Tryz.prog 78 [.agg #[.bool (decide ((z)<0)),.slice (p) ((Big.digs ((z).natAbs)).length) (cap)]] [] [slF (rI .u32) (p) (cap) (Big.digs ((z).natAbs))] (Y:=Unit) (fun y=>True) (fun y=> .int .i64 ((z).sign)) (fun y=>[]) (fun y=>[]):=by
  have h:= @zbd (decide ((z)<0)) p (Big.digs (z).natAbs).length cap (Big.digs (z).natAbs) rfl hln
  rw [Big.raw_big] at h
  exact h
theorem zOb {w1:Wd} {x1:Int} (hln:Big.ln x1≤1099511627776):Con Tryz.prog 78 [.agg #[w1.b,w1.l]] [] [zF w1 (x1)] (Y:=Unit) (fun y=>True) (fun y=> .int .i64 ((x1).sign)) (fun y=>[]) (fun y=>[]):=by
  exact zVc (fun p c=>zzc hln)
theorem zOd {s:Bool} {p1:Option Addr} {n1:Nat} {c1:Nat} {l1:List Int} {t:Bool} {p2:Option Addr} {n2:Nat} {c2:Nat} {l2:List Int} (hn1:l1.length=n1) (hn2:l2.length=n2) (hm1:n1≤1099511627776) (hm2:n2≤1099511627776):Con Tryz.prog 72 [.agg #[.bool s,.slice p1 n1 c1],.agg #[.bool t,.slice p2 n2 c2]] [] [slF (rI .u32) p1 c1 l1,slF (rI .u32) p2 c2 l2] (Y:=(Option Addr)×Nat) (fun y=>True) (fun y=> .agg #[.bool (decide ((Big.raw s l1+Big.raw t l2)<0)),.slice (y.1) ((Big.digs ((Big.raw s l1+Big.raw t l2).natAbs)).length) (y.2)]) (fun y=>[]) (fun y=>[slF (rI .u32) (y.1) (y.2) (Big.digs ((Big.raw s l1+Big.raw t l2).natAbs))]):=by
 refine zp Tryz.func72 rfl rfl rfl (fun c=> ?_)
 show RunC _ _ _ _ _ [(0,.agg #[.bool s,.slice p1 n1 c1]),(1,.agg #[.bool t,.slice p2 n2 c2])] [] [slF (rI .u32) p1 c1 l1,slF (rI .u32) p2 c2 l2]
 refine zea 0 rfl (fun hL0=> ?_)
 refine zbb 0 rfl (fun hE0=> ?_)
 refine zea 1 rfl (fun hL1=> ?_)
 refine zbb 1 rfl (fun hE1=> ?_)
 have hnn1:Big.nn l1:=fun g hg=>(zw.1 (hE0 g hg)).1
 have hnn2:Big.nn l2:=fun g hg=>(zw.1 (hE1 g hg)).1
 have hb1:Big.ln (Big.raw s l1)≤n1:=by have:=Big.zab (s:=s) hnn1;omega
 have hb2:Big.ln (Big.raw t l2)≤n2:=by have:=Big.zab (s:=t) hnn2;omega
 unfold Big.ln at hb1 hb2
 refine zh<|zc<|zS rfl rfl (zX rfl rfl) (fun b1=> ?_)
 refine zS rfl rfl (zX rfl rfl) (fun b2=> ?_)
 refine zS rfl rfl (zI zr40 rfl) (fun b3=> ?_)
 refine zj<|ze<|zh<|zAa (.c (i:=2) rfl (.c (i:=1) rfl (.c (i:=0) rfl .n)))<|zla (OW:=[boxA b1 40 [.bool s,.slice p1 n1 c1],boxA b2 40 [.bool t,.slice p2 n2 c2]]) (O:=[boxA b3 40 [.bool false,.slice none 0 0]]) 4 mixed (.then .ret) (by kernel_rfl)<|d_uw 0 rfl rfl (by kernel_rfl) (by kernel_rfl) (by kernel_rfl) rfl rfl (zi 0 ty40 rfl rfl (.take (.take .nil)))<|d_uw 2 rfl rfl (by kernel_rfl) (by kernel_rfl) (by kernel_rfl) rfl rfl (zi 1 ty40 rfl rfl (.take (.take .nil)))<|zV 1 (by kernel_rfl) (zW rfl rfl rfl rfl (.c rfl .n) ce102 (zLa (s:=s) (p:=p1) (n:=n1) (cap:=c1) (l:=l1) (hn:=by assumption) (hln:=by assumption)) (.c (j:=0) rfl .n) ?_)
 rintro ⟨p24,c25⟩ -
 dsimp only [List.append_eq,List.nil_append,List.cons_append]
 refine zV 3 (by kernel_rfl) (zW rfl rfl rfl rfl (.c rfl .n) ce102 (zLa (s:=t) (p:=p2) (n:=n2) (cap:=c2) (l:=l2) (hn:=by assumption) (hln:=by assumption)) (.c (j:=2) rfl .n) ?_)
 rintro ⟨p26,c27⟩ -
 dsimp only [List.append_eq,List.nil_append,List.cons_append]
 refine zV 4 (by kernel_rfl) (zN (by kernel_rfl) rfl rfl rfl rfl rfl sz40 rfl (.take (.take .nil)) ?_)
 refine zOa (zqa (i:=1) rfl)<|zV 5 (by kernel_rfl) (zN (by kernel_rfl) rfl rfl rfl rfl rfl sz40 rfl (.take (.take .nil)) ?_)
 refine zfa (by kernel_rfl)<|ze<|zh<|zh<|zc<|r_pv rfl rfl (zg Tryz.underlying40 rfl sz4 rfl rfl)<|r_u rfl rfl (zf 1 ty4 rfl rfl rfl)<|r_pv rfl rfl (zg Tryz.underlying40 rfl sz4 rfl rfl)<|r_u rfl rfl (zf 0 ty4 rfl rfl rfl)<|r_pv rfl rfl (zld Tryz.underlying4 rfl rfl)<|zj<|ze<|zD rfl (fun hst=> ?_) (fun hst=> ?_)
 ·
  refine zh<|zAa (.c (i:=2) rfl (.c (i:=0) rfl (.c (i:=0) rfl .n)))<|zla (OW:=[boxA b3 40 [.bool false,.slice none 0 0]]) (O:=[boxA b2 40 [.bool (decide ((Big.raw t l2)<0)),.slice p26 ((Big.digs ((Big.raw t l2).natAbs)).length) c27],boxA b1 40 [.bool (decide ((Big.raw s l1)<0)),.slice p24 ((Big.digs ((Big.raw s l1).natAbs)).length) c25]]) 8 mixed (.then (.then .ret)) (by kernel_rfl)<|d_pv 0 rfl rfl (by kernel_rfl) (by kernel_rfl) rfl rfl (zg Tryz.underlying40 rfl sz4 rfl rfl)<|d_uw 1 rfl rfl (by kernel_rfl) (by kernel_rfl) (by kernel_rfl) rfl rfl (zf 2 ty4 rfl rfl rfl)<|d_pv 2 rfl rfl (by kernel_rfl) (by kernel_rfl) rfl rfl (zg Tryz.underlying40 rfl sz38 rfl rfl)<|d_uw 3 rfl rfl (by kernel_rfl) (by kernel_rfl) (by kernel_rfl) rfl rfl (zf 2 ty38 rfl rfl rfl)<|d_pv 4 rfl rfl (by kernel_rfl) (by kernel_rfl) rfl rfl (zg Tryz.underlying40 rfl sz38 rfl rfl)<|d_uw 5 rfl rfl (by kernel_rfl) (by kernel_rfl) (by kernel_rfl) rfl rfl (zf 1 ty38 rfl rfl rfl)<|zV 6 (by kernel_rfl) (zW rfl rfl rfl rfl (.c rfl (.c rfl .n)) ce104 (zNe (a:=(Big.raw s l1).natAbs) (b:=(Big.raw t l2).natAbs) (p1:=p24) (c1:=c25) (p2:=p26) (c2:=c27) (hb1:=by first|rfl|assumption|omega|(unfold Big.ln;omega)|(simp;done)|(simp;omega)|(simp_all;done)) (hb2:=by first|rfl|assumption|omega|(unfold Big.ln;omega)|(simp;done)|(simp;omega)|(simp_all;done))) (.c (j:=1) rfl (.c (j:=0) rfl .n)) ?_)
  rintro ⟨p38,c39⟩ -
  dsimp only [List.append_eq,List.nil_append,List.cons_append]
  refine zV 7 (by kernel_rfl) (zW rfl rfl rfl rfl (.c rfl (.c rfl .n)) ce103 (zXa (s:=decide ((Big.raw s l1)<0)) (a:=((Big.raw s l1).natAbs)+((Big.raw t l2).natAbs)) (p:=p38) (cap:=c39) (hln:=by have:=Big.len_add (Big.raw s l1).natAbs (Big.raw t l2).natAbs;omega)) (.c (j:=0) rfl .n) ?_)
  rintro ⟨p210,c211⟩ -
  dsimp only [List.append_eq,List.nil_append,List.cons_append]
  refine zV 8 (by kernel_rfl) (zN (by kernel_rfl) rfl rfl rfl rfl rfl sz40 rfl (.take (.take .nil)) ?_)
  refine zfa (by kernel_rfl)<|ze<|zG<|zq ?_
  have hz:=Big.add_same hst
  exact zB Tryz.results72 (p210,c211) trivial (zv 0 ty40 rfl rfl (.take (.take .nil))) (by rw [hz]) (ho:=(.n:PickO _ _ _)) ((.e (j:=0) rfl (by rw [hz]) .n):SelR _ _ _)
 ·
  refine zy<|ze<|zh<|zh<|zc<|r_pv rfl rfl (zg Tryz.underlying40 rfl sz38 rfl rfl)<|r_u rfl rfl (zf 1 ty38 rfl rfl rfl)<|r_pv rfl rfl (zg Tryz.underlying40 rfl sz38 rfl rfl)<|r_u rfl rfl (zf 0 ty38 rfl rfl rfl)<|zQ rfl rfl (.c rfl (.c rfl .n)) ce105 (zic (a:=(Big.raw s l1).natAbs) (b:=(Big.raw t l2).natAbs) (p1:=p24) (c1:=c25) (p2:=p26) (c2:=c27)) (.c (j:=1) rfl (.c (j:=0) rfl .n))<|r_pv rfl rfl (zBa rfl rfl)<|zj<|ze<|zD rfl (fun hcmp=> ?_) (fun hcmp=> ?_)
  ·
   have hab:(Big.raw t l2).natAbs≤(Big.raw s l1).natAbs:=by have:=Big.cmp_ge.1 hcmp;omega
   refine zh<|zAa (.c (i:=2) rfl (.c (i:=0) rfl (.c (i:=0) rfl .n)))<|zla (OW:=[boxA b3 40 [.bool false,.slice none 0 0]]) (O:=[boxA b2 40 [.bool (decide ((Big.raw t l2)<0)),.slice p26 ((Big.digs ((Big.raw t l2).natAbs)).length) c27],boxA b1 40 [.bool (decide ((Big.raw s l1)<0)),.slice p24 ((Big.digs ((Big.raw s l1).natAbs)).length) c25]]) 8 mixed (.then (.then .ret)) (by kernel_rfl)<|d_pv 0 rfl rfl (by kernel_rfl) (by kernel_rfl) rfl rfl (zg Tryz.underlying40 rfl sz4 rfl rfl)<|d_uw 1 rfl rfl (by kernel_rfl) (by kernel_rfl) (by kernel_rfl) rfl rfl (zf 2 ty4 rfl rfl rfl)<|d_pv 2 rfl rfl (by kernel_rfl) (by kernel_rfl) rfl rfl (zg Tryz.underlying40 rfl sz38 rfl rfl)<|d_uw 3 rfl rfl (by kernel_rfl) (by kernel_rfl) (by kernel_rfl) rfl rfl (zf 2 ty38 rfl rfl rfl)<|d_pv 4 rfl rfl (by kernel_rfl) (by kernel_rfl) rfl rfl (zg Tryz.underlying40 rfl sz38 rfl rfl)<|d_uw 5 rfl rfl (by kernel_rfl) (by kernel_rfl) (by kernel_rfl) rfl rfl (zf 1 ty38 rfl rfl rfl)<|zV 6 (by kernel_rfl) (zW rfl rfl rfl rfl (.c rfl (.c rfl .n)) ce106 (zvb (a:=(Big.raw s l1).natAbs) (b:=(Big.raw t l2).natAbs) (p1:=p24) (c1:=c25) (p2:=p26) (c2:=c27) (hb1:=by first|rfl|assumption|omega|(unfold Big.ln;omega)|(simp;done)|(simp;omega)|(simp_all;done)) (hb2:=by first|rfl|assumption|omega|(unfold Big.ln;omega)|(simp;done)|(simp;omega)|(simp_all;done)) (hab:=by first|rfl|assumption|omega|(unfold Big.ln;omega)|(simp;done)|(simp;omega)|(simp_all;done))) (.c (j:=1) rfl (.c (j:=0) rfl .n)) ?_)
   rintro ⟨p312,c313⟩ -
   dsimp only [List.append_eq,List.nil_append,List.cons_append]
   refine zV 7 (by kernel_rfl) (zW rfl rfl rfl rfl (.c rfl (.c rfl .n)) ce103 (zXa (s:=decide ((Big.raw s l1)<0)) (a:=((Big.raw s l1).natAbs) - ((Big.raw t l2).natAbs)) (p:=p312) (cap:=c313) (hln:=by have:=Big.len_sub (Big.raw s l1).natAbs (Big.raw t l2).natAbs;omega)) (.c (j:=0) rfl .n) ?_)
   rintro ⟨p214,c215⟩ -
   dsimp only [List.append_eq,List.nil_append,List.cons_append]
   refine zV 8 (by kernel_rfl) (zN (by kernel_rfl) rfl rfl rfl rfl rfl sz40 rfl (.take (.take .nil)) ?_)
   refine zfa (by kernel_rfl)<|ze<|zG<|zq ?_
   have hz:=Big.add_ge hst hab
   exact zB Tryz.results72 (p214,c215) trivial (zv 0 ty40 rfl rfl (.take (.take .nil))) (by rw [hz]) (ho:=(.n:PickO _ _ _)) ((.e (j:=0) rfl (by rw [hz]) .n):SelR _ _ _)
  ·
   have hab:(Big.raw s l1).natAbs≤(Big.raw t l2).natAbs:=by have:¬((Big.raw t l2).natAbs:Int)≤(Big.raw s l1).natAbs:=fun h=>hcmp (Big.cmp_ge.2 h);omega
   refine zy<|ze<|zh<|zAa (.c (i:=2) rfl (.c (i:=0) rfl (.c (i:=0) rfl .n)))<|zla (OW:=[boxA b3 40 [.bool false,.slice none 0 0]]) (O:=[boxA b2 40 [.bool (decide ((Big.raw t l2)<0)),.slice p26 ((Big.digs ((Big.raw t l2).natAbs)).length) c27],boxA b1 40 [.bool (decide ((Big.raw s l1)<0)),.slice p24 ((Big.digs ((Big.raw s l1).natAbs)).length) c25]]) 8 mixed (.then .ret) (by kernel_rfl)<|d_pv 0 rfl rfl (by kernel_rfl) (by kernel_rfl) rfl rfl (zg Tryz.underlying40 rfl sz4 rfl rfl)<|d_uw 1 rfl rfl (by kernel_rfl) (by kernel_rfl) (by kernel_rfl) rfl rfl (zf 1 ty4 rfl rfl rfl)<|d_pv 2 rfl rfl (by kernel_rfl) (by kernel_rfl) rfl rfl (zg Tryz.underlying40 rfl sz38 rfl rfl)<|d_uw 3 rfl rfl (by kernel_rfl) (by kernel_rfl) (by kernel_rfl) rfl rfl (zf 1 ty38 rfl rfl rfl)<|d_pv 4 rfl rfl (by kernel_rfl) (by kernel_rfl) rfl rfl (zg Tryz.underlying40 rfl sz38 rfl rfl)<|d_uw 5 rfl rfl (by kernel_rfl) (by kernel_rfl) (by kernel_rfl) rfl rfl (zf 2 ty38 rfl rfl rfl)<|zV 6 (by kernel_rfl) (zW rfl rfl rfl rfl (.c rfl (.c rfl .n)) ce106 (zvb (a:=(Big.raw t l2).natAbs) (b:=(Big.raw s l1).natAbs) (p1:=p26) (c1:=c27) (p2:=p24) (c2:=c25) (hb1:=by first|rfl|assumption|omega|(unfold Big.ln;omega)|(simp;done)|(simp;omega)|(simp_all;done)) (hb2:=by first|rfl|assumption|omega|(unfold Big.ln;omega)|(simp;done)|(simp;omega)|(simp_all;done)) (hab:=by first|rfl|assumption|omega|(unfold Big.ln;omega)|(simp;done)|(simp;omega)|(simp_all;done))) (.c (j:=0) rfl (.c (j:=1) rfl .n)) ?_)
   rintro ⟨p316,c317⟩ -
   dsimp only [List.append_eq,List.nil_append,List.cons_append]
   refine zV 7 (by kernel_rfl) (zW rfl rfl rfl rfl (.c rfl (.c rfl .n)) ce103 (zXa (s:=decide ((Big.raw t l2)<0)) (a:=((Big.raw t l2).natAbs) - ((Big.raw s l1).natAbs)) (p:=p316) (cap:=c317) (hln:=by have:=Big.len_sub (Big.raw t l2).natAbs (Big.raw s l1).natAbs;omega)) (.c (j:=0) rfl .n) ?_)
   rintro ⟨p218,c219⟩ -
   dsimp only [List.append_eq,List.nil_append,List.cons_append]
   refine zV 8 (by kernel_rfl) (zN (by kernel_rfl) rfl rfl rfl rfl rfl sz40 rfl (.take (.take .nil)) ?_)
   refine zfa (by kernel_rfl)<|ze<|zG ?_
   have hz:=Big.add_lt hst hab
   exact zB Tryz.results72 (p218,c219) trivial (zv 0 ty40 rfl rfl (.take (.take .nil))) (by rw [hz]) (ho:=(.n:PickO _ _ _)) ((.e (j:=0) rfl (by rw [hz]) .n):SelR _ _ _)
theorem zPe {x1:Int} {x2:Int} {p1:Option Addr} {c1:Nat} {p2:Option Addr} {c2:Nat} (hb1:Big.ln x1≤1099511627776) (hb2:Big.ln x2≤1099511627776):Con Tryz.prog 72 [.agg #[.bool (decide ((x1)<0)),.slice (p1) ((Big.digs ((x1).natAbs)).length) (c1)],.agg #[.bool (decide ((x2)<0)),.slice (p2) ((Big.digs ((x2).natAbs)).length) (c2)]] [] [slF (rI .u32) (p1) (c1) (Big.digs ((x1).natAbs)),slF (rI .u32) (p2) (c2) (Big.digs ((x2).natAbs))] (Y:=(Option Addr)×(Nat)) (fun y=>True) (fun y=> .agg #[.bool (decide ((x1+x2)<0)),.slice (y.1) ((Big.digs ((x1+x2).natAbs)).length) (y.2)]) (fun y=>[]) (fun y=>[slF (rI .u32) (y.1) (y.2) (Big.digs ((x1+x2).natAbs))]):=by
  have h:= @zOd (decide ((x1)<0)) p1 (Big.digs (x1).natAbs).length c1 (Big.digs (x1).natAbs) (decide ((x2)<0)) p2 (Big.digs (x2).natAbs).length c2 (Big.digs (x2).natAbs) rfl rfl hb1 hb2
  rw [Big.raw_big,Big.raw_big] at h
  exact h
theorem zQe {w1:Wd} {w2:Wd} {x1:Int} {x2:Int} (hb1:Big.ln x1≤1099511627776) (hb2:Big.ln x2≤1099511627776):Con Tryz.prog 72 [.agg #[w1.b,w1.l],.agg #[w2.b,w2.l]] [] [zF w1 (x1),zF w2 (x2)] (Y:=(Wd)) (fun y=>True) (fun y=> .agg #[y.b,y.l]) (fun y=>[]) (fun y=>[zF y (x1+x2)]):=by
  exact zUb (zwc (fun p1 c1 p2 c2=>zPe hb1 hb2))
theorem zPd {s:Bool} {p1:Option Addr} {n1:Nat} {c1:Nat} {l1:List Int} {t:Bool} {p2:Option Addr} {n2:Nat} {c2:Nat} {l2:List Int} (hn1:l1.length=n1) (hn2:l2.length=n2) (hm1:n1≤1099511627776) (hm2:n2≤1099511627776):Con Tryz.prog 110 [.agg #[.bool s,.slice p1 n1 c1],.agg #[.bool t,.slice p2 n2 c2]] [] [slF (rI .u32) p1 c1 l1,slF (rI .u32) p2 c2 l2] (Y:=(Option Addr)×Nat) (fun y=>True) (fun y=> .agg #[.bool (decide ((Big.raw s l1 - Big.raw t l2)<0)),.slice (y.1) ((Big.digs ((Big.raw s l1 - Big.raw t l2).natAbs)).length) (y.2)]) (fun y=>[]) (fun y=>[slF (rI .u32) (y.1) (y.2) (Big.digs ((Big.raw s l1 - Big.raw t l2).natAbs))]):=by
 refine zp Tryz.func110 rfl rfl rfl (fun c=> ?_)
 show RunC _ _ _ _ _ [(0,.agg #[.bool s,.slice p1 n1 c1]),(1,.agg #[.bool t,.slice p2 n2 c2])] [] [slF (rI .u32) p1 c1 l1,slF (rI .u32) p2 c2 l2]
 refine zea 0 rfl (fun hL0=> ?_)
 refine zbb 0 rfl (fun hE0=> ?_)
 refine zea 1 rfl (fun hL1=> ?_)
 refine zbb 1 rfl (fun hE1=> ?_)
 have hnn1:Big.nn l1:=fun g hg=>(zw.1 (hE0 g hg)).1
 have hnn2:Big.nn l2:=fun g hg=>(zw.1 (hE1 g hg)).1
 have hb1:Big.ln (Big.raw s l1)≤n1:=by have:=Big.zab (s:=s) hnn1;omega
 have hb2:Big.ln (Big.raw t l2)≤n2:=by have:=Big.zab (s:=t) hnn2;omega
 unfold Big.ln at hb1 hb2
 refine zh<|zc<|zS rfl rfl (zX rfl rfl) (fun b1=> ?_)
 refine zS rfl rfl (zX rfl rfl) (fun b2=> ?_)
 refine zS rfl rfl (zI zr40 rfl) (fun b3=> ?_)
 refine zj<|ze<|zh<|zla (OW:=[boxA b3 40 [.bool false,.slice none 0 0]]) (O:=[boxA b2 40 [.bool t,.slice p2 n2 c2],boxA b1 40 [.bool s,.slice p1 n1 c1]]) 4 mixed (.then .ret) (by kernel_rfl)<|d_uw 0 rfl rfl (by kernel_rfl) (by kernel_rfl) (by kernel_rfl) rfl rfl (zi 2 ty40 rfl rfl (.take (.take .nil)))<|d_uw 1 rfl rfl (by kernel_rfl) (by kernel_rfl) (by kernel_rfl) rfl rfl (zi 1 ty40 rfl rfl (.take (.take .nil)))<|zV 2 (by kernel_rfl) (zW rfl rfl rfl rfl (.c rfl .n) ce74 (zNd (s:=t) (p:=p2) (n:=n2) (cap:=c2) (l:=l2) (hn:=by assumption) (hln:=by assumption)) (.c (j:=1) rfl .n) ?_)
 rintro ⟨p24,c25⟩ -
 dsimp only [List.append_eq,List.nil_append,List.cons_append]
 refine zV 3 (by kernel_rfl) (zW rfl rfl rfl rfl (.c rfl (.c rfl .n)) ce72 (zOd (s:=s) (p1:=p1) (n1:=n1) (c1:=c1) (l1:=l1) (t:=decide ((- Big.raw t l2)<0)) (p2:=p24) (n2:=(Big.digs ((- Big.raw t l2).natAbs)).length) (c2:=c25) (l2:=Big.digs ((- Big.raw t l2).natAbs)) (hn1:=by assumption) (hn2:=by first|rfl|assumption|omega|(rw [Int.natAbs_neg];omega)) (hm1:=by assumption) (hm2:=by first|rfl|assumption|omega|(rw [Int.natAbs_neg];omega))) (.c (j:=1) rfl (.c (j:=0) rfl .n)) ?_)
 rintro ⟨p36,c37⟩ -
 dsimp only [List.append_eq,List.nil_append,List.cons_append]
 refine zV 4 (by kernel_rfl) (zN (by kernel_rfl) rfl rfl rfl rfl rfl sz40 rfl (.take (.take .nil)) ?_)
 refine zfa (by kernel_rfl)<|ze<|zG ?_
 have hz:Big.raw s l1+Big.raw (decide ((- Big.raw t l2)<0)) (Big.digs (- Big.raw t l2).natAbs)=Big.raw s l1 - Big.raw t l2:=by rw [Big.raw_big];omega
 exact zB Tryz.results110 (p36,c37) trivial (zv 0 ty40 rfl rfl (.take (.take .nil))) (by rw [hz]) (ho:=(.n:PickO _ _ _)) ((.e (j:=0) rfl (by rw [hz]) .n):SelR _ _ _)
theorem zGb {x1:Int} {x2:Int} {p1:Option Addr} {c1:Nat} {p2:Option Addr} {c2:Nat} (hb1:Big.ln x1≤1099511627776) (hb2:Big.ln x2≤1099511627776):Con Tryz.prog 110 [.agg #[.bool (decide ((x1)<0)),.slice (p1) ((Big.digs ((x1).natAbs)).length) (c1)],.agg #[.bool (decide ((x2)<0)),.slice (p2) ((Big.digs ((x2).natAbs)).length) (c2)]] [] [slF (rI .u32) (p1) (c1) (Big.digs ((x1).natAbs)),slF (rI .u32) (p2) (c2) (Big.digs ((x2).natAbs))] (Y:=(Option Addr)×(Nat)) (fun y=>True) (fun y=> .agg #[.bool (decide ((x1 - x2)<0)),.slice (y.1) ((Big.digs ((x1 - x2).natAbs)).length) (y.2)]) (fun y=>[]) (fun y=>[slF (rI .u32) (y.1) (y.2) (Big.digs ((x1 - x2).natAbs))]):=by
  have h:= @zPd (decide ((x1)<0)) p1 (Big.digs (x1).natAbs).length c1 (Big.digs (x1).natAbs) (decide ((x2)<0)) p2 (Big.digs (x2).natAbs).length c2 (Big.digs (x2).natAbs) rfl rfl hb1 hb2
  rw [Big.raw_big,Big.raw_big] at h
  exact h
theorem zlf {s:Bool} {p1:Option Addr} {n1:Nat} {c1:Nat} {l1:List Int} {t:Bool} {p2:Option Addr} {n2:Nat} {c2:Nat} {l2:List Int} (hn1:l1.length=n1) (hn2:l2.length=n2) (hm1:n1≤1099511627776) (hm2:n2≤1099511627776):Con Tryz.prog 73 [.agg #[.bool s,.slice p1 n1 c1],.agg #[.bool t,.slice p2 n2 c2]] [] [slF (rI .u32) p1 c1 l1,slF (rI .u32) p2 c2 l2] (Y:=(Option Addr)×Nat) (fun y=>True) (fun y=> .agg #[.bool (decide ((Big.raw s l1*Big.raw t l2)<0)),.slice (y.1) ((Big.digs ((Big.raw s l1*Big.raw t l2).natAbs)).length) (y.2)]) (fun y=>[]) (fun y=>[slF (rI .u32) (y.1) (y.2) (Big.digs ((Big.raw s l1*Big.raw t l2).natAbs))]):=by
 refine zp Tryz.func73 rfl rfl rfl (fun c=> ?_)
 show RunC _ _ _ _ _ [(0,.agg #[.bool s,.slice p1 n1 c1]),(1,.agg #[.bool t,.slice p2 n2 c2])] [] [slF (rI .u32) p1 c1 l1,slF (rI .u32) p2 c2 l2]
 refine zea 0 rfl (fun hL0=> ?_)
 refine zbb 0 rfl (fun hE0=> ?_)
 refine zea 1 rfl (fun hL1=> ?_)
 refine zbb 1 rfl (fun hE1=> ?_)
 have hnn1:Big.nn l1:=fun g hg=>(zw.1 (hE0 g hg)).1
 have hnn2:Big.nn l2:=fun g hg=>(zw.1 (hE1 g hg)).1
 have hb1:Big.ln (Big.raw s l1)≤n1:=by have:=Big.zab (s:=s) hnn1;omega
 have hb2:Big.ln (Big.raw t l2)≤n2:=by have:=Big.zab (s:=t) hnn2;omega
 unfold Big.ln at hb1 hb2
 have hoa:=Big.digs_ok (Big.raw s l1).natAbs
 have hob:=Big.digs_ok (Big.raw t l2).natAbs
 refine zh<|zc<|zS rfl rfl (zX rfl rfl) (fun b1=> ?_)
 refine zS rfl rfl (zX rfl rfl) (fun b2=> ?_)
 refine zS rfl rfl (zI zr40 rfl) (fun b3=> ?_)
 refine zj<|ze<|zh<|zAa (.c (i:=2) rfl (.c (i:=1) rfl (.c (i:=0) rfl .n)))<|zla (OW:=[boxA b1 40 [.bool s,.slice p1 n1 c1],boxA b2 40 [.bool t,.slice p2 n2 c2]]) (O:=[boxA b3 40 [.bool false,.slice none 0 0]]) 4 mixed (.then .ret) (by kernel_rfl)<|d_uw 0 rfl rfl (by kernel_rfl) (by kernel_rfl) (by kernel_rfl) rfl rfl (zi 0 ty40 rfl rfl (.take (.take .nil)))<|d_uw 2 rfl rfl (by kernel_rfl) (by kernel_rfl) (by kernel_rfl) rfl rfl (zi 1 ty40 rfl rfl (.take (.take .nil)))<|zV 1 (by kernel_rfl) (zW rfl rfl rfl rfl (.c rfl .n) ce102 (zLa (s:=s) (p:=p1) (n:=n1) (cap:=c1) (l:=l1) (hn:=by assumption) (hln:=by assumption)) (.c (j:=0) rfl .n) ?_)
 rintro ⟨p24,c25⟩ -
 dsimp only [List.append_eq,List.nil_append,List.cons_append]
 refine zV 3 (by kernel_rfl) (zW rfl rfl rfl rfl (.c rfl .n) ce102 (zLa (s:=t) (p:=p2) (n:=n2) (cap:=c2) (l:=l2) (hn:=by assumption) (hln:=by assumption)) (.c (j:=2) rfl .n) ?_)
 rintro ⟨p26,c27⟩ -
 dsimp only [List.append_eq,List.nil_append,List.cons_append]
 refine zV 4 (by kernel_rfl) (zN (by kernel_rfl) rfl rfl rfl rfl rfl sz40 rfl (.take (.take .nil)) ?_)
 refine zOa (zqa (i:=1) rfl)<|zV 5 (by kernel_rfl) (zN (by kernel_rfl) rfl rfl rfl rfl rfl sz40 rfl (.take (.take .nil)) ?_)
 refine zfa (by kernel_rfl)<|ze<|zh<|zc<|r_pv rfl rfl (zg Tryz.underlying40 rfl sz38 rfl rfl)<|r_u rfl rfl (zf 1 ty38 rfl rfl rfl)<|r_pv rfl rfl (zM Tryz.underlying38 rfl)<|r_pv rfl rfl (zg Tryz.underlying40 rfl sz38 rfl rfl)<|r_u rfl rfl (zf 0 ty38 rfl rfl rfl)<|r_pv rfl rfl (zM Tryz.underlying38 rfl)<|r_pv rfl rfl (zz (z:=(((((Big.digs ((Big.raw s l1).natAbs)).length)+((Big.digs ((Big.raw t l2).natAbs)).length)):Nat):Int)) rfl rfl (w64 (by omega)))<|zra rfl rfl (zSa (r:=rI .u32) (k:=(((Big.digs ((Big.raw s l1).natAbs)).length)+((Big.digs ((Big.raw t l2).natAbs)).length))) (x0:=0) (γ0:=()) Tryz.underlying38 inf105 rfl rfl rfl rfl (by omega) (by omega) rfl (fun _ _=>by exact zw.2 (by decide)) (by decide)) (fun b8 _=> ?_)
 refine r_pv rfl rfl (zd rfl)<|zj<|ze<|zh<|zh<|zc<|r_pv rfl rfl (zd rfl)<|zj<|ze<|zx<|zka (X:=Nat×(List Int)) (fun x:Nat×(List Int)=>x.1≤(Big.digs (Big.raw s l1).natAbs).length∧x.2.length=(Big.digs (Big.raw s l1).natAbs).length+(Big.digs (Big.raw t l2).natAbs).length∧Big.okL x.2∧(∀k,x.1+(Big.digs (Big.raw t l2).natAbs).length≤k→x.2.getD k 0=0)∧Big.valL x.2=Big.valL ((Big.digs (Big.raw s l1).natAbs).take x.1)*Big.valL (Big.digs (Big.raw t l2).natAbs)) (fun x=>[(6,.int .i64 ((x.1:Nat):Int)),(5,.slice (some ⟨b8,0,none⟩) (((Big.digs ((Big.raw s l1).natAbs)).length)+((Big.digs ((Big.raw t l2).natAbs)).length)) (((Big.digs ((Big.raw s l1).natAbs)).length)+((Big.digs ((Big.raw t l2).natAbs)).length))),(4,.pointer (some ⟨b3,0,none⟩)),(3,.pointer (some ⟨b2,0,none⟩)),(2,.pointer (some ⟨b1,0,none⟩))]) (fun x=>[rowA 105 (rI .u32) (some ⟨b8,0,none⟩) (((Big.digs ((Big.raw s l1).natAbs)).length)+((Big.digs ((Big.raw t l2).natAbs)).length)) (x.2),boxA b2 40 [.bool (decide ((Big.raw t l2)<0)),.slice p26 ((Big.digs ((Big.raw t l2).natAbs)).length) c27],boxA b1 40 [.bool (decide ((Big.raw s l1)<0)),.slice p24 ((Big.digs ((Big.raw s l1).natAbs)).length) c25],boxA b3 40 [.bool false,.slice none 0 0]]) (fun x=>[slF (rI .u32) p26 c27 (Big.digs ((Big.raw t l2).natAbs)),slF (rI .u32) p24 c25 (Big.digs ((Big.raw s l1).natAbs)),slF (rI .u32) p1 c1 l1,slF (rI .u32) p2 c2 l2]) (fun x:Nat×(List Int)=>(Big.digs (Big.raw s l1).natAbs).length - x.1) (0,List.replicate ((Big.digs (Big.raw s l1).natAbs).length+(Big.digs (Big.raw t l2).natAbs).length) 0) (show 0≤(Big.digs (Big.raw s l1).natAbs).length∧(List.replicate ((Big.digs (Big.raw s l1).natAbs).length+(Big.digs (Big.raw t l2).natAbs).length) 0).length=(Big.digs (Big.raw s l1).natAbs).length+(Big.digs (Big.raw t l2).natAbs).length∧Big.okL (List.replicate ((Big.digs (Big.raw s l1).natAbs).length+(Big.digs (Big.raw t l2).natAbs).length) 0)∧(∀k,0+(Big.digs (Big.raw t l2).natAbs).length≤k→(List.replicate ((Big.digs (Big.raw s l1).natAbs).length+(Big.digs (Big.raw t l2).natAbs).length) 0).getD k 0=0)∧Big.valL (List.replicate ((Big.digs (Big.raw s l1).natAbs).length+(Big.digs (Big.raw t l2).natAbs).length) 0)=Big.valL ((Big.digs (Big.raw s l1).natAbs).take 0)*Big.valL (Big.digs (Big.raw t l2).natAbs) from by exact ⟨by omega,by simp,Big.okL_zeros _,fun k _=>Big.getD_zeros _ k,by simp [Big.valL_zeros,Big.valL]⟩) ((.e rfl (by first|rfl|(congr 1;omega)|simp_all) (.of rfl)):SubM _ _) (ho:=((.e (i:=0) rfl (by first|rfl|(congr 1;omega)|simp_all) (.of [0,0,0] rfl)):PickO _ _ _)) ((.of [0,1,2,3] rfl):SelR _ _ _) ?_
 rintro ⟨i,os⟩ hI
 replace hI:i≤(Big.digs (Big.raw s l1).natAbs).length∧os.length=(Big.digs (Big.raw s l1).natAbs).length+(Big.digs (Big.raw t l2).natAbs).length∧Big.okL os∧(∀k,i+(Big.digs (Big.raw t l2).natAbs).length≤k→os.getD k 0=0)∧Big.valL os=Big.valL ((Big.digs (Big.raw s l1).natAbs).take i)*Big.valL (Big.digs (Big.raw t l2).natAbs):=hI
 try dsimp only
 obtain ⟨hi,hol,hok,hz,hv⟩:=hI
 have hg1:=Big.okL_getD hoa i
 refine zh<|zh<|zc<|r_pv rfl rfl (zb rfl)<|r_pv rfl rfl (zg Tryz.underlying40 rfl sz38 rfl rfl)<|r_u rfl rfl (zf 2 ty38 rfl rfl rfl)<|r_pv rfl rfl (zM Tryz.underlying38 rfl)<|r_pv rfl rfl (zY rfl rfl)<|zj<|ze<|zD rfl (fun h9=> ?_) (fun h9=> ?_)
 ·
  refine zy<|ze<|zh<|zx<|zh<|zc<|r_pv rfl rfl (zd rfl)<|zj<|ze<|zh<|zh<|zc<|r_pv rfl rfl (zd rfl)<|zj<|ze<|zx<|zka (X:=Nat×(List Int)×Int) (fun x:Nat×(List Int)×Int=>x.1≤(Big.digs (Big.raw t l2).natAbs).length∧x.2.1.length=(Big.digs (Big.raw s l1).natAbs).length+(Big.digs (Big.raw t l2).natAbs).length∧Big.okL x.2.1∧0≤x.2.2∧x.2.2<1000000000∧(∀k,i+(Big.digs (Big.raw t l2).natAbs).length≤k→x.2.1.getD k 0=0)∧Big.valL x.2.1+Big.pw (i+x.1)*x.2.2=Big.valL ((Big.digs (Big.raw s l1).natAbs).take i)*Big.valL (Big.digs (Big.raw t l2).natAbs)+Big.pw i*(Big.digs (Big.raw s l1).natAbs).getD i 0*Big.valL ((Big.digs (Big.raw t l2).natAbs).take x.1)) (fun x=>[(7,.int .u64 (x.2.2)),(8,.int .i64 ((x.1:Nat):Int)),(6,.int .i64 ((i:Nat):Int)),(5,.slice (some ⟨b8,0,none⟩) (((Big.digs ((Big.raw s l1).natAbs)).length)+((Big.digs ((Big.raw t l2).natAbs)).length)) (((Big.digs ((Big.raw s l1).natAbs)).length)+((Big.digs ((Big.raw t l2).natAbs)).length))),(4,.pointer (some ⟨b3,0,none⟩)),(3,.pointer (some ⟨b2,0,none⟩)),(2,.pointer (some ⟨b1,0,none⟩))]) (fun x=>[rowA 105 (rI .u32) (some ⟨b8,0,none⟩) (((Big.digs ((Big.raw s l1).natAbs)).length)+((Big.digs ((Big.raw t l2).natAbs)).length)) (x.2.1),boxA b2 40 [.bool (decide ((Big.raw t l2)<0)),.slice p26 ((Big.digs ((Big.raw t l2).natAbs)).length) c27],boxA b1 40 [.bool (decide ((Big.raw s l1)<0)),.slice p24 ((Big.digs ((Big.raw s l1).natAbs)).length) c25],boxA b3 40 [.bool false,.slice none 0 0]]) (fun x=>[slF (rI .u32) p26 c27 (Big.digs ((Big.raw t l2).natAbs)),slF (rI .u32) p24 c25 (Big.digs ((Big.raw s l1).natAbs)),slF (rI .u32) p1 c1 l1,slF (rI .u32) p2 c2 l2]) (fun x:Nat×(List Int)×Int=>(Big.digs (Big.raw t l2).natAbs).length - x.1) (0,os,0) (show 0≤(Big.digs (Big.raw t l2).natAbs).length∧os.length=(Big.digs (Big.raw s l1).natAbs).length+(Big.digs (Big.raw t l2).natAbs).length∧Big.okL os∧0≤0∧0<1000000000∧(∀k,i+(Big.digs (Big.raw t l2).natAbs).length≤k→os.getD k 0=0)∧Big.valL os+Big.pw (i+0)*0=Big.valL ((Big.digs (Big.raw s l1).natAbs).take i)*Big.valL (Big.digs (Big.raw t l2).natAbs)+Big.pw i*(Big.digs (Big.raw s l1).natAbs).getD i 0*Big.valL ((Big.digs (Big.raw t l2).natAbs).take 0) from by exact ⟨by omega,hol,hok,by decide,by decide,hz,by rw [hv];simp [Big.valL]⟩) ((.c rfl (.e rfl (by first|rfl|(congr 1;omega)|simp_all) (.of rfl))):SubM _ _) (ho:=((.of [0,0,0,0] rfl):PickO _ _ _)) ((.of [0,1,2,3] rfl):SelR _ _ _) ?_
  rintro ⟨j,os2,cy⟩ hJ
  replace hJ:j≤(Big.digs (Big.raw t l2).natAbs).length∧os2.length=(Big.digs (Big.raw s l1).natAbs).length+(Big.digs (Big.raw t l2).natAbs).length∧Big.okL os2∧0≤cy∧cy<1000000000∧(∀k,i+(Big.digs (Big.raw t l2).natAbs).length≤k→os2.getD k 0=0)∧Big.valL os2+Big.pw (i+j)*cy=Big.valL ((Big.digs (Big.raw s l1).natAbs).take i)*Big.valL (Big.digs (Big.raw t l2).natAbs)+Big.pw i*(Big.digs (Big.raw s l1).natAbs).getD i 0*Big.valL ((Big.digs (Big.raw t l2).natAbs).take j):=hJ
  try dsimp only
  obtain ⟨hj,hol2,hok2,hcy0,hcy1,hz2,hv2⟩:=hJ
  have hg2:=Big.okL_getD hob j
  have hg3:=Big.okL_getD hok2 (i+j)
  have hpq:=Big.mul_lim hg1 hg2
  refine zh<|zh<|zc<|r_pv rfl rfl (zb rfl)<|r_pv rfl rfl (zg Tryz.underlying40 rfl sz38 rfl rfl)<|r_u rfl rfl (zf 1 ty38 rfl rfl rfl)<|r_pv rfl rfl (zM Tryz.underlying38 rfl)<|r_pv rfl rfl (zY rfl rfl)<|zj<|ze<|zD rfl (fun h10=> ?_) (fun h10=> ?_)
  ·
   refine zy<|ze<|zh<|zx<|zh<|zla (OW:=[]) (O:=[rowA 105 (rI .u32) (some ⟨b8,0,none⟩) (((Big.digs ((Big.raw s l1).natAbs)).length)+((Big.digs ((Big.raw t l2).natAbs)).length)) os2,boxA b2 40 [.bool (decide ((Big.raw t l2)<0)),.slice p26 ((Big.digs ((Big.raw t l2).natAbs)).length) c27],boxA b1 40 [.bool (decide ((Big.raw s l1)<0)),.slice p24 ((Big.digs ((Big.raw s l1).natAbs)).length) c25],boxA b3 40 [.bool false,.slice none 0 0]]) 100000 mixed (.then (.block (.then (.then (.block (.then (.block (.then (.then (.block (.then .ret))))))))))) (by kernel_rfl)<|d_pv 0 rfl rfl (by kernel_rfl) (by kernel_rfl) rfl rfl (zb rfl)<|d_pv 1 rfl rfl (by kernel_rfl) (by kernel_rfl) rfl rfl (zb rfl)<|d_pv 2 rfl rfl (by kernel_rfl) (by kernel_rfl) rfl rfl (zb rfl)<|d_pv 3 rfl rfl (by kernel_rfl) (by kernel_rfl) rfl rfl (zz (z:=(((i+j):Nat):Int)) rfl rfl (w64 (by omega)))<|d_pv 4 rfl rfl (by kernel_rfl) (by kernel_rfl) rfl rfl (zR (j:=(i+j)) Tryz.underlying38 sz105 rfl rfl rfl (by omega))<|d_vl 5 rfl rfl (by kernel_rfl) (by kernel_rfl) rfl rfl (zU 0 (i+j) rfl ty105 rfl rfl (gD (d:=0) (by omega)) rfl) (fun _ hok11=> ?_)
   replace hok11:=zw.1 hok11
   refine d_pv 6 rfl rfl (by kernel_rfl) (by kernel_rfl) rfl rfl (zA (z:=(os2.getD (i+j) 0)) rfl (by rw [Tryz.underlying105];rfl) Tryz.underlying102 (wu64 (by omega)))<|d_pv 7 rfl rfl (by kernel_rfl) (by kernel_rfl) rfl rfl (zg Tryz.underlying40 rfl sz38 rfl rfl)<|d_u 8 rfl rfl (by kernel_rfl) (by kernel_rfl) rfl rfl (zf 2 ty38 rfl rfl rfl)<|d_pv 9 rfl rfl (by kernel_rfl) (by kernel_rfl) rfl rfl (zb rfl)<|zja (x0:=((Big.digs ((Big.raw s l1).natAbs)).getD i 0)) 10 rfl rfl (by kernel_rfl) (by kernel_rfl) 1 i rfl Tryz.underlying38 sz105 rfl rfl rfl (by first|rfl|assumption|(simp;omega)|omega) rfl rfl (gD (d:=0) (by omega)) (fun b12 o13 hok14=> ?_)
   replace hok14:=zw.1 hok14
   refine d_u 11 rfl rfl (by kernel_rfl) (by kernel_rfl) rfl rfl (zn (j:=0) 0 ty105 rfl rfl rfl rfl)<|d_pv 12 rfl rfl (by kernel_rfl) (by kernel_rfl) rfl rfl (zA (z:=((Big.digs ((Big.raw s l1).natAbs)).getD i 0)) rfl (by rw [Tryz.underlying105];rfl) Tryz.underlying102 (wu64 (by omega)))<|d_pv 13 rfl rfl (by kernel_rfl) (by kernel_rfl) rfl rfl (zg Tryz.underlying40 rfl sz38 rfl rfl)<|d_u 14 rfl rfl (by kernel_rfl) (by kernel_rfl) rfl rfl (zf 1 ty38 rfl rfl rfl)<|d_pv 15 rfl rfl (by kernel_rfl) (by kernel_rfl) rfl rfl (zb rfl)<|zja (x0:=((Big.digs ((Big.raw t l2).natAbs)).getD j 0)) 16 rfl rfl (by kernel_rfl) (by kernel_rfl) 1 j rfl Tryz.underlying38 sz105 rfl rfl rfl (by first|rfl|assumption|(simp;omega)|omega) rfl rfl (gD (d:=0) (by omega)) (fun b15 o16 hok17=> ?_)
   replace hok17:=zw.1 hok17
   refine d_u 17 rfl rfl (by kernel_rfl) (by kernel_rfl) rfl rfl (zn (j:=0) 0 ty105 rfl rfl rfl rfl)<|d_pv 18 rfl rfl (by kernel_rfl) (by kernel_rfl) rfl rfl (zA (z:=((Big.digs ((Big.raw t l2).natAbs)).getD j 0)) rfl (by rw [Tryz.underlying105];rfl) Tryz.underlying102 (wu64 (by omega)))<|d_pv 19 rfl rfl (by kernel_rfl) (by kernel_rfl) rfl rfl (zna (z:=(((Big.digs ((Big.raw s l1).natAbs)).getD i 0)*((Big.digs ((Big.raw t l2).natAbs)).getD j 0))) rfl rfl (wu64 (by omega)))<|d_pv 20 rfl rfl (by kernel_rfl) (by kernel_rfl) rfl rfl (zz (z:=((os2.getD (i+j) 0)+(((Big.digs ((Big.raw s l1).natAbs)).getD i 0)*((Big.digs ((Big.raw t l2).natAbs)).getD j 0)))) rfl rfl (wu64 (by omega)))<|d_pv 21 rfl rfl (by kernel_rfl) (by kernel_rfl) rfl rfl (zb rfl)<|d_pv 22 rfl rfl (by kernel_rfl) (by kernel_rfl) rfl rfl (zz (z:=(((os2.getD (i+j) 0)+(((Big.digs ((Big.raw s l1).natAbs)).getD i 0)*((Big.digs ((Big.raw t l2).natAbs)).getD j 0)))+cy)) rfl rfl (wu64 (by omega)))<|d_pv 23 rfl rfl (by kernel_rfl) (by kernel_rfl) rfl rfl (zd rfl)<|zfa (by kernel_rfl)<|ze<|zh<|zc<|r_pv rfl rfl (zb rfl)<|r_pv rfl rfl (zb rfl)<|r_pv rfl rfl (zb rfl)<|r_pv rfl rfl (zz (z:=(((i+j):Nat):Int)) rfl rfl (w64 (by omega)))<|r_pv rfl rfl (zb rfl)<|r_pv rfl rfl (zGa (z:=((((os2.getD (i+j) 0)+(((Big.digs ((Big.raw s l1).natAbs)).getD i 0)*((Big.digs ((Big.raw t l2).natAbs)).getD j 0)))+cy)%1000000000)) rfl rfl (by omega) (remN (by omega) (by omega)))<|r_pv rfl rfl (zA (z:=((((os2.getD (i+j) 0)+(((Big.digs ((Big.raw s l1).natAbs)).getD i 0)*((Big.digs ((Big.raw t l2).natAbs)).getD j 0)))+cy)%1000000000)) rfl (by rw [Tryz.underlying102];rfl) Tryz.underlying105 (wu32 (by omega)))<|r_pv rfl rfl (zR (j:=(i+j)) Tryz.underlying38 sz105 rfl rfl rfl (by omega))<|zta 0 rfl rfl rfl (zO (j:=(i+j)) (x0:=((((os2.getD (i+j) 0)+(((Big.digs ((Big.raw s l1).natAbs)).getD i 0)*((Big.digs ((Big.raw t l2).natAbs)).getD j 0)))+cy)%1000000000)) (γ0:=()) rfl rfl (by first|omega|(rw [List.length_map];omega)|(simp only [List.length_set];omega)|(simp;omega)) rfl rfl sz105 (fun _ _=>by exact zw.2 (by omega))) (fun _=> .z) (fun _ _=> ?_)
   refine zj<|ze<|zc<|r_pv rfl rfl (zb rfl)<|r_pv rfl rfl (zFa (z:=((((os2.getD (i+j) 0)+(((Big.digs ((Big.raw s l1).natAbs)).getD i 0)*((Big.digs ((Big.raw t l2).natAbs)).getD j 0)))+cy) / 1000000000)) rfl rfl (by omega) (by rw [quoN (z:=((((os2.getD (i+j) 0)+(((Big.digs ((Big.raw s l1).natAbs)).getD i 0)*((Big.digs ((Big.raw t l2).natAbs)).getD j 0)))+cy) / 1000000000)) (by omega) (by omega)];exact wu64 (by omega)))<|r_pv rfl rfl (zd rfl)<|zj<|zP<|ze<|zc<|r_pv rfl rfl (zb rfl)<|r_pv rfl rfl (zz (z:=(((j+1):Nat):Int)) rfl rfl (w64 (by omega)))<|r_pv rfl rfl (zd rfl)<|zj<|zaa ((j+1),os2.set (i+j) ((os2.getD (i+j) 0+(Big.digs (Big.raw s l1).natAbs).getD i 0*(Big.digs (Big.raw t l2).natAbs).getD j 0+cy)%1000000000),(os2.getD (i+j) 0+(Big.digs (Big.raw s l1).natAbs).getD i 0*(Big.digs (Big.raw t l2).natAbs).getD j 0+cy) / 1000000000) (show (j+1)≤(Big.digs (Big.raw t l2).natAbs).length∧(os2.set (i+j) ((os2.getD (i+j) 0+(Big.digs (Big.raw s l1).natAbs).getD i 0*(Big.digs (Big.raw t l2).natAbs).getD j 0+cy)%1000000000)).length=(Big.digs (Big.raw s l1).natAbs).length+(Big.digs (Big.raw t l2).natAbs).length∧Big.okL (os2.set (i+j) ((os2.getD (i+j) 0+(Big.digs (Big.raw s l1).natAbs).getD i 0*(Big.digs (Big.raw t l2).natAbs).getD j 0+cy)%1000000000))∧0≤((os2.getD (i+j) 0+(Big.digs (Big.raw s l1).natAbs).getD i 0*(Big.digs (Big.raw t l2).natAbs).getD j 0+cy) / 1000000000)∧((os2.getD (i+j) 0+(Big.digs (Big.raw s l1).natAbs).getD i 0*(Big.digs (Big.raw t l2).natAbs).getD j 0+cy) / 1000000000)<1000000000∧(∀k,i+(Big.digs (Big.raw t l2).natAbs).length≤k→(os2.set (i+j) ((os2.getD (i+j) 0+(Big.digs (Big.raw s l1).natAbs).getD i 0*(Big.digs (Big.raw t l2).natAbs).getD j 0+cy)%1000000000)).getD k 0=0)∧Big.valL (os2.set (i+j) ((os2.getD (i+j) 0+(Big.digs (Big.raw s l1).natAbs).getD i 0*(Big.digs (Big.raw t l2).natAbs).getD j 0+cy)%1000000000))+Big.pw (i+(j+1))*((os2.getD (i+j) 0+(Big.digs (Big.raw s l1).natAbs).getD i 0*(Big.digs (Big.raw t l2).natAbs).getD j 0+cy) / 1000000000)=Big.valL ((Big.digs (Big.raw s l1).natAbs).take i)*Big.valL (Big.digs (Big.raw t l2).natAbs)+Big.pw i*(Big.digs (Big.raw s l1).natAbs).getD i 0*Big.valL ((Big.digs (Big.raw t l2).natAbs).take (j+1)) from by exact ⟨by omega,by simpa using hol2,Big.okL_set hok2 (by omega) (by omega),by omega,by omega,fun k hk=>by rw [Big.getD_set_ne (by omega)];exact hz2 k (by omega),Big.mul_step hv2 (by omega) (by omega)⟩) (by show (Big.digs (Big.raw t l2).natAbs).length - (j+1)<(Big.digs (Big.raw t l2).natAbs).length - j;omega) ((.e rfl (by first|rfl|(congr 1;omega)|simp_all) (.of rfl)):SubM _ _) (ho:=((.e (i:=0) rfl (by first|rfl|(congr 1;omega)|simp_all) (.of [0,0,0] rfl)):PickO _ _ _)) ((.of [2,3,4,5] rfl):SelR _ _ _)
  ·
   have hjb:j=(Big.digs (Big.raw t l2).natAbs).length:=by omega
   subst hjb
   have hv3:=hv2
   refine zha<|zm<|zm<|zu<|ze<|zc<|r_pv rfl rfl (zb rfl)<|r_pv rfl rfl (zb rfl)<|r_pv rfl rfl (zg Tryz.underlying40 rfl sz38 rfl rfl)<|r_u rfl rfl (zf 1 ty38 rfl rfl rfl)<|r_pv rfl rfl (zM Tryz.underlying38 rfl)<|r_pv rfl rfl (zz (z:=(((i+((Big.digs ((Big.raw t l2).natAbs)).length)):Nat):Int)) rfl rfl (w64 (by omega)))<|r_pv rfl rfl (zb rfl)<|r_pv rfl rfl (zA (z:=cy) rfl (by rw [Tryz.underlying102];rfl) Tryz.underlying105 (wu32 (by omega)))<|r_pv rfl rfl (zR (j:=(i+((Big.digs ((Big.raw t l2).natAbs)).length))) Tryz.underlying38 sz105 rfl rfl rfl (by omega))<|zta 0 rfl rfl rfl (zO (j:=(i+((Big.digs ((Big.raw t l2).natAbs)).length))) (x0:=cy) (γ0:=()) rfl rfl (by first|omega|(rw [List.length_map];omega)|(simp only [List.length_set];omega)|(simp;omega)) rfl rfl sz105 (fun _ _=>by exact zw.2 (by omega))) (fun _=> .z) (fun _ _=> ?_)
   refine zj<|zP<|ze<|zc<|r_pv rfl rfl (zb rfl)<|r_pv rfl rfl (zz (z:=(((i+1):Nat):Int)) rfl rfl (w64 (by omega)))<|r_pv rfl rfl (zd rfl)<|zj<|zaa ((i+1),os2.set (i+(Big.digs (Big.raw t l2).natAbs).length) cy) (show (i+1)≤(Big.digs (Big.raw s l1).natAbs).length∧(os2.set (i+(Big.digs (Big.raw t l2).natAbs).length) cy).length=(Big.digs (Big.raw s l1).natAbs).length+(Big.digs (Big.raw t l2).natAbs).length∧Big.okL (os2.set (i+(Big.digs (Big.raw t l2).natAbs).length) cy)∧(∀k,(i+1)+(Big.digs (Big.raw t l2).natAbs).length≤k→(os2.set (i+(Big.digs (Big.raw t l2).natAbs).length) cy).getD k 0=0)∧Big.valL (os2.set (i+(Big.digs (Big.raw t l2).natAbs).length) cy)=Big.valL ((Big.digs (Big.raw s l1).natAbs).take (i+1))*Big.valL (Big.digs (Big.raw t l2).natAbs) from by exact ⟨by omega,by simpa using hol2,Big.okL_set hok2 (by omega) (by omega),fun k hk=>by rw [Big.getD_set_ne (by omega)];exact hz2 k (by omega),Big.mul_round hv3 (by omega) (hz2 _ (Nat.le_refl _))⟩) (by show (Big.digs (Big.raw s l1).natAbs).length - (i+1)<(Big.digs (Big.raw s l1).natAbs).length - i;omega) ((.of rfl):SubM _ _) (ho:=((.e (i:=0) rfl (by first|rfl|(congr 1;omega)|simp_all) (.of [0,0,0] rfl)):PickO _ _ _)) ((.of [0,1,2,3] rfl):SelR _ _ _)
 ·
  have hia:i=(Big.digs (Big.raw s l1).natAbs).length:=by omega
  have hfin:Big.sg (decide (decide (Big.raw s l1<0)≠decide (Big.raw t l2<0))) (Big.valL os)=Big.raw s l1*Big.raw t l2:=by rw [hv,hia,List.take_length,Big.valL_digs,Big.valL_digs,←Int.natCast_mul,Big.sg_mul,Big.sg_big,Big.sg_big]
  refine zha<|zm<|zm<|zu<|ze<|zh<|zc<|r_pv rfl rfl (zg Tryz.underlying40 rfl sz4 rfl rfl)<|r_u rfl rfl (zf 2 ty4 rfl rfl rfl)<|r_pv rfl rfl (zg Tryz.underlying40 rfl sz4 rfl rfl)<|r_u rfl rfl (zf 1 ty4 rfl rfl rfl)<|r_pv rfl rfl (zNa Tryz.underlying4 rfl rfl)<|r_pv rfl rfl (zb rfl)<|zda 0 rfl .z<|zC rfl rfl (.c rfl (.c rfl .n)) ce103 (zEa (s:=decide (decide ((Big.raw s l1)<0)≠decide ((Big.raw t l2)<0))) (p:=some ⟨b8,0,none⟩) (n:=(((Big.digs ((Big.raw s l1).natAbs)).length)+((Big.digs ((Big.raw t l2).natAbs)).length))) (cap:=(((Big.digs ((Big.raw s l1).natAbs)).length)+((Big.digs ((Big.raw t l2).natAbs)).length))) (l:=os) (hn:=by first|rfl|assumption|omega|(unfold Big.ln;omega)|(simp;done)|(simp;omega)|(simp_all;done)) (ho:=by exact hok) (hln:=by first|rfl|assumption|omega|(unfold Big.ln;omega)|(simp;done)|(simp;omega)|(simp_all;done))) (.c (j:=0) rfl .n) ?_
  rintro ⟨p218,c219⟩ -
  dsimp only [List.append_eq,List.nil_append,List.cons_append]
  refine zr 3 rfl rfl rfl rfl rfl sz40 rfl (.take (.take .nil)) (.s (.s (.s .z)))<|zj<|ze<|zG ?_
  exact zB Tryz.results73 (p218,c219) trivial (zv 3 ty40 rfl rfl (.take (.take .nil))) (by rw [hfin]) (ho:=(.n:PickO _ _ _)) ((.e (j:=0) rfl (by rw [hfin]) .n):SelR _ _ _)
theorem zHb {x1:Int} {x2:Int} {p1:Option Addr} {c1:Nat} {p2:Option Addr} {c2:Nat} (hb1:Big.ln x1≤1099511627776) (hb2:Big.ln x2≤1099511627776):Con Tryz.prog 73 [.agg #[.bool (decide ((x1)<0)),.slice (p1) ((Big.digs ((x1).natAbs)).length) (c1)],.agg #[.bool (decide ((x2)<0)),.slice (p2) ((Big.digs ((x2).natAbs)).length) (c2)]] [] [slF (rI .u32) (p1) (c1) (Big.digs ((x1).natAbs)),slF (rI .u32) (p2) (c2) (Big.digs ((x2).natAbs))] (Y:=(Option Addr)×(Nat)) (fun y=>True) (fun y=> .agg #[.bool (decide ((x1*x2)<0)),.slice (y.1) ((Big.digs ((x1*x2).natAbs)).length) (y.2)]) (fun y=>[]) (fun y=>[slF (rI .u32) (y.1) (y.2) (Big.digs ((x1*x2).natAbs))]):=by
  have h:= @zlf (decide ((x1)<0)) p1 (Big.digs (x1).natAbs).length c1 (Big.digs (x1).natAbs) (decide ((x2)<0)) p2 (Big.digs (x2).natAbs).length c2 (Big.digs (x2).natAbs) rfl rfl hb1 hb2
  rw [Big.raw_big,Big.raw_big] at h
  exact h
theorem zjc {w1:Wd} {w2:Wd} {x1:Int} {x2:Int} (hb1:Big.ln x1≤1099511627776) (hb2:Big.ln x2≤1099511627776):Con Tryz.prog 73 [.agg #[w1.b,w1.l],.agg #[w2.b,w2.l]] [] [zF w1 (x1),zF w2 (x2)] (Y:=(Wd)) (fun y=>True) (fun y=> .agg #[y.b,y.l]) (fun y=>[]) (fun y=>[zF y (x1*x2)]):=by
  exact zUb (zwc (fun p1 c1 p2 c2=>zHb hb1 hb2))
end Go.Proofs.YtefbbhiaalcjfaaGreat.Sp
namespace Go.Proofs.YtefbbhiaalcjfaaGreat.Sp
open Go
set_option linter.unusedVariables false
set_option maxRecDepth 100000
set_option maxHeartbeats 1000000
theorem zzb {a:Nat} {d:Nat} {p0:Option Addr} {cap:Nat} (hb:(Big.digs a).length≤1099511627776) (hd:d<1000000000):Con Tryz.prog 125 [.slice p0 ((Big.digs a).length) cap,.int .u64 ((d:Nat):Int)] [] [slF (rI .u32) p0 cap (Big.digs a)] (Y:=(Option Addr)×Nat) (fun y=>True) (fun y=> .slice (y.1) ((Big.digs (a*d)).length) (y.2)) (fun y=>[]) (fun y=>[slF (rI .u32) (y.1) (y.2) (Big.digs (a*d))]):=by
 refine zp Tryz.func125 rfl rfl rfl (fun c=> ?_)
 show RunC _ _ _ _ _ [(0,.slice p0 ((Big.digs a).length) cap),(1,.int .u64 ((d:Nat):Int))] [] [slF (rI .u32) p0 cap (Big.digs a)]
 refine zea 0 rfl (fun hL0=> ?_)
 refine zh<|zc<|r_pv rfl rfl (zd rfl)<|zj<|ze<|zh<|zc<|zra rfl rfl (zma (rI .u32) Tryz.underlying38 inf105) (fun b1 _=> ?_)
 refine r_pv rfl rfl (zd rfl)<|zj<|ze<|zh<|zc<|r_pv rfl rfl (zd rfl)<|zj<|ze<|zh<|zh<|zc<|r_pv rfl rfl (zd rfl)<|zj<|ze<|zx<|zka (X:=Nat×(Option Addr)×Nat×(List Int)×Int) (fun x:Nat×(Option Addr)×Nat×(List Int)×Int=>Big.ScI (Big.digs a) (d:Int) x.1 x.2.2.2.1 x.2.2.2.2) (fun x=>[(6,.int .u64 (x.2.2.2.2)),(5,.slice (x.2.1) (x.2.2.2.1.length) (x.2.2.1)),(7,.int .i64 ((x.1:Nat):Int)),(4,.slice none 0 0),(0,.slice p0 ((Big.digs a).length) cap),(1,.int .u64 ((d:Nat):Int))]) (fun x=>[rowA 105 (rI .u32) (x.2.1) (x.2.2.1) (x.2.2.2.1)]) (fun x=>[slF (rI .u32) p0 cap (Big.digs a)]) (fun x:Nat×(Option Addr)×Nat×(List Int)×Int=>(Big.digs a).length - x.1) (0,some ⟨b1,0,none⟩,0,[],0) (show Big.ScI (Big.digs a) (d:Int) 0 ([]) 0 from by exact Big.ScI.start _ _) ((.c rfl (.e rfl (by first|rfl|(congr 1;omega)|simp_all) (.e rfl (by first|rfl|(congr 1;omega)|simp_all) (.of rfl)))):SubM _ _) (ho:=((.c (i:=0) rfl .n):PickO _ _ _)) ((.c (j:=0) rfl .n):SelR _ _ _) ?_
 rintro ⟨i,p,c,os,cy⟩ hI
 replace hI:Big.ScI (Big.digs a) (d:Int) i os cy:=hI
 try dsimp only
 have hi:=hI.le
 have hol:=hI.len
 have hc0:=hI.c0
 have hc1:=hI.c1
 have hg:=Big.okL_getD (Big.digs_ok a) i
 have hsl:=Big.sc_lim hg (show 0≤(d:Int)∧(d:Int)<1000000000 by omega) ⟨hc0,hc1⟩
 refine zh<|zh<|zc<|r_pv rfl rfl (zb rfl)<|r_pv rfl rfl (zb rfl)<|r_pv rfl rfl (zM Tryz.underlying38 rfl)<|r_pv rfl rfl (zY rfl rfl)<|zj<|ze<|zD rfl (fun h2=> ?_) (fun h2=> ?_)
 ·
  refine zy<|ze<|zh<|zx<|zh<|zc<|r_pv rfl rfl (zb rfl)<|r_pv rfl rfl (zb rfl)<|zL (x0:=((Big.digs a).getD i 0)) 0 i rfl Tryz.underlying38 sz105 rfl rfl rfl (by first|rfl|assumption|(simp;done)|(simp;omega)|omega) rfl rfl (gD (d:=0) (by omega)) (fun b3 o4 hok5=> ?_)
  replace hok5:=zw.1 hok5
  refine r_u rfl rfl (zn (j:=0) 0 ty105 rfl rfl rfl rfl)<|r_pv rfl rfl (zA (z:=((Big.digs a).getD i 0)) rfl (by rw [Tryz.underlying105];rfl) Tryz.underlying102 (wu64 (by omega)))<|r_pv rfl rfl (zb rfl)<|r_pv rfl rfl (zna (z:=(((Big.digs a).getD i 0)*((d:Nat):Int))) rfl rfl (wu64 (by omega)))<|r_pv rfl rfl (zb rfl)<|r_pv rfl rfl (zz (z:=((((Big.digs a).getD i 0)*((d:Nat):Int))+cy)) rfl rfl (wu64 (by omega)))<|r_pv rfl rfl (zd rfl)<|zj<|ze<|zh<|zc<|r_pv rfl rfl (zb rfl)<|r_pv rfl rfl (zb rfl)<|r_pv rfl rfl (zGa (z:=(((((Big.digs a).getD i 0)*((d:Nat):Int))+cy)%1000000000)) rfl rfl (by omega) (remN (by omega) (by omega)))<|r_pv rfl rfl (zA (z:=(((((Big.digs a).getD i 0)*((d:Nat):Int))+cy)%1000000000)) rfl (by rw [Tryz.underlying102];rfl) Tryz.underlying105 (wu32 (by omega)))<|zra rfl rfl (zE (enc:=fun z:Int=>[.int .u32 z]) (ok:=InK .u32) (h1:=fun _=>rfl) (h2:=fun _=>rfl) (k:=1) Tryz.underlying38 inf105 rfl (by decide) (by decide) (by decide) (.c (x:=(((((Big.digs a).getD i 0)*((d:Nat):Int))+cy)%1000000000)) rfl rfl (fun _ _=>by exact zw.2 (by omega)) .n)) (fun b6 _=> ?_)
  refine zda 0 rfl .z<|zta 1 rfl rfl rfl (zpa 0 rfl Tryz.underlying38 inf105 (by decide) rfl rfl (by first|rfl|assumption|(simp;done)|(simp;omega)|omega) rfl (by first|rfl|assumption|(simp;done)|(simp;omega)|omega) (by omega) (by omega)) (fun _=>(.s .z)) ?_
  rintro ⟨p7,c8⟩ -
  dsimp only [List.append_eq,List.nil_append,List.cons_append]
  refine r_pv rfl rfl (zd rfl)<|zj<|ze<|zc<|r_pv rfl rfl (zb rfl)<|r_pv rfl rfl (zFa (z:=(((((Big.digs a).getD i 0)*((d:Nat):Int))+cy) / 1000000000)) rfl rfl (by omega) (by rw [quoN (z:=(((((Big.digs a).getD i 0)*((d:Nat):Int))+cy) / 1000000000)) (by omega) (by omega)];exact wu64 (by omega)))<|r_pv rfl rfl (zd rfl)<|zj<|zP<|ze<|zc<|r_pv rfl rfl (zb rfl)<|r_pv rfl rfl (zz (z:=(((i+1):Nat):Int)) rfl rfl (w64 (by omega)))<|r_pv rfl rfl (zd rfl)<|zj<|zaa ((i+1),p7,c8,os++[((Big.digs a).getD i 0*(d:Int)+cy)%1000000000],((Big.digs a).getD i 0*(d:Int)+cy) / 1000000000) (show Big.ScI (Big.digs a) (d:Int) (i+1) (os++[((Big.digs a).getD i 0*(d:Int)+cy)%1000000000]) (((Big.digs a).getD i 0*(d:Int)+cy) / 1000000000) from by exact hI.step (Big.digs_ok a) (by omega) (by omega)) (by show (Big.digs a).length - (i+1)<(Big.digs a).length - i;omega) ((.e rfl (by first|rfl|(congr 1;omega)|simp_all) (.e rfl (by simp) (.of rfl))):SubM _ _) (ho:=((.e (i:=1) rfl (by first|rfl|(congr 1;omega)|simp_all) .n):PickO _ _ _)) ((.c (j:=2) rfl .n):SelR _ _ _)
 ·
  obtain ⟨hok2,hfin⟩:=hI.fin (by omega)
  refine zha<|zm<|zm<|zu<|ze<|zh<|zc<|r_pv rfl rfl (zb rfl)<|r_pv rfl rfl (zb rfl)<|r_pv rfl rfl (zA (z:=cy) rfl (by rw [Tryz.underlying102];rfl) Tryz.underlying105 (wu32 (by omega)))<|zra rfl rfl (zE (enc:=fun z:Int=>[.int .u32 z]) (ok:=InK .u32) (h1:=fun _=>rfl) (h2:=fun _=>rfl) (k:=1) Tryz.underlying38 inf105 rfl (by decide) (by decide) (by decide) (.c (x:=cy) rfl rfl (fun _ _=>by exact zw.2 (by omega)) .n)) (fun b9 _=> ?_)
  refine zda 0 rfl .z<|zta 1 rfl rfl rfl (zpa 0 rfl Tryz.underlying38 inf105 (by decide) rfl rfl (by first|rfl|assumption|(simp;done)|(simp;omega)|omega) rfl (by first|rfl|assumption|(simp;done)|(simp;omega)|omega) (by omega) (by omega)) (fun _=>(.s .z)) ?_
  rintro ⟨p10,c11⟩ -
  dsimp only [List.append_eq,List.nil_append,List.cons_append]
  refine zda 1 rfl (.s .z)<|zC rfl rfl (.c rfl (.c rfl .n)) ce103 (zEa (s:=false) (p:=p10) (n:=os.length+1) (cap:=c11) (l:=(os++([cy]))) (hn:=by first|rfl|omega|(simp;done)|(simp;omega)) (ho:=by exact hok2) (hln:=by first|rfl|omega|(simp;done)|(simp;omega))) (.c (j:=0) rfl .n) ?_
  rintro ⟨p212,c213⟩ -
  dsimp only [List.append_eq,List.nil_append,List.cons_append]
  refine r_pv rfl rfl (zxa Tryz.underlying40 rfl ty38 rfl rfl)<|r_pv rfl rfl (zd rfl)<|zj<|ze<|zG ?_
  have hz:(Big.sg false (Big.valL (os++[cy]))).natAbs=a*d:=by rw [hfin];exact Int.natAbs_natCast _
  exact zB Tryz.results125 (p212,c213) trivial (zo rfl) (by rw [hz]) (ho:=(.n:PickO _ _ _)) ((.e (j:=0) rfl (by rw [hz]) .n):SelR _ _ _)
theorem zcd {a:Nat} {d:Nat} {p0:Option Addr} {cap:Nat} (hb:(Big.digs a).length≤1099511627776) (hd:d<1000000000):Con Tryz.prog 126 [.slice p0 ((Big.digs a).length) cap,.int .u32 ((d:Nat):Int)] [] [slF (rI .u32) p0 cap (Big.digs a)] (Y:=(Option Addr)×Nat) (fun y=>True) (fun y=> .slice (y.1) ((Big.digs (a*1000000000+d)).length) (y.2)) (fun y=>[]) (fun y=>[slF (rI .u32) (y.1) (y.2) (Big.digs (a*1000000000+d))]):=by
 refine zp Tryz.func126 rfl rfl rfl (fun c=> ?_)
 show RunC _ _ _ _ _ [(0,.slice p0 ((Big.digs a).length) cap),(1,.int .u32 ((d:Nat):Int))] [] [slF (rI .u32) p0 cap (Big.digs a)]
 refine zea 0 rfl (fun hL0=> ?_)
 have hok2:Big.okL ([((d:Nat):Int)]++Big.digs a):=Big.okL_cons.2 ⟨by omega,Big.digs_ok a⟩
 have hz:(Big.sg false (Big.valL (((d:Nat):Int) :: Big.digs a))).natAbs=a*1000000000+d:=by rw [Big.sg_abs (Big.valL_nonneg (l:=((d:Nat):Int) :: Big.digs a) hok2)];simp only [Big.valL,Big.valL_digs];omega
 refine zh<|zc<|r_pv rfl rfl (zd rfl)<|zj<|ze<|zh<|zc<|r_pv rfl rfl (zb rfl)<|zra rfl rfl (zE (enc:=fun z:Int=>[.int .u32 z]) (ok:=InK .u32) (h1:=fun _=>rfl) (h2:=fun _=>rfl) (k:=1) Tryz.underlying38 inf105 rfl (by decide) (by decide) (by decide) (.c (x:=((d:Nat):Int)) rfl rfl (fun _ _=>by exact zw.2 (by omega)) .n)) (fun b1 _=> ?_)
 refine r_pv rfl rfl (zb rfl)<|zta 0 rfl rfl rfl (zpa 0 rfl Tryz.underlying38 inf105 (by decide) rfl rfl (by first|rfl|assumption|(simp;done)|(simp;omega)|omega) rfl (by first|rfl|assumption|(simp;done)|(simp;omega)|omega) (by omega) (by omega)) (fun _=> .z) ?_
 rintro ⟨p2,c3⟩ -
 dsimp only [List.append_eq,List.nil_append,List.cons_append]
 refine zda 0 rfl .z<|zC rfl rfl (.c rfl (.c rfl .n)) ce103 (zEa (s:=false) (p:=p2) (n:=1+((Big.digs a).length)) (cap:=c3) (l:=(([((d:Nat):Int)])++(Big.digs a))) (hn:=by first|rfl|omega|(simp;done)|(simp;omega)) (ho:=by exact hok2) (hln:=by first|rfl|omega|(simp;done)|(simp;omega))) (.c (j:=0) rfl .n) ?_
 rintro ⟨p24,c25⟩ -
 dsimp only [List.append_eq,List.nil_append,List.cons_append]
 refine r_pv rfl rfl (zxa Tryz.underlying40 rfl ty38 rfl rfl)<|r_pv rfl rfl (zd rfl)<|zj<|ze<|zG ?_
 exact zB Tryz.results126 (p24,c25) trivial (zo rfl) (by rw [hz]) (ho:=(.n:PickO _ _ _)) ((.e (j:=0) rfl (by rw [hz]) .n):SelR _ _ _)
theorem zAc {a:Nat} {mm:Nat} {p:Option Addr} {cap:Nat} (hb:(Big.digs a).length≤1099511627776) (hm0:0<mm) (hm1:mm≤1000000000):Con Tryz.prog 124 [.slice p ((Big.digs a).length) cap,.int .u64 ((mm:Nat):Int)] [] [slF (rI .u32) p cap (Big.digs a)] (Y:=(Option Addr)×Nat) (fun y=>True) (fun y=> .tuple #[.slice (y.1) ((Big.digs (a / mm)).length) (y.2),.int .u64 (((a%mm):Nat):Int)]) (fun y=>[]) (fun y=>[slF (rI .u32) (y.1) (y.2) (Big.digs (a / mm))]):=by
 refine zp Tryz.func124 rfl rfl rfl (fun c=> ?_)
 show RunC _ _ _ _ _ [(0,.slice p ((Big.digs a).length) cap),(1,.int .u64 ((mm:Nat):Int))] [] [slF (rI .u32) p cap (Big.digs a)]
 refine zea 0 rfl (fun hL0=> ?_)
 refine zh<|zc<|r_pv rfl rfl (zd rfl)<|r_pv rfl rfl (zd rfl)<|zj<|ze<|zh<|zc<|r_pv rfl rfl (zb rfl)<|r_pv rfl rfl (zM Tryz.underlying38 rfl)<|zra rfl rfl (zSa (r:=rI .u32) (k:=(Big.digs a).length) (x0:=0) (γ0:=()) Tryz.underlying38 inf105 rfl rfl rfl rfl (by omega) (by omega) rfl (fun _ _=>by exact zw.2 (by decide)) (by decide)) (fun b1 _=> ?_)
 refine r_pv rfl rfl (zd rfl)<|zj<|ze<|zh<|zc<|r_pv rfl rfl (zd rfl)<|zj<|ze<|zh<|zh<|zc<|r_pv rfl rfl (zb rfl)<|r_pv rfl rfl (zM Tryz.underlying38 rfl)<|r_pv rfl rfl (zia (z:=((((Big.digs a).length:Nat):Int) - 1)) rfl rfl (w64 (by omega)))<|r_pv rfl rfl (zd rfl)<|zj<|ze<|zx<|zka (X:=Nat×(List Int)×(List Int)×Int) (fun x:Nat×(List Int)×(List Int)×Int=>x.2.1=List.replicate x.1 0++x.2.2.1∧Big.ShI (Big.digs a) (mm:Int) x.1 x.2.2.1 x.2.2.2) (fun x=>[(7,.int .u64 (x.2.2.2)),(8,.int .i64 (((x.1:Nat):Int) - 1)),(6,.slice (some ⟨b1,0,none⟩) ((Big.digs a).length) ((Big.digs a).length)),(5,.int .u64 0),(4,.slice none 0 0),(0,.slice p ((Big.digs a).length) cap),(1,.int .u64 ((mm:Nat):Int))]) (fun x=>[rowA 105 (rI .u32) (some ⟨b1,0,none⟩) ((Big.digs a).length) (x.2.1)]) (fun x=>[slF (rI .u32) p cap (Big.digs a)]) (fun x:Nat×(List Int)×(List Int)×Int=>x.1) ((Big.digs a).length,(List.replicate (Big.digs a).length 0),([]:List Int),(0:Int)) (show (List.replicate (Big.digs a).length 0)=List.replicate ((Big.digs a).length) 0++([]:List Int)∧Big.ShI (Big.digs a) (mm:Int) ((Big.digs a).length) ([]:List Int) (0:Int) from by exact ⟨by simp,Big.ShI.start (by omega)⟩) ((.e rfl (by first|rfl|(congr 1;omega)|simp_all) (.e rfl (by first|rfl|(congr 1;omega)|simp_all) (.of rfl))):SubM _ _) (ho:=((.e (i:=0) rfl (by first|rfl|(congr 1;omega)|simp_all) .n):PickO _ _ _)) ((.c (j:=0) rfl .n):SelR _ _ _) ?_
 rintro ⟨jj,os,qs,z⟩ hI
 replace hI:os=List.replicate jj 0++qs∧Big.ShI (Big.digs a) (mm:Int) jj qs z:=hI
 try dsimp only
 obtain ⟨hos,hS⟩:=hI
 have hz0:=hS.r0
 have hz1:=hS.r1
 have hkle:=hS.le
 refine zh<|zh<|zc<|r_pv rfl rfl (zb rfl)<|r_pv rfl rfl (zBa rfl rfl)<|zj<|ze<|zD rfl (fun h2=> ?_) (fun h2=> ?_)
 ·
  obtain ⟨k,rfl⟩:∃k,jj=k+1:=⟨jj - 1,by omega⟩
  have e3:(((((k+1):Nat):Int) - 1):Int)=((k:Nat):Int):=by omega
  rw [e3]
  have hosl:os.length=(Big.digs a).length:=by rw [hos,List.length_append,List.length_replicate,hS.len];omega
  have hg:=Big.okL_getD (Big.digs_ok a) k
  have hdg:=Big.sh_digit hz0 hz1 hg
  have hrm:=Int.emod_lt_of_pos (z*1000000000+(Big.digs a).getD k 0) (show 0<(mm:Int) by omega)
  have hrm0:=Int.emod_nonneg (z*1000000000+(Big.digs a).getD k 0) (show (mm:Int)≠0 by omega)
  refine zy<|ze<|zh<|zx<|zh<|zc<|r_pv rfl rfl (zb rfl)<|r_pv rfl rfl (zna (z:=(z*1000000000)) rfl rfl (wu64 (by omega)))<|r_pv rfl rfl (zb rfl)<|r_pv rfl rfl (zb rfl)<|zL (x0:=((Big.digs a).getD k 0)) 0 k rfl Tryz.underlying38 sz105 rfl rfl rfl (by first|rfl|assumption|(simp;done)|(simp;omega)|omega) rfl rfl (gD (d:=0) (by omega)) (fun b4 o5 hok6=> ?_)
  replace hok6:=zw.1 hok6
  refine r_u rfl rfl (zn (j:=0) 0 ty105 rfl rfl rfl rfl)<|r_pv rfl rfl (zA (z:=((Big.digs a).getD k 0)) rfl (by rw [Tryz.underlying105];rfl) Tryz.underlying102 (wu64 (by omega)))<|r_pv rfl rfl (zz (z:=((z*1000000000)+((Big.digs a).getD k 0))) rfl rfl (wu64 (by omega)))<|r_pv rfl rfl (zd rfl)<|zj<|ze<|zh<|zc<|r_pv rfl rfl (zb rfl)<|r_pv rfl rfl (zb rfl)<|r_pv rfl rfl (zb rfl)<|r_pv rfl rfl (zb rfl)<|r_pv rfl rfl (zFa (z:=(((z*1000000000)+((Big.digs a).getD k 0)) / ((mm:Nat):Int))) rfl rfl (by omega) (by rw [quoN (z:=(((z*1000000000)+((Big.digs a).getD k 0)) / ((mm:Nat):Int))) (by omega) (by omega)];exact wu64 (by omega)))<|r_pv rfl rfl (zA (z:=(((z*1000000000)+((Big.digs a).getD k 0)) / ((mm:Nat):Int))) rfl (by rw [Tryz.underlying102];rfl) Tryz.underlying105 (wu32 (by omega)))<|r_pv rfl rfl (zR (j:=k) Tryz.underlying38 sz105 rfl rfl rfl (by omega))<|zta 0 rfl rfl rfl (zO (j:=k) (x0:=(((z*1000000000)+((Big.digs a).getD k 0)) / ((mm:Nat):Int))) (γ0:=()) rfl rfl (by first|omega|(rw [List.length_map];omega)|(simp only [List.length_set];omega)|(simp;omega)) rfl rfl sz105 (fun _ _=>by exact zw.2 (by omega))) (fun _=> .z) (fun _ _=> ?_)
  refine zj<|ze<|zc<|r_pv rfl rfl (zb rfl)<|r_pv rfl rfl (zb rfl)<|r_pv rfl rfl (zGa (z:=(((z*1000000000)+((Big.digs a).getD k 0))%((mm:Nat):Int))) rfl rfl (by omega) (remN (by omega) (by omega)))<|r_pv rfl rfl (zd rfl)<|zj<|zP<|ze<|zc<|r_pv rfl rfl (zb rfl)<|r_pv rfl rfl (zia (z:=(((k:Nat):Int) - 1)) rfl rfl (w64 (by omega)))<|r_pv rfl rfl (zd rfl)<|zj<|zaa (k,(os.set k (((z*1000000000)+((Big.digs a).getD k 0)) / ((mm:Nat):Int))),((z*1000000000+(Big.digs a).getD k 0) / (mm:Int) :: qs),((z*1000000000+(Big.digs a).getD k 0)%(mm:Int))) (show (os.set k (((z*1000000000)+((Big.digs a).getD k 0)) / ((mm:Nat):Int)))=List.replicate k 0++((z*1000000000+(Big.digs a).getD k 0) / (mm:Int) :: qs)∧Big.ShI (Big.digs a) (mm:Int) k ((z*1000000000+(Big.digs a).getD k 0) / (mm:Int) :: qs) ((z*1000000000+(Big.digs a).getD k 0)%(mm:Int)) from by exact ⟨by rw [hos];exact Big.pad_set _,hS.step (Big.digs_ok a)⟩) (by show k<k+1;omega) ((.e rfl (by first|rfl|(congr 1;omega)|simp_all) (.of rfl)):SubM _ _) (ho:=((.c (i:=0) rfl .n):PickO _ _ _)) ((.c (j:=1) rfl .n):SelR _ _ _)
 ·
  have hj0:jj=0:=by omega
  have hS0:Big.ShI (Big.digs a) (mm:Int) 0 qs z:=hj0 ▸ hS
  obtain ⟨hf1,hf2⟩:=hS0.fin
  have hoq:os=qs:=by rw [hos,hj0];rfl
  have hok2:Big.okL os:=by rw [hoq];exact hS.ok
  have hosl:os.length=(Big.digs a).length:=by rw [hoq,hS0.len];omega
  have hz9:(Big.sg false (Big.valL os)).natAbs=a / mm:=by rw [hoq,Big.sg_abs (Big.valL_nonneg hS.ok),←Big.valL_trim,hf1,Big.valL_digs];exact Int.toNat_natCast _
  refine zha<|zm<|zm<|zu<|ze<|zh<|zc<|r_pv rfl rfl (zb rfl)<|zda 0 rfl .z<|zC rfl rfl (.c rfl (.c rfl .n)) ce103 (zEa (s:=false) (p:=some ⟨b1,0,none⟩) (n:=(Big.digs a).length) (cap:=(Big.digs a).length) (l:=os) (hn:=by first|rfl|omega|(simp;done)|(simp;omega)) (ho:=by exact hok2) (hln:=by first|rfl|omega|(simp;done)|(simp;omega))) (.c (j:=0) rfl .n) ?_
  rintro ⟨p27,c28⟩ -
  dsimp only [List.append_eq,List.nil_append,List.cons_append]
  refine r_pv rfl rfl (zxa Tryz.underlying40 rfl ty38 rfl rfl)<|r_pv rfl rfl (zb rfl)<|r_pv rfl rfl (zd rfl)<|r_pv rfl rfl (zd rfl)<|zj<|ze<|zG ?_
  exact zwa Tryz.results124 (p27,c28) trivial (zo rfl) (zo rfl) (by rw [hz9,hf2]) (ho:=(.n:PickO _ _ _)) ((.e (j:=0) rfl (by rw [hz9]) .n):SelR _ _ _)
theorem zdd {a:Nat} {p:Option Addr} {cap:Nat} (hb:(Big.digs a).length≤2):Con Tryz.prog 112 [.slice p ((Big.digs a).length) cap] [] [slF (rI .u32) p cap (Big.digs a)] (Y:=Unit) (fun y=>True) (fun y=> .int .u64 ((a:Nat):Int)) (fun y=>[]) (fun y=>[]):=by
 refine zp Tryz.func112 rfl rfl rfl (fun c=> ?_)
 show RunC _ _ _ _ _ [(0,.slice p ((Big.digs a).length) cap)] [] [slF (rI .u32) p cap (Big.digs a)]
 refine zea 0 rfl (fun hL0=> ?_)
 have hpv:=Big.pair_val hb
 have hg0:=Big.okL_getD (Big.digs_ok a) 0
 have hg1:=Big.okL_getD (Big.digs_ok a) 1
 refine zh<|zc<|r_pv rfl rfl (zd rfl)<|zj<|ze<|zh<|zc<|r_pv rfl rfl (zb rfl)<|zQ rfl rfl (.c rfl (.c rfl .n)) ce123 (zPa (p:=p) (n:=(Big.digs a).length) (cap:=cap) (l:=Big.digs a) (i:=1) (hn:=by first|rfl|assumption|omega|(simp;done)|(simp;omega)|(simp_all;done)) (hi:=by first|rfl|assumption|omega|(simp;done)|(simp;omega)|(simp_all;done))) (.c (j:=0) rfl .n)<|r_pv rfl rfl (zna (z:=((Big.digs a).getD 1 0*1000000000)) rfl rfl (wu64 (by omega)))<|r_pv rfl rfl (zb rfl)<|zQ rfl rfl (.c rfl (.c rfl .n)) ce123 (zPa (p:=p) (n:=(Big.digs a).length) (cap:=cap) (l:=Big.digs a) (i:=0) (hn:=by first|rfl|assumption|omega|(simp;done)|(simp;omega)|(simp_all;done)) (hi:=by first|rfl|assumption|omega|(simp;done)|(simp;omega)|(simp_all;done))) (.c (j:=0) rfl .n)<|r_pv rfl rfl (zz (z:=(((Big.digs a).getD 1 0*1000000000)+(Big.digs a).getD 0 0)) rfl rfl (wu64 (by omega)))<|r_pv rfl rfl (zd rfl)<|zj<|ze<|zG ?_
 exact zB Tryz.results112 () trivial (zo rfl) (by rw [hpv]) (ho:=(.n:PickO _ _ _)) (.n:SelR _ _ _)
end Go.Proofs.YtefbbhiaalcjfaaGreat.Sp
