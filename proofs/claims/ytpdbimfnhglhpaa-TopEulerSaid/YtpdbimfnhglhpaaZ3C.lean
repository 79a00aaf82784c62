/- Lemmas on the walk and plain lemmas that the claim of this folder uses; each states its own conditions. Lines were printed by a program of ours. -/
import Derived.Test.YtpdbimfnhglhpaaZ3B
set_option linter.unusedVariables false
set_option linter.unusedSimpArgs false
set_option linter.unusedSectionVars false
open Go.Proofs.Ytpdbimfnhglhpaa.Ms renaming hasV → ya, getD_mem → yb, mem_bnd → yc, all → yd, nseen → ye, oneway → yf, bnd → yg
namespace Go.Proofs.Ytpdbimfnhglhpaa.Sp
open Go
set_option linter.unusedVariables false
set_option maxRecDepth 100000
set_option maxHeartbeats 8000000
theorem znc {w:Nat} {h:Nat} {m:Int} {p:Option Addr} {n:Nat} {cap:Nat} {l:List Int} {tb:Nat} {th:Int} {p2:Option Addr} {c2:Nat} (hn:l.length=n) (hw:1≤w∧w≤64) (hh:1≤h∧h≤64) (hwh:n=w*h) (hb:n≤4096):Con Try.prog 18 [.agg #[.int .i64 ((w:Nat):Int),.int .i64 ((h:Nat):Int),.int .i64 m,.slice p n cap],.func (.func 28) #[] #[.pointer (some ⟨tb,0,none⟩)],.slice p2 4 c2] [] [slF (rI .i64) p cap l,atF tb 0 [.int .i64 th],slF (rI2 .i64) p2 c2 (Fl.st4)] (Y:=(Option Addr)×Nat×(List Int)×(Nat→Nat)) (fun y=>Fl.Lst (fun j=>(Fl.ge l th) j=true) (Fl.nb false w n) y.2.2.2∧Fl.OutI n (Fl.ge l th) y.2.2.2 n y.2.2.1) (fun y=> .tuple #[.slice (y.1) n (y.2.1),.int .i64 (((Fl.cnt (Fl.ldr (Fl.ge l th) y.2.2.2) n):Nat):Int)]) (fun y=>[]) (fun y=>[slF (rI .i64) (y.1) (y.2.1) (y.2.2.1)]):=by
 refine zC Try.func18 rfl rfl rfl (fun c=> ?_)
 show RunC _ _ _ _ _ [(0,.agg #[.int .i64 ((w:Nat):Int),.int .i64 ((h:Nat):Int),.int .i64 m,.slice p n cap]),(1,.func (.func 28) #[] #[.pointer (some ⟨tb,0,none⟩)]),(2,.slice p2 4 c2)] [] [slF (rI .i64) p cap l,atF tb 0 [.int .i64 th],slF (rI2 .i64) p2 c2 (Fl.st4)]
 refine zpa 0 rfl (fun hL0=> ?_)
 refine zpa 2 rfl (fun hL2=> ?_)
 obtain ⟨cc,hcc⟩:=Fl.Lst.exists (inn:=fun j=>(Fl.ge l th) j=true) (adj:=(Fl.nb false w n)) (fun _ _=>Fl.nb_symm)
 have hin:∀j,(Fl.ge l th) j=true→j<n:=fun j hj=>by have:=Fl.ge_lt hj;omega
 refine zf<|za<|zZ rfl rfl (zka rfl rfl) (fun b1=> ?_)
 refine e_p (zd rfl)<|e_p (zd rfl)<|zi<|zc<|zf<|za<|e_p (zg Try.underlying24 rfl sz22 rfl rfl)<|e_ru (zb 0 ty22 rfl rfl rfl)<|e_p (zR Try.underlying22 rfl)<|zwa rfl rfl (zMb (r:=rI .i64) (k:=n) (x0:=0) (γ0:=()) Try.underlying22 inf3 rfl rfl rfl rfl om om rfl (fun g _=>by exact ze.2 dd) dd) (fun b2 _=> ?_)
 refine e_p (zd rfl)<|zi<|zc<|zf<|zf<|za<|e_mv rfl<|e_p (zR Try.underlying22 rfl)<|e_mv rfl<|zi<|zc<|zq<|zY (X:=Nat×(List Int)) (fun x:Nat×(List Int)=>x.1≤n∧x.2.length=n∧∀j,j<x.1→x.2.getD j 0= -1) (fun x=>[(26,.int .i64 ((x.1:Nat):Int)),(25,.int .i64 ((n:Nat):Int)),(8,.slice (some ⟨b2,0,none⟩) n n),(7,.int .i64 0),(6,.slice none 0 0),(3,.pointer (some ⟨b1,0,none⟩)),(1,.func (.func 28) #[] #[.pointer (some ⟨tb,0,none⟩)]),(2,.slice p2 4 c2)]) (fun x=>[rowA 3 (rI .i64) (some ⟨b2,0,none⟩) n (x.2),boxA b1 24 [.int .i64 ((w:Nat):Int),.int .i64 ((h:Nat):Int),.int .i64 m,.slice p n cap]]) (fun x=>[slF (rI .i64) p cap l,atF tb 0 [.int .i64 th],slF (rI2 .i64) p2 c2 (Fl.st4)]) (fun x:Nat×(List Int)=>n - x.1) (0,List.replicate n 0) (show 0≤n∧(List.replicate n 0).length=n∧∀j,j<0→(List.replicate n 0).getD j 0= -1 from by exact ⟨Nat.zero_le _,by simp,fun j hj=>by omega⟩) ((.e rfl cgs (.of rfl)):SubM _ _) (ho:=((.of [0,0] rfl):PickO _ _ _)) ((.of [0,1,2] rfl):SelR _ _ _) ?_
 rintro ⟨i,A⟩ hI
 replace hI:i≤n∧A.length=n∧∀j,j<i→A.getD j 0= -1:=hI
 try dsimp only
 obtain ⟨hi,hAl,hA⟩:=hI
 refine zf<|za<|e_p (zD rfl rfl)<|zi<|zc<|zf<|zG rfl (fun h3=> ?_) (fun h3=> ?_)
 ·
  refine zw<|zc<|zf<|zq<|zf<|za<|e_mv rfl<|e_p (zd rfl)<|zi<|zc<|za<|e_mv rfl<|e_mv rfl<|e_p (zN (j:=i) Try.underlying22 sz3 rfl rfl rfl om)<|zna 0 rfl rfl rfl (zda (j:=i) (x0:=(-1)) (γ0:=()) rfl rfl (by first|omega|(rw [List.length_map];omega)|(simp only [List.length_set];omega)|(simp;done)|(simp;omega)) rfl rfl sz3 (fun _ _=>by exact ze.2 om)) (fun _=> .z) (fun _ _=> ?_)
  refine zi<|zB<|zc<|za<|e_p (zv (z:=(((i+1):Nat):Int)) rfl rfl (w64 om))<|e_mv rfl<|zi<|zQ ((i+1),(A.set i (-1))) (show (i+1)≤n∧(A.set i (-1)).length=n∧∀j,j<(i+1)→(A.set i (-1)).getD j 0= -1 from by exact ⟨by omega,by rw [List.length_set];exact hAl,fun j hj=>by by_cases e9:j=i;exact e9 ▸ Big.getD_set_self om _;rw [Big.getD_set_ne e9];exact hA j om⟩) (by show n - (i+1)<n - i;omega) (mR rfl) (ho:=((.of [0,0] rfl):PickO _ _ _)) ((.of [0,1,2] rfl):SelR _ _ _)
 ·
  refine zP<|zj<|zj<|zo<|zc<|zf<|za<|e_p (zd rfl)<|zi<|zc<|zf<|zf<|za<|e_p (zg Try.underlying24 rfl sz22 rfl rfl)<|e_ru (zb 1 ty22 rfl rfl rfl)<|e_p (zR Try.underlying22 rfl)<|e_mv rfl<|zi<|zc<|zq ?_
  have hin9:i=n:=by omega
  refine zY (X:=Nat×(List Int)) (fun x:Nat×(List Int)=>x.1≤n∧Fl.OutI n (Fl.ge l th) cc x.1 x.2) (fun x=>[(10,.int .i64 (((Fl.cnt (Fl.ldr (Fl.ge l th) cc) x.1):Nat):Int)),(36,.int .i64 ((x.1:Nat):Int)),(35,.int .i64 ((n:Nat):Int)),(34,.slice p n cap),(8,.slice (some ⟨b2,0,none⟩) n n),(7,.int .i64 0),(6,.slice none 0 0),(3,.pointer (some ⟨b1,0,none⟩)),(1,.func (.func 28) #[] #[.pointer (some ⟨tb,0,none⟩)]),(2,.slice p2 4 c2)]) (fun x=>[rowA 3 (rI .i64) (some ⟨b2,0,none⟩) n (x.2),boxA b1 24 [.int .i64 ((w:Nat):Int),.int .i64 ((h:Nat):Int),.int .i64 m,.slice p n cap]]) (fun x=>[slF (rI .i64) p cap l,atF tb 0 [.int .i64 th],slF (rI2 .i64) p2 c2 (Fl.st4)]) (fun x:Nat×(List Int)=>n - x.1) (0,A) (show 0≤n∧Fl.OutI n (Fl.ge l th) cc 0 A from by exact ⟨Nat.zero_le _,⟨hAl,fun j _ _ hj=>by omega,fun j hj _=>hA j om⟩⟩) ((.e rfl cgs (.e rfl cgs (.of rfl))):SubM _ _) (ho:=((.of [0,0] rfl):PickO _ _ _)) ((.of [0,1,2] rfl):SelR _ _ _) ?_
  rintro ⟨i,o⟩ hI
  replace hI:i≤n∧Fl.OutI n (Fl.ge l th) cc i o:=hI
  try dsimp only
  obtain ⟨hi,ho⟩:=hI
  have hol:=ho.len
  have hcn:=Fl.cnt_le (Fl.ldr (Fl.ge l th) cc) i
  refine zf<|za<|e_p (zD rfl rfl)<|zi<|zc<|zf<|zG rfl (fun h4=> ?_) (fun h4=> ?_)
  ·
   refine zw<|zc<|zf<|zq<|zf<|za<|e_mv rfl<|zM (x0:=(l.getD i 0)) 0 i rfl Try.underlying22 sz3 rfl rfl rfl (by first|rfl|assumption|(simp only [List.length_append,List.length_map,List.length_cons,List.length_nil];done)|(simp only [List.length_append,List.length_map,List.length_cons,List.length_nil];omega)|omega) rfl rfl (gD (d:=0) om) (fun b5 o6 hok7=> ?_)
   replace hok7:=ze.1 hok7
   refine e_ru (zp (j:=0) 0 ty3 rfl rfl rfl rfl)<|e_p (zd rfl)<|e_p (zd rfl)<|zi<|zc<|zf<|zJa (X:=Unit) (fun x=>True) (fun x=>[(51,.bool (decide (¬o.getD i 0<0∨¬(Fl.ge l th) i=true))),(11,.int .i64 ((i:Nat):Int)),(10,.int .i64 (((Fl.cnt (Fl.ldr (Fl.ge l th) cc) i):Nat):Int)),(36,.int .i64 ((i:Nat):Int)),(35,.int .i64 ((n:Nat):Int)),(34,.slice p n cap),(8,.slice (some ⟨b2,0,none⟩) n n),(7,.int .i64 0),(6,.slice none 0 0),(3,.pointer (some ⟨b1,0,none⟩)),(1,.func (.func 28) #[] #[.pointer (some ⟨tb,0,none⟩)]),(2,.slice p2 4 c2)]) (fun x=>[rowA 3 (rI .i64) (some ⟨b2,0,none⟩) n o,boxA b1 24 [.int .i64 ((w:Nat):Int),.int .i64 ((h:Nat):Int),.int .i64 m,.slice p n cap]]) (fun x=>[atF b5 o6 [.int .i64 (l.getD i 0)],slF (rI .i64) p cap l,atF tb 0 [.int .i64 th],slF (rI2 .i64) p2 c2 (Fl.st4)]) ?_ ?_
   ·
    refine za<|e_mv rfl<|e_mv rfl<|e_p (zN (j:=i) Try.underlying22 sz3 rfl rfl rfl om)<|r_vl rfl rfl (zba 0 i rfl ty3 rfl rfl (gD (d:=0) om) rfl) (fun _ hok8=> ?_)
    replace hok8:=ze.1 hok8
    refine e_p (zNa rfl rfl)<|zI rfl rfl (zL rfl) (fun hk1=> ?_) (fun hk1=> ?_)
    ·
     refine e_no<|e_no<|e_no<|e_no<|e_p (zn rfl rfl)<|zi ?_
     exact zS () tt9 ((.e rfl (congrArg Value.bool (by exact Eq.symm (decide_eq_true (.inl om)))) (.of rfl)):SubM _ _) (ho:=((.of [0,0] rfl):PickO _ _ _)) ((.of [0,1,2,3] rfl):SelR _ _ _)
    ·
     refine e_mv rfl<|e_mv rfl<|zQa (first:=[]) (cap:=[.pointer (some ⟨tb,0,none⟩)]) rfl rfl rfl (.c rfl .n) ce28 (zsb (g:=(l.getD i 0)) (th:=th) (tb:=tb)) (.c (j:=2) rfl .n) ?_
     rintro ⟨⟩ -
     dsimp only [aq,nq,cq]
     refine e_p (zgc rfl)<|e_p (zn rfl rfl)<|zi ?_
     exact zS () tt9 ((.e rfl (congrArg Value.bool (by exact decide_eq_decide.2 ⟨fun h9=> .inr (fun h8=>h9 ((Fl.ge_iff om).1 h8)),fun h9 h8=>h9.elim (fun h7=>h7 om) (fun h7=>h7 ((Fl.ge_iff om).2 h8))⟩)) (.of rfl)):SubM _ _) (ho:=((.of [0,0] rfl):PickO _ _ _)) ((.of [0,1,2,3] rfl):SelR _ _ _)
   ·
    rintro ⟨⟩ -
    try dsimp only
    refine zG rfl (fun hout=> ?_) (fun hout=> ?_)
    ·
     refine zP<|zj<|zo<|zc<|za<|e_p (zv (z:=(((i+1):Nat):Int)) rfl rfl (w64 om))<|e_mv rfl<|zi<|zQ ((i+1),o) (show (i+1)≤n∧Fl.OutI n (Fl.ge l th) cc (i+1) o from by exact ⟨by omega,(ho.none hcc om hout).1⟩) (by show n - (i+1)<n - i;omega) ((.e rfl (congrArg (Value.int .i64) (by dsimp only;rw [Fl.cnt_succ,(ho.none hcc om hout).2];simp)) (.of rfl)):SubM _ _) (ho:=((.of [0,0] rfl):PickO _ _ _)) ((.of [1,2,3] rfl):SelR _ _ _)
    ·
     refine zw<|zc<|zf<|za<|e_mv rfl<|e_mv rfl<|e_mv rfl<|e_p (zN (j:=i) Try.underlying22 sz3 rfl rfl rfl om)<|zna 0 rfl rfl rfl (zda (j:=i) (x0:=(((Fl.cnt (Fl.ldr (Fl.ge l th) cc) i):Nat):Int)) (γ0:=()) rfl rfl (by first|omega|(rw [List.length_map];omega)|(simp only [List.length_set];omega)|(simp;done)|(simp;omega)) rfl rfl sz3 (fun _ _=>by exact ze.2 om)) (fun _=> .z) (fun _ _=> ?_)
     refine zi<|zc<|zf<|zf<|za<|e_mv rfl<|zwa rfl rfl (zt (enc:=fun z:Int=>[.int .i64 z]) (ok:=InK .i64) (h1:=fun _=>rfl) (h2:=fun _=>rfl) (k:=1) Try.underlying22 inf3 rfl dd dd dd (.c (x:=((i:Nat):Int)) rfl rfl (fun _ _=>by exact ze.2 om) .n)) (fun b9 _=> ?_)
     refine e_p (zd rfl)<|zi<|zc<|zq ?_
     have hfi:(Fl.ge l th) i=true:=by by_cases h9:(Fl.ge l th) i=true;exact h9;exact absurd (.inr h9) hout
     have hoi:o.getD i 0<0:=by by_cases h9:o.getD i 0<0;exact h9;exact absurd (.inl h9) hout
     have hld:=(ho.lead hcc om hoi hfi).2
     refine zY (X:=(List Int)×(List Nat)×(Option Addr)×Nat) (fun x:(List Int)×(List Nat)×(Option Addr)×Nat=>Fl.Fld n (Fl.ge l th) (Fl.nb false w n) cc i x.1 x.2.1∧2*Fl.unv x.1+x.2.1.length≤2*n+1) (fun x=>[(13,.slice (x.2.2.1) (x.2.1.length) (x.2.2.2)),(10,.int .i64 (((Fl.cnt (Fl.ldr (Fl.ge l th) cc) i):Nat):Int)),(36,.int .i64 ((i:Nat):Int)),(35,.int .i64 ((n:Nat):Int)),(34,.slice p n cap),(8,.slice (some ⟨b2,0,none⟩) n n),(7,.int .i64 0),(6,.slice none 0 0),(3,.pointer (some ⟨b1,0,none⟩)),(1,.func (.func 28) #[] #[.pointer (some ⟨tb,0,none⟩)]),(2,.slice p2 4 c2)]) (fun x=>[rowA 3 (rI .i64) (x.2.2.1) (x.2.2.2) (x.2.1.map Fl.iz),rowA 3 (rI .i64) (some ⟨b2,0,none⟩) n (x.1),boxA b1 24 [.int .i64 ((w:Nat):Int),.int .i64 ((h:Nat):Int),.int .i64 m,.slice p n cap]]) (fun x=>[atF b5 o6 [.int .i64 (l.getD i 0)],slF (rI .i64) p cap l,atF tb 0 [.int .i64 th],slF (rI2 .i64) p2 c2 (Fl.st4)]) (fun x:(List Int)×(List Nat)×(Option Addr)×Nat=>2*Fl.unv x.1+x.2.1.length) ((o.set i (((Fl.cnt (Fl.ldr (Fl.ge l th) cc) i):Nat):Int)),[i],some ⟨b9,0,none⟩,1) (show Fl.Fld n (Fl.ge l th) (Fl.nb false w n) cc i (o.set i (((Fl.cnt (Fl.ldr (Fl.ge l th) cc) i):Nat):Int)) ([i])∧2*Fl.unv (o.set i (((Fl.cnt (Fl.ldr (Fl.ge l th) cc) i):Nat):Int))+([i]).length≤2*n+1 from by exact ⟨(ho.lead hcc om hoi hfi).1,by have h9:=Fl.unv_le (o.set i ((Fl.cnt (Fl.ldr (Fl.ge l th) cc) i:Nat):Int));rw [List.length_set] at h9;simp only [List.length_cons,List.length_nil];omega⟩) ((.e rfl cgs (.of rfl)):SubM _ _) (ho:=((.e (i:=0) rfl cgs (.of [0,0] rfl)):PickO _ _ _)) ((.of [0,1,2,3] rfl):SelR _ _ _) ?_
     rintro ⟨o2,sk,p4,c4⟩ hFF
     replace hFF:Fl.Fld n (Fl.ge l th) (Fl.nb false w n) cc i o2 sk∧2*Fl.unv o2+sk.length≤2*n+1:=hFF
     try dsimp only
     obtain ⟨hF,hFm⟩:=hFF
     have ho2:=hF.len
     refine zf<|zf<|za<|e_mv rfl<|e_p (zR Try.underlying22 rfl)<|e_p (zMa rfl rfl)<|zi<|zc<|zG rfl (fun hso=> ?_) (fun hso=> ?_)
     ·
      obtain ⟨st,pp,rfl⟩:=Fl.snoc (sk:=sk) (fun e9=>by rw [e9] at hso;simp at hso)
      have hsl9:st.length+1≤2*n+1:=by have h8:=hFm;rw [List.length_append] at h8;simp only [List.length_cons,List.length_nil] at h8;omega
      have hsl8:((st++[pp]).map Fl.iz).length=st.length+1:=by simp
      refine zwc 0 rfl (fun hcl=> ?_)
      have e10:(.slice p4 ((st++[pp]).length) c4:Value)= .slice p4 (st.length+1) c4:=by simp
      rw [e10]
      refine zw<|zc<|zq<|zf<|za<|e_mv rfl<|e_mv rfl<|e_p (zR Try.underlying22 rfl)<|e_p (zxa (z:=(((st.length):Nat):Int)) rfl rfl (w64 om))<|e_ru (zrb 0 (st.length) rfl Try.underlying22 sz3 rfl (by first|rfl|assumption|(simp only [List.length_append,List.length_map,List.length_cons,List.length_nil];done)|(simp only [List.length_append,List.length_map,List.length_cons,List.length_nil];omega)|omega) rfl rfl om)<|r_vl rfl rfl (zba 0 (st.length) rfl ty3 rfl rfl (gD (d:=0) om) rfl) (fun _ hok11=> ?_)
      replace hok11:=ze.1 hok11
      refine e_p (zd rfl)<|zi<|zc<|zf ?_
      have e12:((((st++[pp]).map Fl.iz).getD (st.length) 0):Int)=((pp:Nat):Int):=by exact Fl.getD_iz st pp
      rw [e12]
      refine za<|e_mv rfl<|e_mv rfl<|e_p (zR Try.underlying22 rfl)<|e_p (zxa (z:=(((st.length):Nat):Int)) rfl rfl (w64 om))<|e_p (zUb (hi:=(st.length)) Try.underlying22 sz3 rfl (.s rfl) (.inr ⟨_,rfl⟩) om)<|e_p (zd rfl)<|zi<|zc<|zf<|zob (fun w mm=>mm.rowTake 0 rfl (st.length)) ?_
      dsimp only [List.set]
      have e13:((st++[pp]).map Fl.iz).take (st.length)=st.map Fl.iz:=by simp
      rw [e13]
      refine za<|e_mv rfl<|e_p (zR Try.underlying59 rfl)<|e_mv rfl<|zi<|zc<|zq<|zY (X:=Nat×(List Int)×(List Nat)×(Option Addr)×Nat) (fun x:Nat×(List Int)×(List Nat)×(Option Addr)×Nat=>x.1≤4∧Fl.FlP n (Fl.ge l th) (Fl.nb false w n) cc i x.2.1 x.2.2.1 pp (Fl.Dst w h pp Fl.st4 x.1)∧2*Fl.unv x.2.1+x.2.2.1.length≤2*Fl.unv o2+st.length) (fun x=>[(13,.slice (x.2.2.2.1) (x.2.2.1.length) (x.2.2.2.2)),(74,.int .i64 ((x.1:Nat):Int)),(73,.int .i64 4),(72,.slice p2 4 c2),(14,.int .i64 ((pp:Nat):Int)),(10,.int .i64 (((Fl.cnt (Fl.ldr (Fl.ge l th) cc) i):Nat):Int)),(36,.int .i64 ((i:Nat):Int)),(35,.int .i64 ((n:Nat):Int)),(34,.slice p n cap),(8,.slice (some ⟨b2,0,none⟩) n n),(7,.int .i64 0),(6,.slice none 0 0),(3,.pointer (some ⟨b1,0,none⟩)),(1,.func (.func 28) #[] #[.pointer (some ⟨tb,0,none⟩)]),(2,.slice p2 4 c2)]) (fun x=>[rowA 3 (rI .i64) (x.2.2.2.1) (x.2.2.2.2) (x.2.2.1.map Fl.iz),rowA 3 (rI .i64) (some ⟨b2,0,none⟩) n (x.2.1),boxA b1 24 [.int .i64 ((w:Nat):Int),.int .i64 ((h:Nat):Int),.int .i64 m,.slice p n cap]]) (fun x=>[atF b5 o6 [.int .i64 (l.getD i 0)],slF (rI .i64) p cap l,atF tb 0 [.int .i64 th],slF (rI2 .i64) p2 c2 (Fl.st4)]) (fun x:Nat×(List Int)×(List Nat)×(Option Addr)×Nat=>4 - x.1) (0,o2,st,p4,c4) (show 0≤4∧Fl.FlP n (Fl.ge l th) (Fl.nb false w n) cc i o2 st pp (Fl.Dst w h pp Fl.st4 0)∧2*Fl.unv o2+st.length≤2*Fl.unv o2+st.length from by exact ⟨Nat.zero_le _,Fl.FlP.start hF,Nat.le_refl _⟩) ((.c rfl (.e rfl cgs (.of rfl))):SubM _ _) (ho:=((.of [0,0,0] rfl):PickO _ _ _)) ((.of [0,1,2,3] rfl):SelR _ _ _) ?_
      rintro ⟨q,o3,s3,p5,c5⟩ hQ
      replace hQ:q≤4∧Fl.FlP n (Fl.ge l th) (Fl.nb false w n) cc i o3 s3 pp (Fl.Dst w h pp Fl.st4 q)∧2*Fl.unv o3+s3.length≤2*Fl.unv o2+st.length:=hQ
      try dsimp only
      obtain ⟨hq,hP1,hP2⟩:=hQ
      have ho3:=hP1.len
      refine zf<|za<|e_p (zD rfl rfl)<|zi<|zc<|zf<|zG rfl (fun h14=> ?_) (fun h14=> ?_)
      ·
       have hst9:Fl.st4.length=4:=rfl
       have hd9:=Fl.stp4.ok _ (Fl.gD_mem (l:=Fl.st4) (q:=q) (by show q<4;omega))
       have hpb:=Fl.at_b hw hP1.pop.1 hb hd9.1 hd9.2.1
       refine zw<|zc<|zf<|zq<|zf<|za<|zM (x0:=(Fl.st4.getD q (0,0))) 3 q rfl Try.underlying59 sz67 rfl rfl rfl (by first|rfl|assumption|(simp only [List.length_append,List.length_map,List.length_cons,List.length_nil];done)|(simp only [List.length_append,List.length_map,List.length_cons,List.length_nil];omega)|omega) rfl rfl (gD (d:=(0,0)) om) (fun b15 o16 hok17=> ?_)
       obtain ⟨hok17x,hok17y⟩:=hok17
       replace hok17x:=ze.1 hok17x
       replace hok17y:=ze.1 hok17y
       refine e_ru (zJ (j:=0) 0 ty67 rfl rfl rfl (.t2 .nil))<|zZ rfl rfl (zF zr67 rfl) (fun b18=> ?_)
       refine zE 0 rfl rfl rfl rfl rfl sz67 rfl (.t2 .nil) .z<|zi<|zc<|zf<|zsa (OW:=[]) (O:=[boxA b18 67 [.int .i64 ((Fl.st4.getD q (0,0)).1),.int .i64 ((Fl.st4.getD q (0,0)).2)],rowA 3 (rI .i64) p5 c5 (s3.map Fl.iz),rowA 3 (rI .i64) (some ⟨b2,0,none⟩) n o3,boxA b1 24 [.int .i64 ((w:Nat):Int),.int .i64 ((h:Nat):Int),.int .i64 m,.slice p n cap]]) 100000 mixed (.then (.block (.then (.then (.block (.block (.then (.block (.then (.block (.then (.then (.block (.then .ret)))))))))))))) kr<|e_dm 0 rfl rfl rfl<|e_pv 1 rfl rfl (zg Try.underlying24 rfl sz3 rfl rfl)<|e_u 2 rfl rfl (zb 3 ty3 rfl rfl rfl)<|e_pv 3 rfl rfl (zXa (z:=(((pp%w):Nat):Int)) rfl rfl om (remN om om))<|e_pv 4 rfl rfl (zk (i:=0) Try.underlying67 sz3 rfl rfl dd rfl)<|e_u 5 rfl rfl (zb 0 ty3 rfl rfl rfl)<|e_pv 6 rfl rfl (zv (z:=((((pp%w):Nat):Int)+(Fl.st4.getD q (0,0)).1)) rfl rfl (w64 om))<|e_dm 7 rfl rfl rfl<|e_pv 8 rfl rfl (zg Try.underlying24 rfl sz3 rfl rfl)<|e_u 9 rfl rfl (zb 3 ty3 rfl rfl rfl)<|e_pv 10 rfl rfl (zRb (z:=(((pp / w):Nat):Int)) rfl rfl om (by rw [quoN (z:=(((pp / w):Nat):Int)) om om];exact w64 om))<|e_pv 11 rfl rfl (zk (i:=1) Try.underlying67 sz3 rfl rfl dd rfl)<|e_u 12 rfl rfl (zb 0 ty3 rfl rfl rfl)<|e_pv 13 rfl rfl (zv (z:=((((pp / w):Nat):Int)+(Fl.st4.getD q (0,0)).2)) rfl rfl (w64 om))<|e_pv 14 rfl rfl (zd rfl)<|e_pv 15 rfl rfl (zd rfl)<|zra kr<|zc<|zf ?_
       obtain ⟨kx,hkx⟩:∃z,z=((((pp%w):Nat):Int)+(Fl.st4.getD q (0,0)).1):=⟨_,rfl⟩
       rw [← hkx]
       obtain ⟨ky,hky⟩:∃z,z=((((pp / w):Nat):Int)+(Fl.st4.getD q (0,0)).2):=⟨_,rfl⟩
       rw [← hky]
       have hkyw: -64≤ky*((w:Nat):Int)∧ky*((w:Nat):Int)≤4160:=by rw [hky];exact hpb.1
       have hkxb: -1≤kx∧kx≤64:=by rw [hkx];exact hpb.2.1
       refine za<|e_mv rfl<|e_p (zg Try.underlying24 rfl sz3 rfl rfl)<|e_ru (zb 3 ty3 rfl rfl rfl)<|e_p (zBa (z:=(ky*((w:Nat):Int))) rfl rfl (w64 om))<|e_mv rfl<|e_p (zv (z:=((ky*((w:Nat):Int))+kx)) rfl rfl (w64 om))<|e_p (zd rfl)<|zi<|zc ?_
       obtain ⟨kj,hkj⟩:∃z,z=((ky*((w:Nat):Int))+kx):=⟨_,rfl⟩
       rw [← hkj]
       refine zJa (X:=Unit) (fun x=>True) (fun x=>[(131,.bool (decide (Fl.CP w h pp (Fl.ge l th) o3 (Fl.st4.getD q (0,0))))),(19,.int .i64 kj),(13,.slice p5 (s3.length) c5),(74,.int .i64 ((q:Nat):Int)),(73,.int .i64 4),(72,.slice p2 4 c2),(14,.int .i64 ((pp:Nat):Int)),(10,.int .i64 (((Fl.cnt (Fl.ldr (Fl.ge l th) cc) i):Nat):Int)),(36,.int .i64 ((i:Nat):Int)),(35,.int .i64 ((n:Nat):Int)),(34,.slice p n cap),(8,.slice (some ⟨b2,0,none⟩) n n),(7,.int .i64 0),(6,.slice none 0 0),(3,.pointer (some ⟨b1,0,none⟩)),(1,.func (.func 28) #[] #[.pointer (some ⟨tb,0,none⟩)]),(2,.slice p2 4 c2)]) (fun x=>[boxA b18 67 [.int .i64 ((Fl.st4.getD q (0,0)).1),.int .i64 ((Fl.st4.getD q (0,0)).2)],rowA 3 (rI .i64) p5 c5 (s3.map Fl.iz),rowA 3 (rI .i64) (some ⟨b2,0,none⟩) n o3,boxA b1 24 [.int .i64 ((w:Nat):Int),.int .i64 ((h:Nat):Int),.int .i64 m,.slice p n cap]]) (fun x=>[atF b15 o16 [.int .i64 ((Fl.st4.getD q (0,0)).1),.int .i64 ((Fl.st4.getD q (0,0)).2)],atF b5 o6 [.int .i64 (l.getD i 0)],slF (rI .i64) p cap l,atF tb 0 [.int .i64 th],slF (rI2 .i64) p2 c2 (Fl.st4)]) ?_ ?_
       ·
        refine za<|e_mv rfl<|e_p (zNa rfl rfl)<|zI rfl rfl (zL rfl) (fun hx0=> ?_) (fun hx0=> ?_)
        ·
         refine e_mv rfl<|e_p (zNa rfl rfl)<|e_p (zn rfl rfl)<|zI rfl rfl (zL rfl) (fun hx1=> ?_) (fun hx1=> ?_)
         ·
          refine e_mv rfl<|e_p (zg Try.underlying24 rfl sz3 rfl rfl)<|e_ru (zb 3 ty3 rfl rfl rfl)<|e_p (zD rfl rfl)<|e_p (zn rfl rfl)<|zI rfl rfl (zL rfl) (fun hx2=> ?_) (fun hx2=> ?_)
          ·
           refine e_mv rfl<|e_p (zg Try.underlying24 rfl sz3 rfl rfl)<|e_ru (zb 3 ty3 rfl rfl rfl)<|e_p (zD rfl rfl)<|e_p (zn rfl rfl)<|zI rfl rfl (zL rfl) (fun hx3=> ?_) (fun hx3=> ?_)
           ·
            have hat:kj.toNat=Fl.atD w pp (Fl.st4.getD q (0,0)):=by rw [hkj,hky,hkx];rfl
            have hiD:Fl.inD w h pp (Fl.st4.getD q (0,0)):=⟨hkx ▸ hx0,hky ▸ hx1,hkx ▸ hx2,hky ▸ hx3⟩
            have hpx:=hiD.pix
            have hkj0:0≤kj∧kj.toNat<n:=⟨by rw [hkj,hky,hkx];exact hpx.1,by rw [hat,hwh];exact hpx.2⟩
            refine e_mv rfl<|e_mv rfl<|e_p (zN (j:=(kj).toNat) Try.underlying22 sz3 rfl rfl om om)<|r_vl rfl rfl (zba 2 ((kj).toNat) rfl ty3 rfl rfl (gD (d:=0) om) rfl) (fun _ hok19=> ?_)
            replace hok19:=ze.1 hok19
            refine e_p (zD rfl rfl)<|e_p (zn rfl rfl)<|zI rfl rfl (zL rfl) (fun hx4=> ?_) (fun hx4=> ?_)
            ·
             refine e_mv rfl<|e_p (zg Try.underlying24 rfl sz22 rfl rfl)<|e_ru (zb 3 ty22 rfl rfl rfl)<|e_mv rfl<|zM (x0:=(l.getD ((kj).toNat) 0)) 2 ((kj).toNat) rfl Try.underlying22 sz3 rfl rfl rfl (by first|rfl|assumption|(simp only [List.length_append,List.length_map,List.length_cons,List.length_nil];done)|(simp only [List.length_append,List.length_map,List.length_cons,List.length_nil];omega)|omega) rfl om (gD (d:=0) om) (fun b20 o21 hok22=> ?_)
             replace hok22:=ze.1 hok22
             refine e_ru (zp (j:=0) 0 ty3 rfl rfl rfl rfl)<|zQa (first:=[]) (cap:=[.pointer (some ⟨tb,0,none⟩)]) rfl rfl rfl (.c rfl .n) ce28 (zsb (g:=(l.getD ((kj).toNat) 0)) (th:=th) (tb:=tb)) (.c (j:=4) rfl .n) ?_
             rintro ⟨⟩ -
             dsimp only [aq,nq,cq]
             refine e_p (zn rfl rfl)<|zi ?_
             exact zS () tt9 ((.e rfl (congrArg Value.bool (by exact decide_eq_decide.2 ⟨fun h9=>⟨hiD,by rw [← hat];exact hx4,by rw [← hat];exact (Fl.ge_iff om).2 h9⟩,fun h9=>(Fl.ge_iff om).1 (by rw [hat];exact h9.2.2)⟩)) (.of rfl)):SubM _ _) (ho:=((.of [0,0,0,0] rfl):PickO _ _ _)) ((.of [1,2,3,4,5] rfl):SelR _ _ _)
            ·
             refine e_no<|e_no<|e_no<|e_no<|e_no<|e_no<|e_no<|e_p (zn rfl rfl)<|zi ?_
             exact zS () tt9 ((.e rfl (congrArg Value.bool (by exact Eq.symm (decide_eq_false (fun h9=>hx4 (by rw [hat];exact h9.2.1))))) (.of rfl)):SubM _ _) (ho:=((.of [0,0,0,0] rfl):PickO _ _ _)) ((.of [0,1,2,3,4] rfl):SelR _ _ _)
           ·
            refine e_no<|e_no<|e_no<|e_no<|e_no<|e_p (zn rfl rfl)<|e_mv rfl<|e_no<|e_no<|e_no<|e_no<|e_no<|e_no<|e_no<|e_p (zn rfl rfl)<|zi ?_
            exact zS () tt9 ((.e rfl (congrArg Value.bool (by exact Eq.symm (decide_eq_false (fun h9=>hx3 (by rw [hky];exact h9.1.2.2.2))))) (.of rfl)):SubM _ _) (ho:=((.of [0,0,0,0] rfl):PickO _ _ _)) ((.of [0,1,2,3,4] rfl):SelR _ _ _)
          ·
           refine e_no<|e_no<|e_no<|e_no<|e_p (zn rfl rfl)<|e_mv rfl<|e_no<|e_no<|e_no<|e_no<|e_no<|e_p (zn rfl rfl)<|e_mv rfl<|e_no<|e_no<|e_no<|e_no<|e_no<|e_no<|e_no<|e_p (zn rfl rfl)<|zi ?_
           exact zS () tt9 ((.e rfl (congrArg Value.bool (by exact Eq.symm (decide_eq_false (fun h9=>hx2 (by rw [hkx];exact h9.1.2.2.1))))) (.of rfl)):SubM _ _) (ho:=((.of [0,0,0,0] rfl):PickO _ _ _)) ((.of [0,1,2,3,4] rfl):SelR _ _ _)
         ·
          refine e_no<|e_no<|e_no<|e_no<|e_p (zn rfl rfl)<|e_mv rfl<|e_no<|e_no<|e_no<|e_no<|e_p (zn rfl rfl)<|e_mv rfl<|e_no<|e_no<|e_no<|e_no<|e_no<|e_p (zn rfl rfl)<|e_mv rfl<|e_no<|e_no<|e_no<|e_no<|e_no<|e_no<|e_no<|e_p (zn rfl rfl)<|zi ?_
          exact zS () tt9 ((.e rfl (congrArg Value.bool (by exact Eq.symm (decide_eq_false (fun h9=>hx1 (by rw [hky];exact h9.1.2.1))))) (.of rfl)):SubM _ _) (ho:=((.of [0,0,0,0] rfl):PickO _ _ _)) ((.of [0,1,2,3,4] rfl):SelR _ _ _)
        ·
         refine e_no<|e_no<|e_p (zn rfl rfl)<|e_mv rfl<|e_no<|e_no<|e_no<|e_no<|e_p (zn rfl rfl)<|e_mv rfl<|e_no<|e_no<|e_no<|e_no<|e_p (zn rfl rfl)<|e_mv rfl<|e_no<|e_no<|e_no<|e_no<|e_no<|e_p (zn rfl rfl)<|e_mv rfl<|e_no<|e_no<|e_no<|e_no<|e_no<|e_no<|e_no<|e_p (zn rfl rfl)<|zi ?_
         exact zS () tt9 ((.e rfl (congrArg Value.bool (by exact Eq.symm (decide_eq_false (fun h9=>hx0 (by rw [hkx];exact h9.1.1))))) (.of rfl)):SubM _ _) (ho:=((.of [0,0,0,0] rfl):PickO _ _ _)) ((.of [0,1,2,3,4] rfl):SelR _ _ _)
       ·
        rintro ⟨⟩ -
        try dsimp only
        refine zG rfl (fun hc=> ?_) (fun hc=> ?_)
        ·
         have hat:kj.toNat=Fl.atD w pp (Fl.st4.getD q (0,0)):=by rw [hkj,hky,hkx];rfl
         have hpx:=hc.1.pix
         have hkj0:0≤kj∧kj.toNat<n:=⟨by rw [hkj,hky,hkx];exact hpx.1,by rw [hat,hwh];exact hpx.2⟩
         refine zf<|za<|e_mv rfl<|e_mv rfl<|e_mv rfl<|e_p (zN (j:=(kj).toNat) Try.underlying22 sz3 rfl rfl om om)<|zna 2 rfl rfl rfl (zda (j:=(kj).toNat) (x0:=(((Fl.cnt (Fl.ldr (Fl.ge l th) cc) i):Nat):Int)) (γ0:=()) rfl rfl (by first|omega|(rw [List.length_map];omega)|(simp only [List.length_set];omega)|(simp;done)|(simp;omega)) rfl rfl sz3 (fun _ _=>by exact ze.2 om)) (fun _=>(.s (.s .z))) (fun _ _=> ?_)
         refine zi<|zc<|za<|e_mv rfl<|e_mv rfl<|zwa rfl rfl (zt (enc:=fun z:Int=>[.int .i64 z]) (ok:=InK .i64) (h1:=fun _=>rfl) (h2:=fun _=>rfl) (k:=1) Try.underlying22 inf3 rfl dd dd dd (.c (x:=kj) rfl rfl (fun _ _=>by exact ze.2 om) .n)) (fun b23 _=> ?_)
         refine zua 0 rfl .z<|zna 2 rfl rfl rfl (zea 0 rfl Try.underlying22 inf3 dd rfl rfl (by first|rfl|assumption|(simp only [List.length_append,List.length_map,List.length_cons,List.length_nil];done)|(simp only [List.length_append,List.length_map,List.length_cons,List.length_nil];omega)|omega) rfl (by first|rfl|assumption|(simp only [List.length_append,List.length_map,List.length_cons,List.length_nil];done)|(simp only [List.length_append,List.length_map,List.length_cons,List.length_nil];omega)|omega) om om) (fun _=>(.s (.s .z))) ?_
         rintro ⟨p24,c25⟩ -
         dsimp only [aq,nq,cq]
         refine e_p (zd rfl)<|zi<|zB<|zc<|za<|e_p (zv (z:=(((q+1):Nat):Int)) rfl rfl (w64 om))<|e_mv rfl<|zi<|zQ ((q+1),(o3.set ((kj).toNat) (((Fl.cnt (Fl.ldr (Fl.ge l th) cc) i):Nat):Int)),(s3++[(kj).toNat]),p24,c25) (show (q+1)≤4∧Fl.FlP n (Fl.ge l th) (Fl.nb false w n) cc i (o3.set ((kj).toNat) (((Fl.cnt (Fl.ldr (Fl.ge l th) cc) i):Nat):Int)) (s3++[(kj).toNat]) pp (Fl.Dst w h pp Fl.st4 (q+1))∧2*Fl.unv (o3.set ((kj).toNat) (((Fl.cnt (Fl.ldr (Fl.ge l th) cc) i):Nat):Int))+(s3++[(kj).toNat]).length≤2*Fl.unv o2+st.length from by have h9:=hP1.yes Fl.stp4 hwh (by show q<4;omega) hcc hc.1 hc.2.1 hc.2.2;rw [← hat] at h9;exact ⟨by omega,h9.1,by omega⟩) (by show 4 - (q+1)<4 - q;omega) ((.e rfl (by simp) (.of rfl)):SubM _ _) (ho:=((.e (i:=2) rfl (by first|rfl|(dsimp only;rw [List.map_append,List.map_cons,List.map_nil,show Fl.iz ((kj).toNat)=kj by unfold Fl.iz;omega])) (.of [2,2] rfl)):PickO _ _ _)) ((.of [2,3,4,5] rfl):SelR _ _ _)
        ·
         refine zw<|zB<|zc<|za<|e_p (zv (z:=(((q+1):Nat):Int)) rfl rfl (w64 om))<|e_mv rfl<|zi<|zQ ((q+1),o3,s3,p5,c5) (show (q+1)≤4∧Fl.FlP n (Fl.ge l th) (Fl.nb false w n) cc i o3 s3 pp (Fl.Dst w h pp Fl.st4 (q+1))∧2*Fl.unv o3+s3.length≤2*Fl.unv o2+st.length from by exact ⟨by omega,hP1.no Fl.stp4 hwh (by show q<4;omega) hcc hc,hP2⟩) (by show 4 - (q+1)<4 - q;omega) (mR rfl) (ho:=((.of [1,1,1] rfl):PickO _ _ _)) ((.of [1,2,3,4] rfl):SelR _ _ _)
      ·
       refine zP<|zj<|zj<|zo<|zB<|zQ (o3,s3,p5,c5) (show Fl.Fld n (Fl.ge l th) (Fl.nb false w n) cc i o3 s3∧2*Fl.unv o3+s3.length≤2*n+1 from by refine ⟨?_,?_⟩;(have h9:q=4:=om);subst h9;exact hP1.end_ Fl.stp4 om hwh;have h8:=hFm;rw [List.length_append] at h8;simp only [List.length_cons,List.length_nil] at h8;omega) (by have h9:=hP2;rw [List.length_append];simp only [List.length_cons,List.length_nil];omega) (mR rfl) (ho:=((.of [0,0,0] rfl):PickO _ _ _)) ((.of [0,1,2,3] rfl):SelR _ _ _)
     ·
      refine zP<|zj<|zj<|zo<|zc<|za<|e_mv rfl<|e_p (zv (z:=((((Fl.cnt (Fl.ldr (Fl.ge l th) cc) i)+1):Nat):Int)) rfl rfl (w64 om))<|e_p (zd rfl)<|zi<|zB<|zc<|za<|e_p (zv (z:=(((i+1):Nat):Int)) rfl rfl (w64 om))<|e_mv rfl<|zi<|zQ ((i+1),o2) (show (i+1)≤n∧Fl.OutI n (Fl.ge l th) cc (i+1) o2 from by exact ⟨by omega,(by have h9:sk=[]:=(by cases sk with|nil=>rfl|cons a t=>simp at hso);subst h9;exact hF.fin hcc (fun _ _=>Fl.nb_symm) (fun _ _ h8=>Fl.nb_lt h8) om hfi)⟩) (by show n - (i+1)<n - i;omega) ((.e rfl (congrArg (Value.int .i64) (by dsimp only;rw [Fl.cnt_succ,hld];simp)) (.of rfl)):SubM _ _) (ho:=((.of [1,1] rfl):PickO _ _ _)) ((.of [1,2,3] rfl):SelR _ _ _)
  ·
   refine zP<|zj<|zj<|zo<|zc<|zf<|za<|e_mv rfl<|e_mv rfl<|e_p (zd rfl)<|e_p (zd rfl)<|zi<|zc<|zU ?_
   have hin8:i=n:=by omega
   rw [hin8] at ho
   refine zVa 0 rfl .z ?_
   exact zLa Try.results18 (some ⟨b2,0,none⟩,n,o,cc) (⟨hcc,ho⟩) (zx rfl) (zx rfl) (by rw [hin8]) (ho:=oN) (s0 rfl)
theorem zbc {w:Nat} {h:Nat} {m:Int} {p:Option Addr} {n:Nat} {cap:Nat} {l:List Int} {tb:Nat} {th:Int} {p2:Option Addr} {c2:Nat} (hn:l.length=n) (hw:1≤w∧w≤64) (hh:1≤h∧h≤64) (hwh:n=w*h) (hb:n≤4096):Con Try.prog 18 [.agg #[.int .i64 ((w:Nat):Int),.int .i64 ((h:Nat):Int),.int .i64 m,.slice p n cap],.func (.func 19) #[] #[.pointer (some ⟨tb,0,none⟩)],.slice p2 8 c2] [] [slF (rI .i64) p cap l,atF tb 0 [.int .i64 th],slF (rI2 .i64) p2 c2 (Fl.st8)] (Y:=(Option Addr)×Nat×(List Int)×(Nat→Nat)) (fun y=>Fl.Lst (fun j=>(Fl.lo l th) j=true) (Fl.nb true w n) y.2.2.2∧Fl.OutI n (Fl.lo l th) y.2.2.2 n y.2.2.1) (fun y=> .tuple #[.slice (y.1) n (y.2.1),.int .i64 (((Fl.cnt (Fl.ldr (Fl.lo l th) y.2.2.2) n):Nat):Int)]) (fun y=>[]) (fun y=>[slF (rI .i64) (y.1) (y.2.1) (y.2.2.1)]):=by
 refine zC Try.func18 rfl rfl rfl (fun c=> ?_)
 show RunC _ _ _ _ _ [(0,.agg #[.int .i64 ((w:Nat):Int),.int .i64 ((h:Nat):Int),.int .i64 m,.slice p n cap]),(1,.func (.func 19) #[] #[.pointer (some ⟨tb,0,none⟩)]),(2,.slice p2 8 c2)] [] [slF (rI .i64) p cap l,atF tb 0 [.int .i64 th],slF (rI2 .i64) p2 c2 (Fl.st8)]
 refine zpa 0 rfl (fun hL0=> ?_)
 refine zpa 2 rfl (fun hL2=> ?_)
 obtain ⟨cc,hcc⟩:=Fl.Lst.exists (inn:=fun j=>(Fl.lo l th) j=true) (adj:=(Fl.nb true w n)) (fun _ _=>Fl.nb_symm)
 have hin:∀j,(Fl.lo l th) j=true→j<n:=fun j hj=>by have:=Fl.lo_lt hj;omega
 refine zf<|za<|zZ rfl rfl (zka rfl rfl) (fun b1=> ?_)
 refine e_p (zd rfl)<|e_p (zd rfl)<|zi<|zc<|zf<|za<|e_p (zg Try.underlying24 rfl sz22 rfl rfl)<|e_ru (zb 0 ty22 rfl rfl rfl)<|e_p (zR Try.underlying22 rfl)<|zwa rfl rfl (zMb (r:=rI .i64) (k:=n) (x0:=0) (γ0:=()) Try.underlying22 inf3 rfl rfl rfl rfl om om rfl (fun g _=>by exact ze.2 dd) dd) (fun b2 _=> ?_)
 refine e_p (zd rfl)<|zi<|zc<|zf<|zf<|za<|e_mv rfl<|e_p (zR Try.underlying22 rfl)<|e_mv rfl<|zi<|zc<|zq<|zY (X:=Nat×(List Int)) (fun x:Nat×(List Int)=>x.1≤n∧x.2.length=n∧∀j,j<x.1→x.2.getD j 0= -1) (fun x=>[(26,.int .i64 ((x.1:Nat):Int)),(25,.int .i64 ((n:Nat):Int)),(8,.slice (some ⟨b2,0,none⟩) n n),(7,.int .i64 0),(6,.slice none 0 0),(3,.pointer (some ⟨b1,0,none⟩)),(1,.func (.func 19) #[] #[.pointer (some ⟨tb,0,none⟩)]),(2,.slice p2 8 c2)]) (fun x=>[rowA 3 (rI .i64) (some ⟨b2,0,none⟩) n (x.2),boxA b1 24 [.int .i64 ((w:Nat):Int),.int .i64 ((h:Nat):Int),.int .i64 m,.slice p n cap]]) (fun x=>[slF (rI .i64) p cap l,atF tb 0 [.int .i64 th],slF (rI2 .i64) p2 c2 (Fl.st8)]) (fun x:Nat×(List Int)=>n - x.1) (0,List.replicate n 0) (show 0≤n∧(List.replicate n 0).length=n∧∀j,j<0→(List.replicate n 0).getD j 0= -1 from by exact ⟨Nat.zero_le _,by simp,fun j hj=>by omega⟩) ((.e rfl cgs (.of rfl)):SubM _ _) (ho:=((.of [0,0] rfl):PickO _ _ _)) ((.of [0,1,2] rfl):SelR _ _ _) ?_
 rintro ⟨i,A⟩ hI
 replace hI:i≤n∧A.length=n∧∀j,j<i→A.getD j 0= -1:=hI
 try dsimp only
 obtain ⟨hi,hAl,hA⟩:=hI
 refine zf<|za<|e_p (zD rfl rfl)<|zi<|zc<|zf<|zG rfl (fun h3=> ?_) (fun h3=> ?_)
 ·
  refine zw<|zc<|zf<|zq<|zf<|za<|e_mv rfl<|e_p (zd rfl)<|zi<|zc<|za<|e_mv rfl<|e_mv rfl<|e_p (zN (j:=i) Try.underlying22 sz3 rfl rfl rfl om)<|zna 0 rfl rfl rfl (zda (j:=i) (x0:=(-1)) (γ0:=()) rfl rfl (by first|omega|(rw [List.length_map];omega)|(simp only [List.length_set];omega)|(simp;done)|(simp;omega)) rfl rfl sz3 (fun _ _=>by exact ze.2 om)) (fun _=> .z) (fun _ _=> ?_)
  refine zi<|zB<|zc<|za<|e_p (zv (z:=(((i+1):Nat):Int)) rfl rfl (w64 om))<|e_mv rfl<|zi<|zQ ((i+1),(A.set i (-1))) (show (i+1)≤n∧(A.set i (-1)).length=n∧∀j,j<(i+1)→(A.set i (-1)).getD j 0= -1 from by exact ⟨by omega,by rw [List.length_set];exact hAl,fun j hj=>by by_cases e9:j=i;exact e9 ▸ Big.getD_set_self om _;rw [Big.getD_set_ne e9];exact hA j om⟩) (by show n - (i+1)<n - i;omega) (mR rfl) (ho:=((.of [0,0] rfl):PickO _ _ _)) ((.of [0,1,2] rfl):SelR _ _ _)
 ·
  refine zP<|zj<|zj<|zo<|zc<|zf<|za<|e_p (zd rfl)<|zi<|zc<|zf<|zf<|za<|e_p (zg Try.underlying24 rfl sz22 rfl rfl)<|e_ru (zb 1 ty22 rfl rfl rfl)<|e_p (zR Try.underlying22 rfl)<|e_mv rfl<|zi<|zc<|zq ?_
  have hin9:i=n:=by omega
  refine zY (X:=Nat×(List Int)) (fun x:Nat×(List Int)=>x.1≤n∧Fl.OutI n (Fl.lo l th) cc x.1 x.2) (fun x=>[(10,.int .i64 (((Fl.cnt (Fl.ldr (Fl.lo l th) cc) x.1):Nat):Int)),(36,.int .i64 ((x.1:Nat):Int)),(35,.int .i64 ((n:Nat):Int)),(34,.slice p n cap),(8,.slice (some ⟨b2,0,none⟩) n n),(7,.int .i64 0),(6,.slice none 0 0),(3,.pointer (some ⟨b1,0,none⟩)),(1,.func (.func 19) #[] #[.pointer (some ⟨tb,0,none⟩)]),(2,.slice p2 8 c2)]) (fun x=>[rowA 3 (rI .i64) (some ⟨b2,0,none⟩) n (x.2),boxA b1 24 [.int .i64 ((w:Nat):Int),.int .i64 ((h:Nat):Int),.int .i64 m,.slice p n cap]]) (fun x=>[slF (rI .i64) p cap l,atF tb 0 [.int .i64 th],slF (rI2 .i64) p2 c2 (Fl.st8)]) (fun x:Nat×(List Int)=>n - x.1) (0,A) (show 0≤n∧Fl.OutI n (Fl.lo l th) cc 0 A from by exact ⟨Nat.zero_le _,⟨hAl,fun j _ _ hj=>by omega,fun j hj _=>hA j om⟩⟩) ((.e rfl cgs (.e rfl cgs (.of rfl))):SubM _ _) (ho:=((.of [0,0] rfl):PickO _ _ _)) ((.of [0,1,2] rfl):SelR _ _ _) ?_
  rintro ⟨i,o⟩ hI
  replace hI:i≤n∧Fl.OutI n (Fl.lo l th) cc i o:=hI
  try dsimp only
  obtain ⟨hi,ho⟩:=hI
  have hol:=ho.len
  have hcn:=Fl.cnt_le (Fl.ldr (Fl.lo l th) cc) i
  refine zf<|za<|e_p (zD rfl rfl)<|zi<|zc<|zf<|zG rfl (fun h4=> ?_) (fun h4=> ?_)
  ·
   refine zw<|zc<|zf<|zq<|zf<|za<|e_mv rfl<|zM (x0:=(l.getD i 0)) 0 i rfl Try.underlying22 sz3 rfl rfl rfl (by first|rfl|assumption|(simp only [List.length_append,List.length_map,List.length_cons,List.length_nil];done)|(simp only [List.length_append,List.length_map,List.length_cons,List.length_nil];omega)|omega) rfl rfl (gD (d:=0) om) (fun b5 o6 hok7=> ?_)
   replace hok7:=ze.1 hok7
   refine e_ru (zp (j:=0) 0 ty3 rfl rfl rfl rfl)<|e_p (zd rfl)<|e_p (zd rfl)<|zi<|zc<|zf<|zJa (X:=Unit) (fun x=>True) (fun x=>[(51,.bool (decide (¬o.getD i 0<0∨¬(Fl.lo l th) i=true))),(11,.int .i64 ((i:Nat):Int)),(10,.int .i64 (((Fl.cnt (Fl.ldr (Fl.lo l th) cc) i):Nat):Int)),(36,.int .i64 ((i:Nat):Int)),(35,.int .i64 ((n:Nat):Int)),(34,.slice p n cap),(8,.slice (some ⟨b2,0,none⟩) n n),(7,.int .i64 0),(6,.slice none 0 0),(3,.pointer (some ⟨b1,0,none⟩)),(1,.func (.func 19) #[] #[.pointer (some ⟨tb,0,none⟩)]),(2,.slice p2 8 c2)]) (fun x=>[rowA 3 (rI .i64) (some ⟨b2,0,none⟩) n o,boxA b1 24 [.int .i64 ((w:Nat):Int),.int .i64 ((h:Nat):Int),.int .i64 m,.slice p n cap]]) (fun x=>[atF b5 o6 [.int .i64 (l.getD i 0)],slF (rI .i64) p cap l,atF tb 0 [.int .i64 th],slF (rI2 .i64) p2 c2 (Fl.st8)]) ?_ ?_
   ·
    refine za<|e_mv rfl<|e_mv rfl<|e_p (zN (j:=i) Try.underlying22 sz3 rfl rfl rfl om)<|r_vl rfl rfl (zba 0 i rfl ty3 rfl rfl (gD (d:=0) om) rfl) (fun _ hok8=> ?_)
    replace hok8:=ze.1 hok8
    refine e_p (zNa rfl rfl)<|zI rfl rfl (zL rfl) (fun hk1=> ?_) (fun hk1=> ?_)
    ·
     refine e_no<|e_no<|e_no<|e_no<|e_p (zn rfl rfl)<|zi ?_
     exact zS () tt9 ((.e rfl (congrArg Value.bool (by exact Eq.symm (decide_eq_true (.inl om)))) (.of rfl)):SubM _ _) (ho:=((.of [0,0] rfl):PickO _ _ _)) ((.of [0,1,2,3] rfl):SelR _ _ _)
    ·
     refine e_mv rfl<|e_mv rfl<|zQa (first:=[]) (cap:=[.pointer (some ⟨tb,0,none⟩)]) rfl rfl rfl (.c rfl .n) ce19 (zJb (g:=(l.getD i 0)) (th:=th) (tb:=tb)) (.c (j:=2) rfl .n) ?_
     rintro ⟨⟩ -
     dsimp only [aq,nq,cq]
     refine e_p (zgc rfl)<|e_p (zn rfl rfl)<|zi ?_
     exact zS () tt9 ((.e rfl (congrArg Value.bool (by exact decide_eq_decide.2 ⟨fun h9=> .inr (fun h8=>h9 ((Fl.lo_iff om).1 h8)),fun h9 h8=>h9.elim (fun h7=>h7 om) (fun h7=>h7 ((Fl.lo_iff om).2 h8))⟩)) (.of rfl)):SubM _ _) (ho:=((.of [0,0] rfl):PickO _ _ _)) ((.of [0,1,2,3] rfl):SelR _ _ _)
   ·
    rintro ⟨⟩ -
    try dsimp only
    refine zG rfl (fun hout=> ?_) (fun hout=> ?_)
    ·
     refine zP<|zj<|zo<|zc<|za<|e_p (zv (z:=(((i+1):Nat):Int)) rfl rfl (w64 om))<|e_mv rfl<|zi<|zQ ((i+1),o) (show (i+1)≤n∧Fl.OutI n (Fl.lo l th) cc (i+1) o from by exact ⟨by omega,(ho.none hcc om hout).1⟩) (by show n - (i+1)<n - i;omega) ((.e rfl (congrArg (Value.int .i64) (by dsimp only;rw [Fl.cnt_succ,(ho.none hcc om hout).2];simp)) (.of rfl)):SubM _ _) (ho:=((.of [0,0] rfl):PickO _ _ _)) ((.of [1,2,3] rfl):SelR _ _ _)
    ·
     refine zw<|zc<|zf<|za<|e_mv rfl<|e_mv rfl<|e_mv rfl<|e_p (zN (j:=i) Try.underlying22 sz3 rfl rfl rfl om)<|zna 0 rfl rfl rfl (zda (j:=i) (x0:=(((Fl.cnt (Fl.ldr (Fl.lo l th) cc) i):Nat):Int)) (γ0:=()) rfl rfl (by first|omega|(rw [List.length_map];omega)|(simp only [List.length_set];omega)|(simp;done)|(simp;omega)) rfl rfl sz3 (fun _ _=>by exact ze.2 om)) (fun _=> .z) (fun _ _=> ?_)
     refine zi<|zc<|zf<|zf<|za<|e_mv rfl<|zwa rfl rfl (zt (enc:=fun z:Int=>[.int .i64 z]) (ok:=InK .i64) (h1:=fun _=>rfl) (h2:=fun _=>rfl) (k:=1) Try.underlying22 inf3 rfl dd dd dd (.c (x:=((i:Nat):Int)) rfl rfl (fun _ _=>by exact ze.2 om) .n)) (fun b9 _=> ?_)
     refine e_p (zd rfl)<|zi<|zc<|zq ?_
     have hfi:(Fl.lo l th) i=true:=by by_cases h9:(Fl.lo l th) i=true;exact h9;exact absurd (.inr h9) hout
     have hoi:o.getD i 0<0:=by by_cases h9:o.getD i 0<0;exact h9;exact absurd (.inl h9) hout
     have hld:=(ho.lead hcc om hoi hfi).2
     refine zY (X:=(List Int)×(List Nat)×(Option Addr)×Nat) (fun x:(List Int)×(List Nat)×(Option Addr)×Nat=>Fl.Fld n (Fl.lo l th) (Fl.nb true w n) cc i x.1 x.2.1∧2*Fl.unv x.1+x.2.1.length≤2*n+1) (fun x=>[(13,.slice (x.2.2.1) (x.2.1.length) (x.2.2.2)),(10,.int .i64 (((Fl.cnt (Fl.ldr (Fl.lo l th) cc) i):Nat):Int)),(36,.int .i64 ((i:Nat):Int)),(35,.int .i64 ((n:Nat):Int)),(34,.slice p n cap),(8,.slice (some ⟨b2,0,none⟩) n n),(7,.int .i64 0),(6,.slice none 0 0),(3,.pointer (some ⟨b1,0,none⟩)),(1,.func (.func 19) #[] #[.pointer (some ⟨tb,0,none⟩)]),(2,.slice p2 8 c2)]) (fun x=>[rowA 3 (rI .i64) (x.2.2.1) (x.2.2.2) (x.2.1.map Fl.iz),rowA 3 (rI .i64) (some ⟨b2,0,none⟩) n (x.1),boxA b1 24 [.int .i64 ((w:Nat):Int),.int .i64 ((h:Nat):Int),.int .i64 m,.slice p n cap]]) (fun x=>[atF b5 o6 [.int .i64 (l.getD i 0)],slF (rI .i64) p cap l,atF tb 0 [.int .i64 th],slF (rI2 .i64) p2 c2 (Fl.st8)]) (fun x:(List Int)×(List Nat)×(Option Addr)×Nat=>2*Fl.unv x.1+x.2.1.length) ((o.set i (((Fl.cnt (Fl.ldr (Fl.lo l th) cc) i):Nat):Int)),[i],some ⟨b9,0,none⟩,1) (show Fl.Fld n (Fl.lo l th) (Fl.nb true w n) cc i (o.set i (((Fl.cnt (Fl.ldr (Fl.lo l th) cc) i):Nat):Int)) ([i])∧2*Fl.unv (o.set i (((Fl.cnt (Fl.ldr (Fl.lo l th) cc) i):Nat):Int))+([i]).length≤2*n+1 from by exact ⟨(ho.lead hcc om hoi hfi).1,by have h9:=Fl.unv_le (o.set i ((Fl.cnt (Fl.ldr (Fl.lo l th) cc) i:Nat):Int));rw [List.length_set] at h9;simp only [List.length_cons,List.length_nil];omega⟩) ((.e rfl cgs (.of rfl)):SubM _ _) (ho:=((.e (i:=0) rfl cgs (.of [0,0] rfl)):PickO _ _ _)) ((.of [0,1,2,3] rfl):SelR _ _ _) ?_
     rintro ⟨o2,sk,p4,c4⟩ hFF
     replace hFF:Fl.Fld n (Fl.lo l th) (Fl.nb true w n) cc i o2 sk∧2*Fl.unv o2+sk.length≤2*n+1:=hFF
     try dsimp only
     obtain ⟨hF,hFm⟩:=hFF
     have ho2:=hF.len
     refine zf<|zf<|za<|e_mv rfl<|e_p (zR Try.underlying22 rfl)<|e_p (zMa rfl rfl)<|zi<|zc<|zG rfl (fun hso=> ?_) (fun hso=> ?_)
     ·
      obtain ⟨st,pp,rfl⟩:=Fl.snoc (sk:=sk) (fun e9=>by rw [e9] at hso;simp at hso)
      have hsl9:st.length+1≤2*n+1:=by have h8:=hFm;rw [List.length_append] at h8;simp only [List.length_cons,List.length_nil] at h8;omega
      have hsl8:((st++[pp]).map Fl.iz).length=st.length+1:=by simp
      refine zwc 0 rfl (fun hcl=> ?_)
      have e10:(.slice p4 ((st++[pp]).length) c4:Value)= .slice p4 (st.length+1) c4:=by simp
      rw [e10]
      refine zw<|zc<|zq<|zf<|za<|e_mv rfl<|e_mv rfl<|e_p (zR Try.underlying22 rfl)<|e_p (zxa (z:=(((st.length):Nat):Int)) rfl rfl (w64 om))<|e_ru (zrb 0 (st.length) rfl Try.underlying22 sz3 rfl (by first|rfl|assumption|(simp only [List.length_append,List.length_map,List.length_cons,List.length_nil];done)|(simp only [List.length_append,List.length_map,List.length_cons,List.length_nil];omega)|omega) rfl rfl om)<|r_vl rfl rfl (zba 0 (st.length) rfl ty3 rfl rfl (gD (d:=0) om) rfl) (fun _ hok11=> ?_)
      replace hok11:=ze.1 hok11
      refine e_p (zd rfl)<|zi<|zc<|zf ?_
      have e12:((((st++[pp]).map Fl.iz).getD (st.length) 0):Int)=((pp:Nat):Int):=by exact Fl.getD_iz st pp
      rw [e12]
      refine za<|e_mv rfl<|e_mv rfl<|e_p (zR Try.underlying22 rfl)<|e_p (zxa (z:=(((st.length):Nat):Int)) rfl rfl (w64 om))<|e_p (zUb (hi:=(st.length)) Try.underlying22 sz3 rfl (.s rfl) (.inr ⟨_,rfl⟩) om)<|e_p (zd rfl)<|zi<|zc<|zf<|zob (fun w mm=>mm.rowTake 0 rfl (st.length)) ?_
      dsimp only [List.set]
      have e13:((st++[pp]).map Fl.iz).take (st.length)=st.map Fl.iz:=by simp
      rw [e13]
      refine za<|e_mv rfl<|e_p (zR Try.underlying59 rfl)<|e_mv rfl<|zi<|zc<|zq<|zY (X:=Nat×(List Int)×(List Nat)×(Option Addr)×Nat) (fun x:Nat×(List Int)×(List Nat)×(Option Addr)×Nat=>x.1≤8∧Fl.FlP n (Fl.lo l th) (Fl.nb true w n) cc i x.2.1 x.2.2.1 pp (Fl.Dst w h pp Fl.st8 x.1)∧2*Fl.unv x.2.1+x.2.2.1.length≤2*Fl.unv o2+st.length) (fun x=>[(13,.slice (x.2.2.2.1) (x.2.2.1.length) (x.2.2.2.2)),(74,.int .i64 ((x.1:Nat):Int)),(73,.int .i64 8),(72,.slice p2 8 c2),(14,.int .i64 ((pp:Nat):Int)),(10,.int .i64 (((Fl.cnt (Fl.ldr (Fl.lo l th) cc) i):Nat):Int)),(36,.int .i64 ((i:Nat):Int)),(35,.int .i64 ((n:Nat):Int)),(34,.slice p n cap),(8,.slice (some ⟨b2,0,none⟩) n n),(7,.int .i64 0),(6,.slice none 0 0),(3,.pointer (some ⟨b1,0,none⟩)),(1,.func (.func 19) #[] #[.pointer (some ⟨tb,0,none⟩)]),(2,.slice p2 8 c2)]) (fun x=>[rowA 3 (rI .i64) (x.2.2.2.1) (x.2.2.2.2) (x.2.2.1.map Fl.iz),rowA 3 (rI .i64) (some ⟨b2,0,none⟩) n (x.2.1),boxA b1 24 [.int .i64 ((w:Nat):Int),.int .i64 ((h:Nat):Int),.int .i64 m,.slice p n cap]]) (fun x=>[atF b5 o6 [.int .i64 (l.getD i 0)],slF (rI .i64) p cap l,atF tb 0 [.int .i64 th],slF (rI2 .i64) p2 c2 (Fl.st8)]) (fun x:Nat×(List Int)×(List Nat)×(Option Addr)×Nat=>8 - x.1) (0,o2,st,p4,c4) (show 0≤8∧Fl.FlP n (Fl.lo l th) (Fl.nb true w n) cc i o2 st pp (Fl.Dst w h pp Fl.st8 0)∧2*Fl.unv o2+st.length≤2*Fl.unv o2+st.length from by exact ⟨Nat.zero_le _,Fl.FlP.start hF,Nat.le_refl _⟩) ((.c rfl (.e rfl cgs (.of rfl))):SubM _ _) (ho:=((.of [0,0,0] rfl):PickO _ _ _)) ((.of [0,1,2,3] rfl):SelR _ _ _) ?_
      rintro ⟨q,o3,s3,p5,c5⟩ hQ
      replace hQ:q≤8∧Fl.FlP n (Fl.lo l th) (Fl.nb true w n) cc i o3 s3 pp (Fl.Dst w h pp Fl.st8 q)∧2*Fl.unv o3+s3.length≤2*Fl.unv o2+st.length:=hQ
      try dsimp only
      obtain ⟨hq,hP1,hP2⟩:=hQ
      have ho3:=hP1.len
      refine zf<|za<|e_p (zD rfl rfl)<|zi<|zc<|zf<|zG rfl (fun h14=> ?_) (fun h14=> ?_)
      ·
       have hst9:Fl.st8.length=8:=rfl
       have hd9:=Fl.stp8.ok _ (Fl.gD_mem (l:=Fl.st8) (q:=q) (by show q<8;omega))
       have hpb:=Fl.at_b hw hP1.pop.1 hb hd9.1 hd9.2.1
       refine zw<|zc<|zf<|zq<|zf<|za<|zM (x0:=(Fl.st8.getD q (0,0))) 3 q rfl Try.underlying59 sz67 rfl rfl rfl (by first|rfl|assumption|(simp only [List.length_append,List.length_map,List.length_cons,List.length_nil];done)|(simp only [List.length_append,List.length_map,List.length_cons,List.length_nil];omega)|omega) rfl rfl (gD (d:=(0,0)) om) (fun b15 o16 hok17=> ?_)
       obtain ⟨hok17x,hok17y⟩:=hok17
       replace hok17x:=ze.1 hok17x
       replace hok17y:=ze.1 hok17y
       refine e_ru (zJ (j:=0) 0 ty67 rfl rfl rfl (.t2 .nil))<|zZ rfl rfl (zF zr67 rfl) (fun b18=> ?_)
       refine zE 0 rfl rfl rfl rfl rfl sz67 rfl (.t2 .nil) .z<|zi<|zc<|zf<|zsa (OW:=[]) (O:=[boxA b18 67 [.int .i64 ((Fl.st8.getD q (0,0)).1),.int .i64 ((Fl.st8.getD q (0,0)).2)],rowA 3 (rI .i64) p5 c5 (s3.map Fl.iz),rowA 3 (rI .i64) (some ⟨b2,0,none⟩) n o3,boxA b1 24 [.int .i64 ((w:Nat):Int),.int .i64 ((h:Nat):Int),.int .i64 m,.slice p n cap]]) 100000 mixed (.then (.block (.then (.then (.block (.block (.then (.block (.then (.block (.then (.then (.block (.then .ret)))))))))))))) kr<|e_dm 0 rfl rfl rfl<|e_pv 1 rfl rfl (zg Try.underlying24 rfl sz3 rfl rfl)<|e_u 2 rfl rfl (zb 3 ty3 rfl rfl rfl)<|e_pv 3 rfl rfl (zXa (z:=(((pp%w):Nat):Int)) rfl rfl om (remN om om))<|e_pv 4 rfl rfl (zk (i:=0) Try.underlying67 sz3 rfl rfl dd rfl)<|e_u 5 rfl rfl (zb 0 ty3 rfl rfl rfl)<|e_pv 6 rfl rfl (zv (z:=((((pp%w):Nat):Int)+(Fl.st8.getD q (0,0)).1)) rfl rfl (w64 om))<|e_dm 7 rfl rfl rfl<|e_pv 8 rfl rfl (zg Try.underlying24 rfl sz3 rfl rfl)<|e_u 9 rfl rfl (zb 3 ty3 rfl rfl rfl)<|e_pv 10 rfl rfl (zRb (z:=(((pp / w):Nat):Int)) rfl rfl om (by rw [quoN (z:=(((pp / w):Nat):Int)) om om];exact w64 om))<|e_pv 11 rfl rfl (zk (i:=1) Try.underlying67 sz3 rfl rfl dd rfl)<|e_u 12 rfl rfl (zb 0 ty3 rfl rfl rfl)<|e_pv 13 rfl rfl (zv (z:=((((pp / w):Nat):Int)+(Fl.st8.getD q (0,0)).2)) rfl rfl (w64 om))<|e_pv 14 rfl rfl (zd rfl)<|e_pv 15 rfl rfl (zd rfl)<|zra kr<|zc<|zf ?_
       obtain ⟨kx,hkx⟩:∃z,z=((((pp%w):Nat):Int)+(Fl.st8.getD q (0,0)).1):=⟨_,rfl⟩
       rw [← hkx]
       obtain ⟨ky,hky⟩:∃z,z=((((pp / w):Nat):Int)+(Fl.st8.getD q (0,0)).2):=⟨_,rfl⟩
       rw [← hky]
       have hkyw: -64≤ky*((w:Nat):Int)∧ky*((w:Nat):Int)≤4160:=by rw [hky];exact hpb.1
       have hkxb: -1≤kx∧kx≤64:=by rw [hkx];exact hpb.2.1
       refine za<|e_mv rfl<|e_p (zg Try.underlying24 rfl sz3 rfl rfl)<|e_ru (zb 3 ty3 rfl rfl rfl)<|e_p (zBa (z:=(ky*((w:Nat):Int))) rfl rfl (w64 om))<|e_mv rfl<|e_p (zv (z:=((ky*((w:Nat):Int))+kx)) rfl rfl (w64 om))<|e_p (zd rfl)<|zi<|zc ?_
       obtain ⟨kj,hkj⟩:∃z,z=((ky*((w:Nat):Int))+kx):=⟨_,rfl⟩
       rw [← hkj]
       refine zJa (X:=Unit) (fun x=>True) (fun x=>[(131,.bool (decide (Fl.CP w h pp (Fl.lo l th) o3 (Fl.st8.getD q (0,0))))),(19,.int .i64 kj),(13,.slice p5 (s3.length) c5),(74,.int .i64 ((q:Nat):Int)),(73,.int .i64 8),(72,.slice p2 8 c2),(14,.int .i64 ((pp:Nat):Int)),(10,.int .i64 (((Fl.cnt (Fl.ldr (Fl.lo l th) cc) i):Nat):Int)),(36,.int .i64 ((i:Nat):Int)),(35,.int .i64 ((n:Nat):Int)),(34,.slice p n cap),(8,.slice (some ⟨b2,0,none⟩) n n),(7,.int .i64 0),(6,.slice none 0 0),(3,.pointer (some ⟨b1,0,none⟩)),(1,.func (.func 19) #[] #[.pointer (some ⟨tb,0,none⟩)]),(2,.slice p2 8 c2)]) (fun x=>[boxA b18 67 [.int .i64 ((Fl.st8.getD q (0,0)).1),.int .i64 ((Fl.st8.getD q (0,0)).2)],rowA 3 (rI .i64) p5 c5 (s3.map Fl.iz),rowA 3 (rI .i64) (some ⟨b2,0,none⟩) n o3,boxA b1 24 [.int .i64 ((w:Nat):Int),.int .i64 ((h:Nat):Int),.int .i64 m,.slice p n cap]]) (fun x=>[atF b15 o16 [.int .i64 ((Fl.st8.getD q (0,0)).1),.int .i64 ((Fl.st8.getD q (0,0)).2)],atF b5 o6 [.int .i64 (l.getD i 0)],slF (rI .i64) p cap l,atF tb 0 [.int .i64 th],slF (rI2 .i64) p2 c2 (Fl.st8)]) ?_ ?_
       ·
        refine za<|e_mv rfl<|e_p (zNa rfl rfl)<|zI rfl rfl (zL rfl) (fun hx0=> ?_) (fun hx0=> ?_)
        ·
         refine e_mv rfl<|e_p (zNa rfl rfl)<|e_p (zn rfl rfl)<|zI rfl rfl (zL rfl) (fun hx1=> ?_) (fun hx1=> ?_)
         ·
          refine e_mv rfl<|e_p (zg Try.underlying24 rfl sz3 rfl rfl)<|e_ru (zb 3 ty3 rfl rfl rfl)<|e_p (zD rfl rfl)<|e_p (zn rfl rfl)<|zI rfl rfl (zL rfl) (fun hx2=> ?_) (fun hx2=> ?_)
          ·
           refine e_mv rfl<|e_p (zg Try.underlying24 rfl sz3 rfl rfl)<|e_ru (zb 3 ty3 rfl rfl rfl)<|e_p (zD rfl rfl)<|e_p (zn rfl rfl)<|zI rfl rfl (zL rfl) (fun hx3=> ?_) (fun hx3=> ?_)
           ·
            have hat:kj.toNat=Fl.atD w pp (Fl.st8.getD q (0,0)):=by rw [hkj,hky,hkx];rfl
            have hiD:Fl.inD w h pp (Fl.st8.getD q (0,0)):=⟨hkx ▸ hx0,hky ▸ hx1,hkx ▸ hx2,hky ▸ hx3⟩
            have hpx:=hiD.pix
            have hkj0:0≤kj∧kj.toNat<n:=⟨by rw [hkj,hky,hkx];exact hpx.1,by rw [hat,hwh];exact hpx.2⟩
            refine e_mv rfl<|e_mv rfl<|e_p (zN (j:=(kj).toNat) Try.underlying22 sz3 rfl rfl om om)<|r_vl rfl rfl (zba 2 ((kj).toNat) rfl ty3 rfl rfl (gD (d:=0) om) rfl) (fun _ hok19=> ?_)
            replace hok19:=ze.1 hok19
            refine e_p (zD rfl rfl)<|e_p (zn rfl rfl)<|zI rfl rfl (zL rfl) (fun hx4=> ?_) (fun hx4=> ?_)
            ·
             refine e_mv rfl<|e_p (zg Try.underlying24 rfl sz22 rfl rfl)<|e_ru (zb 3 ty22 rfl rfl rfl)<|e_mv rfl<|zM (x0:=(l.getD ((kj).toNat) 0)) 2 ((kj).toNat) rfl Try.underlying22 sz3 rfl rfl rfl (by first|rfl|assumption|(simp only [List.length_append,List.length_map,List.length_cons,List.length_nil];done)|(simp only [List.length_append,List.length_map,List.length_cons,List.length_nil];omega)|omega) rfl om (gD (d:=0) om) (fun b20 o21 hok22=> ?_)
             replace hok22:=ze.1 hok22
             refine e_ru (zp (j:=0) 0 ty3 rfl rfl rfl rfl)<|zQa (first:=[]) (cap:=[.pointer (some ⟨tb,0,none⟩)]) rfl rfl rfl (.c rfl .n) ce19 (zJb (g:=(l.getD ((kj).toNat) 0)) (th:=th) (tb:=tb)) (.c (j:=4) rfl .n) ?_
             rintro ⟨⟩ -
             dsimp only [aq,nq,cq]
             refine e_p (zn rfl rfl)<|zi ?_
             exact zS () tt9 ((.e rfl (congrArg Value.bool (by exact decide_eq_decide.2 ⟨fun h9=>⟨hiD,by rw [← hat];exact hx4,by rw [← hat];exact (Fl.lo_iff om).2 h9⟩,fun h9=>(Fl.lo_iff om).1 (by rw [hat];exact h9.2.2)⟩)) (.of rfl)):SubM _ _) (ho:=((.of [0,0,0,0] rfl):PickO _ _ _)) ((.of [1,2,3,4,5] rfl):SelR _ _ _)
            ·
             refine e_no<|e_no<|e_no<|e_no<|e_no<|e_no<|e_no<|e_p (zn rfl rfl)<|zi ?_
             exact zS () tt9 ((.e rfl (congrArg Value.bool (by exact Eq.symm (decide_eq_false (fun h9=>hx4 (by rw [hat];exact h9.2.1))))) (.of rfl)):SubM _ _) (ho:=((.of [0,0,0,0] rfl):PickO _ _ _)) ((.of [0,1,2,3,4] rfl):SelR _ _ _)
           ·
            refine e_no<|e_no<|e_no<|e_no<|e_no<|e_p (zn rfl rfl)<|e_mv rfl<|e_no<|e_no<|e_no<|e_no<|e_no<|e_no<|e_no<|e_p (zn rfl rfl)<|zi ?_
            exact zS () tt9 ((.e rfl (congrArg Value.bool (by exact Eq.symm (decide_eq_false (fun h9=>hx3 (by rw [hky];exact h9.1.2.2.2))))) (.of rfl)):SubM _ _) (ho:=((.of [0,0,0,0] rfl):PickO _ _ _)) ((.of [0,1,2,3,4] rfl):SelR _ _ _)
          ·
           refine e_no<|e_no<|e_no<|e_no<|e_p (zn rfl rfl)<|e_mv rfl<|e_no<|e_no<|e_no<|e_no<|e_no<|e_p (zn rfl rfl)<|e_mv rfl<|e_no<|e_no<|e_no<|e_no<|e_no<|e_no<|e_no<|e_p (zn rfl rfl)<|zi ?_
           exact zS () tt9 ((.e rfl (congrArg Value.bool (by exact Eq.symm (decide_eq_false (fun h9=>hx2 (by rw [hkx];exact h9.1.2.2.1))))) (.of rfl)):SubM _ _) (ho:=((.of [0,0,0,0] rfl):PickO _ _ _)) ((.of [0,1,2,3,4] rfl):SelR _ _ _)
         ·
          refine e_no<|e_no<|e_no<|e_no<|e_p (zn rfl rfl)<|e_mv rfl<|e_no<|e_no<|e_no<|e_no<|e_p (zn rfl rfl)<|e_mv rfl<|e_no<|e_no<|e_no<|e_no<|e_no<|e_p (zn rfl rfl)<|e_mv rfl<|e_no<|e_no<|e_no<|e_no<|e_no<|e_no<|e_no<|e_p (zn rfl rfl)<|zi ?_
          exact zS () tt9 ((.e rfl (congrArg Value.bool (by exact Eq.symm (decide_eq_false (fun h9=>hx1 (by rw [hky];exact h9.1.2.1))))) (.of rfl)):SubM _ _) (ho:=((.of [0,0,0,0] rfl):PickO _ _ _)) ((.of [0,1,2,3,4] rfl):SelR _ _ _)
        ·
         refine e_no<|e_no<|e_p (zn rfl rfl)<|e_mv rfl<|e_no<|e_no<|e_no<|e_no<|e_p (zn rfl rfl)<|e_mv rfl<|e_no<|e_no<|e_no<|e_no<|e_p (zn rfl rfl)<|e_mv rfl<|e_no<|e_no<|e_no<|e_no<|e_no<|e_p (zn rfl rfl)<|e_mv rfl<|e_no<|e_no<|e_no<|e_no<|e_no<|e_no<|e_no<|e_p (zn rfl rfl)<|zi ?_
         exact zS () tt9 ((.e rfl (congrArg Value.bool (by exact Eq.symm (decide_eq_false (fun h9=>hx0 (by rw [hkx];exact h9.1.1))))) (.of rfl)):SubM _ _) (ho:=((.of [0,0,0,0] rfl):PickO _ _ _)) ((.of [0,1,2,3,4] rfl):SelR _ _ _)
       ·
        rintro ⟨⟩ -
        try dsimp only
        refine zG rfl (fun hc=> ?_) (fun hc=> ?_)
        ·
         have hat:kj.toNat=Fl.atD w pp (Fl.st8.getD q (0,0)):=by rw [hkj,hky,hkx];rfl
         have hpx:=hc.1.pix
         have hkj0:0≤kj∧kj.toNat<n:=⟨by rw [hkj,hky,hkx];exact hpx.1,by rw [hat,hwh];exact hpx.2⟩
         refine zf<|za<|e_mv rfl<|e_mv rfl<|e_mv rfl<|e_p (zN (j:=(kj).toNat) Try.underlying22 sz3 rfl rfl om om)<|zna 2 rfl rfl rfl (zda (j:=(kj).toNat) (x0:=(((Fl.cnt (Fl.ldr (Fl.lo l th) cc) i):Nat):Int)) (γ0:=()) rfl rfl (by first|omega|(rw [List.length_map];omega)|(simp only [List.length_set];omega)|(simp;done)|(simp;omega)) rfl rfl sz3 (fun _ _=>by exact ze.2 om)) (fun _=>(.s (.s .z))) (fun _ _=> ?_)
         refine zi<|zc<|za<|e_mv rfl<|e_mv rfl<|zwa rfl rfl (zt (enc:=fun z:Int=>[.int .i64 z]) (ok:=InK .i64) (h1:=fun _=>rfl) (h2:=fun _=>rfl) (k:=1) Try.underlying22 inf3 rfl dd dd dd (.c (x:=kj) rfl rfl (fun _ _=>by exact ze.2 om) .n)) (fun b23 _=> ?_)
         refine zua 0 rfl .z<|zna 2 rfl rfl rfl (zea 0 rfl Try.underlying22 inf3 dd rfl rfl (by first|rfl|assumption|(simp only [List.length_append,List.length_map,List.length_cons,List.length_nil];done)|(simp only [List.length_append,List.length_map,List.length_cons,List.length_nil];omega)|omega) rfl (by first|rfl|assumption|(simp only [List.length_append,List.length_map,List.length_cons,List.length_nil];done)|(simp only [List.length_append,List.length_map,List.length_cons,List.length_nil];omega)|omega) om om) (fun _=>(.s (.s .z))) ?_
         rintro ⟨p24,c25⟩ -
         dsimp only [aq,nq,cq]
         refine e_p (zd rfl)<|zi<|zB<|zc<|za<|e_p (zv (z:=(((q+1):Nat):Int)) rfl rfl (w64 om))<|e_mv rfl<|zi<|zQ ((q+1),(o3.set ((kj).toNat) (((Fl.cnt (Fl.ldr (Fl.lo l th) cc) i):Nat):Int)),(s3++[(kj).toNat]),p24,c25) (show (q+1)≤8∧Fl.FlP n (Fl.lo l th) (Fl.nb true w n) cc i (o3.set ((kj).toNat) (((Fl.cnt (Fl.ldr (Fl.lo l th) cc) i):Nat):Int)) (s3++[(kj).toNat]) pp (Fl.Dst w h pp Fl.st8 (q+1))∧2*Fl.unv (o3.set ((kj).toNat) (((Fl.cnt (Fl.ldr (Fl.lo l th) cc) i):Nat):Int))+(s3++[(kj).toNat]).length≤2*Fl.unv o2+st.length from by have h9:=hP1.yes Fl.stp8 hwh (by show q<8;omega) hcc hc.1 hc.2.1 hc.2.2;rw [← hat] at h9;exact ⟨by omega,h9.1,by omega⟩) (by show 8 - (q+1)<8 - q;omega) ((.e rfl (by simp) (.of rfl)):SubM _ _) (ho:=((.e (i:=2) rfl (by first|rfl|(dsimp only;rw [List.map_append,List.map_cons,List.map_nil,show Fl.iz ((kj).toNat)=kj by unfold Fl.iz;omega])) (.of [2,2] rfl)):PickO _ _ _)) ((.of [2,3,4,5] rfl):SelR _ _ _)
        ·
         refine zw<|zB<|zc<|za<|e_p (zv (z:=(((q+1):Nat):Int)) rfl rfl (w64 om))<|e_mv rfl<|zi<|zQ ((q+1),o3,s3,p5,c5) (show (q+1)≤8∧Fl.FlP n (Fl.lo l th) (Fl.nb true w n) cc i o3 s3 pp (Fl.Dst w h pp Fl.st8 (q+1))∧2*Fl.unv o3+s3.length≤2*Fl.unv o2+st.length from by exact ⟨by omega,hP1.no Fl.stp8 hwh (by show q<8;omega) hcc hc,hP2⟩) (by show 8 - (q+1)<8 - q;omega) (mR rfl) (ho:=((.of [1,1,1] rfl):PickO _ _ _)) ((.of [1,2,3,4] rfl):SelR _ _ _)
      ·
       refine zP<|zj<|zj<|zo<|zB<|zQ (o3,s3,p5,c5) (show Fl.Fld n (Fl.lo l th) (Fl.nb true w n) cc i o3 s3∧2*Fl.unv o3+s3.length≤2*n+1 from by refine ⟨?_,?_⟩;(have h9:q=8:=om);subst h9;exact hP1.end_ Fl.stp8 om hwh;have h8:=hFm;rw [List.length_append] at h8;simp only [List.length_cons,List.length_nil] at h8;omega) (by have h9:=hP2;rw [List.length_append];simp only [List.length_cons,List.length_nil];omega) (mR rfl) (ho:=((.of [0,0,0] rfl):PickO _ _ _)) ((.of [0,1,2,3] rfl):SelR _ _ _)
     ·
      refine zP<|zj<|zj<|zo<|zc<|za<|e_mv rfl<|e_p (zv (z:=((((Fl.cnt (Fl.ldr (Fl.lo l th) cc) i)+1):Nat):Int)) rfl rfl (w64 om))<|e_p (zd rfl)<|zi<|zB<|zc<|za<|e_p (zv (z:=(((i+1):Nat):Int)) rfl rfl (w64 om))<|e_mv rfl<|zi<|zQ ((i+1),o2) (show (i+1)≤n∧Fl.OutI n (Fl.lo l th) cc (i+1) o2 from by exact ⟨by omega,(by have h9:sk=[]:=(by cases sk with|nil=>rfl|cons a t=>simp at hso);subst h9;exact hF.fin hcc (fun _ _=>Fl.nb_symm) (fun _ _ h8=>Fl.nb_lt h8) om hfi)⟩) (by show n - (i+1)<n - i;omega) ((.e rfl (congrArg (Value.int .i64) (by dsimp only;rw [Fl.cnt_succ,hld];simp)) (.of rfl)):SubM _ _) (ho:=((.of [1,1] rfl):PickO _ _ _)) ((.of [1,2,3] rfl):SelR _ _ _)
  ·
   refine zP<|zj<|zj<|zo<|zc<|zf<|za<|e_mv rfl<|e_mv rfl<|e_p (zd rfl)<|e_p (zd rfl)<|zi<|zc<|zU ?_
   have hin8:i=n:=by omega
   rw [hin8] at ho
   refine zVa 0 rfl .z ?_
   exact zLa Try.results18 (some ⟨b2,0,none⟩,n,o,cc) (⟨hcc,ho⟩) (zx rfl) (zx rfl) (by rw [hin8]) (ho:=oN) (s0 rfl)
end Go.Proofs.Ytpdbimfnhglhpaa.Sp
namespace Go.Proofs.Ytpdbimfnhglhpaa.Fl
section
variable {n i k : Nat} {f : Nat → Bool} {adj : Nat → Nat → Prop} {c : Nat → Nat} {num A : List Int}
structure LbI (n:Nat) (f:Nat→Bool) (c:Nat→Nat) (i:Nat) (num:List Int) (A:List Int):Prop where
  nl:num.length=n
  al:A.length=i
  lead:∀j,j<i→ldr f c j=true→num.getD j 0=(cnt (ldr f c) j:Int)
  yes:∀j,j<i→f j=true→A.getD j 0=(cnt (ldr f c) (c j):Int)
  not:∀j,j<i→¬f j=true→A.getD j 0= -1
theorem getD_snoc_lt {A:List Int} {x:Int} {j:Nat} (h:j<A.length):(A++[x]).getD j 0=A.getD j 0:=by
  rw [List.getD_eq_getElem?_getD,List.getElem?_append_left h,←List.getD_eq_getElem?_getD]
theorem getD_snoc_eq {A:List Int} {x:Int}:(A++[x]).getD A.length 0=x:=by
  rw [List.getD_eq_getElem?_getD,List.getElem?_append_right (Nat.le_refl _)];simp
theorem LbI.start:LbI n f c 0 (List.replicate n 0) []:=⟨by simp,rfl,fun j h=>by omega,fun j h=>by omega,fun j h=>by omega⟩
theorem ldr_iff {j:Nat}:ldr f c j=true↔f j=true∧c j=j:=by simp [ldr]
theorem LbI.out (h:LbI n f c i num A) (hf:¬f i=true):LbI n f c (i+1) num (A++[-1])∧cnt (ldr f c) (i+1)=cnt (ldr f c) i:=by
  have hl:¬ldr f c i=true:=fun k=>hf (ldr_iff.1 k).1
  refine ⟨⟨h.nl,by simp [h.al],fun j hj hx=> ?_,fun j hj hx=> ?_,fun j hj hx=> ?_⟩,by rw [cnt_succ,if_neg hl];rfl⟩
  · exact h.lead j (by by_cases e:j=i;exact absurd (e ▸ hx) hl;omega) hx
  · have e : j ≠ i := fun e => hf (e ▸ hx)
    rw [getD_snoc_lt (by rw [h.al];omega)];exact h.yes j (by omega) hx
  · by_cases e : j = i
    · rw [e,←h.al];exact getD_snoc_eq
    · rw [getD_snoc_lt (by rw [h.al];omega)];exact h.not j (by omega) hx
theorem LbI.lab (h:LbI n f c n num A) (hcl:Lst (fun j=>f j=true) adj c):Lab n f adj A:=⟨h.al,c,hcl,h.yes,h.not⟩
end
def LabR (w h m:Int) (l:List Int) (th:Int) (o:List Int):Prop:=
  (Bl.rok w h m l∧0≤th∧th≤65536→Lab l.length (ge l th) (nb false w.toNat l.length) o)∧(¬(Bl.rok w h m l∧0≤th∧th≤65536)→o=[])
theorem LabR.uniq {w h m th:Int} {l o o2:List Int} (a:LabR w h m l th o) (b:LabR w h m l th o2):o=o2:=by
  by_cases e:Bl.rok w h m l∧0≤th∧th≤65536
  · exact (a.1 e).uniq (b.1 e)
  · rw [a.2 e,b.2 e]
theorem LabR.no {w h m th:Int} {l:List Int} (e:¬(Bl.rok w h m l∧0≤th∧th≤65536)):LabR w h m l th []:=⟨fun k=>absurd k e,fun _=>rfl⟩
theorem LabR.yes {w n:Nat} {h m th:Int} {l o:List Int} (e:Bl.rok w h m l∧0≤th∧th≤65536) (hn:l.length=n) (k:Lab n (ge l th) (nb false w n) o):LabR w h m l th o:=by
  subst hn;exact ⟨fun _=>k,fun x=>absurd e x⟩
theorem ask0 {w h m th:Int} {l:List Int}:(if Bl.rok w h m l then (if 0≤th∧th≤65536 then (0:Int) else 2) else 1)=0↔Bl.rok w h m l∧0≤th∧th≤65536:=by
  by_cases e:Bl.rok w h m l
  · rw [if_pos e]; by_cases k : 0 ≤ th ∧ th ≤ 65536
    · rw [if_pos k];exact ⟨fun _=>⟨e,k⟩,fun _=>rfl⟩
    · rw [if_neg k];exact ⟨fun x=>by omega,fun x=>absurd x.2 k⟩
  · rw [if_neg e];exact ⟨fun x=>by omega,fun x=>absurd x.1 e⟩
theorem rok_n {w h m:Int} {l:List Int} {n:Nat} (e:Bl.rok w h m l) (hn:l.length=n):∃a b:Nat,w=(a:Int)∧h=(b:Int)∧(1≤a∧a≤64)∧(1≤b∧b≤64)∧n=a*b∧n≤4096:=by
  obtain ⟨h1,h2,_,h4,_⟩:=e
  obtain ⟨a,ha⟩:∃a:Nat,w=(a:Int):=⟨w.toNat,by omega⟩
  obtain ⟨b,hb⟩:∃b:Nat,h=(b:Int):=⟨h.toNat,by omega⟩
  subst ha;subst hb
  rw [← Int.natCast_mul] at h4
  have h5:n=a*b:=by omega
  have h6:a*b≤64*64:=Nat.mul_le_mul (by omega) (by omega)
  exact ⟨a,b,rfl,rfl,by omega,by omega,h5,by omega⟩
end Go.Proofs.Ytpdbimfnhglhpaa.Fl
namespace Go.Proofs.Ytpdbimfnhglhpaa.Sp
open Go
set_option linter.unusedVariables false
set_option maxRecDepth 100000
set_option maxHeartbeats 8000000
theorem zoc {w:Nat} {h:Nat} {m:Int} {p:Option Addr} {n:Nat} {cap:Nat} {l:List Int} {th:Int} (hn:l.length=n) (hw:1≤w∧w≤64) (hh:1≤h∧h≤64) (hwh:n=w*h) (hb:n≤4096):Con Try.prog 16 [.agg #[.int .i64 ((w:Nat):Int),.int .i64 ((h:Nat):Int),.int .i64 m,.slice p n cap],.int .i64 th] [] [slF (rI .i64) p cap l] (Y:=(Option Addr)×Nat×(List Int)×(Nat→Nat)) (fun y=>Fl.Lst (fun j=>Fl.ge l th j=true) (Fl.nb false w n) y.2.2.2∧Fl.OutI n (Fl.ge l th) y.2.2.2 n y.2.2.1) (fun y=> .tuple #[.slice (y.1) n (y.2.1),.int .i64 (((Fl.cnt (Fl.ldr (Fl.ge l th) y.2.2.2) n):Nat):Int)]) (fun y=>[]) (fun y=>[slF (rI .i64) (y.1) (y.2.1) (y.2.2.1)]):=by
 refine zC Try.func16 rfl rfl rfl (fun c=> ?_)
 show RunC _ _ _ _ _ [(0,.agg #[.int .i64 ((w:Nat):Int),.int .i64 ((h:Nat):Int),.int .i64 m,.slice p n cap]),(1,.int .i64 th)] [] [slF (rI .i64) p cap l]
 refine zpa 0 rfl (fun hL0=> ?_)
 refine zf<|za<|zZ rfl rfl (zka rfl rfl) (fun b1=> ?_)
 refine zZ rfl rfl (zka rfl rfl) (fun b2=> ?_)
 refine e_p (zd rfl)<|e_p (zd rfl)<|zi<|zc<|zf<|zTa 0 rfl .z<|zsa (OW:=[]) (O:=[emA,boxA b1 24 [.int .i64 ((w:Nat):Int),.int .i64 ((h:Nat):Int),.int .i64 m,.slice p n cap]]) 100000 mixed (.then .ret) kr<|e_u 0 rfl rfl (zm 1 ty24 rfl rfl (.t4 .nil))<|e_pv 1 rfl rfl (zUa .n (.c rfl .n))<|e_one 2 (znb rfl rfl rfl rfl (.n) ce29 (zbd) (.n) ?_)
 rintro ⟨p33,c34⟩ -
 dsimp only [aq,nq,cq]
 refine e_one 3 (znb rfl rfl rfl rfl (.c rfl (.c rfl (.c rfl .n))) ce18 (znc (w:=w) (h:=h) (m:=m) (p:=p) (n:=n) (cap:=cap) (l:=l) (tb:=b2) (th:=th) (p2:=p33) (c2:=c34) (hn:=ass) (hw:=ass) (hh:=ass) (hwh:=ass) (hb:=ass)) (.c (j:=2) rfl (.c (j:=1) rfl (.c (j:=0) rfl .n))) ?_)
 rintro ⟨p35,c36,o,cc⟩ hcl
 dsimp only [aq,nq,cq]
 replace hcl:Fl.Lst (fun j=>(Fl.ge l th) j=true) (Fl.nb false w n) cc∧Fl.OutI n (Fl.ge l th) cc n o:=hcl
 refine e_pv 4 rfl rfl (zy rfl rfl)<|e_pv 5 rfl rfl (zy rfl rfl)<|e_pv 6 rfl rfl (zd rfl)<|e_pv 7 rfl rfl (zd rfl)<|zra kr<|zc<|zU ?_
 exact zLa Try.results16 (p35,c36,o,cc) hcl (zx rfl) (zx rfl) rfl (ho:=oN) (s0 rfl)
end Go.Proofs.Ytpdbimfnhglhpaa.Sp
namespace Go.Proofs.Ytpdbimfnhglhpaa.Fl
open Sp
def edg (w h k:Nat):Bool:=decide (k%w=0∨k / w=0∨k%w+1=w∨k / w+1=h)
theorem edg_iff {w h k:Nat}:edg w h k=true↔(k%w=0∨k / w=0∨k%w+1=w∨k / w+1=h):=by simp [edg]
def brd (n:Nat) (f:Nat→Bool) (c:Nat→Nat) (g:Nat→Bool) (j:Nat):Bool:=(List.range n).any (fun k=>f k&&g k&&decide (c k=j))
theorem brd_iff {n:Nat} {f:Nat→Bool} {c:Nat→Nat} {g:Nat→Bool} {j:Nat}:brd n f c g j=true↔∃k,k<n∧f k=true∧g k=true∧c k=j:=by
  simp [brd,and_assoc]
def hol (n:Nat) (f:Nat→Bool) (c:Nat→Nat) (g:Nat→Bool):Nat:=cnt (fun j=>ldr f c j&& !brd n f c g j) n
theorem cnt_split (q b:Nat→Bool) (i:Nat):cnt q i=cnt (fun j=>q j&&b j) i+cnt (fun j=>q j&& !b j) i:=by
  induction i with
  |zero=>rfl
  |succ i ih=>rw [cnt_succ,cnt_succ,cnt_succ,ih];cases q i <;> cases b i <;> simp <;> omega
section
variable {n i : Nat} {f g : Nat → Bool} {adj : Nat → Nat → Prop} {c d : Nat → Nat}
theorem brd_uniq (hc:Lst (fun j=>f j=true) adj c) (hd:Lst (fun j=>f j=true) adj d):brd n f c g=brd n f d g:=by
  funext j
  rw [Bool.eq_iff_iff,brd_iff,brd_iff]
  exact ⟨fun ⟨k,h1,h2,h3,h4⟩=>⟨k,h1,h2,h3,by rw [← hc.uniq hd h2];exact h4⟩,fun ⟨k,h1,h2,h3,h4⟩=>⟨k,h1,h2,h3,by rw [hc.uniq hd h2];exact h4⟩⟩
theorem hol_uniq (hc:Lst (fun j=>f j=true) adj c) (hd:Lst (fun j=>f j=true) adj d):hol n f c g=hol n f d g:=by
  unfold hol;rw [ldr_uniq hc hd,brd_uniq hc hd]
structure OpnI (f:Nat→Bool) (c:Nat→Nat) (g:Nat→Bool) (i:Nat) (mp:List (Int×Bool)):Prop where
  nd:(mp.map (·.1)).Nodup
  mem:∀z,z∈mp.map (·.1)↔∃k,k<i∧f k=true∧g k=true∧z=(cnt (ldr f c) (c k):Int)
theorem OpnI.start:OpnI f c g 0 []:=⟨by simp,fun z=>⟨fun h=>(by cases h),fun ⟨_,h,_⟩=>(by omega)⟩⟩
theorem OpnI.skip {mp:List (Int×Bool)} (h:OpnI f c g i mp) (hx:¬(f i=true∧g i=true)):OpnI f c g (i+1) mp:=
  ⟨h.nd,fun z=>(h.mem z).trans ⟨fun ⟨k,a,b⟩=>⟨k,by omega,b⟩,fun ⟨k,a,b,e,e2⟩=>⟨k,by
    by_cases x:k=i
    · exact absurd ⟨x ▸ b,x ▸ e⟩ hx
    · omega,b,e,e2⟩⟩⟩
theorem OpnI.put {mp:List (Int×Bool)} (h:OpnI f c g i mp) (hf:f i=true) (hg:g i=true):OpnI f c g (i+1) (mput mp (cnt (ldr f c) (c i):Int) true):=by
  refine ⟨mput_nodup h.nd,fun z=> ?_⟩
  have key:z∈(mput mp (cnt (ldr f c) (c i):Int) true).map (·.1)↔z∈mp.map (·.1)∨z=(cnt (ldr f c) (c i):Int):=by
    rw [mput_keys];split
    · rename_i hm;exact ⟨.inl,fun x=>x.elim id fun x=>x ▸ hm⟩
    · simp
  rw [key,h.mem]
  constructor
  · rintro (⟨k, a, b⟩ | e)
    · exact ⟨k,by omega,b⟩
    · exact ⟨i,by omega,hf,hg,e⟩
  · rintro ⟨k, a, b, e, e2⟩
    by_cases x:k=i
    · subst x;exact .inr e2
    · exact .inl ⟨k,by omega,b,e,e2⟩
theorem OpnI.fin {mp:List (Int×Bool)} (hc:Lst (fun j=>f j=true) adj c) (hn:∀j,f j=true→j<n) (h:OpnI f c g n mp):mp.length=cnt (fun j=>ldr f c j&&brd n f c g j) n:=by
  have hP:((((List.range n).filter (fun j=>ldr f c j&&brd n f c g j)).map (fun j=>(cnt (ldr f c) j:Int)))).Nodup:=by
    refine List.pairwise_map.2 (List.Pairwise.imp_of_mem (fun {a b} ha _ hlt=> ?_) (List.Pairwise.filter _ (List.pairwise_lt_range (n:=n))))
    have h1:=(List.mem_filter.1 ha).2
    rw [Bool.and_eq_true] at h1
    have:=cnt_lt (ldr f c) hlt h1.1
    intro e;omega
  have hp:=(List.perm_ext_iff_of_nodup h.nd hP).2 fun z=>by
    rw [h.mem,List.mem_map]
    constructor
    · rintro ⟨k, a, b, e, e2⟩
      refine ⟨c k,List.mem_filter.2 ⟨List.mem_range.2 (hn _ (hc.mem b)),?_⟩,e2.symm⟩
      rw [Bool.and_eq_true]
      exact ⟨ldr_iff.2 ⟨hc.mem b,hc.idem b⟩,brd_iff.2 ⟨k,a,b,e,rfl⟩⟩
    · rintro ⟨j, hj, e2⟩
      have h1:=(List.mem_filter.1 hj).2
      rw [Bool.and_eq_true] at h1
      obtain ⟨k,a,b,e,e3⟩:=brd_iff.1 h1.2
      exact ⟨k,a,b,e,by rw [e3];exact e2.symm⟩
  have:=hp.length_eq
  rw [List.length_map,List.length_map] at this
  exact this
theorem OpnI.hol {mp:List (Int×Bool)} (hc:Lst (fun j=>f j=true) adj c) (hn:∀j,f j=true→j<n) (h:OpnI f c g n mp):((cnt (ldr f c) n:Nat):Int) - ((mp.length:Nat):Int)=(hol n f c g:Int):=by
  rw [h.fin hc hn,cnt_split (ldr f c) (brd n f c g) n];unfold Fl.hol;omega
structure BdI (n:Nat) (c:Nat→Nat) (g:Nat→Bool) (i:Nat) (b:List Bool):Prop where
  len:b.length=n
  iff:∀j,j<n→(b.getD j false=true↔∃k,k<i∧g k=true∧c k=j)
theorem getD_setB {b:List Bool} {j k:Nat} {v:Bool} (h:k<b.length):(b.set k v).getD j false=if j=k then v else b.getD j false:=by
  rw [List.getD_eq_getElem?_getD,List.getElem?_set]
  by_cases e:k=j
  · subst e;simp [h]
  · rw [if_neg e,if_neg (fun x=>e x.symm),←List.getD_eq_getElem?_getD]
theorem BdI.start:BdI n c g 0 (List.replicate n false):=⟨by simp,fun j hj=>by
  rw [List.getD_eq_getElem?_getD,List.getElem?_replicate];simp [hj]⟩
theorem BdI.skip {b:List Bool} (h:BdI n c g i b) (hg:¬g i=true):BdI n c g (i+1) b:=
  ⟨h.len,fun j hj=>(h.iff j hj).trans ⟨fun ⟨k,a,e⟩=>⟨k,by omega,e⟩,fun ⟨k,a,e,e2⟩=>⟨k,by
    by_cases x:k=i
    · exact absurd (x ▸ e) hg
    · omega,e,e2⟩⟩⟩
theorem BdI.put {b:List Bool} (h:BdI n c g i b) (hg:g i=true) (hk:c i<n):BdI n c g (i+1) (b.set (c i) true):=by
  refine ⟨by rw [List.length_set];exact h.len,fun j hj=> ?_⟩
  rw [getD_setB (by rw [h.len];exact hk)]
  by_cases e:j=c i
  · rw [if_pos e];exact ⟨fun _=>⟨i,by omega,hg,e.symm⟩,fun _=>rfl⟩
  · rw [if_neg e, h.iff j hj]
    exact ⟨fun ⟨k,a,b⟩=>⟨k,by omega,b⟩,fun ⟨k,a,b1,b2⟩=>⟨k,by
      by_cases x:k=i
      · exact absurd (by rw [← b2,x]) e
      · omega,b1,b2⟩⟩
theorem BdI.brd {b:List Bool} (h:BdI n c g n b) (hc:Lst (fun j=>f j=true) adj c) (ho:∀k,k<n→¬f k=true→c k=k) {j:Nat} (hj:j<n) (hf:f j=true):b.getD j false=brd n f c g j:=by
  rw [Bool.eq_iff_iff,h.iff j hj,brd_iff]
  exact ⟨fun ⟨k,a,e,e2⟩=>⟨k,a,by
    by_cases x:f k=true
    · exact x
    · rw [ho k a x] at e2;exact absurd (e2 ▸ hf) x,e,e2⟩,fun ⟨k,a,_,e,e2⟩=>⟨k,a,e,e2⟩⟩
theorem cnt_congr {q r:Nat→Bool} {i:Nat} (h:∀j,j<i→q j=r j):cnt q i=cnt r i:=by
  induction i with
  |zero=>rfl
  |succ i ih=>rw [cnt_succ,cnt_succ,ih (fun j hj=>h j (by omega)),h i (by omega)]
theorem BdI.hol {b:List Bool} (h:BdI n c g n b) (hc:Lst (fun j=>f j=true) adj c) (ho:∀k,k<n→¬f k=true→c k=k):cnt (fun j=>ldr f c j&& !(b.getD j false)) n=hol n f c g:=by
  refine cnt_congr fun j hj=> ?_
  by_cases e:f j=true
  · rw [h.brd hc ho hj e]
  · simp [ldr,e]
end
def HolR (w h m:Int) (l:List Int) (th:Int) (z:Int):Prop:=
  (Bl.rok w h m l∧0≤th∧th≤65536→∃c,Lst (fun j=>lo l th j=true) (nb true w.toNat l.length) c∧z=(hol l.length (lo l th) c (edg w.toNat h.toNat):Int))∧(¬(Bl.rok w h m l∧0≤th∧th≤65536)→z=0)
theorem HolR.uniq {w h m th:Int} {l:List Int} {z y:Int} (a:HolR w h m l th z) (b:HolR w h m l th y):z=y:=by
  by_cases e:Bl.rok w h m l∧0≤th∧th≤65536
  · obtain ⟨c, hc, h1⟩ := a.1 e
    obtain ⟨d,hd,h2⟩:=b.1 e
    rw [h1,h2,hol_uniq hc hd]
  · rw [a.2 e,b.2 e]
theorem HolR.no {w h m th:Int} {l:List Int} (e:¬(Bl.rok w h m l∧0≤th∧th≤65536)):HolR w h m l th 0:=⟨fun k=>absurd k e,fun _=>rfl⟩
theorem HolR.yes {w h n:Nat} {m th z:Int} {l:List Int} {c:Nat→Nat} (e:Bl.rok w h m l∧0≤th∧th≤65536) (hn:l.length=n) (hc:Lst (fun j=>lo l th j=true) (nb true w n) c) (hz:z=(hol n (lo l th) c (edg w h):Int)):HolR w h m l th z:=by
  subst hn;exact ⟨fun _=>⟨c,hc,hz⟩,fun x=>absurd e x⟩
end Go.Proofs.Ytpdbimfnhglhpaa.Fl
namespace Go.Proofs.Ytpdbimfnhglhpaa.Sp
open Go
set_option linter.unusedVariables false
set_option maxRecDepth 100000
set_option maxHeartbeats 8000000
theorem zcc {w:Int} {h:Int} {m:Int} {p:Option Addr} {n:Nat} {cap:Nat} {l:List Int} {th:Int} (hn:l.length=n):Con Try.prog 8 [.agg #[.int .i64 w,.int .i64 h,.int .i64 m,.slice p n cap],.int .i64 th] [] [slF (rI .i64) p cap l] (Y:=Int) (fun y=>Fl.HolR w h m l th y) (fun y=> .tuple #[.int .i64 y,.int .i64 (if Bl.rok w h m l then (if 0≤th∧th≤65536 then 0 else 2) else 1)]) (fun y=>[]) (fun y=>[]):=by
 refine zC Try.func8 rfl rfl rfl (fun c=> ?_)
 show RunC _ _ _ _ _ [(0,.agg #[.int .i64 w,.int .i64 h,.int .i64 m,.slice p n cap]),(1,.int .i64 th)] [] [slF (rI .i64) p cap l]
 refine zpa 0 rfl (fun hL0=> ?_)
 refine zf<|za<|zZ rfl rfl (zka rfl rfl) (fun b1=> ?_)
 refine zZ rfl rfl (zka rfl rfl) (fun b2=> ?_)
 refine e_p (zd rfl)<|e_p (zd rfl)<|zi<|zc<|zf<|zf<|za<|e_ru (zm 1 ty24 rfl rfl (.t4 .nil))<|e_ru (zb 0 ty3 rfl rfl rfl)<|zia rfl rfl (.c rfl (.c rfl .n)) ce15 (zAb (w:=w) (h:=h) (m:=m) (p:=p) (n:=n) (cap:=cap) (l:=l) (th:=th) (hn:=ass)) (.c (j:=0) rfl .n)<|e_p (zd rfl)<|zi<|zc<|zf<|za<|e_mv rfl<|e_p (zOa rfl rfl)<|zi<|zc<|zG rfl (fun hc=> ?_) (fun hc=> ?_)
 ·
  have hno:=fun k=>hc (Fl.ask0.2 k)
  refine zf<|za<|e_mv rfl<|e_p (zd rfl)<|e_p (zd rfl)<|zi<|zc<|zU<|zl ?_
  exact zLa Try.results8 0 (Fl.HolR.no hno) (zx rfl) (zx rfl) rfl (ho:=oN) sN
 ·
  have hok:=Fl.ask0.1 (Decidable.not_not.1 hc)
  obtain ⟨wn,hn9,rfl,rfl,hw9,hh9,hwh,hb9⟩:=Fl.rok_n hok.1 hn
  refine zw<|zc<|zf<|zTa 0 rfl .z<|zsa (OW:=[]) (O:=[emA,boxA b1 24 [.int .i64 ((wn:Nat):Int),.int .i64 ((hn9:Nat):Int),.int .i64 m,.slice p n cap]]) 100000 mixed (.then .ret) kr<|e_u 0 rfl rfl (zm 1 ty24 rfl rfl (.t4 .nil))<|e_pv 1 rfl rfl (zUa .n (.c rfl .n))<|e_one 2 (znb rfl rfl rfl rfl (.n) ce20 (zQc) (.n) ?_)
  rintro ⟨p33,c34⟩ -
  dsimp only [aq,nq,cq]
  refine e_one 3 (znb rfl rfl rfl rfl (.c rfl (.c rfl (.c rfl .n))) ce18 (zbc (w:=wn) (h:=hn9) (m:=m) (p:=p) (n:=n) (cap:=cap) (l:=l) (tb:=b2) (th:=th) (p2:=p33) (c2:=c34) (hn:=ass) (hw:=cbo) (hh:=cbo) (hwh:=cbo) (hb:=cbo)) (.c (j:=2) rfl (.c (j:=1) rfl (.c (j:=0) rfl .n))) ?_)
  rintro ⟨p35,c36,o,cc⟩ hcl
  dsimp only [aq,nq,cq]
  replace hcl:Fl.Lst (fun j=>(Fl.lo l th) j=true) (Fl.nb true wn n) cc∧Fl.OutI n (Fl.lo l th) cc n o:=hcl
  refine e_dm 4 rfl rfl rfl<|e_pv 5 rfl rfl (zy rfl rfl)<|e_pv 6 rfl rfl (zy rfl rfl)<|e_pv 7 rfl rfl (zd rfl)<|e_pv 8 rfl rfl (zd rfl)<|zra kr<|zc<|zf<|za<|zwa rfl rfl (zla (κ:=Int) (ν:=Bool) (fun z:Int=> .int .i64 z) (fun z:Bool=> .bool z) (InK .i64)) (fun b7 _=> ?_)
  refine e_p (zd rfl)<|zi<|zc<|zf<|zf ?_
  have hin:∀j,(Fl.lo l th) j=true→j<n:=fun j hj=>by have:=Fl.lo_lt hj;omega
  have hol:=hcl.2.len
  refine za<|e_mv rfl<|e_p (zR Try.underlying22 rfl)<|e_mv rfl<|zi<|zc<|zq<|zY (X:=Nat×(List (Int×Bool))) (fun x:Nat×(List (Int×Bool))=>x.1≤n∧Fl.OpnI (Fl.lo l th) cc (Fl.edg wn hn9) x.1 x.2) (fun x=>[(30,.int .i64 ((x.1:Nat):Int)),(29,.int .i64 ((n:Nat):Int)),(28,.slice p35 n c36),(9,.map (some b7)),(8,.int .i64 (((Fl.cnt (Fl.ldr (Fl.lo l th) cc) n):Nat):Int)),(5,.int .i64 0),(4,.int .i64 0),(2,.pointer (some ⟨b1,0,none⟩))]) (fun x=>[mapA b7 (fun z:Int=> .int .i64 z) (fun z:Bool=> .bool z) (InK .i64) (x.2),boxA b1 24 [.int .i64 ((wn:Nat):Int),.int .i64 ((hn9:Nat):Int),.int .i64 m,.slice p n cap]]) (fun x=>[slF (rI .i64) p35 c36 o,slF (rI2 .i64) p33 c34 ([((1:Int),(0:Int)),(-1,0),(0,1),(0,-1)]++[(1,1),(-1,1),(1,-1),(-1,-1)]),atF b2 0 [.int .i64 th],slF (rI .i64) p cap l]) (fun x:Nat×(List (Int×Bool))=>n - x.1) (0,([]:List (Int×Bool))) (show 0≤n∧Fl.OpnI (Fl.lo l th) cc (Fl.edg wn hn9) 0 ([]:List (Int×Bool)) from by exact ⟨Nat.zero_le _,Fl.OpnI.start⟩) ((.e rfl cgs (.of rfl)):SubM _ _) (ho:=((.e (i:=0) rfl cgs (.c (i:=1) rfl .n)):PickO _ _ _)) ((.of [0,1,2,3] rfl):SelR _ _ _) ?_
  rintro ⟨i,mp⟩ hI
  replace hI:i≤n∧Fl.OpnI (Fl.lo l th) cc (Fl.edg wn hn9) i mp:=hI
  try dsimp only
  obtain ⟨hi,hM⟩:=hI
  refine zf<|za<|e_p (zD rfl rfl)<|zi<|zc<|zf<|zG rfl (fun h8=> ?_) (fun h8=> ?_)
  ·
   have hqd:=Nat.div_le_self i wn
   have hq0:=Int.natCast_nonneg (i / wn)
   have hm0:=Int.natCast_nonneg (i%wn)
   have hmd:=Nat.mod_lt i (show 0<wn by omega)
   have hoe:=hcl.2.old i om
   have hon:=hcl.2.new i om
   have hcn:=Fl.cnt_le (Fl.ldr (Fl.lo l th) cc) (cc i)
   refine zw<|zc<|zf<|zq<|zf<|za<|e_mv rfl<|zM (x0:=(o.getD i 0)) 0 i rfl Try.underlying22 sz3 rfl rfl rfl cbs rfl rfl (gD (d:=0) om) (fun b9 o10 hok11=> ?_)
   replace hok11:=ze.1 hok11
   refine e_ru (zp (j:=0) 0 ty3 rfl rfl rfl rfl)<|e_p (zd rfl)<|e_p (zd rfl)<|zi<|zc<|zf<|zsa (OW:=[]) (O:=[mapA b7 (fun z:Int=> .int .i64 z) (fun z:Bool=> .bool z) (InK .i64) mp,boxA b1 24 [.int .i64 ((wn:Nat):Int),.int .i64 ((hn9:Nat):Int),.int .i64 m,.slice p n cap]]) 100000 mixed (.then (.block (.then (.then (.block (.then .ret)))))) kr<|e_dm 0 rfl rfl rfl<|e_pv 1 rfl rfl (zg Try.underlying24 rfl sz3 rfl rfl)<|e_u 2 rfl rfl (zb 1 ty3 rfl rfl rfl)<|e_pv 3 rfl rfl (zXa (z:=(((i%wn):Nat):Int)) rfl rfl om (remN om om))<|e_dm 4 rfl rfl rfl<|e_pv 5 rfl rfl (zg Try.underlying24 rfl sz3 rfl rfl)<|e_u 6 rfl rfl (zb 1 ty3 rfl rfl rfl)<|e_pv 7 rfl rfl (zRb (z:=(((i / wn):Nat):Int)) rfl rfl om (by rw [quoN (z:=(((i / wn):Nat):Int)) om om];exact w64 om))<|e_pv 8 rfl rfl (zd rfl)<|e_pv 9 rfl rfl (zd rfl)<|zra kr<|zc<|zJa (X:=Unit) (fun x=>True) (fun x=>[(66,.bool (decide (0≤o.getD i 0∧(Fl.edg wn hn9) i=true))),(11,.int .i64 (o.getD i 0)),(30,.int .i64 ((i:Nat):Int)),(29,.int .i64 ((n:Nat):Int)),(28,.slice p35 n c36),(9,.map (some b7)),(8,.int .i64 (((Fl.cnt (Fl.ldr (Fl.lo l th) cc) n):Nat):Int)),(5,.int .i64 0),(4,.int .i64 0),(2,.pointer (some ⟨b1,0,none⟩))]) (fun x=>[mapA b7 (fun z:Int=> .int .i64 z) (fun z:Bool=> .bool z) (InK .i64) mp,boxA b1 24 [.int .i64 ((wn:Nat):Int),.int .i64 ((hn9:Nat):Int),.int .i64 m,.slice p n cap]]) (fun x=>[atF b9 o10 [.int .i64 (o.getD i 0)],slF (rI .i64) p35 c36 o,slF (rI2 .i64) p33 c34 ([((1:Int),(0:Int)),(-1,0),(0,1),(0,-1)]++[(1,1),(-1,1),(1,-1),(-1,-1)]),atF b2 0 [.int .i64 th],slF (rI .i64) p cap l]) ?_ ?_
   ·
    refine za<|e_mv rfl<|e_p (zNa rfl rfl)<|zI rfl rfl (zL rfl) (fun hk0=> ?_) (fun hk0=> ?_)
    ·
     refine e_mv rfl<|e_p (zya rfl rfl)<|zI rfl rfl (zL rfl) (fun hx0=> ?_) (fun hx0=> ?_)
     ·
      refine e_no<|e_no<|e_p (zn rfl rfl)<|e_mv rfl<|e_no<|e_no<|e_no<|e_no<|e_no<|e_p (zn rfl rfl)<|e_mv rfl<|e_no<|e_no<|e_no<|e_no<|e_no<|e_p (zn rfl rfl)<|e_p (zn rfl rfl)<|zi ?_
      exact zS () tt9 ((.e rfl (congrArg Value.bool (by exact Eq.symm (decide_eq_true ⟨by omega,Fl.edg_iff.2 om⟩))) (.of rfl)):SubM _ _) (ho:=((.of [0,0] rfl):PickO _ _ _)) ((.of [0,1,2,3,4] rfl):SelR _ _ _)
     ·
      refine e_mv rfl<|e_p (zya rfl rfl)<|e_p (zn rfl rfl)<|zI rfl rfl (zL rfl) (fun hx1=> ?_) (fun hx1=> ?_)
      ·
       refine e_no<|e_no<|e_no<|e_no<|e_no<|e_p (zn rfl rfl)<|e_mv rfl<|e_no<|e_no<|e_no<|e_no<|e_no<|e_p (zn rfl rfl)<|e_p (zn rfl rfl)<|zi ?_
       exact zS () tt9 ((.e rfl (congrArg Value.bool (by exact Eq.symm (decide_eq_true ⟨by omega,Fl.edg_iff.2 om⟩))) (.of rfl)):SubM _ _) (ho:=((.of [0,0] rfl):PickO _ _ _)) ((.of [0,1,2,3,4] rfl):SelR _ _ _)
      ·
       refine e_mv rfl<|e_p (zg Try.underlying24 rfl sz3 rfl rfl)<|e_ru (zb 1 ty3 rfl rfl rfl)<|e_p (zxa (z:=(((wn:Nat):Int) - 1)) rfl rfl (w64 om))<|e_p (zya rfl rfl)<|e_p (zn rfl rfl)<|zI rfl rfl (zL rfl) (fun hx2=> ?_) (fun hx2=> ?_)
       ·
        refine e_no<|e_no<|e_no<|e_no<|e_no<|e_p (zn rfl rfl)<|e_p (zn rfl rfl)<|zi ?_
        exact zS () tt9 ((.e rfl (congrArg Value.bool (by exact Eq.symm (decide_eq_true ⟨by omega,Fl.edg_iff.2 om⟩))) (.of rfl)):SubM _ _) (ho:=((.of [0,0] rfl):PickO _ _ _)) ((.of [0,1,2,3,4] rfl):SelR _ _ _)
       ·
        refine e_mv rfl<|e_p (zg Try.underlying24 rfl sz3 rfl rfl)<|e_ru (zb 1 ty3 rfl rfl rfl)<|e_p (zxa (z:=(((hn9:Nat):Int) - 1)) rfl rfl (w64 om))<|e_p (zya rfl rfl)<|e_p (zn rfl rfl)<|e_p (zn rfl rfl)<|zi ?_
        exact zS () tt9 ((.e rfl (congrArg Value.bool (by exact decide_eq_decide.2 ⟨fun h9=>⟨by omega,Fl.edg_iff.2 om⟩,fun h9=>by have h8:=Fl.edg_iff.1 h9.2;omega⟩)) (.of rfl)):SubM _ _) (ho:=((.of [0,0] rfl):PickO _ _ _)) ((.of [0,1,2,3,4] rfl):SelR _ _ _)
    ·
     refine e_no<|e_no<|e_no<|e_no<|e_no<|e_no<|e_no<|e_no<|e_no<|e_no<|e_no<|e_no<|e_no<|e_no<|e_no<|e_no<|e_no<|e_no<|e_no<|e_no<|e_p (zn rfl rfl)<|zi ?_
     exact zS () tt9 ((.e rfl (congrArg Value.bool (by exact Eq.symm (decide_eq_false (fun h9=>hk0 om)))) (.of rfl)):SubM _ _) (ho:=((.of [0,0] rfl):PickO _ _ _)) ((.of [0,1,2,3,4] rfl):SelR _ _ _)
   ·
    rintro ⟨⟩ -
    try dsimp only
    refine zG rfl (fun hx=> ?_) (fun hx=> ?_)
    ·
     have hfi:(Fl.lo l th) i=true:=by by_cases h9:(Fl.lo l th) i=true;exact h9;have h8:=hon (fun h7=>h9 h7.1);omega
     have hoi:=hoe hfi (hin _ (hcl.1.mem hfi))
     have hci:=hcl.1.le i hfi
     refine za<|e_mv rfl<|e_mv rfl<|zna 0 rfl rfl rfl (zT (a0:=(o.getD i 0)) (v:=true) ky3 Try.underlying61 rfl rfl rfl (ze.2 om)) (fun _=> .z) (fun _ _=> ?_)
     refine zi<|zB<|zc<|za<|e_p (zv (z:=(((i+1):Nat):Int)) rfl rfl (w64 om))<|e_mv rfl<|zi<|zQ ((i+1),mput mp (o.getD i 0) true) (show (i+1)≤n∧Fl.OpnI (Fl.lo l th) cc (Fl.edg wn hn9) (i+1) (mput mp (o.getD i 0) true) from by have h9:=hM.put hfi hx.2;rw [← hoi] at h9;exact ⟨by omega,h9⟩) (by show n - (i+1)<n - i;omega) (mR rfl) (ho:=((.of [0,0] rfl):PickO _ _ _)) ((.of [1,2,3,4] rfl):SelR _ _ _)
    ·
     refine zw<|zB<|zc<|za<|e_p (zv (z:=(((i+1):Nat):Int)) rfl rfl (w64 om))<|e_mv rfl<|zi<|zQ ((i+1),mp) (show (i+1)≤n∧Fl.OpnI (Fl.lo l th) cc (Fl.edg wn hn9) (i+1) mp from by exact ⟨by omega,hM.skip (fun h9=>hx ⟨by have h8:=hoe h9.1 (hin _ (hcl.1.mem h9.1));omega,h9.2⟩)⟩) (by show n - (i+1)<n - i;omega) (mR rfl) (ho:=((.of [0,0] rfl):PickO _ _ _)) ((.of [1,2,3,4] rfl):SelR _ _ _)
  ·
   refine zP<|zj<|zj<|zo<|zc<|zf ?_
   have hin8:i=n:=by omega
   rw [hin8] at hM
   have hml:=hM.hol hcl.1 hin
   have hcn:=Fl.cnt_le (Fl.ldr (Fl.lo l th) cc) n
   refine za<|e_mv rfl<|e_mv rfl<|e_ru (zkb (encK:=(fun z:Int=> .int .i64 z)) (encV:=(fun z:Bool=> .bool z)) (ok:=(InK .i64)) (m:=mp) 0 rfl Try.underlying61 rfl)<|e_p (zxa (z:=((((Fl.cnt (Fl.ldr (Fl.lo l th) cc) n):Nat):Int) - (((mp).length:Nat):Int))) rfl rfl (w64 om))<|e_p (zd rfl)<|e_p (zd rfl)<|zi<|zc<|zU ?_
   exact zLa Try.results8 ((Fl.hol n (Fl.lo l th) cc (Fl.edg wn hn9):Nat):Int) (Fl.HolR.yes hok hn hcl.1 rfl) (zx rfl) (zx rfl) (by rw [Decidable.not_not.1 hc,hM.hol hcl.1 hin]) (ho:=oN) sN
end Go.Proofs.Ytpdbimfnhglhpaa.Sp
namespace Go.Proofs.Ytpdbimfnhglhpaa.Fl
open Sp (Bb b0)
def one (w:Nat) (l:List Int) (i:Nat):Bb:=
  ⟨1,((i%w:Nat):Int),((i / w:Nat):Int),((i%w:Nat):Int),((i / w:Nat):Int),((i%w:Nat):Int),((i / w:Nat):Int),((i%w:Nat):Int)*((i%w:Nat):Int),((i%w:Nat):Int)*((i / w:Nat):Int),((i / w:Nat):Int)*((i / w:Nat):Int),l.getD i 0,l.getD i 0*((i%w:Nat):Int),l.getD i 0*((i / w:Nat):Int)⟩
def tog (a b:Bb):Bb:=
  ⟨a.ar+b.ar,min a.le b.le,min a.tp b.tp,max a.rt b.rt,max a.bt b.bt,a.sx+b.sx,a.sy+b.sy,a.xx+b.xx,a.xy+b.xy,a.yy+b.yy,a.ms+b.ms,a.mx+b.mx,a.my+b.my⟩
def okb (a:Bb):Prop:=Bl.ok a.ar a.le a.tp a.rt a.bt a.sx a.sy a.xx a.xy a.yy a.ms a.mx a.my
instance (a:Bb):Decidable (okb a):=inferInstanceAs (Decidable (Bl.ok ..))
def acc (w:Nat) (l o:List Int) (k:Int):Nat→Option Bb
  |0=>none
  |i+1=>if o.getD i 0=k then some (match acc w l o k i with|none=>one w l i|some a=>tog a (one w l i)) else acc w l o k i
theorem one_ok {w h n i:Nat} {l:List Int} (hw:1≤w∧w≤64) (hh:h≤64) (hn:n=w*h) (hi:i<n) (hg:0≤l.getD i 0∧l.getD i 0≤65535):okb (one w l i):=by
  have h1:i%w≤63:=by have:=Nat.mod_lt i (show 0<w by omega);omega
  have h2:i / w≤63:=by have:=Nat.div_lt_of_lt_mul (show i<w*h by omega);omega
  unfold okb one Bl.ok
  dsimp only
  generalize ((i%w:Nat))=X at *;generalize i / w=Y at *;generalize l.getD i 0=G at*
  have a1:=Bl.mul_b (x:=(X:Int)) (y:=(X:Int)) (m:=63) (n:=63) (by omega) (by omega)
  have a2:=Bl.mul_b (x:=(X:Int)) (y:=(Y:Int)) (m:=63) (n:=63) (by omega) (by omega)
  have a3:=Bl.mul_b (x:=(Y:Int)) (y:=(Y:Int)) (m:=63) (n:=63) (by omega) (by omega)
  omega
theorem mul_le2 {a b x y s:Int} (ha:0≤a) (hx:y≤x) (hs:a*x≤s):a*y≤s:=Int.le_trans (Int.mul_le_mul_of_nonneg_left hx ha) hs
theorem mul_ge2 {a b x y s:Int} (ha:0≤a) (hx:x≤y) (hs:s≤a*x):s≤a*y:=Int.le_trans hs (Int.mul_le_mul_of_nonneg_left hx ha)
theorem tog_ok {a b:Bb} (ha:okb a) (hb:okb b) (h:a.ar+b.ar≤4096):okb (tog a b):=by
  unfold okb Bl.ok at ha hb
  unfold okb tog Bl.ok
  dsimp only
  obtain ⟨a1,a2,a3,a4,a5,a6,a7,a8,a9,a10,a11,a12,a13⟩:=ha
  obtain ⟨b1,b2,b3,b4,b5,b6,b7,b8,b9,b10,b11,b12,b13⟩:=hb
  simp only [Int.add_mul]
  have m1:min a.le b.le≤a.le:=by omega
  have m2:min a.le b.le≤b.le:=by omega
  have m3:min a.tp b.tp≤a.tp:=by omega
  have m4:min a.tp b.tp≤b.tp:=by omega
  have m5:a.rt≤max a.rt b.rt:=by omega
  have m6:b.rt≤max a.rt b.rt:=by omega
  have m7:a.bt≤max a.bt b.bt:=by omega
  have m8:b.bt≤max a.bt b.bt:=by omega
  have c1:=mul_le2 (b:=0) (by omega) m1 a6.1
  have c2:=mul_le2 (b:=0) (by omega) m2 b6.1
  have c3:=mul_ge2 (b:=0) (by omega) m5 a6.2
  have c4:=mul_ge2 (b:=0) (by omega) m6 b6.2
  have c5:=mul_le2 (b:=0) (by omega) m3 a7.1
  have c6:=mul_le2 (b:=0) (by omega) m4 b7.1
  have c7:=mul_ge2 (b:=0) (by omega) m7 a7.2
  have c8:=mul_ge2 (b:=0) (by omega) m8 b7.2
  have d1:=mul_le2 (b:=0) (by omega) m1 a12.1
  have d2:=mul_le2 (b:=0) (by omega) m2 b12.1
  have d3:=mul_ge2 (b:=0) (by omega) m5 a12.2
  have d4:=mul_ge2 (b:=0) (by omega) m6 b12.2
  have d5:=mul_le2 (b:=0) (by omega) m3 a13.1
  have d6:=mul_le2 (b:=0) (by omega) m4 b13.1
  have d7:=mul_ge2 (b:=0) (by omega) m7 a13.2
  have d8:=mul_ge2 (b:=0) (by omega) m8 b13.2
  clear a6 b6 a7 b7 a12 b12 a13 b13
  omega
theorem acc_ok {w h n:Nat} {l o:List Int} {k:Int} (hw:1≤w∧w≤64) (hh:h≤64) (hn:n=w*h) (hb:n≤4096) (hg:∀i,i<n→0≤l.getD i 0∧l.getD i 0≤65535):∀i,i≤n→∀a,acc w l o k i=some a→okb a∧a.ar≤(i:Int):=by
  intro i
  induction i with
  |zero=>intro _ a e;cases e
  |succ i ih=>
    intro hi a e
    have ho:=one_ok hw hh hn (show i<n by omega) (hg i (by omega))
    unfold acc at e
    split at e
    · cases hc : acc w l o k i with
      |none=>rw [hc] at e;cases e;exact ⟨ho,by show (1:Int)≤_;omega⟩
      |some b=>
        rw [hc] at e;cases e
        obtain ⟨h1,h2⟩:=ih (by omega) b hc
        have h3:b.ar+(one w l i).ar≤((i+1:Nat):Int):=by show b.ar+1≤_;omega
        exact ⟨tog_ok h1 ho (by omega),h3⟩
    · obtain ⟨h1,h2⟩:=ih (by omega) a e;exact ⟨h1,by omega⟩
def gb (a:Option Bb):Bb:=a.getD b0
def bls (w:Nat) (l o:List Int) (N n:Nat):List Bb:=(List.range N).map (fun k:Nat=>gb (acc w l o (k:Int) n))
theorem bls_len (w:Nat) (l o:List Int) (N n:Nat):(bls w l o N n).length=N:=by simp [bls]
theorem bls_get {w:Nat} {l o:List Int} {N n k:Nat} (h:k<N):(bls w l o N n).getD k b0=gb (acc w l o (k:Int) n):=by
  unfold bls;rw [List.getD_eq_getElem?_getD,List.getElem?_map,List.getElem?_range h];rfl
theorem ext_gD {A B:List Bb} (hl:A.length=B.length) (h:∀k,k<A.length→A.getD k b0=B.getD k b0):A=B:=by
  refine List.ext_getElem hl fun k h1 h2=> ?_
  have:=h k h1
  rw [List.getD_eq_getElem?_getD,List.getD_eq_getElem?_getD,List.getElem?_eq_getElem h1,List.getElem?_eq_getElem h2] at this
  exact this
theorem gD_set {A:List Bb} {k j:Nat} {v:Bb} (h:k<A.length):(A.set k v).getD j b0=if j=k then v else A.getD j b0:=by
  rw [List.getD_eq_getElem?_getD,List.getElem?_set]
  by_cases e:k=j
  · subst e;simp [h]
  · rw [if_neg e,if_neg (fun x=>e x.symm),←List.getD_eq_getElem?_getD]
section
variable {w h n N i : Nat} {l o : List Int} {A : List Bb}
structure TbI (w:Nat) (l o:List Int) (N i:Nat) (A:List Bb):Prop where
  len:A.length=N
  get:∀k,k<N→A.getD k b0=gb (acc w l o (k:Int) i)
theorem TbI.start:TbI w l o N 0 (List.replicate N b0):=⟨by simp,fun k hk=>by
  rw [List.getD_eq_getElem?_getD,List.getElem?_replicate];simp [hk,acc,gb]⟩
theorem TbI.skip (h:TbI w l o N i A) (hx:o.getD i 0<0):TbI w l o N (i+1) A:=
  ⟨h.len,fun k hk=>by rw [h.get k hk];unfold acc;rw [if_neg (show ¬o.getD i 0=(k:Int) by omega)];cases i <;> rfl⟩
theorem acc_next {k:Int} (hx:o.getD i 0=k):acc w l o k (i+1)=some (match acc w l o k i with|none=>one w l i|some a=>tog a (one w l i)):=by
  rw [acc,if_pos hx]
theorem acc_keep {k:Int} (hx:¬o.getD i 0=k):acc w l o k (i+1)=acc w l o k i:=by rw [acc,if_neg hx]
theorem TbI.put (h:TbI w l o N i A) {k:Nat} {v:Bb} (hk:k<N) (ho:o.getD i 0=(k:Int)) (hv:v=gb (acc w l o (k:Int) (i+1))):TbI w l o N (i+1) (A.set k v):=
  ⟨by rw [List.length_set];exact h.len,fun j hj=>by
    rw [gD_set (by rw [h.len];exact hk)]
    by_cases e:j=k
    · rw [if_pos e,hv,e]
    · rw [if_neg e,h.get j hj,acc_keep (show ¬o.getD i 0=(j:Int) by omega)]⟩
theorem gb_new {k:Int} (hx:o.getD i 0=k) (ha:(gb (acc w l o k i)).ar=0) (hok:∀a,acc w l o k i=some a→okb a):one w l i=gb (acc w l o k (i+1)):=by
  rw [acc_next hx]
  cases e:acc w l o k i with
  |none=>rfl
  |some a=>rw [e] at ha;have:=(hok a e).1;change a.ar=0 at ha;omega
theorem gb_old {k:Int} (hx:o.getD i 0=k) (ha:¬(gb (acc w l o k i)).ar=0):tog (gb (acc w l o k i)) (one w l i)=gb (acc w l o k (i+1)):=by
  rw [acc_next hx]
  cases e:acc w l o k i with
  |none=>rw [e] at ha;exact absurd rfl ha
  |some a=>rfl
theorem gb_ok {k:Int} (ha:¬(gb (acc w l o k i)).ar=0) (hok:∀a,acc w l o k i=some a→okb a∧a.ar≤(i:Int)):okb (gb (acc w l o k i))∧(gb (acc w l o k i)).ar≤(i:Int):=by
  cases e:acc w l o k i with
  |none=>rw [e] at ha;exact absurd rfl ha
  |some a=>exact hok a e
theorem gb_okn {k:Int} (ha:acc w l o k i≠none) (hok:∀a,acc w l o k i=some a→okb a∧a.ar≤(i:Int)):okb (gb (acc w l o k i)):=by
  cases e:acc w l o k i with
  |none=>exact absurd e ha
  |some a=>exact (hok a e).1
theorem TbI.fin (h:TbI w l o N n A):A=bls w l o N n:=ext_gD (by rw [h.len,bls_len]) fun k hk=>by
  rw [h.len] at hk;rw [h.get k hk,bls_get hk]
end
structure LabC (n:Nat) (f:Nat→Bool) (c:Nat→Nat) (o:List Int):Prop where
  len:o.length=n
  yes:∀j,j<n→f j=true→o.getD j 0=(cnt (ldr f c) (c j):Int)
  not:∀j,j<n→¬f j=true→o.getD j 0= -1
section
variable {w n i : Nat} {f : Nat → Bool} {adj : Nat → Nat → Prop} {c : Nat → Nat} {l o : List Int}
theorem OutI.labc (hc:Lst (fun j=>f j=true) adj c) (hn:∀j,f j=true→j<n) (h:OutI n f c n o):LabC n f c o:=
  ⟨h.len,fun j hj hf=>h.old j hj hf (hn _ (hc.mem hf)),fun j hj hf=>h.new j hj fun k=>hf k.1⟩
theorem Lab.labc (h:Lab n f adj o):∃c,Lst (fun j=>f j=true) adj c∧LabC n f c o:=let ⟨c,a,b,d⟩:=h.ex;⟨c,a,h.len,b,d⟩
theorem LabC.lt (hc:Lst (fun j=>f j=true) adj c) (hn:∀j,f j=true→j<n) (h:LabC n f c o) (hi:i<n) (hf:f i=true):o.getD i 0<(cnt (ldr f c) n:Int)∧0≤o.getD i 0:=by
  rw [h.yes i hi hf]
  have:=cnt_lt (ldr f c) (hn _ (hc.mem hf)) (ldr_iff.2 ⟨hc.mem hf,hc.idem hf⟩)
  omega
theorem LabC.pos (h:LabC n f c o) (hi:i<n):(0≤o.getD i 0↔f i=true):=by
  by_cases e:f i=true
  · rw [h.yes i hi e];exact ⟨fun _=>e,fun _=>by omega⟩
  · rw [h.not i hi e];exact ⟨fun x=>by omega,fun x=>absurd x e⟩
theorem LabC.fresh (hc:Lst (fun j=>f j=true) adj c) (h:LabC n f c o):∀i,i≤n→∀k:Nat,cnt (ldr f c) i≤k→acc w l o (k:Int) i=none:=by
  intro i
  induction i with
  |zero=>intro _ k _;rfl
  |succ i ih=>
    intro hi k hk
    have h1:=cnt_mono (ldr f c) (show i≤i+1 by omega)
    rw [acc_keep,ih (by omega) k (by omega)]
    intro e
    by_cases hf:f i=true
    · rw [h.yes i (by omega) hf] at e
      have h2:=cnt_lt (ldr f c) (show c i<i+1 by have:=hc.le i hf;omega) (ldr_iff.2 ⟨hc.mem hf,hc.idem hf⟩)
      omega
    · rw [h.not i (by omega) hf] at e;omega
theorem LabC.lead (hc:Lst (fun j=>f j=true) adj c) (h:LabC n f c o) (hi:i<n) (hf:f i=true) (he:o.getD i 0=(cnt (ldr f c) i:Int)):ldr f c i=true:=by
  have hci:c i=i:=by
    by_cases e:c i<i
    · have h2 := cnt_lt (ldr f c) e (ldr_iff.2 ⟨hc.mem hf, hc.idem hf⟩)
      rw [h.yes i hi hf] at he;omega
    · have:=hc.le i hf;omega
  exact ldr_iff.2 ⟨hf,hci⟩
theorem acc_some {k:Int}:∀i,(∃j,j<i∧o.getD j 0=k)→acc w l o k i≠none:=by
  intro i
  induction i with
  |zero=>rintro ⟨j,h,_⟩;omega
  |succ i ih=>
    rintro ⟨j,h,e⟩
    by_cases x:o.getD i 0=k
    · rw [acc_next x];exact fun y=>by cases y
    · rw [acc_keep x];exact ih ⟨j,by by_cases z:j=i;exact absurd (z ▸ e) x;omega,e⟩
theorem LabC.seen (hc:Lst (fun j=>f j=true) adj c) (h:LabC n f c o) (hi:i<n) (hf:f i=true) (he:¬o.getD i 0=(cnt (ldr f c) i:Int)):acc w l o (o.getD i 0) i≠none:=by
  have hci:¬c i=i:=fun e=>he (by rw [h.yes i hi hf,e])
  have hlt:c i<i:=by have:=hc.le i hf;omega
  refine acc_some i ⟨c i,hlt,?_⟩
  rw [h.yes i hi hf,h.yes (c i) (by omega) (hc.mem hf),hc.idem hf]
end
def BlsR (w h m:Int) (l:List Int) (th:Int) (A:List Bb):Prop:=
  (Bl.rok w h m l∧0≤th∧th≤65536→∃c o,Lst (fun j=>ge l th j=true) (nb false w.toNat l.length) c∧LabC l.length (ge l th) c o∧A=bls w.toNat l o (cnt (ldr (ge l th) c) l.length) l.length)∧(¬(Bl.rok w h m l∧0≤th∧th≤65536)→A=[])
theorem LabC.lab {n:Nat} {f:Nat→Bool} {adj:Nat→Nat→Prop} {c:Nat→Nat} {o:List Int} (hc:Lst (fun j=>f j=true) adj c) (h:LabC n f c o):Lab n f adj o:=⟨h.len,c,hc,h.yes,h.not⟩
theorem BlsR.uniq {w h m th:Int} {l:List Int} {A B:List Bb} (a:BlsR w h m l th A) (b:BlsR w h m l th B):A=B:=by
  by_cases e:Bl.rok w h m l∧0≤th∧th≤65536
  · obtain ⟨c, o, h1, h2, h3⟩ := a.1 e
    obtain ⟨d,p,k1,k2,k3⟩:=b.1 e
    have e1:o=p:=(h2.lab h1).uniq (k2.lab k1)
    rw [h3,k3,e1,ldr_uniq h1 k1]
  · rw [a.2 e,b.2 e]
theorem BlsR.no {w h m th:Int} {l:List Int} (e:¬(Bl.rok w h m l∧0≤th∧th≤65536)):BlsR w h m l th []:=⟨fun k=>absurd k e,fun _=>rfl⟩
theorem BlsR.yes {w n:Nat} {h m th:Int} {l o:List Int} {c:Nat→Nat} {A:List Bb} (e:Bl.rok w h m l∧0≤th∧th≤65536) (hn:l.length=n) (hc:Lst (fun j=>ge l th j=true) (nb false w n) c) (ho:LabC n (ge l th) c o) (hA:A=bls w l o (cnt (ldr (ge l th) c) n) n):BlsR w h m l th A:=by
  subst hn;exact ⟨fun _=>⟨c,o,hc,ho,hA⟩,fun x=>absurd e x⟩
theorem rok_g {w h m:Int} {l:List Int} {n:Nat} (e:Bl.rok w h m l) (hn:l.length=n):∀i,i<n→0≤l.getD i 0∧l.getD i 0≤65535:=fun i hi=>by
  obtain ⟨_,_,h3,_,h5⟩:=e
  have hm:l.getD i 0∈l:=Big.getD_mem (by omega)
  by_cases k:l.getD i 0<0∨m<l.getD i 0
  · exact absurd ⟨_,hm,k⟩ h5
  · omega
end Go.Proofs.Ytpdbimfnhglhpaa.Fl
namespace Go.Proofs.Ytpdbimfnhglhpaa.Sp
open Go
set_option linter.unusedVariables false
set_option maxRecDepth 100000
set_option maxHeartbeats 8000000
theorem zRc {w:Int} {h:Int} {m:Int} {p:Option Addr} {n:Nat} {cap:Nat} {l:List Int} {th:Int} (hn:l.length=n):Con Try.prog 7 [.agg #[.int .i64 w,.int .i64 h,.int .i64 m,.slice p n cap],.int .i64 th] [] [slF (rI .i64) p cap l] (Y:=(Option Addr)×Nat×(List Bb)) (fun y=>Fl.BlsR w h m l th y.2.2) (fun y=> .tuple #[.slice (y.1) (y.2.2.length) (y.2.1),.int .i64 (if Bl.rok w h m l then (if 0≤th∧th≤65536 then 0 else 2) else 1)]) (fun y=>[]) (fun y=>[slF (rI13 .i64) (y.1) (y.2.1) (y.2.2)]):=by
 refine zC Try.func7 rfl rfl rfl (fun c=> ?_)
 show RunC _ _ _ _ _ [(0,.agg #[.int .i64 w,.int .i64 h,.int .i64 m,.slice p n cap]),(1,.int .i64 th)] [] [slF (rI .i64) p cap l]
 refine zpa 0 rfl (fun hL0=> ?_)
 refine zf<|za<|zZ rfl rfl (zka rfl rfl) (fun b1=> ?_)
 refine e_p (zd rfl)<|e_p (zd rfl)<|zi<|zc<|zf<|zf<|za<|e_ru (zm 0 ty24 rfl rfl (.t4 .nil))<|e_mv rfl<|zia rfl rfl (.c rfl (.c rfl .n)) ce15 (zAb (w:=w) (h:=h) (m:=m) (p:=p) (n:=n) (cap:=cap) (l:=l) (th:=th) (hn:=ass)) (.c (j:=0) rfl .n)<|e_p (zd rfl)<|zi<|zc<|zf<|za<|e_mv rfl<|e_p (zOa rfl rfl)<|zi<|zc<|zG rfl (fun hc=> ?_) (fun hc=> ?_)
 ·
  have hno:=fun k=>hc (Fl.ask0.2 k)
  refine zf<|za<|e_mv rfl<|e_p (zd rfl)<|e_p (zd rfl)<|zi<|zc<|zU<|zl<|zHc (rI13 .i64) ?_
  exact zLa Try.results7 (none,0,[]) (Fl.BlsR.no hno) (zx rfl) (zx rfl) rfl (ho:=oN) (s0 rfl)
 ·
  have hok:=Fl.ask0.1 (Decidable.not_not.1 hc)
  obtain ⟨wn,hn9,rfl,rfl,hw9,hh9,hwh,hb9⟩:=Fl.rok_n hok.1 hn
  refine zw<|zc<|zf<|za<|e_ru (zm 0 ty24 rfl rfl (.t4 .nil))<|e_mv rfl<|zFa rfl rfl (.c rfl (.c rfl .n)) ce16 (zoc (w:=wn) (h:=hn9) (m:=m) (p:=p) (n:=n) (cap:=cap) (l:=l) (th:=th) (hn:=ass) (hw:=cbo) (hh:=cbo) (hwh:=cbo) (hb:=cbo)) (.c (j:=0) rfl .n) ?_
  rintro ⟨p32,c33,o,cc⟩ hcl
  dsimp only [aq,nq,cq]
  replace hcl:Fl.Lst (fun j=>Fl.ge l th j=true) (Fl.nb false wn n) cc∧Fl.OutI n (Fl.ge l th) cc n o:=hcl
  refine e_mv rfl<|e_p (zy rfl rfl)<|e_p (zy rfl rfl)<|e_p (zd rfl)<|e_p (zd rfl)<|zi<|zc<|zf ?_
  have hin:∀j,(Fl.ge l th) j=true→j<n:=fun j hj=>by have:=Fl.ge_lt hj;omega
  have hLC:=hcl.2.labc hcl.1 hin
  have hol:=hLC.len
  have hcn:=Fl.cnt_le (Fl.ldr (Fl.ge l th) cc) n
  refine za<|e_mv rfl<|zwa rfl rfl (zMb (r:=rI13 .i64) (k:=(Fl.cnt (Fl.ldr (Fl.ge l th) cc) n)) (x0:=b0) (γ0:=()) Try.underlying36 inf51 rfl rfl rfl rfl om om rfl (fun g _=>by exact okB_0) dd) (fun b4 _=> ?_)
  refine e_p (zd rfl)<|zi<|zc<|zf<|zf<|za<|e_mv rfl<|e_p (zR Try.underlying22 rfl)<|e_mv rfl<|zi<|zc<|zq<|zY (X:=Nat×(List Bb)) (fun x:Nat×(List Bb)=>x.1≤n∧Fl.TbI wn l o (Fl.cnt (Fl.ldr (Fl.ge l th) cc) n) x.1 x.2) (fun x=>[(32,.int .i64 ((x.1:Nat):Int)),(31,.int .i64 ((n:Nat):Int)),(30,.slice p32 n c33),(9,.slice (some ⟨b4,0,none⟩) (Fl.cnt (Fl.ldr (Fl.ge l th) cc) n) (Fl.cnt (Fl.ldr (Fl.ge l th) cc) n)),(5,.int .i64 0),(4,.slice none 0 0),(2,.pointer (some ⟨b1,0,none⟩))]) (fun x=>[rowA 51 (rI13 .i64) (some ⟨b4,0,none⟩) (Fl.cnt (Fl.ldr (Fl.ge l th) cc) n) (x.2),boxA b1 24 [.int .i64 ((wn:Nat):Int),.int .i64 ((hn9:Nat):Int),.int .i64 m,.slice p n cap]]) (fun x=>[slF (rI .i64) p32 c33 o,slF (rI .i64) p cap l]) (fun x:Nat×(List Bb)=>n - x.1) (0,List.replicate (Fl.cnt (Fl.ldr (Fl.ge l th) cc) n) b0) (show 0≤n∧Fl.TbI wn l o (Fl.cnt (Fl.ldr (Fl.ge l th) cc) n) 0 (List.replicate (Fl.cnt (Fl.ldr (Fl.ge l th) cc) n) b0) from by exact ⟨Nat.zero_le _,Fl.TbI.start⟩) ((.e rfl cgs (.of rfl)):SubM _ _) (ho:=((.of [0,0] rfl):PickO _ _ _)) ((.of [0,1] rfl):SelR _ _ _) ?_
  rintro ⟨i,A⟩ hI
  replace hI:i≤n∧Fl.TbI wn l o (Fl.cnt (Fl.ldr (Fl.ge l th) cc) n) i A:=hI
  try dsimp only
  obtain ⟨hi,hT⟩:=hI
  have hAl:=hT.len
  refine zf<|za<|e_p (zD rfl rfl)<|zi<|zc<|zf<|zG rfl (fun h5=> ?_) (fun h5=> ?_)
  ·
   refine zw<|zc<|zf<|zq<|zf<|za<|e_mv rfl<|zM (x0:=(o.getD i 0)) 0 i rfl Try.underlying22 sz3 rfl rfl rfl cbs rfl rfl (gD (d:=0) om) (fun b6 o7 hok8=> ?_)
   replace hok8:=ze.1 hok8
   refine e_ru (zp (j:=0) 0 ty3 rfl rfl rfl rfl)<|e_p (zd rfl)<|e_p (zd rfl)<|zi<|zc<|zf<|zf<|za<|e_mv rfl<|e_p (zD rfl rfl)<|zi<|zc<|zG rfl (fun hneg=> ?_) (fun hneg=> ?_)
   ·
    refine zP<|zj<|zo<|zc<|za<|e_p (zv (z:=(((i+1):Nat):Int)) rfl rfl (w64 om))<|e_mv rfl<|zi<|zQ ((i+1),A) (show (i+1)≤n∧Fl.TbI wn l o (Fl.cnt (Fl.ldr (Fl.ge l th) cc) n) (i+1) A from by exact ⟨by omega,hT.skip hneg⟩) (by show n - (i+1)<n - i;omega) (mR rfl) (ho:=((.of [0,0] rfl):PickO _ _ _)) ((.of [1,2] rfl):SelR _ _ _)
   ·
    have hqd:=Nat.div_le_self i wn
    have hq0:=Int.natCast_nonneg (i / wn)
    have hm0:=Int.natCast_nonneg (i%wn)
    have hfi:(Fl.ge l th) i=true:=(hLC.pos om).1 om
    obtain ⟨hlt9,hge9⟩:=hLC.lt hcl.1 hin (show i<n by omega) hfi
    obtain ⟨kk,hkk⟩:∃kk:Nat,o.getD i 0=(kk:Int):=⟨(o.getD i 0).toNat,by omega⟩
    have e9:((o.getD i 0):Int)=((kk:Nat):Int):=by exact hkk
    rw [e9]
    have hkN:kk<(Fl.cnt (Fl.ldr (Fl.ge l th) cc) n):=by omega
    have hget:=hT.get kk hkN
    have hacc:=Fl.acc_ok (l:=l) (o:=o) (k:=(kk:Int)) hw9 hh9.2 hwh hb9 (Fl.rok_g hok.1 hn) i om
    refine zw<|zc<|zf<|zsa (OW:=[]) (O:=[rowA 51 (rI13 .i64) (some ⟨b4,0,none⟩) (Fl.cnt (Fl.ldr (Fl.ge l th) cc) n) A,boxA b1 24 [.int .i64 ((wn:Nat):Int),.int .i64 ((hn9:Nat):Int),.int .i64 m,.slice p n cap]]) 100000 mixed (.then (.block (.then (.then (.block (.then .ret)))))) kr<|e_dm 0 rfl rfl rfl<|e_pv 1 rfl rfl (zg Try.underlying24 rfl sz3 rfl rfl)<|e_u 2 rfl rfl (zb 1 ty3 rfl rfl rfl)<|e_pv 3 rfl rfl (zXa (z:=(((i%wn):Nat):Int)) rfl rfl om (remN om om))<|e_dm 4 rfl rfl rfl<|e_pv 5 rfl rfl (zg Try.underlying24 rfl sz3 rfl rfl)<|e_u 6 rfl rfl (zb 1 ty3 rfl rfl rfl)<|e_pv 7 rfl rfl (zRb (z:=(((i / wn):Nat):Int)) rfl rfl om (by rw [quoN (z:=(((i / wn):Nat):Int)) om om];exact w64 om))<|e_pv 8 rfl rfl (zg Try.underlying24 rfl sz22 rfl rfl)<|e_u 9 rfl rfl (zb 1 ty22 rfl rfl rfl)<|e_dm 10 rfl rfl rfl<|zza (x0:=(l.getD i 0)) 11 rfl rfl kr kr 2 i rfl Try.underlying22 sz3 rfl rfl rfl cbs rfl rfl (gD (d:=0) om) (fun b10 o11 hok12=> ?_)
    replace hok12:=ze.1 hok12
    refine e_u 12 rfl rfl (zp (j:=0) 0 ty3 rfl rfl rfl rfl)<|e_pv 13 rfl rfl (zd rfl)<|e_pv 14 rfl rfl (zd rfl)<|e_pv 15 rfl rfl (zd rfl)<|zra kr<|zc<|zf ?_
    obtain ⟨kx,hkx⟩:∃z,z=(i%wn):=⟨_,rfl⟩
    rw [← hkx]
    obtain ⟨ky,hky⟩:∃z,z=(i / wn):=⟨_,rfl⟩
    rw [← hky]
    obtain ⟨kg,hkg⟩:∃z,z=(l.getD i 0):=⟨_,rfl⟩
    rw [← hkg]
    have hkxb:kx≤63:=by rw [hkx];have:=Nat.mod_lt i (show 0<wn by omega);omega
    have hkyb:ky≤63:=by rw [hky];have:=Nat.div_lt_of_lt_mul (show i<wn*hn9 by omega);omega
    have hkgb:0≤kg∧kg≤65535:=by rw [hkg];exact Fl.rok_g hok.1 hn i om
    have hp1:kx*kx≤63*63:=Nat.mul_le_mul hkxb hkxb
    have hp2:kx*ky≤63*63:=Nat.mul_le_mul hkxb hkyb
    have hp3:ky*ky≤63*63:=Nat.mul_le_mul hkyb hkyb
    have hp4:=Bl.mul_b (x:=kg) (y:=(kx:Int)) (m:=65535) (n:=63) hkgb om
    have hp5:=Bl.mul_b (x:=kg) (y:=(ky:Int)) (m:=65535) (n:=63) hkgb om
    have hO1:Fl.okb (Fl.one wn l i):=Fl.one_ok hw9 hh9.2 hwh om (Fl.rok_g hok.1 hn i om)
    refine za<|e_mv rfl<|e_mv rfl<|e_mv rfl<|e_mv rfl<|e_mv rfl<|e_mv rfl<|e_mv rfl<|e_mv rfl<|e_p (zBa (z:=(((kx*kx):Nat):Int)) rfl rfl (w64 om))<|e_mv rfl<|e_mv rfl<|e_p (zBa (z:=(((kx*ky):Nat):Int)) rfl rfl (w64 om))<|e_mv rfl<|e_mv rfl<|e_p (zBa (z:=(((ky*ky):Nat):Int)) rfl rfl (w64 om))<|e_mv rfl<|e_mv rfl<|e_mv rfl<|e_p (zBa (z:=(kg*((kx:Nat):Int))) rfl rfl (w64 om))<|e_mv rfl<|e_mv rfl<|e_p (zBa (z:=(kg*((ky:Nat):Int))) rfl rfl (w64 om))<|e_p (zca zr51 rfl Try.underlying51 (.c sz3 (.c sz3 (.c sz3 (.c sz3 (.c sz3 (.c sz3 (.c sz3 (.c sz3 (.c sz3 (.c sz3 (.c sz3 (.c sz3 (.c sz3 .n))))))))))))) (.c rfl (.c rfl (.c rfl (.c rfl (.c rfl (.c rfl (.c rfl (.c rfl (.c rfl (.c rfl (.c rfl (.c rfl (.c rfl .n))))))))))))) (.c rfl rfl rfl (.take .nil) (.c rfl rfl rfl (.skip (.take .nil)) (.c rfl rfl rfl (.s2 (.skip (.take .nil))) (.c rfl rfl rfl (.s2 (.take .nil)) (.c rfl rfl rfl (.s4 (.take .nil)) (.c rfl rfl rfl (.s4 (.skip (.take .nil))) (.c rfl rfl rfl (.s4 (.s2 (.take .nil))) (.c rfl rfl rfl (.s4 (.s2 (.skip (.take .nil)))) (.c rfl rfl rfl (.s8 (.take .nil)) (.c rfl rfl rfl (.s8 (.skip (.take .nil))) (.c rfl rfl rfl (.s8 (.s2 (.take .nil))) (.c rfl rfl rfl (.s8 (.s2 (.skip (.take .nil)))) (.c rfl rfl rfl (.s8 (.s4 (.take .nil))) .n))))))))))))))<|zZ rfl rfl (zF zr51 rfl) (fun b13=> ?_)
    refine zE 0 rfl rfl rfl rfl rfl sz51 rfl (.t8 (.t4 (.take .nil))) .z<|zi<|zc<|zf<|za<|e_mv rfl<|e_mv rfl<|e_p (zN (j:=kk) Try.underlying36 sz51 rfl rfl rfl om)<|e_ru (zac 1 rfl Try.underlying51 rfl sz3 rfl om rfl)<|r_vl rfl rfl (ztb (x0:=(A.getD kk b0)) (v:= .int .i64 ((A.getD kk b0).ar)) 1 kk 0 rfl ty3 rfl rfl (gD (d:=b0) om) rfl) (fun _ hok14=> ?_)
    obtain ⟨hok140,hok141,hok142,hok143,hok144,hok145,hok146,hok147,hok148,hok149,hok1410,hok1411,hok1412⟩:=hok14
    replace hok140:=ze.1 hok140
    replace hok141:=ze.1 hok141
    replace hok142:=ze.1 hok142
    replace hok143:=ze.1 hok143
    replace hok144:=ze.1 hok144
    replace hok145:=ze.1 hok145
    replace hok146:=ze.1 hok146
    replace hok147:=ze.1 hok147
    replace hok148:=ze.1 hok148
    replace hok149:=ze.1 hok149
    replace hok1410:=ze.1 hok1410
    replace hok1411:=ze.1 hok1411
    replace hok1412:=ze.1 hok1412
    refine e_p (zya rfl rfl)<|zi<|zc<|zG rfl (fun hz=> ?_) (fun hz=> ?_)
    ·
     have hnew:=Fl.gb_new hkk (by rw [← hget];exact hz) (fun a ha=>(hacc a ha).1)
     refine za<|e_mv rfl<|e_mv rfl<|e_ru (zm 0 ty51 rfl rfl (.t8 (.t4 (.take .nil))))<|e_p (zN (j:=kk) Try.underlying36 sz51 rfl rfl rfl om)<|zna 1 rfl rfl rfl (zda (j:=kk) (x0:=(⟨1,((kx:Nat):Int),((ky:Nat):Int),((kx:Nat):Int),((ky:Nat):Int),((kx:Nat):Int),((ky:Nat):Int),(((kx*kx):Nat):Int),(((kx*ky):Nat):Int),(((ky*ky):Nat):Int),kg,(kg*((kx:Nat):Int)),(kg*((ky:Nat):Int))⟩:Bb)) (γ0:=()) rfl rfl (by first|omega|(rw [List.length_map];omega)|(simp only [List.length_set];omega)|(simp;done)|(simp;omega)) rfl rfl sz51 (fun _ _=>by exact ⟨ze.2 (by first|omega|decide|(dsimp only;omega)),ze.2 (by first|omega|decide|(dsimp only;omega)),ze.2 (by first|omega|decide|(dsimp only;omega)),ze.2 (by first|omega|decide|(dsimp only;omega)),ze.2 (by first|omega|decide|(dsimp only;omega)),ze.2 (by first|omega|decide|(dsimp only;omega)),ze.2 (by first|omega|decide|(dsimp only;omega)),ze.2 (by first|omega|decide|(dsimp only;omega)),ze.2 (by first|omega|decide|(dsimp only;omega)),ze.2 (by first|omega|decide|(dsimp only;omega)),ze.2 (by first|omega|decide|(dsimp only;omega)),ze.2 (by first|omega|decide|(dsimp only;omega)),ze.2 (by first|omega|decide|(dsimp only;omega))⟩)) (fun _=>(.s .z)) (fun _ _=> ?_)
     refine zi<|zB<|zc<|za<|e_p (zv (z:=(((i+1):Nat):Int)) rfl rfl (w64 om))<|e_mv rfl<|zi<|zQ ((i+1),(A.set kk (⟨1,((kx:Nat):Int),((ky:Nat):Int),((kx:Nat):Int),((ky:Nat):Int),((kx:Nat):Int),((ky:Nat):Int),(((kx*kx):Nat):Int),(((kx*ky):Nat):Int),(((ky*ky):Nat):Int),kg,(kg*((kx:Nat):Int)),(kg*((ky:Nat):Int))⟩:Bb))) (show (i+1)≤n∧Fl.TbI wn l o (Fl.cnt (Fl.ldr (Fl.ge l th) cc) n) (i+1) (A.set kk (⟨1,((kx:Nat):Int),((ky:Nat):Int),((kx:Nat):Int),((ky:Nat):Int),((kx:Nat):Int),((ky:Nat):Int),(((kx*kx):Nat):Int),(((kx*ky):Nat):Int),(((ky*ky):Nat):Int),kg,(kg*((kx:Nat):Int)),(kg*((ky:Nat):Int))⟩:Bb)) from by exact ⟨by omega,hT.put hkN hkk (by rw [← hnew,hkx,hky,hkg];rfl)⟩) (by show n - (i+1)<n - i;omega) (mR rfl) (ho:=((.of [1,1] rfl):PickO _ _ _)) ((.of [2,3] rfl):SelR _ _ _)
    ·
     have hold:=Fl.gb_old (w:=wn) (l:=l) hkk (by rw [← hget];exact hz)
     have hA1:Fl.okb (A.getD kk b0):=by rw [hget];exact (Fl.gb_ok (by rw [← hget];exact hz) hacc).1
     rw [← hget] at hold
     have hbd1:=Bl.ok_bd hA1
     unfold Bl.bd at hbd1
     refine zWa (.c (i:=1) rfl (.c (i:=0) rfl (.c (i:=0) rfl .n)))<|zsa (OW:=[rowA 51 (rI13 .i64) (some ⟨b4,0,none⟩) (Fl.cnt (Fl.ldr (Fl.ge l th) cc) n) A]) (O:=[boxA b13 51 [.int .i64 1,.int .i64 ((kx:Nat):Int),.int .i64 ((ky:Nat):Int),.int .i64 ((kx:Nat):Int),.int .i64 ((ky:Nat):Int),.int .i64 ((kx:Nat):Int),.int .i64 ((ky:Nat):Int),.int .i64 (((kx*kx):Nat):Int),.int .i64 (((kx*ky):Nat):Int),.int .i64 (((ky*ky):Nat):Int),.int .i64 kg,.int .i64 (kg*((kx:Nat):Int)),.int .i64 (kg*((ky:Nat):Int))],boxA b1 24 [.int .i64 ((wn:Nat):Int),.int .i64 ((hn9:Nat):Int),.int .i64 m,.slice p n cap]]) 9 mixed (.block (.then (.then (.block (.then .ret))))) kr<|e_dm 0 rfl rfl rfl<|e_dm 1 rfl rfl rfl<|e_dm 2 rfl rfl rfl<|e_dm 3 rfl rfl rfl<|e_pv 4 rfl rfl (zN (j:=kk) Try.underlying36 sz51 rfl rfl rfl om)<|zGc 5 rfl rfl kr kr kr rfl rfl (zyb 0 kk rfl ty51 rfl rfl (gD (d:=b0) om)) (fun _ hok15=> ?_)
     obtain ⟨hok150,hok151,hok152,hok153,hok154,hok155,hok156,hok157,hok158,hok159,hok1510,hok1511,hok1512⟩:=hok15
     replace hok150:=ze.1 hok150
     replace hok151:=ze.1 hok151
     replace hok152:=ze.1 hok152
     replace hok153:=ze.1 hok153
     replace hok154:=ze.1 hok154
     replace hok155:=ze.1 hok155
     replace hok156:=ze.1 hok156
     replace hok157:=ze.1 hok157
     replace hok158:=ze.1 hok158
     replace hok159:=ze.1 hok159
     replace hok1510:=ze.1 hok1510
     replace hok1511:=ze.1 hok1511
     replace hok1512:=ze.1 hok1512
     refine e_uw 6 rfl rfl (zm 1 ty51 rfl rfl (.t8 (.t4 (.take .nil))))<|e_one 7 (zGa rfl rfl rfl rfl (.c rfl (.c rfl .n)) ce17 (zBc (ar1:=(A.getD kk b0).ar) (le1:=(A.getD kk b0).le) (tp1:=(A.getD kk b0).tp) (rt1:=(A.getD kk b0).rt) (bt1:=(A.getD kk b0).bt) (sx1:=(A.getD kk b0).sx) (sy1:=(A.getD kk b0).sy) (xx1:=(A.getD kk b0).xx) (xy1:=(A.getD kk b0).xy) (yy1:=(A.getD kk b0).yy) (ms1:=(A.getD kk b0).ms) (mx1:=(A.getD kk b0).mx) (my1:=(A.getD kk b0).my) (ar2:=1) (le2:=((kx:Nat):Int)) (tp2:=((ky:Nat):Int)) (rt2:=((kx:Nat):Int)) (bt2:=((ky:Nat):Int)) (sx2:=((kx:Nat):Int)) (sy2:=((ky:Nat):Int)) (xx2:=(((kx*kx):Nat):Int)) (xy2:=(((kx*ky):Nat):Int)) (yy2:=(((ky*ky):Nat):Int)) (ms2:=kg) (mx2:=(kg*((kx:Nat):Int))) (my2:=(kg*((ky:Nat):Int))) (hb1:=by exact Bl.ok_bd hA1) (hb2:=by exact Bl.ok_bd (by rw [hkx,hky,hkg];exact hO1))) (.n) ?_)
     refine e_pv 8 rfl rfl (zN (j:=kk) Try.underlying36 sz51 rfl rfl rfl om)<|e_one 9 (zcb (A':=fun _=>rowA 51 (rI13 .i64) (some ⟨b4,0,none⟩) (Fl.cnt (Fl.ldr (Fl.ge l th) cc) n) (A.set kk (⟨(((A.getD kk b0).ar)+1),(min ((A.getD kk b0).le) ((kx:Nat):Int)),(min ((A.getD kk b0).tp) ((ky:Nat):Int)),(max ((A.getD kk b0).rt) ((kx:Nat):Int)),(max ((A.getD kk b0).bt) ((ky:Nat):Int)),(((A.getD kk b0).sx)+((kx:Nat):Int)),(((A.getD kk b0).sy)+((ky:Nat):Int)),(((A.getD kk b0).xx)+(((kx*kx):Nat):Int)),(((A.getD kk b0).xy)+(((kx*ky):Nat):Int)),(((A.getD kk b0).yy)+(((ky*ky):Nat):Int)),(((A.getD kk b0).ms)+kg),(((A.getD kk b0).mx)+(kg*((kx:Nat):Int))),(((A.getD kk b0).my)+(kg*((ky:Nat):Int)))⟩:Bb))) kr rfl rfl rfl (zda (j:=kk) (x0:=(⟨(((A.getD kk b0).ar)+1),(min ((A.getD kk b0).le) ((kx:Nat):Int)),(min ((A.getD kk b0).tp) ((ky:Nat):Int)),(max ((A.getD kk b0).rt) ((kx:Nat):Int)),(max ((A.getD kk b0).bt) ((ky:Nat):Int)),(((A.getD kk b0).sx)+((kx:Nat):Int)),(((A.getD kk b0).sy)+((ky:Nat):Int)),(((A.getD kk b0).xx)+(((kx*kx):Nat):Int)),(((A.getD kk b0).xy)+(((kx*ky):Nat):Int)),(((A.getD kk b0).yy)+(((ky*ky):Nat):Int)),(((A.getD kk b0).ms)+kg),(((A.getD kk b0).mx)+(kg*((kx:Nat):Int))),(((A.getD kk b0).my)+(kg*((ky:Nat):Int)))⟩:Bb)) (γ0:=()) rfl rfl (by first|omega|(rw [List.length_map];omega)|(simp only [List.length_set];omega)|(simp;done)|(simp;omega)) rfl rfl sz51 (fun _ _=>by exact ⟨ze.2 (by first|omega|decide|(dsimp only;omega)),ze.2 (by first|omega|decide|(dsimp only;omega)),ze.2 (by first|omega|decide|(dsimp only;omega)),ze.2 (by first|omega|decide|(dsimp only;omega)),ze.2 (by first|omega|decide|(dsimp only;omega)),ze.2 (by first|omega|decide|(dsimp only;omega)),ze.2 (by first|omega|decide|(dsimp only;omega)),ze.2 (by first|omega|decide|(dsimp only;omega)),ze.2 (by first|omega|decide|(dsimp only;omega)),ze.2 (by first|omega|decide|(dsimp only;omega)),ze.2 (by first|omega|decide|(dsimp only;omega)),ze.2 (by first|omega|decide|(dsimp only;omega)),ze.2 (by first|omega|decide|(dsimp only;omega))⟩)) (fun _ _=> ?_))
     refine zra kr<|zB<|zc<|za<|e_p (zv (z:=(((i+1):Nat):Int)) rfl rfl (w64 om))<|e_mv rfl<|zi<|zQ ((i+1),(A.set kk (⟨(((A.getD kk b0).ar)+1),(min ((A.getD kk b0).le) ((kx:Nat):Int)),(min ((A.getD kk b0).tp) ((ky:Nat):Int)),(max ((A.getD kk b0).rt) ((kx:Nat):Int)),(max ((A.getD kk b0).bt) ((ky:Nat):Int)),(((A.getD kk b0).sx)+((kx:Nat):Int)),(((A.getD kk b0).sy)+((ky:Nat):Int)),(((A.getD kk b0).xx)+(((kx*kx):Nat):Int)),(((A.getD kk b0).xy)+(((kx*ky):Nat):Int)),(((A.getD kk b0).yy)+(((ky*ky):Nat):Int)),(((A.getD kk b0).ms)+kg),(((A.getD kk b0).mx)+(kg*((kx:Nat):Int))),(((A.getD kk b0).my)+(kg*((ky:Nat):Int)))⟩:Bb))) (show (i+1)≤n∧Fl.TbI wn l o (Fl.cnt (Fl.ldr (Fl.ge l th) cc) n) (i+1) (A.set kk (⟨(((A.getD kk b0).ar)+1),(min ((A.getD kk b0).le) ((kx:Nat):Int)),(min ((A.getD kk b0).tp) ((ky:Nat):Int)),(max ((A.getD kk b0).rt) ((kx:Nat):Int)),(max ((A.getD kk b0).bt) ((ky:Nat):Int)),(((A.getD kk b0).sx)+((kx:Nat):Int)),(((A.getD kk b0).sy)+((ky:Nat):Int)),(((A.getD kk b0).xx)+(((kx*kx):Nat):Int)),(((A.getD kk b0).xy)+(((kx*ky):Nat):Int)),(((A.getD kk b0).yy)+(((ky*ky):Nat):Int)),(((A.getD kk b0).ms)+kg),(((A.getD kk b0).mx)+(kg*((kx:Nat):Int))),(((A.getD kk b0).my)+(kg*((ky:Nat):Int)))⟩:Bb)) from by exact ⟨by omega,hT.put hkN hkk (by rw [← hold,hkx,hky,hkg];rfl)⟩) (by show n - (i+1)<n - i;omega) (mR rfl) (ho:=((.of [0,1] rfl):PickO _ _ _)) ((.of [2,3] rfl):SelR _ _ _)
  ·
   refine zP<|zj<|zj<|zo<|zc<|zf<|za<|e_mv rfl<|e_p (zd rfl)<|e_p (zd rfl)<|zi<|zc<|zU ?_
   have hin8:i=n:=by omega
   rw [hin8] at hT
   refine zVa 0 rfl .z ?_
   exact zLa Try.results7 (some ⟨b4,0,none⟩,(Fl.cnt (Fl.ldr (Fl.ge l th) cc) n),A) (Fl.BlsR.yes hok hn hcl.1 hLC hT.fin) (zx rfl) (zx rfl) (by rw [Decidable.not_not.1 hc,hAl]) (ho:=oN) (s0 rfl)
end Go.Proofs.Ytpdbimfnhglhpaa.Sp
namespace Go.Proofs.Ytpdbimfnhglhpaa.Ms
theorem filt_two {α:Type} {p:α→Bool}:∀l:List α,(l.filter p).length+(l.filter (fun a=> !p a)).length=l.length
  |[]=>rfl
  |a :: l=>by
    have:=filt_two (p:=p) l
    simp only [List.filter_cons]
    cases p a <;> simp <;> omega
theorem nodup_filter {α:Type} {p:α→Bool} {l:List α} (h:l.Nodup):(l.filter p).Nodup:=List.Pairwise.filter p h
theorem only_len {α:Type} [DecidableEq α] {A B:List α} (hA:A.Nodup) (hB:B.Nodup) (h:A.length=B.length):(A.filter (fun a=> !decide (a∈B))).length=(B.filter (fun a=> !decide (a∈A))).length:=by
  have e:=same_len (K:=A.filter (fun a=>decide (a∈B))) (l:=B.filter (fun a=>decide (a∈A))) (nodup_filter hA) (nodup_filter hB) (fun a=>by simp only [List.mem_filter,decide_eq_true_eq];exact And.comm)
  have p:=filt_two (p:=fun a=>decide (a∈B)) A
  have q:=filt_two (p:=fun a=>decide (a∈A)) B
  omega
theorem nodup_map_on {α β:Type} {f:α→β}:∀{l:List α},l.Nodup→(∀a∈l,∀b∈l,f a=f b→a=b)→(l.map f).Nodup
  |[],_,_=>by simp
  |a :: l,hn,hi=>by
    have hn':=List.nodup_cons.1 hn
    rw [List.map_cons,List.nodup_cons]
    refine ⟨fun hm=> ?_,nodup_map_on hn'.2 (fun x hx y hy=>hi x (List.mem_cons_of_mem _ hx) y (List.mem_cons_of_mem _ hy))⟩
    obtain ⟨b,hb,e⟩:=List.mem_map.1 hm
    have:=hi b (List.mem_cons_of_mem _ hb) a (by simp) e
    exact hn'.1 (this ▸ hb)
theorem two_of {α:Type} {l:List α} (hn:l.Nodup) (h:2≤l.length):∃a∈l,∃b∈l,a≠b:=by
  match l,hn,h with
  |a :: b :: l,hn,_=>
    refine ⟨a,by simp,b,by simp,fun e=> ?_⟩
    have:=(List.nodup_cons.1 hn).1
    exact this (by rw [e];simp)
theorem len_two {α:Type} {l:List α} {a b:α} (ha:a∈l) (hb:b∈l) (h:a≠b):2≤l.length:=by
  match l,ha,hb with
  |[x],ha,hb=>exact absurd ((List.mem_singleton.1 ha).trans (List.mem_singleton.1 hb).symm) h
  |x :: y :: l,_,_=>simp
def outs (F:List V3) (v:Int):List Int:=(at_ F v).map (fun i=>nx v (F.getD i.toNat (0,0,0)))
def ins (F:List V3) (v:Int):List Int:=(at_ F v).map (fun i=>pv v (F.getD i.toNat (0,0,0)))
section
variable {F : List V3} (hd : ∀ f ∈ F, deg f = false)
include hd
theorem outs_mem {v w:Int}:w∈outs F v↔(v,w)∈all F:=by
  have a:=at_all hd (v:=v)
  constructor
  · intro h
    obtain ⟨i,hi,e⟩:=List.mem_map.1 h
    have b:=a.1 i hi
    rw [← e];exact face_edge (j:=i.toNat) (by omega) (nx_edge b.2.2).1
  · intro h
    obtain ⟨j,hj,he⟩:=edge_face h
    obtain ⟨e1,e2,_⟩:=edge_nx (hd _ (getD_mem _ hj)) he
    exact List.mem_map.2 ⟨(j:Int),a.2.2 j hj e1,by simpa using e2⟩
theorem ins_mem {v w:Int}:w∈ins F v↔(w,v)∈all F:=by
  have a:=at_all hd (v:=v)
  constructor
  · intro h
    obtain ⟨i,hi,e⟩:=List.mem_map.1 h
    have b:=a.1 i hi
    rw [← e];exact face_edge (j:=i.toNat) (by omega) (nx_edge b.2.2).2
  · intro h
    obtain ⟨j,hj,he⟩:=edge_face h
    obtain ⟨_,_,e3,e4⟩:=edge_nx (hd _ (getD_mem _ hj)) he
    exact List.mem_map.2 ⟨(j:Int),a.2.2 j hj e3,by simpa using e4⟩
theorem in_mem {v w:Int}:v∈(ins F w).filter (fun a=> !decide (a∈outs F w))↔isB F (v,w):=by
  rw [List.mem_filter,ins_mem hd,isB];simp [outs_mem hd]
theorem out_mem {v w:Int}:v∈(outs F w).filter (fun a=> !decide (a∈ins F w))↔isB F (w,v):=by
  rw [List.mem_filter,outs_mem hd,isB];simp [ins_mem hd]
variable (hn : (all F).Nodup)
include hn
theorem outs_nodup (v:Int):(outs F v).Nodup:=nodup_map_on (at_all hd (v:=v)).2.1 (fun _ ha _ hb e=>nx_inj hd hn ha hb e)
theorem ins_nodup (v:Int):(ins F v).Nodup:=nodup_map_on (at_all hd (v:=v)).2.1 (fun _ ha _ hb e=>zOc hd hn ha hb e)
theorem ins_outs (v:Int):((ins F v).filter (fun a=> !decide (a∈outs F v))).length=((outs F v).filter (fun a=> !decide (a∈ins F v))).length:=
  only_len (ins_nodup hd hn v) (outs_nodup hd hn v) (by simp [ins,outs])
theorem border_next {v w:Int} (h:isB F (v,w)):∃u,isB F (w,u):=by
  have h1:=List.length_pos_of_mem ((in_mem hd).2 h)
  rw [ins_outs hd hn w] at h1
  obtain ⟨u,hu⟩:=List.exists_mem_of_length_pos h1
  exact ⟨u,(out_mem hd).1 hu⟩
theorem border_prev {w u:Int} (h:isB F (w,u)):∃v,isB F (v,w):=by
  have h1:=List.length_pos_of_mem ((out_mem hd).2 h)
  rw [← ins_outs hd hn w] at h1
  obtain ⟨v,hv⟩:=List.exists_mem_of_length_pos h1
  exact ⟨v,(in_mem hd).1 hv⟩
theorem border_from (hu:∀v w w',isB F (v,w)→isB F (v,w')→w=w') {v v' w:Int} (h:isB F (v,w)) (h':isB F (v',w)):v=v':=by
  refine Decidable.byContradiction fun e=> ?_
  have h1:=len_two ((in_mem hd).2 h) ((in_mem hd).2 h') e
  rw [ins_outs hd hn w] at h1
  obtain ⟨a,ha,b,hb,e2⟩:=two_of (nodup_filter (outs_nodup hd hn w)) h1
  exact e2 (hu _ _ _ ((out_mem hd).1 ha) ((out_mem hd).1 hb))
end
structure Nxt (nx:Int→Option Int) (n:Nat):Prop where
  rng:∀a b,nx a=some b→(0≤a∧a<(n:Int))∧(0≤b∧b<(n:Int))
  go:∀a b,nx a=some b→∃c,nx b=some c
  back:∀b c,nx b=some c→∃a,nx a=some b
  inj:∀a a' b,nx a=some b→nx a'=some b→a=a'
structure Cyc (nx:Int→Option Int) (l:List Int):Prop where
  ne:0<l.length
  nodup:l.Nodup
  next:∀i,i<l.length→nx (l.getD i 0)=some (l.getD ((i+1)%l.length) 0)
theorem gK {l:List Int} {x:Int} {k:Nat} (h:k<l.length):(l++[x]).getD k 0=l.getD k 0:=by
  rw [List.getD_eq_getElem?_getD,List.getElem?_append_left h,List.getD_eq_getElem?_getD]
theorem gL {l:List Int} {x:Int}:(l++[x]).getD l.length 0=x:=by
  rw [List.getD_eq_getElem?_getD,List.getElem?_append_right (Nat.le_refl _)];simp
theorem nodup_getD {l:List Int} (hn:l.Nodup) {i j:Nat} (hi:i<l.length) (hj:j<l.length) (h:l.getD i 0=l.getD j 0):i=j:=by
  rw [List.getD_eq_getElem?_getD,List.getD_eq_getElem?_getD,List.getElem?_eq_getElem hi,List.getElem?_eq_getElem hj] at h
  exact (List.getElem_inj hn).1 h
theorem walk_cyc {nx:Int→Option Int} {n:Nat} (h:Nxt nx n) {K:List Int} (hcl:∀a b,nx a=some b→b∈K→a∈K) {v:Int} (hvK:v ∉ K):
    ∀(m:Nat) (W:List Int) (a:Int),n - W.length≤m→WInv nx n K v W a→(∀i,i<W.length→nx ((W++[a]).getD i 0)=some ((W++[a]).getD (i+1) 0))→(W++[a]).getD 0 0=v→(nx a).isSome=true→
      Cyc nx (walk nx n K v)∧(∀x∈walk nx n K v,x ∉ K)∧v∈walk nx n K v:=by
  intro m
  induction m with
  |zero=>
    intro W a hm hW hc h0 hs
    refine walk_cyc_end hW hc h0 ?_
    refine Decidable.byContradiction fun ha=> ?_
    obtain ⟨b,hb⟩:=Option.isSome_iff_exists.1 hs
    have hl:=(hW.step ha (by rw [hb];exact (h.rng a b hb).2)).len
    simp only [List.length_append,List.length_cons,List.length_nil] at hl
    omega
  |succ m ih=>
    intro W a hm hW hc h0 hs
    by_cases ha:a∈K++W
    · exact walk_cyc_end hW hc h0 ha
    · obtain ⟨b, hb⟩ := Option.isSome_iff_exists.1 hs
      obtain ⟨c,hc'⟩:=h.go a b hb
      have hst:=hW.step ha (by rw [hb];exact (h.rng a b hb).2)
      rw [hb] at hst
      refine ih (W++[a]) b ?_ hst ?_ ?_ (by rw [hc'];rfl)
      · have := hst.len
        simp only [List.length_append,List.length_cons,List.length_nil] at this ⊢;omega
      · intro i hi
        simp only [List.length_append,List.length_cons,List.length_nil] at hi
        by_cases e:i=W.length
        · subst e
          rw [gK (by simp),gL,hb,show W.length+1=(W++[a]).length by simp,gL]
        · rw [gK (l := W ++ [a]) (by simp; omega), gK (l := W ++ [a]) (by simp; omega)]
          exact hc i (by omega)
      · rw [gK (by simp)];exact h0
where
  walk_cyc_end {W:List Int} {a:Int} (hW:WInv nx n K v W a) (hc:∀i,i<W.length→nx ((W++[a]).getD i 0)=some ((W++[a]).getD (i+1) 0)) (h0:(W++[a]).getD 0 0=v) (ha:a∈K++W):
      Cyc nx (walk nx n K v)∧(∀x∈walk nx n K v,x ∉ K)∧v∈walk nx n K v:=by
    rw [← hW.fin ha]
    have hdis:∀x∈W,x ∉ K:=fun x hx hk=>(List.nodup_append.1 hW.nodup).2.2 x hk x hx rfl
    have hnd:=(List.nodup_append.1 hW.nodup).2.1
    have hpos:0<W.length:=by
      refine Nat.pos_of_ne_zero fun e=> ?_
      have e':=List.length_eq_zero_iff.1 e
      subst e'
      simp at h0 ha
      exact hvK (h0 ▸ ha)
    have hlast:=hc (W.length - 1) (by omega)
    rw [show W.length - 1+1=W.length by omega,gL,gK (by omega)] at hlast
    have haK:a ∉ K:=fun hk=>hdis _ (getD_mem 0 (i:=W.length - 1) (by omega)) (hcl _ _ hlast hk)
    have haW:a∈W:=(List.mem_append.1 ha).resolve_left haK
    obtain ⟨j,hj,ej⟩:=mem_getD 0 haW
    have hj0:j=0:=by
      refine Decidable.byContradiction fun e=> ?_
      have k:=hc (j - 1) (by omega)
      rw [show j - 1+1=j by omega,gK (by omega),gK (by omega),ej] at k
      have:=nodup_getD hnd (by omega) (by omega) (h.inj _ _ _ k hlast)
      omega
    subst hj0
    refine ⟨⟨hpos,hnd,fun i hi=> ?_⟩,hdis,?_⟩
    · have k := hc i hi
      rw [gK hi] at k
      by_cases e:i+1=W.length
      · rw [e, gL] at k
        rw [k,e,Nat.mod_self,ej]
      · rw [gK (by omega)] at k
        rw [k,Nat.mod_eq_of_lt (by omega)]
    · rw [gK hj] at h0;rw [← h0];exact getD_mem 0 hj
end Go.Proofs.Ytpdbimfnhglhpaa.Ms
namespace Go.Proofs.Ytpdbimfnhglhpaa.Ms
theorem Cyc.mem {nx:Int→Option Int} {l:List Int} (c:Cyc nx l) (inj:∀a a' b,nx a=some b→nx a'=some b→a=a') {a b:Int} (h:nx a=some b):a∈l↔b∈l:=by
  constructor
  · intro ha
    obtain ⟨i,hi,e⟩:=mem_getD 0 ha
    have k:=c.next i hi
    rw [e,h] at k
    rw [Option.some.inj k];exact getD_mem 0 (Nat.mod_lt _ c.ne)
  · intro hb
    obtain ⟨j,hj,e⟩:=mem_getD 0 hb
    by_cases e0:j=0
    · subst e0
      have k:=c.next (l.length - 1) (by have:=c.ne;omega)
      rw [show l.length - 1+1=l.length by have:=c.ne;omega,Nat.mod_self,e] at k
      rw [inj _ _ _ h k];exact getD_mem 0 (by have:=c.ne;omega)
    · have k := c.next (j - 1) (by omega)
      rw [show j - 1+1=j by omega,Nat.mod_eq_of_lt hj,e] at k
      rw [inj _ _ _ h k];exact getD_mem 0 (by omega)
structure LP (nx:Int→Option Int) (n v:Nat) (s:List Int×List (List Int)):Prop where
  rng:InR n s.1
  nodup:s.1.Nodup
  flat:s.1=s.2.flatten
  cyc:∀l∈s.2,Cyc nx l
  clo:∀a b,nx a=some b→(a∈s.1↔b∈s.1)
  seen:∀a:Nat,a<v→(nx (a:Int)).isSome=true→(a:Int)∈s.1
  dom:∀a∈s.1,(nx a).isSome=true
theorem loops_lp {nx:Int→Option Int} {n:Nat} (h:Nxt nx n):∀v,v≤n→LP nx n v (loopsF nx n v)
  |0,_=>⟨fun x hx=>(by cases hx),List.nodup_nil,rfl,fun l hl=>(by cases hl),fun a b _=>(by simp [loopsF]),fun a ha=>(by omega),fun a ha=>(by cases ha)⟩
  |v+1,hv=>by
    have ih:=loops_lp h v (by omega)
    rw [loopsF]
    generalize loopsF nx n v=s at ih ⊢
    unfold lstep
    by_cases hc:(nx (v:Int)).isSome=false∨(v:Int)∈s.1
    · rw [if_pos hc]
      refine ⟨ih.rng,ih.nodup,ih.flat,ih.cyc,ih.clo,fun a ha hs=> ?_,ih.dom⟩
      by_cases e:a=v
      · subst e;exact hc.resolve_left (by rw [hs];simp)
      · exact ih.seen a (by omega) hs
    · rw [if_neg hc]
      have hc1:(nx (v:Int)).isSome=true:=by cases e:(nx (v:Int)).isSome with|true=>rfl|false=>exact absurd (.inl e) hc
      have hc2:(v:Int) ∉ s.1:=fun k=>hc (.inr k)
      obtain ⟨w1,w2,w3⟩:=walk_cyc h (K:=s.1) (fun a b e k=>(ih.clo a b e).2 k) hc2 n [] (v:Int) (by simp) (WInv.start ih.rng ih.nodup ⟨by omega,by omega⟩) (fun i hi=>by simp at hi) (by simp) hc1
      generalize walk nx n s.1 (v:Int)=l at w1 w2 w3
      have hdom:∀a∈l,(nx a).isSome=true:=fun a ha=>by
        obtain ⟨i,hi,e⟩:=mem_getD 0 ha
        have k:=w1.next i hi
        rw [e] at k;rw [k];rfl
      refine ⟨fun x hx=> ?_,?_,?_,?_,?_,?_,?_⟩
      · rcases List.mem_append.1 hx with hx | hx
        · exact ih.rng x hx
        · obtain ⟨b, hb⟩ := Option.isSome_iff_exists.1 (hdom x hx)
          exact (h.rng _ _ hb).1
      · exact List.nodup_append.2 ⟨ih.nodup,w1.nodup,fun a ha b hb e=>w2 b hb (e ▸ ha)⟩
      · simp [ih.flat]
      · intro l' hl'
        rcases List.mem_append.1 hl' with k|k
        · exact ih.cyc l' k
        · rw [List.mem_singleton.1 k];exact w1
      · intro a b e
        simp only [List.mem_append]
        rw [ih.clo a b e,w1.mem h.inj e]
      · intro a ha hs
        by_cases e:a=v
        · subst e;exact List.mem_append.2 (.inr w3)
        · exact List.mem_append.2 (.inl (ih.seen a (by omega) hs))
      · intro a ha
        rcases List.mem_append.1 ha with k|k
        · exact ih.dom a k
        · exact hdom a k
theorem loops_spec {nx:Int→Option Int} {n:Nat} (h:Nxt nx n):(loops nx n).flatten.Nodup∧(∀l∈loops nx n,Cyc nx l)∧∀a b,nx a=some b→a∈(loops nx n).flatten:=by
  have p:=loops_lp h n (Nat.le_refl _)
  refine ⟨by have:=p.nodup;rwa [p.flat] at this,p.cyc,fun a b e=> ?_⟩
  have r:=(h.rng a b e).1
  have:=p.seen a.toNat (by omega) (by rw [show (a.toNat:Int)=a by omega,e];rfl)
  rw [show (a.toNat:Int)=a by omega,p.flat] at this
  exact this
structure Surf (F:List V3) (n:Nat):Prop where
  rng:∀f∈F,(0≤f.1∧f.1<(n:Int))∧(0≤f.2.1∧f.2.1<(n:Int))∧(0≤f.2.2∧f.2.2<(n:Int))
  deg:∀f∈F,deg f=false
  nodup:(all F).Nodup
  star:∀v:Int,0≤v→v<(n:Int)→∀i∈at_ F v,∀j∈at_ F v,Conn (pairs F v (at_ F v)) i j
  uniq:∀v w w',isB F (v,w)→isB F (v,w')→w=w'
theorem Surf.edge {F:List V3} {n:Nat} (h:Surf F n) {e:Int×Int} (he:e∈all F):((0≤e.1∧e.1<(n:Int))∧(0≤e.2∧e.2<(n:Int)))∧e.1≠e.2:=by
  obtain ⟨f,hf,hm⟩:=List.mem_flatMap.1 he
  have r:=h.rng f hf
  have d:=deg_iff.1 (h.deg f hf)
  simp only [edges3,List.mem_cons,List.not_mem_nil,or_false] at hm
  rcases hm with rfl|rfl|rfl
  · exact ⟨⟨r.1,r.2.1⟩,d.1⟩
  · exact ⟨⟨r.2.1,r.2.2⟩,d.2.1⟩
  · exact ⟨⟨r.2.2,r.1⟩,d.2.2⟩
structure Rim (F:List V3) (l:List Int):Prop where
  ne:0<l.length
  nodup:l.Nodup
  bd:∀i,i<l.length→isB F (l.getD i 0,l.getD ((i+1)%l.length) 0)
section
variable {F : List V3} {n : Nat} (h : Surf F n) {l : List Int} (r : Rim F l)
include h r
end
end Go.Proofs.Ytpdbimfnhglhpaa.Ms
namespace Go.Proofs.Ytpdbimfnhglhpaa.Ms
open Go.Proofs.Ytpdbimfnhglhpaa.Sp (mget mput mget_mput mput_keys mput_nodup mget_isSome)
theorem surf_of {V F:List V3} (h:check V F=0):Surf F V.length:=by
  have hg:=form_zero.1 (check_form h)
  refine ⟨fun f hf=> ?_,hg.dg,check_nodup h,fun v h0 hv i hi j hj=> ?_,border_uniq h⟩
  · obtain ⟨i, hi, e⟩ := mem_getD (0, 0, 0) hf
    have:=hg.at hi
    rw [e] at this;exact ⟨this.1,this.2.1,this.2.2.1⟩
  · have a := (at_all hg.dg (v := v)).1
    have hs:=check_stars h (v:=v.toNat) (by omega)
    rw [show (v.toNat:Int)=v by omega] at hs
    have hnf:=hg.nf
    exact (starB_iff (fun i hi=>⟨(a i hi).1,by have:=(a i hi).2.1;omega⟩)).1 hs i hi j hj
theorem nxt_of {V F:List V3} (h:check V F=0) {bm:List (Int×Int)} (hb:BMap F bm):Nxt (fun jj=>mget bm jj) V.length∧∀a b,isB F (a,b)→mget bm a=some b:=by
  have hg:=form_zero.1 (check_form h)
  have hn:=check_nodup h
  have hu:=border_uniq h
  have hs:=surf_of h
  have get:∀a b,isB F (a,b)→mget bm a=some b:=fun a b k=>by
    obtain ⟨w,hw⟩:=hb.ex a b k
    rw [hw,hu a b w k (hb.some_ a w hw)]
  refine ⟨⟨fun a b k=>(hs.edge (hb.some_ a b k).1).1,fun a b k=> ?_,fun b c k=> ?_,fun a a' b k k'=> ?_⟩,get⟩
  · obtain ⟨u, hu'⟩ := border_next hg.dg hn (hb.some_ a b k)
    exact ⟨u,get _ _ hu'⟩
  · obtain ⟨v, hv⟩ := border_prev hg.dg hn (hb.some_ b c k)
    exact ⟨v,get _ _ hv⟩
  · exact border_from hg.dg hn hu (hb.some_ a b k) (hb.some_ a' b k')
end Go.Proofs.Ytpdbimfnhglhpaa.Ms
namespace Go.Proofs.Ytpdbimfnhglhpaa.Eu
set_option linter.unusedVariables false
set_option linter.unusedSectionVars false
section
variable {α β : Type}
theorem nd_len [DecidableEq α] {I:List α}:∀{O:List α},I.Nodup→(∀x∈I,x∈O)→I.length≤O.length:=by
  induction I with
  |nil=>intro O _ _;exact Nat.zero_le _
  |cons a I ih=>
    intro O hn hs
    obtain ⟨h1,h2⟩:=List.nodup_cons.1 hn
    have ha:=hs a (List.mem_cons_self ..)
    have h3:=ih (O:=O.erase a) h2 fun x hx=>(List.mem_erase_of_ne (fun e=>h1 (by subst e;exact hx))).2 (hs x (List.mem_cons_of_mem _ hx))
    rw [List.length_erase_of_mem ha] at h3
    have:=List.length_pos_of_mem ha
    rw [List.length_cons];omega
theorem nd_map {l:List α} {f:α→β} (hl:l.Nodup) (hf:∀a∈l,∀b∈l,f a=f b→a=b):(l.map f).Nodup:=by
  induction l with
  |nil=>exact List.nodup_nil
  |cons a l ih=>
    obtain ⟨h1,h2⟩:=List.nodup_cons.1 hl
    rw [List.map_cons]
    refine List.nodup_cons.2 ⟨fun hm=> ?_,ih h2 fun x hx y hy=>hf x (List.mem_cons_of_mem _ hx) y (List.mem_cons_of_mem _ hy)⟩
    obtain ⟨b,hb,e⟩:=List.mem_map.1 hm
    exact h1 ((hf b (List.mem_cons_of_mem _ hb) a (List.mem_cons_self ..) e) ▸ hb)
inductive Cn (E:List (α×α)):α→α→Prop
  |refl (a:α):Cn E a a
  |step {a b c:α}:(a,b)∈E∨(b,a)∈E→Cn E b c→Cn E a c
variable {E F : List (α × α)}
theorem Cn.trans {a b c:α} (h:Cn E a b) (k:Cn E b c):Cn E a c:=by
  induction h with
  |refl=>exact k
  |step x _ ih=>exact .step x (ih k)
theorem Cn.one {a b:α} (h:(a,b)∈E):Cn E a b:= .step (.inl h) (.refl _)
theorem Cn.symm {a b:α} (h:Cn E a b):Cn E b a:=by
  induction h with
  |refl=>exact .refl _
  |step x _ ih=>exact ih.trans (.step x.symm (.refl _))
theorem Cn.mono {a b:α} (hs:∀e∈E,e∈F) (h:Cn E a b):Cn F a b:=by
  induction h with
  |refl=>exact .refl _
  |step x _ ih=>exact .step (x.imp (hs _) (hs _)) ih
theorem Cn.const {γ:Type} {f:α→γ} (hf:∀e∈E,f e.1=f e.2) {a b:α} (h:Cn E a b):f a=f b:=by
  induction h with
  |refl=>rfl
  |step x _ ih=>exact (x.elim (fun k=>hf _ k) (fun k=>(hf _ k).symm)).trans ih
theorem Cn.cons {e:α×α} {a b:α} (h:Cn (e :: E) a b):Cn E a b∨(Cn E a e.1∧Cn E e.2 b)∨(Cn E a e.2∧Cn E e.1 b):=by
  induction h with
  |refl=>exact .inl (.refl _)
  | @step a b c x k ih=>
    have hx:(a,b)=e∨(b,a)=e∨Cn E a b:=by
      rcases x with x|x
      · rcases List.mem_cons.1 x with x | x
        · exact .inl x
        · exact .inr (.inr (.one x))
      · rcases List.mem_cons.1 x with x | x
        · exact .inr (.inl x)
        · exact .inr (.inr (Cn.one x).symm)
    rcases hx with rfl|rfl|hx
    · rcases ih with ih | ⟨i1, i2⟩ | ⟨i1, i2⟩
      · exact .inr (.inl ⟨.refl _,ih⟩)
      · exact .inr (.inl ⟨.refl _,i2⟩)
      · exact .inl i2
    · rcases ih with ih | ⟨i1, i2⟩ | ⟨i1, i2⟩
      · exact .inr (.inr ⟨.refl _,ih⟩)
      · exact .inl i2
      · exact .inr (.inr ⟨.refl _,i2⟩)
    · rcases ih with ih | ⟨i1, i2⟩ | ⟨i1, i2⟩
      · exact .inl (hx.trans ih)
      · exact .inr (.inl ⟨hx.trans i1,i2⟩)
      · exact .inr (.inr ⟨hx.trans i1,i2⟩)
structure Tv (E:List (α×α)) (V R:List α):Prop where
  nd:R.Nodup
  sub:∀r∈R,r∈V
  cov:∀v∈V,∃r∈R,Cn E v r
  ind:∀r∈R,∀s∈R,Cn E r s→r=s
theorem Tv.le [DecidableEq α] {V R S:List α} (h:Tv E V R) (k:Tv E V S):R.length≤S.length:=by
  have hx:∀r:α,∃s:α,r∈R→s∈S∧Cn E r s:=fun r=>by
    by_cases hr:r∈R
    · obtain ⟨s,a,b⟩:=k.cov r (h.sub r hr);exact ⟨s,fun _=>⟨a,b⟩⟩
    · exact ⟨r,fun c=>absurd c hr⟩
  let f:=fun r=>Classical.choose (hx r)
  have hf:∀r,r∈R→f r∈S∧Cn E r (f r):=fun r=>Classical.choose_spec (hx r)
  have:=nd_len (I:=R.map f) (O:=S) (nd_map h.nd fun a ha b hb e=>h.ind a ha b hb ((hf a ha).2.trans (e ▸ (hf b hb).2.symm))) fun x hx=>by
    obtain ⟨r,hr,rfl⟩:=List.mem_map.1 hx;exact (hf r hr).1
  rwa [List.length_map] at this
theorem Tv.len [DecidableEq α] {V R S:List α} (h:Tv E V R) (k:Tv E V S):R.length=S.length:=Nat.le_antisymm (h.le k) (k.le h)
theorem Tv.nil {V:List α} (h:V.Nodup):Tv [] V V:=⟨h,fun _ h=>h,fun v hv=>⟨v,hv,.refl _⟩,fun r _ s _ k=>by
  cases k with
  |refl=>rfl
  |step x _=>simp at x⟩
theorem Tv.congr {V R:List α} (h:Tv E V R) (he:∀e,e∈E↔e∈F):Tv F V R:=
  ⟨h.nd,h.sub,fun v hv=>let ⟨r,a,b⟩:=h.cov v hv;⟨r,a,b.mono fun e k=>(he e).1 k⟩,fun r hr s hs k=>h.ind r hr s hs (k.mono fun e k=>(he e).2 k)⟩
theorem Tv.same {V R:List α} {e:α×α} (h:Tv E V R) (hc:Cn E e.1 e.2):Tv (e :: E) V R:=
  ⟨h.nd,h.sub,fun v hv=>let ⟨r,a,b⟩:=h.cov v hv;⟨r,a,b.mono fun e k=>List.mem_cons_of_mem _ k⟩,fun r hr s hs k=>h.ind r hr s hs (by
    rcases k.cons with k|⟨a,b⟩|⟨a,b⟩
    · exact k
    · exact a.trans (hc.trans b)
    · exact a.trans (hc.symm.trans b))⟩
theorem Tv.join [DecidableEq α] {V R:List α} {e:α×α} (h:Tv E V R) (h1:e.1∈V) (h2:e.2∈V) (hc:¬Cn E e.1 e.2):∃S,Tv (e :: E) V S∧S.length+1=R.length:=by
  obtain ⟨r1,a1,b1⟩:=h.cov _ h1
  obtain ⟨r2,a2,b2⟩:=h.cov _ h2
  have hne:r2≠r1:=fun x=>hc (b1.trans (by subst x;exact b2.symm))
  have up:∀{a b:α},Cn E a b→Cn (e :: E) a b:=fun k=>k.mono fun e k=>List.mem_cons_of_mem _ k
  have he:Cn (e :: E) e.1 e.2:= .one (List.mem_cons_self ..)
  refine ⟨R.erase r1,⟨h.nd.erase _,fun r hr=>h.sub r (List.mem_of_mem_erase hr),fun v hv=> ?_,fun r hr s hs k=> ?_⟩,?_⟩
  · obtain ⟨r, a, b⟩ := h.cov v hv
    by_cases hx:r=r1
    · subst hx
      exact ⟨r2,(List.mem_erase_of_ne hne).2 a2,(up b).trans ((up b1).symm.trans (he.trans (up b2)))⟩
    · exact ⟨r,(List.mem_erase_of_ne hx).2 a,up b⟩
  · have hr1 := (h.nd.mem_erase_iff.1 hr)
    have hs1:=(h.nd.mem_erase_iff.1 hs)
    rcases k.cons with k|⟨a,b⟩|⟨a,b⟩
    · exact h.ind r hr1.2 s hs1.2 k
    · exact absurd (h.ind r hr1.2 r1 a1 (a.trans b1)) hr1.1
    · exact absurd (h.ind s hs1.2 r1 a1 (b.symm.trans b1)) hs1.1
  · rw [List.length_erase_of_mem a1]
    have:=List.length_pos_of_mem a1
    omega
theorem Tv.ex [DecidableEq α] {V:List α} (hV:V.Nodup):∀(E:List (α×α)),(∀e∈E,e.1∈V∧e.2∈V)→∃R,Tv E V R
  |[],_=>⟨V,Tv.nil hV⟩
  |e :: E,h=>by
    obtain ⟨R,k⟩:=Tv.ex hV E fun x hx=>h x (List.mem_cons_of_mem _ hx)
    obtain ⟨h1,h2⟩:=h e (List.mem_cons_self ..)
    by_cases hc:Cn E e.1 e.2
    · exact ⟨R,k.same hc⟩
    · obtain ⟨S,a,_⟩:=k.join h1 h2 hc;exact ⟨S,a⟩
end
section
variable {α β : Type} [DecidableEq α] [DecidableEq β]
abbrev DL (α β:Type):=List ((α×α)×(β×β))
def pr (L:DL α β):List (α×α):=L.map (·.1)
def du (L:DL α β):List (β×β):=L.map (·.2)
def bil (X:α→Int) (D:β→Int) (L:DL α β):Int:=(L.map fun e=>(X e.1.2 - X e.1.1)*(D e.2.2 - D e.2.1)).sum
theorem bil_zero {X:α→Int} {D:β→Int} {L:DL α β} (h:∀e∈L,X e.1.2=X e.1.1∨D e.2.2=D e.2.1):bil X D L=0:=by
  unfold bil
  induction L with
  |nil=>rfl
  |cons e L ih=>
    rw [List.map_cons,List.sum_cons,ih fun x hx=>h x (List.mem_cons_of_mem _ hx)]
    rcases h e (List.mem_cons_self ..) with k|k <;> rw [k] <;> simp
theorem bil_append (X:α→Int) (D:β→Int) (A B:DL α β):bil X D (A++B)=bil X D A+bil X D B:=by
  unfold bil;rw [List.map_append,List.sum_append]
theorem not_both {A B:DL α β} {e:(α×α)×(β×β)} (hb:∀X D,bil X D (A++e :: B)=0) (h1:¬Cn (pr A) e.1.1 e.1.2) (h2:¬Cn (du B) e.2.1 e.2.2):False:=by
  classical
  let X:α→Int:=fun a=>if Cn (pr A) e.1.1 a then 1 else 0
  let D:β→Int:=fun b=>if Cn (du B) e.2.1 b then 1 else 0
  have h:=hb X D
  have hA:bil X D A=0:=bil_zero fun x hx=> .inl (by
    have hm:Cn (pr A) x.1.1 x.1.2:= .one (List.mem_map.2 ⟨x,hx,rfl⟩)
    have:Cn (pr A) e.1.1 x.1.2↔Cn (pr A) e.1.1 x.1.1:=⟨fun k=>k.trans hm.symm,fun k=>k.trans hm⟩
    simp only [X,this])
  have hB:bil X D B=0:=bil_zero fun x hx=> .inr (by
    have hm:Cn (du B) x.2.1 x.2.2:= .one (List.mem_map.2 ⟨x,hx,rfl⟩)
    have:Cn (du B) e.2.1 x.2.2↔Cn (du B) e.2.1 x.2.1:=⟨fun k=>k.trans hm.symm,fun k=>k.trans hm⟩
    simp only [D,this])
  have he:bil X D (e :: B)=(X e.1.2 - X e.1.1)*(D e.2.2 - D e.2.1)+bil X D B:=by unfold bil;rw [List.map_cons,List.sum_cons]
  rw [bil_append,hA,he,hB] at h
  have x1:X e.1.1=1:=if_pos (Cn.refl _)
  have x2:X e.1.2=0:=if_neg h1
  have d1:D e.2.1=1:=if_pos (Cn.refl _)
  have d2:D e.2.2=0:=if_neg h2
  rw [x1,x2,d1,d2] at h
  omega
structure Pln (V:List α) (W:List β) (L:DL α β):Prop where
  ndV:V.Nodup
  ndW:W.Nodup
  inV:∀e∈L,e.1.1∈V∧e.1.2∈V
  inW:∀e∈L,e.2.1∈W∧e.2.2∈W
  bil:∀X D,bil X D L=0
  oneV:∃r∈V,∀v∈V,Cn (pr L) v r
  oneW:∃r∈W,∀v∈W,Cn (du L) v r
  cnt:V.length+W.length=L.length+2
theorem bil_perm {L M:DL α β} (h:L.Perm M) (X:α→Int) (D:β→Int):bil X D L=bil X D M:=by
  unfold bil
  induction h with
  |nil=>rfl
  |cons x _ ih=>simp only [List.map_cons,List.sum_cons,ih]
  |swap x y _=>simp only [List.map_cons,List.sum_cons];omega
  |trans _ _ i1 i2=>exact i1.trans i2
theorem mem_pr {A B:DL α β} (h:A.Perm B) (e:α×α):e∈pr A↔e∈pr B:=(h.map _).mem_iff
theorem mem_du {A B:DL α β} (h:A.Perm B) (e:β×β):e∈du A↔e∈du B:=(h.map _).mem_iff
variable {V : List α} {W : List β} {L : DL α β}
theorem Pln.exV (h:Pln V W L) {A B:DL α β} (hp:(A++B).Perm L):∃R,Tv (pr A) V R:=Tv.ex h.ndV _ fun e he=>by
  obtain ⟨x,hx,rfl⟩:=List.mem_map.1 he
  exact h.inV x (hp.mem_iff.1 (List.mem_append_left _ hx))
theorem Pln.exW (h:Pln V W L) {A B:DL α β} (hp:(A++B).Perm L):∃R,Tv (du B) W R:=Tv.ex h.ndW _ fun e he=>by
  obtain ⟨x,hx,rfl⟩:=List.mem_map.1 he
  exact h.inW x (hp.mem_iff.1 (List.mem_append_right _ hx))
theorem Pln.step (h:Pln V W L) {A B:DL α β} {e:(α×α)×(β×β)} (hp:(A++e :: B).Perm L) {R R2:List α} {Q Q2:List β} (a:Tv (pr A) V R) (b:Tv (du (e :: B)) W Q) (c:Tv (pr (e :: A)) V R2) (d:Tv (du B) W Q2):
    R.length+Q2.length≤R2.length+1+Q.length:=by
  have hm:e∈L:=hp.mem_iff.1 (by simp)
  have hb:∀X D,Eu.bil X D (A++e :: B)=0:=fun X D=>by rw [bil_perm hp];exact h.bil X D
  by_cases k1:Cn (pr A) e.1.1 e.1.2
  · have e1 := (a.same (e := e.1) k1).len c
    by_cases k2:Cn (du B) e.2.1 e.2.2
    · have e2:=(d.same (e:=e.2) k2).len b;omega
    · obtain ⟨S, s1, s2⟩ := d.join (e := e.2) (h.inW e hm).1 (h.inW e hm).2 k2
      have e2:=s1.len b;omega
  · obtain ⟨S, s1, s2⟩ := a.join (e := e.1) (h.inV e hm).1 (h.inV e hm).2 k1
    have e1:=s1.len c
    by_cases k2:Cn (du B) e.2.1 e.2.2
    · have e2:=(d.same (e:=e.2) k2).len b;omega
    · exact (not_both hb k1 k2).elim
theorem Pln.up (h:Pln V W L):∀(B A:DL α β),(A++B).Perm L→∀{R:List α} {Q:List β},Tv (pr A) V R→Tv (du B) W Q→R.length+A.length+W.length≤1+L.length+Q.length
  |[],A,hp,R,Q,a,b=>by
    have hA:A.Perm L:=by simpa using hp
    have h1:=b.len (Tv.nil h.ndW)
    obtain ⟨r,hr,hc⟩:=h.oneV
    have h2:R.length=1:=a.len (S:=[r]) ⟨by simp,fun x hx=>by rw [List.mem_singleton] at hx;subst hx;exact hr,fun v hv=>⟨r,by simp,(hc v hv).mono fun e k=>(mem_pr hA e).2 k⟩,fun x hx y hy _=>by rw [List.mem_singleton] at hx hy;rw [hx,hy]⟩
    have h3:=hA.length_eq
    omega
  |e :: B,A,hp,R,Q,a,b=>by
    have hp2:((e :: A)++B).Perm L:=(List.perm_middle.symm.trans hp)
    obtain ⟨R2,c⟩:=h.exV hp2
    obtain ⟨Q2,d⟩:=h.exW hp2
    have h1:=h.step hp a b c d
    have h2:=h.up B (e :: A) hp2 c d
    rw [List.length_cons] at h2;omega
theorem Pln.down (h:Pln V W L):∀(A B:DL α β),(A++B).Perm L→∀{R:List α} {Q:List β},Tv (pr A) V R→Tv (du B) W Q→V.length+Q.length≤R.length+A.length+1
  |[],B,hp,R,Q,a,b=>by
    have hB:B.Perm L:=by simpa using hp
    have h1:=a.len (Tv.nil h.ndV)
    obtain ⟨r,hr,hc⟩:=h.oneW
    have h2:Q.length=1:=b.len (S:=[r]) ⟨by simp,fun x hx=>by rw [List.mem_singleton] at hx;subst hx;exact hr,fun v hv=>⟨r,by simp,(hc v hv).mono fun e k=>(mem_du hB e).2 k⟩,fun x hx y hy _=>by rw [List.mem_singleton] at hx hy;rw [hx,hy]⟩
    rw [List.length_nil];omega
  |e :: A,B,hp,R,Q,a,b=>by
    have hp2:(A++e :: B).Perm L:=(List.perm_middle.trans hp)
    obtain ⟨R2,c⟩:=h.exV hp2
    obtain ⟨Q2,d⟩:=h.exW hp2
    have h1:=h.step hp2 c d a b
    have h2:=h.down A (e :: B) hp2 c d
    rw [List.length_cons];omega
theorem Pln.euler (h:Pln V W L) {A B:DL α β} (hp:(A++B).Perm L) {R:List α} {Q:List β} (a:Tv (pr A) V R) (b:Tv (du B) W Q):R.length+A.length+1=V.length+Q.length:=by
  have h1:=h.up B A hp a b
  have h2:=h.down A B hp a b
  have h3:=h.cnt
  omega
end
end Go.Proofs.Ytpdbimfnhglhpaa.Eu
namespace Go.Proofs.Ytpdbimfnhglhpaa.Eu
set_option linter.unusedVariables false
abbrev P2:=Nat×Nat
def sm (n:Nat) (f:Nat→Int):Int:=((List.range n).map f).sum
theorem sm_zero (f:Nat→Int):sm 0 f=0:=rfl
theorem sm_succ (n:Nat) (f:Nat→Int):sm (n+1) f=sm n f+f n:=by
  unfold sm;rw [List.range_succ,List.map_append,List.sum_append];simp
theorem sm_congr {n:Nat} {f g:Nat→Int} (h:∀i,i<n→f i=g i):sm n f=sm n g:=by
  induction n with
  |zero=>rfl
  |succ n ih=>rw [sm_succ,sm_succ,ih fun i hi=>h i (by omega),h n (by omega)]
theorem sm_add (n:Nat) (f g:Nat→Int):sm n (fun i=>f i+g i)=sm n f+sm n g:=by
  induction n with
  |zero=>rfl
  |succ n ih=>rw [sm_succ,sm_succ,sm_succ,ih];omega
theorem sm_neg (n:Nat) (f:Nat→Int):sm n (fun i=> - f i)= - sm n f:=by
  induction n with
  |zero=>rfl
  |succ n ih=>rw [sm_succ,sm_succ,ih];omega
theorem sm_mul (n:Nat) (c:Int) (f:Nat→Int):sm n (fun i=>c*f i)=c*sm n f:=by
  induction n with
  |zero=>rw [sm_zero,sm_zero,Int.mul_zero]
  |succ n ih=>rw [sm_succ,sm_succ,ih,Int.mul_add]
theorem sm_zeros (n:Nat):sm n (fun _=>0)=0:=by
  induction n with
  |zero=>rfl
  |succ n ih=>rw [sm_succ,ih];rfl
theorem sm_swap (n m:Nat) (f:Nat→Nat→Int):sm m (fun y=>sm n (fun x=>f x y))=sm n (fun x=>sm m (fun y=>f x y)):=by
  induction m with
  |zero=>rw [sm_zero];exact (sm_zeros n).symm.trans (sm_congr fun i _=>rfl)
  |succ m ih=>rw [sm_succ,ih,←sm_add];exact sm_congr fun x _=>(sm_succ m _).symm
theorem sm_first (n:Nat) (f:Nat→Int):sm (n+1) f=f 0+sm n (fun i=>f (i+1)):=by
  induction n with
  |zero=>rw [sm_succ,sm_zero,sm_zero];omega
  |succ n ih=>rw [sm_succ,ih,sm_succ n];omega
theorem sm_parts (n:Nat) (a g:Nat→Int):sm (n+1) (fun i=>a i*(g (i+1) - g i))=a n*g (n+1) - a 0*g 0 - sm n (fun i=>(a (i+1) - a i)*g (i+1)):=by
  induction n with
  |zero=>rw [sm_succ,sm_zero,sm_zero];grind
  |succ n ih=>rw [sm_succ,ih,sm_succ n];grind
def gr (n m:Nat):List P2:=(List.range m).flatMap fun y=>(List.range n).map fun x=>(x,y)
theorem mem_gr {n m:Nat} {p:P2}:p∈gr n m↔p.1<n∧p.2<m:=by
  unfold gr
  rw [List.mem_flatMap]
  constructor
  · rintro ⟨y, hy, h⟩
    obtain ⟨x,hx,rfl⟩:=List.mem_map.1 h
    exact ⟨List.mem_range.1 hx,List.mem_range.1 hy⟩
  · rintro ⟨h1, h2⟩
    exact ⟨p.2,List.mem_range.2 h2,List.mem_map.2 ⟨p.1,List.mem_range.2 h1,rfl⟩⟩
theorem gr_succ (n m:Nat):gr n (m+1)=gr n m++(List.range n).map fun x=>(x,m):=by
  unfold gr;rw [List.range_succ,List.flatMap_append];simp
theorem gr_len (n m:Nat):(gr n m).length=n*m:=by
  induction m with
  |zero=>rfl
  |succ m ih=>rw [gr_succ,List.length_append,ih,List.length_map,List.length_range,Nat.mul_succ]
theorem gr_nd (n m:Nat):(gr n m).Nodup:=by
  induction m with
  |zero=>exact List.nodup_nil
  |succ m ih=>
    rw [gr_succ]
    refine List.nodup_append.2 ⟨ih,nd_map List.nodup_range fun a _ b _ e=>(Prod.mk.inj e).1,fun a ha b hb e=> ?_⟩
    obtain ⟨x,_,rfl⟩:=List.mem_map.1 hb
    have:=(mem_gr.1 ha).2
    rw [e] at this;dsimp only at this;omega
theorem gr_sum (n m:Nat) (f:P2→Int):((gr n m).map f).sum=sm m (fun y=>sm n (fun x=>f (x,y))):=by
  induction m with
  |zero=>rfl
  |succ m ih=>rw [gr_succ,List.map_append,List.sum_append,ih,sm_succ,List.map_map];rfl
def om (P Q x y:Nat):P2:=if x=0∨x=P+1∨y=0∨y=Q+1 then (0,0) else (x,y)
def win (P Q:Nat):List P2:=(0,0) :: (gr P Q).map fun p=>(p.1+1,p.2+1)
def hor (P Q:Nat):DL P2 P2:=(gr P (Q+1)).map fun p=>((p,(p.1+1,p.2)),(om P Q (p.1+1) p.2,om P Q (p.1+1) (p.2+1)))
def ver (P Q:Nat):DL P2 P2:=(gr (P+1) Q).map fun p=>((p,(p.1,p.2+1)),(om P Q (p.1+1) (p.2+1),om P Q p.1 (p.2+1)))
def grl (P Q:Nat):DL P2 P2:=hor P Q++ver P Q
theorem om_mem {P Q x y:Nat} (hx:x≤P+1) (hy:y≤Q+1):om P Q x y∈win P Q:=by
  unfold om win
  split
  · exact List.mem_cons_self ..
  · refine List.mem_cons_of_mem _ (List.mem_map.2 ⟨(x - 1, y - 1), mem_gr.2 ⟨?_, ?_⟩, ?_⟩)
    · show x - 1<P;omega
    · show y - 1<Q;omega
    · show (x - 1+1,y - 1+1)=(x,y);rw [show x - 1+1=x by omega,show y - 1+1=y by omega]
theorem bil_hor (P Q:Nat) (X D:P2→Int):bil X D (hor P Q)=sm (Q+1) (fun y=>sm P (fun x=>(X (x+1,y) - X (x,y))*(D (om P Q (x+1) (y+1)) - D (om P Q (x+1) y)))):=by
  unfold bil hor;rw [List.map_map,gr_sum];rfl
theorem bil_ver (P Q:Nat) (X D:P2→Int):bil X D (ver P Q)=sm Q (fun y=>sm (P+1) (fun x=>(X (x,y+1) - X (x,y))*(D (om P Q x (y+1)) - D (om P Q (x+1) (y+1))))):=by
  unfold bil ver;rw [List.map_map,gr_sum];rfl
theorem bil_grl (P Q:Nat) (X D:P2→Int):bil X D (grl P Q)=0:=by
  unfold grl
  rw [bil_append,bil_hor,bil_ver]
  let G:Nat→Nat→Int:=fun x y=>D (om P Q x y) - D (0,0)
  have g0:∀x,G x 0=0:=fun x=>by show D (om P Q x 0) - _=0;unfold om;rw [if_pos (by omega)];omega
  have g1:∀x,G x (Q+1)=0:=fun x=>by show D (om P Q x (Q+1)) - _=0;unfold om;rw [if_pos (by omega)];omega
  have g2:∀y,G 0 y=0:=fun y=>by show D (om P Q 0 y) - _=0;unfold om;rw [if_pos (by omega)];omega
  have g3:∀y,G (P+1) y=0:=fun y=>by show D (om P Q (P+1) y) - _=0;unfold om;rw [if_pos (by omega)];omega
  have h1:sm (Q+1) (fun y=>sm P (fun x=>(X (x+1,y) - X (x,y))*(D (om P Q (x+1) (y+1)) - D (om P Q (x+1) y))))= - sm P (fun x=>sm Q (fun y=>((X (x+1,y+1) - X (x,y+1)) - (X (x+1,y) - X (x,y)))*G (x+1) (y+1))):=by
    rw [sm_swap,←sm_neg]
    refine sm_congr fun x _=> ?_
    have:=sm_parts Q (fun y=>X (x+1,y) - X (x,y)) (fun y=>G (x+1) y)
    rw [g0,g1] at this
    refine (sm_congr fun y _=> ?_).trans (this.trans (by grind))
    show _*_=_*((D _ - D (0,0)) - (D _ - D (0,0)));grind
  have h2:sm Q (fun y=>sm (P+1) (fun x=>(X (x,y+1) - X (x,y))*(D (om P Q x (y+1)) - D (om P Q (x+1) (y+1)))))=sm Q (fun y=>sm P (fun x=>((X (x+1,y+1) - X (x+1,y)) - (X (x,y+1) - X (x,y)))*G (x+1) (y+1))):=by
    refine sm_congr fun y _=> ?_
    have:=sm_parts P (fun x=>X (x,y+1) - X (x,y)) (fun x=>G x (y+1))
    rw [g2,g3] at this
    have h3:=sm_neg (P+1) (fun x=>(X (x,y+1) - X (x,y))*(G (x+1) (y+1) - G x (y+1)))
    refine (sm_congr fun x _=> ?_).trans (h3.trans (by rw [this];grind))
    show _*_= - (_*((D _ - D (0,0)) - (D _ - D (0,0))));grind
  rw [h1,h2,sm_swap P Q]
  have h4:sm P (fun x=>sm Q (fun y=>((X (x+1,y+1) - X (x,y+1)) - (X (x+1,y) - X (x,y)))*G (x+1) (y+1)))=sm P (fun x=>sm Q (fun y=>((X (x+1,y+1) - X (x+1,y)) - (X (x,y+1) - X (x,y)))*G (x+1) (y+1))):=
    sm_congr fun x _=>sm_congr fun y _=>by grind
  rw [h4];omega
theorem mem_hor {P Q x y:Nat} (hx:x<P) (hy:y<Q+1):(((x,y),(x+1,y)),(om P Q (x+1) y,om P Q (x+1) (y+1)))∈grl P Q:=
  List.mem_append_left _ (List.mem_map.2 ⟨(x,y),mem_gr.2 ⟨hx,hy⟩,rfl⟩)
theorem mem_ver {P Q x y:Nat} (hx:x<P+1) (hy:y<Q):(((x,y),(x,y+1)),(om P Q (x+1) (y+1),om P Q x (y+1)))∈grl P Q:=
  List.mem_append_right _ (List.mem_map.2 ⟨(x,y),mem_gr.2 ⟨hx,hy⟩,rfl⟩)
theorem mem_grl {P Q:Nat} {e:(P2×P2)×(P2×P2)} (h:e∈grl P Q):(∃x y,x<P∧y<Q+1∧e=(((x,y),(x+1,y)),(om P Q (x+1) y,om P Q (x+1) (y+1))))∨∃x y,x<P+1∧y<Q∧e=(((x,y),(x,y+1)),(om P Q (x+1) (y+1),om P Q x (y+1))):=by
  rcases List.mem_append.1 h with h|h
  · obtain ⟨⟨x, y⟩, hp, rfl⟩ := List.mem_map.1 h
    exact .inl ⟨x,y,(mem_gr.1 hp).1,(mem_gr.1 hp).2,rfl⟩
  · obtain ⟨⟨x, y⟩, hp, rfl⟩ := List.mem_map.1 h
    exact .inr ⟨x,y,(mem_gr.1 hp).1,(mem_gr.1 hp).2,rfl⟩
theorem pr_of {L:DL P2 P2} {a b:P2} {d:P2×P2} (h:((a,b),d)∈L):Cn (pr L) a b:=Cn.one (List.mem_map.2 ⟨_,h,rfl⟩)
theorem du_of {L:DL P2 P2} {a b:P2} {d:P2×P2} (h:(d,(a,b))∈L):Cn (du L) a b:=Cn.one (List.mem_map.2 ⟨_,h,rfl⟩)
theorem pln (P Q:Nat):Pln (gr (P+1) (Q+1)) (win P Q) (grl P Q):=by
  refine ⟨gr_nd _ _,?_,fun e he=> ?_,fun e he=> ?_,bil_grl P Q,⟨(0,0),mem_gr.2 ⟨by show 0<_;omega,by show 0<_;omega⟩,?_⟩,⟨(0,0),List.mem_cons_self ..,?_⟩,?_⟩
  · refine List.nodup_cons.2 ⟨fun h => ?_, nd_map (gr_nd _ _) fun a _ b _ e => ?_⟩
    · obtain ⟨p, _, e⟩ := List.mem_map.1 h
      have:=(Prod.mk.inj e).1;omega
    · obtain ⟨e1, e2⟩ := Prod.mk.inj e
      exact Prod.ext (by omega) (by omega)
  · rcases mem_grl he with ⟨x, y, hx, hy, rfl⟩ | ⟨x, y, hx, hy, rfl⟩
    · exact ⟨mem_gr.2 ⟨by show x<_;omega,hy⟩,mem_gr.2 ⟨by show x+1<_;omega,hy⟩⟩
    · exact ⟨mem_gr.2 ⟨hx,by show y<_;omega⟩,mem_gr.2 ⟨hx,by show y+1<_;omega⟩⟩
  · rcases mem_grl he with ⟨x, y, hx, hy, rfl⟩ | ⟨x, y, hx, hy, rfl⟩
    · exact ⟨om_mem (by omega) (by omega),om_mem (by omega) (by omega)⟩
    · exact ⟨om_mem (by omega) (by omega),om_mem (by omega) (by omega)⟩
  · have hx:∀x y:Nat,x<P+1→y<Q+1→Cn (pr (grl P Q)) (x,y) (0,y):=fun x y=>by
      induction x with
      |zero=>intro _ _;exact .refl _
      |succ x ih=>intro h1 h2;exact (pr_of (mem_hor (by omega) h2)).symm.trans (ih (by omega) h2)
    have hy:∀y:Nat,y<Q+1→Cn (pr (grl P Q)) (0,y) (0,0):=fun y=>by
      induction y with
      |zero=>intro _;exact .refl _
      |succ y ih=>intro h2;exact (pr_of (mem_ver (by omega) (by omega))).symm.trans (ih (by omega))
    rintro ⟨x,y⟩ hv
    obtain ⟨h1,h2⟩:=mem_gr.1 hv
    exact (hx x y h1 h2).trans (hy y h2)
  · have hy:∀x y:Nat,x<P→y<Q+1→Cn (du (grl P Q)) (om P Q (x+1) y) (0,0):=fun x y=>by
      induction y with
      |zero=>intro _ _;unfold om;rw [if_pos (by omega)];exact .refl _
      |succ y ih=>intro h1 h2;exact (du_of (mem_hor h1 (show y<Q+1 by omega))).symm.trans (ih h1 (by omega))
    intro v hv
    rcases List.mem_cons.1 hv with rfl|hv
    · exact .refl _
    · obtain ⟨⟨x, y⟩, hp, rfl⟩ := List.mem_map.1 hv
      obtain ⟨h1,h2⟩:=mem_gr.1 hp
      dsimp only at h1 h2
      have:=hy x (y+1) h1 (by omega)
      unfold om at this
      rwa [if_neg (by omega)] at this
  · unfold win grl hor ver
    rw [List.length_cons,List.length_append,List.length_map,List.length_map,List.length_map,gr_len,gr_len,gr_len,gr_len]
    simp only [Nat.add_mul,Nat.mul_add,Nat.mul_one,Nat.one_mul];omega
end Go.Proofs.Ytpdbimfnhglhpaa.Eu
namespace Go.Proofs.Ytpdbimfnhglhpaa.Eu
open Go.Proofs.Ytpdbimfnhglhpaa.Fl
set_option linter.unusedVariables false
def pos (w j:Nat):P2:=(j%w+1,j / w+1)
def ix (w:Nat) (p:P2):Nat:=(p.2 - 1)*w+(p.1 - 1)
def inn (w h:Nat) (p:P2):Prop:=(1≤p.1∧p.1≤w)∧1≤p.2∧p.2≤h
instance (w h:Nat) (p:P2):Decidable (inn w h p):=by unfold inn;infer_instance
def pic (w h:Nat) (f:Nat→Bool) (p:P2):Bool:=decide (inn w h p)&&f (ix w p)
section
variable {w h n : Nat} {f : Nat → Bool} {g : Nat → Bool}
theorem ix_pos (hw:0<w) (j:Nat):ix w (pos w j)=j:=by
  unfold ix pos
  show (j / w+1 - 1)*w+(j%w+1 - 1)=j
  rw [Nat.add_sub_cancel,Nat.add_sub_cancel,Nat.mul_comm];exact Nat.div_add_mod j w
theorem pos_inn (hn:n=w*h) {j:Nat} (hj:j<n):inn w h (pos w j):=by
  subst hn
  have hw:0<w:=by
    rcases Nat.eq_zero_or_pos w with e|e
    · subst e;rw [Nat.zero_mul] at hj;omega
    · exact e
  have:=Nat.mod_lt j hw
  have:=Nat.div_lt_of_lt_mul hj
  exact ⟨⟨by show 1≤j%w+1;omega,by show j%w+1≤w;omega⟩,Nat.le_add_left 1 (j / w),this⟩
theorem ix_md (hn:n=w*h) {p:P2} (hp:inn w h p):ix w p<n∧ix w p%w=p.1 - 1∧ix w p / w=p.2 - 1:=by
  obtain ⟨⟨a,b⟩,c,d⟩:=hp
  have h1:(ix w p)%w=p.1 - 1:=by unfold ix;rw [Nat.add_comm,Nat.add_mul_mod_self_right,Nat.mod_eq_of_lt (by omega)]
  have h2:(ix w p) / w=p.2 - 1:=by unfold ix;rw [Nat.add_comm,Nat.add_mul_div_right _ _ (by omega),Nat.div_eq_of_lt (by omega)];omega
  refine ⟨?_,h1,h2⟩
  have h3:(p.2 - 1)*w+w≤w*h:=by
    have:=Nat.mul_le_mul_right w (show p.2 - 1+1≤h by omega)
    rw [Nat.add_mul,Nat.one_mul,Nat.mul_comm h w] at this;exact this
  unfold ix;omega
theorem pos_ix (hn:n=w*h) {p:P2} (hp:inn w h p):pos w (ix w p)=p:=by
  obtain ⟨_,a,b⟩:=ix_md hn hp
  obtain ⟨⟨_,_⟩,_,_⟩:=hp
  unfold pos;rw [a,b];exact Prod.ext (by show p.1 - 1+1=p.1;omega) (by show p.2 - 1+1=p.2;omega)
theorem pic_pos (hn:n=w*h) {j:Nat} (hj:j<n):pic w h f (pos w j)=f j:=by
  have hi:=pos_inn hn hj
  have hw:0<w:=by have:=hi.1;omega
  unfold pic;rw [ix_pos hw,decide_eq_true hi,Bool.true_and]
theorem pic_iff {p:P2}:pic w h f p=true↔inn w h p∧f (ix w p)=true:=by unfold pic;simp
def kg (p q:P2):Prop:=(p.1≤q.1+1∧q.1≤p.1+1)∧p.2≤q.2+1∧q.2≤p.2+1
theorem nb_of (hn:n=w*h) {e:Bool} {p q:P2} (hp:inn w h p) (hq:inn w h q) (hk:kg p q) (hne:p≠q) (he:e=true∨p.1=q.1∨p.2=q.2):nb e w n (ix w p) (ix w q):=by
  obtain ⟨a1,a2,a3⟩:=ix_md hn hp
  obtain ⟨b1,b2,b3⟩:=ix_md hn hq
  obtain ⟨⟨p1,p2⟩,p3,p4⟩:=hp
  obtain ⟨⟨q1,q2⟩,q3,q4⟩:=hq
  obtain ⟨⟨k1,k2⟩,k3,k4⟩:=hk
  unfold nb
  refine ⟨a1,b1,fun x=> ?_,?_,?_,?_⟩
  · rw [x] at a2 a3
    exact hne (Prod.ext (by omega) (by omega))
  · rw [a2,b2];omega
  · rw [a3,b3];omega
  · rw [a2, b2, a3, b3]
    refine he.imp id fun x=> ?_
    rcases x with x|x <;> omega
theorem of_nb {e:Bool} {i k:Nat} (hk:nb e w n i k):kg (pos w i) (pos w k)∧(e=false→(pos w i).1=(pos w k).1∨(pos w i).2=(pos w k).2):=by
  obtain ⟨_,_,h3,h4,h5,h6⟩:=hk
  unfold kg pos
  dsimp only
  generalize i%w=a at *;generalize k%w=b at *;generalize i / w=c at *;generalize k / w=d at*
  refine ⟨⟨⟨by omega,by omega⟩,by omega,by omega⟩,fun x=> ?_⟩
  rcases h6 with h6|h6
  · rw [x] at h6;cases h6
  · omega
theorem pos_inj (hw:0<w) {i k:Nat} (e:pos w i=pos w k):i=k:=by rw [← ix_pos hw i,e,ix_pos hw]
def inA (w h:Nat) (f:Nat→Bool) (e:(P2×P2)×(P2×P2)):Bool:=pic w h f e.1.1&&pic w h f e.1.2
def lkA (w h:Nat) (f:Nat→Bool):DL P2 P2:=(grl (w+1) (h+1)).filter (inA w h f)
def lkB (w h:Nat) (f:Nat→Bool):DL P2 P2:=(grl (w+1) (h+1)).filter (fun e=> !inA w h f e)
theorem lk_perm:(lkA w h f++lkB w h f).Perm (grl (w+1) (h+1)):=List.filter_append_perm _ _
theorem lk_to {p q:P2} (hp:pic w h f p=true) (hq:pic w h f q=true) (hk:kg p q) (he:p.1=q.1∨p.2=q.2):Cn (pr (lkA w h f)) p q:=by
  have hi:=(pic_iff.1 hp).1
  have hj:=(pic_iff.1 hq).1
  obtain ⟨⟨p1,p2⟩,p3,p4⟩:=hi
  obtain ⟨⟨q1,q2⟩,q3,q4⟩:=hj
  obtain ⟨⟨k1,k2⟩,k3,k4⟩:=hk
  obtain ⟨x,y⟩:=p
  obtain ⟨u,v⟩:=q
  dsimp only at*
  by_cases e1:x=u
  · subst e1
    by_cases e2:y=v
    · subst e2;exact .refl _
    · by_cases e3 : y < v
      · obtain rfl : v = y + 1 := by omega
        exact pr_of (List.mem_filter.2 ⟨mem_ver (P:=w+1) (Q:=h+1) (by omega) (by omega),by unfold inA;rw [hp,hq];rfl⟩)
      · obtain rfl : y = v + 1 := by omega
        exact (pr_of (List.mem_filter.2 ⟨mem_ver (P:=w+1) (Q:=h+1) (by omega) (by omega),by unfold inA;rw [hp,hq];rfl⟩)).symm
  · obtain rfl : y = v := by omega
    by_cases e3:x<u
    · obtain rfl : u = x + 1 := by omega
      exact pr_of (List.mem_filter.2 ⟨mem_hor (P:=w+1) (Q:=h+1) (by omega) (by omega),by unfold inA;rw [hp,hq];rfl⟩)
    · obtain rfl : x = u + 1 := by omega
      exact (pr_of (List.mem_filter.2 ⟨mem_hor (P:=w+1) (Q:=h+1) (by omega) (by omega),by unfold inA;rw [hp,hq];rfl⟩)).symm
theorem conn_to (hn:n=w*h) {i k:Nat} (hc:Conn (fun j=>f j=true) (nb false w n) i k):i<n→f i=true→Cn (pr (lkA w h f)) (pos w i) (pos w k):=by
  induction hc with
  |refl=>intro _ _;exact .refl _
  |step a b d _ ih=>
    intro hi hf
    obtain ⟨k1,k2⟩:=of_nb d
    exact (lk_to (by rw [pic_pos hn hi];exact a) (by rw [pic_pos hn d.2.1];exact b) k1 (k2 rfl)).trans (ih d.2.1 b)
def rl (w h:Nat) (f:Nat→Bool) (c:Nat→Nat) (p:P2):Nat ⊕ P2:=if pic w h f p=true then .inl (c (ix w p)) else .inr p
theorem regions {c:Nat→Nat} (hn:n=w*h) (hf:∀j,f j=true→j<n) (hc:Lst (fun j=>f j=true) (nb false w n) c):
    Tv (pr (lkA w h f)) (gr (w+2) (h+2)) (((List.range n).filter (ldr f c)).map (pos w)++(gr (w+2) (h+2)).filter (fun p=> !pic w h f p)):=by
  have hlab:∀e∈pr (lkA w h f),rl w h f c e.1=rl w h f c e.2:=fun e he=>by
    obtain ⟨x,hx,rfl⟩:=List.mem_map.1 he
    obtain ⟨hm,ha⟩:=List.mem_filter.1 hx
    unfold inA at ha
    obtain ⟨a1,a2⟩:=Bool.and_eq_true_iff.1 ha
    unfold rl
    simp only [a1,a2,if_true]
    obtain ⟨i1,f1⟩:=pic_iff.1 a1
    obtain ⟨i2,f2⟩:=pic_iff.1 a2
    refine congrArg Sum.inl (hc.same _ _ f1 f2 (nb_of hn i1 i2 ?_ ?_ ?_))
    · rcases mem_grl hm with ⟨x,y,_,_,rfl⟩|⟨x,y,_,_,rfl⟩ <;> (unfold kg;dsimp only;omega)
    · rcases mem_grl hm with ⟨x,y,_,_,rfl⟩|⟨x,y,_,_,rfl⟩ <;> (intro e;have e1:=congrArg Prod.fst e;have e2:=congrArg Prod.snd e;dsimp only at e1 e2;omega)
    · rcases mem_grl hm with ⟨x,y,_,_,rfl⟩|⟨x,y,_,_,rfl⟩ <;> simp
  have hld:∀j,j∈(List.range n).filter (ldr f c)→j<n∧f j=true∧c j=j:=fun j hj=>by
    obtain ⟨h1,h2⟩:=List.mem_filter.1 hj
    unfold ldr at h2
    simp only [Bool.and_eq_true,decide_eq_true_eq] at h2
    exact ⟨List.mem_range.1 h1,h2⟩
  have hwp:∀j,j<n→0<w:=fun j hj=>by have:=(pos_inn hn hj).1;omega
  refine ⟨List.nodup_append.2 ⟨nd_map (List.nodup_range.filter _) fun a ha b hb e=>pos_inj (hwp a (hld a ha).1) e,(gr_nd _ _).filter _,fun a ha b hb e=> ?_⟩,fun r hr=> ?_,fun v hv=> ?_,fun r hr s hs k=> ?_⟩
  · obtain ⟨j, hj, rfl⟩ := List.mem_map.1 ha
    subst e
    have:=(List.mem_filter.1 hb).2
    rw [pic_pos hn (hld j hj).1,(hld j hj).2.1] at this;cases this
  · rcases List.mem_append.1 hr with hr | hr
    · obtain ⟨j, hj, rfl⟩ := List.mem_map.1 hr
      obtain ⟨⟨_,_⟩,_,_⟩:=pos_inn hn (hld j hj).1
      exact mem_gr.2 ⟨by omega,by omega⟩
    · exact (List.mem_filter.1 hr).1
  · by_cases hp : pic w h f v = true
    · obtain ⟨hi, hfv⟩ := pic_iff.1 hp
      have hcn:=hc.conn _ hfv
      have hx:=ix_md hn hi
      have hfc:=hc.mem hfv
      refine ⟨pos w (c (ix w v)),List.mem_append_left _ (List.mem_map.2 ⟨c (ix w v),List.mem_filter.2 ⟨List.mem_range.2 (hf _ hfc),?_⟩,rfl⟩),?_⟩
      · unfold ldr;simp only [Bool.and_eq_true,decide_eq_true_eq];exact ⟨hfc,hc.idem hfv⟩
      · have := conn_to hn hcn hx.1 hfv
        rwa [pos_ix hn hi] at this
    · exact ⟨v,List.mem_append_right _ (List.mem_filter.2 ⟨hv,by simp [hp]⟩),.refl _⟩
  · have hl := k.const hlab
    unfold rl at hl
    rcases List.mem_append.1 hr with hr|hr <;> rcases List.mem_append.1 hs with hs|hs
    · obtain ⟨i, hi, rfl⟩ := List.mem_map.1 hr
      obtain ⟨j,hj,rfl⟩:=List.mem_map.1 hs
      obtain ⟨i1,i2,i3⟩:=hld i hi
      obtain ⟨j1,j2,j3⟩:=hld j hj
      rw [pic_pos hn i1,pic_pos hn j1,if_pos i2,if_pos j2,ix_pos (hwp i i1),ix_pos (hwp i i1),i3,j3] at hl
      rw [Sum.inl.inj hl]
    · obtain ⟨i, hi, rfl⟩ := List.mem_map.1 hr
      obtain ⟨i1,i2,i3⟩:=hld i hi
      have hs2:=(List.mem_filter.1 hs).2
      rw [pic_pos hn i1,if_pos i2,if_neg (by simpa using hs2)] at hl;cases hl
    · obtain ⟨j, hj, rfl⟩ := List.mem_map.1 hs
      obtain ⟨j1,j2,j3⟩:=hld j hj
      have hr2:=(List.mem_filter.1 hr).2
      rw [pic_pos hn j1,if_pos j2,if_neg (by simpa using hr2)] at hl;cases hl
    · have hr2 := (List.mem_filter.1 hr).2
      have hs2:=(List.mem_filter.1 hs).2
      rw [if_neg (by simpa using hr2),if_neg (by simpa using hs2)] at hl
      exact Sum.inr.inj hl
def hd (a b:Nat) (u:P2):Prop:=(u.1=a∨u.1+1=a)∧(u.2=b∨u.2+1=b)
def lab (w h n:Nat) (g:Nat→Bool) (d:Nat→Nat) (u:P2):Option Nat:=if inn w h u∧¬brd n g d (edg w h) (d (ix w u))=true then some (d (ix w u)) else none
theorem lab_kg {d:Nat→Nat} (hn:n=w*h) (hd:Lst (fun j=>g j=true) (nb true w n) d) (hg:∀j,j<n→(g j=true↔f j=false)) {u v:P2} (hu:pic w h f u=false) (hv:pic w h f v=false) (hk:kg u v):lab w h n g d u=lab w h n g d v:=by
  have hgi:∀{p:P2},pic w h f p=false→inn w h p→g (ix w p)=true:=fun {p} hp hi=>(hg _ (ix_md hn hi).1).2 (by
    cases hc:f (ix w p)
    · rfl
    · have:=(pic_iff (w:=w) (h:=h) (f:=f)).2 ⟨hi,hc⟩;rw [hp] at this;cases this)
  have hfr:∀{p q:P2},pic w h f p=false→inn w h p→¬inn w h q→kg p q→brd n g d (edg w h) (d (ix w p))=true:=fun {p q} hp hi hq hk=>by
    obtain ⟨a1,a2,a3⟩:=ix_md hn hi
    refine brd_iff.2 ⟨ix w p,a1,hgi hp hi,edg_iff.2 ?_,rfl⟩
    rw [a2,a3]
    unfold inn at hi hq;unfold kg at hk
    omega
  unfold lab
  by_cases h1:inn w h u <;> by_cases h2:inn w h v
  · by_cases e : u = v
    · subst e;rfl
    · rw [hd.same _ _ (hgi hu h1) (hgi hv h2) (nb_of hn h1 h2 hk e (.inl rfl))]
      simp only [h1,h2,true_and]
  · rw [if_neg (fun x=>x.2 (hfr hu h1 h2 hk)),if_neg (fun x=>h2 x.1)]
  · rw [if_neg (fun x=>h1 x.1),if_neg (fun x=>x.2 (hfr hv h2 h1 (by unfold kg at *;omega)))]
  · rw [if_neg (fun x=>h1 x.1),if_neg (fun x=>h2 x.1)]
theorem lab_out {d:Nat→Nat} {u:P2} (h1:¬inn w h u):lab w h n g d u=none:=if_neg fun x=>h1 x.1
def wl (w h n:Nat) (f g:Nat→Bool) (d:Nat→Nat) (v:P2):Option Nat ⊕ P2:=
  if v=(0,0) then .inl none
  else if pic w h f (v.1 - 1,v.2 - 1)=false then .inl (lab w h n g d (v.1 - 1,v.2 - 1))
  else if pic w h f (v.1,v.2 - 1)=false then .inl (lab w h n g d (v.1,v.2 - 1))
  else if pic w h f (v.1 - 1,v.2)=false then .inl (lab w h n g d (v.1 - 1,v.2))
  else if pic w h f (v.1,v.2)=false then .inl (lab w h n g d (v.1,v.2))
  else .inr v
theorem wl_of {d:Nat→Nat} (hn:n=w*h) (hL:Lst (fun j=>g j=true) (nb true w n) d) (hg:∀j,j<n→(g j=true↔f j=false)) {a b:Nat} {u:P2} (hu:pic w h f u=false) (h1:u.1≤w+1) (h2:u.2≤h+1) (hh:hd a b u):
    wl w h n f g d (om (w+1) (h+1) a b)= .inl (lab w h n g d u):=by
  unfold hd at hh
  unfold om
  split
  · rename_i k
    rw [lab_out (by unfold inn;omega)];rfl
  · rename_i k
    unfold wl
    rw [if_neg (fun e=>by have:=congrArg Prod.fst e;dsimp only at this;omega)]
    dsimp only
    split
    · rename_i p;rw [lab_kg hn hL hg p hu (by unfold kg;dsimp only;omega)]
    rename_i p1
    split
    · rename_i p;rw [lab_kg hn hL hg p hu (by unfold kg;dsimp only;omega)]
    rename_i p2
    split
    · rename_i p;rw [lab_kg hn hL hg p hu (by unfold kg;dsimp only;omega)]
    rename_i p3
    split
    · rename_i p;rw [lab_kg hn hL hg p hu (by unfold kg;dsimp only;omega)]
    rename_i p4
    exfalso
    obtain ⟨x,y⟩:=u
    dsimp only at hh hu
    have:(x,y)=(a - 1,b - 1)∨(x,y)=(a,b - 1)∨(x,y)=(a - 1,b)∨(x,y)=(a,b):=by
      rcases hh.1 with e|e <;> rcases hh.2 with e2|e2
      · subst e;subst e2;simp
      · subst e;subst e2;simp
      · subst e;subst e2;simp
      · subst e;subst e2;simp
    rcases this with e|e|e|e <;> rw [e] at hu <;> contradiction
def ph (w h:Nat) (u:P2):P2:=om (w+1) (h+1) u.1 u.2
theorem inB_of {e:(P2×P2)×(P2×P2)} (hm:e∈grl (w+1) (h+1)) (hx:pic w h f e.1.1=false∨pic w h f e.1.2=false):e∈lkB w h f:=by
  refine List.mem_filter.2 ⟨hm,?_⟩
  unfold inA
  rcases hx with hx|hx <;> rw [hx] <;> simp
theorem ph_of {a b:Nat} {u:P2} (hu:pic w h f u=false) (h1:u.1≤w+1) (h2:u.2≤h+1) (hh:hd a b u):Cn (du (lkB w h f)) (om (w+1) (h+1) a b) (ph w h u):=by
  obtain ⟨x,y⟩:=u
  unfold hd at hh
  dsimp only at*
  have k1:Cn (du (lkB w h f)) (om (w+1) (h+1) (x+1) y) (om (w+1) (h+1) x y):=by
    cases y with
    |zero=>unfold om;rw [if_pos (by omega),if_pos (by omega)];exact .refl _
    |succ y=>exact du_of (inB_of (mem_ver (P:=w+1) (Q:=h+1) (by omega) (by omega)) (.inr hu))
  have k2:Cn (du (lkB w h f)) (om (w+1) (h+1) x (y+1)) (om (w+1) (h+1) x y):=by
    cases x with
    |zero=>unfold om;rw [if_pos (by omega),if_pos (by omega)];exact .refl _
    |succ x=>exact (du_of (inB_of (mem_hor (P:=w+1) (Q:=h+1) (by omega) (by omega)) (.inr hu))).symm
  have k3:Cn (du (lkB w h f)) (om (w+1) (h+1) (x+1) (y+1)) (om (w+1) (h+1) x (y+1)):=by
    by_cases e:y=h+1
    · subst e;unfold om;rw [if_pos (by omega),if_pos (by omega)];exact .refl _
    · exact du_of (inB_of (mem_ver (P:=w+1) (Q:=h+1) (by omega) (by omega)) (.inl hu))
  rcases hh.1 with e|e <;> rcases hh.2 with e2|e2
  · subst e;subst e2;exact .refl _
  · subst e;subst e2;exact k2
  · subst e;subst e2;exact k1
  · subst e;subst e2;exact k3.trans k2
theorem ph_kg {u v:P2} (hu:pic w h f u=false) (hv:pic w h f v=false) (h1:u.1≤w+1) (h2:u.2≤h+1) (h3:v.1≤w+1) (h4:v.2≤h+1) (hk:kg u v):Cn (du (lkB w h f)) (ph w h u) (ph w h v):=by
  unfold kg at hk
  have a:=ph_of (a:=max u.1 v.1) (b:=max u.2 v.2) hu h1 h2 (by unfold hd;omega)
  have b:=ph_of (a:=max u.1 v.1) (b:=max u.2 v.2) hv h3 h4 (by unfold hd;omega)
  exact a.symm.trans b
theorem ph_out {u:P2} (h1:u.1≤w+1) (h2:u.2≤h+1) (ho:¬inn w h u):Cn (du (lkB w h f)) (ph w h u) (0,0):=by
  have hu:pic w h f u=false:=by
    cases hc:pic w h f u
    · rfl
    · exact absurd (pic_iff.1 hc).1 ho
  unfold inn at ho
  have a:=ph_of (a:=if u.1=w+1 then w+2 else u.1) (b:=if u.2=h+1 then h+2 else u.2) hu h1 h2 (by unfold hd;constructor <;> (split <;> omega))
  refine a.symm.trans ?_
  unfold om
  rw [if_pos (by
    by_cases e1:u.1=w+1
    · rw [if_pos e1];omega
    · by_cases e2 : u.2 = h + 1
      · rw [if_pos e2];omega
      · rw [if_neg e1,if_neg e2];omega)]
  exact .refl _
theorem pos_le (hn:n=w*h) {j:Nat} (hj:j<n):(pos w j).1≤w+1∧(pos w j).2≤h+1:=by
  obtain ⟨⟨_,_⟩,_,_⟩:=pos_inn hn hj
  omega
theorem ph_pos (hn:n=w*h) {j:Nat} (hj:j<n):ph w h (pos w j)=pos w j:=by
  obtain ⟨⟨_,_⟩,_,_⟩:=pos_inn hn hj
  unfold ph om;rw [if_neg (by omega)]
theorem conn_ph (hn:n=w*h) (hg:∀j,j<n→(g j=true↔f j=false)) {i k:Nat} (hc:Conn (fun j=>g j=true) (nb true w n) i k):i<n→g i=true→Cn (du (lkB w h f)) (ph w h (pos w i)) (ph w h (pos w k)):=by
  induction hc with
  |refl=>intro _ _;exact .refl _
  |step a b d _ ih=>
    intro hi hf
    have hk:=d.2.1
    exact (ph_kg (by rw [pic_pos hn hi];exact (hg _ hi).1 a) (by rw [pic_pos hn hk];exact (hg _ hk).1 b) (pos_le hn hi).1 (pos_le hn hi).2 (pos_le hn hk).1 (pos_le hn hk).2 (of_nb d).1).trans (ih hk b)
def full (w h:Nat) (f:Nat→Bool) (p:P2):Bool:=(pic w h f p&&pic w h f (p.1+1,p.2))&&(pic w h f (p.1,p.2+1)&&pic w h f (p.1+1,p.2+1))
def hls (n w h:Nat) (g:Nat→Bool) (d:Nat→Nat):List Nat:=(List.range n).filter (fun j=>ldr g d j&& !brd n g d (edg w h) j)
def fls (w h:Nat) (f:Nat→Bool):List P2:=(gr (w+1) (h+1)).filter (full w h f)
theorem mem_hls {d:Nat→Nat} {j:Nat}:j∈hls n w h g d↔j<n∧g j=true∧d j=j∧¬brd n g d (edg w h) j=true:=by
  unfold hls ldr
  rw [List.mem_filter,List.mem_range]
  simp [and_assoc]
theorem mem_fls {p:P2} (hp:p∈fls w h f):(p.1<w+1∧p.2<h+1)∧full w h f p=true:=⟨mem_gr.1 (List.mem_filter.1 hp).1,(List.mem_filter.1 hp).2⟩
theorem holes {d:Nat→Nat} (hn:n=w*h) (hL:Lst (fun j=>g j=true) (nb true w n) d) (hgn:∀j,g j=true→j<n) (hg:∀j,j<n→(g j=true↔f j=false)):
    Tv (du (lkB w h f)) (win (w+1) (h+1)) ((0,0) :: ((hls n w h g d).map (pos w)++(fls w h f).map (fun p=>(p.1+1,p.2+1)))):=by
  have hlb:∀e∈du (lkB w h f),wl w h n f g d e.1=wl w h n f g d e.2:=fun e he=>by
    obtain ⟨x,hx,rfl⟩:=List.mem_map.1 he
    obtain ⟨hm,ha⟩:=List.mem_filter.1 hx
    unfold inA at ha
    rcases mem_grl hm with ⟨x,y,h1,h2,rfl⟩|⟨x,y,h1,h2,rfl⟩
    · dsimp only at ha ⊢
      cases hc:pic w h f (x,y)
      · rw [wl_of hn hL hg hc (by dsimp only;omega) (by dsimp only;omega) (by unfold hd;dsimp only;omega),wl_of hn hL hg hc (by dsimp only;omega) (by dsimp only;omega) (by unfold hd;dsimp only;omega)]
      · rw [hc, Bool.true_and] at ha
        have hc2:pic w h f (x+1,y)=false:=by simpa using ha
        rw [wl_of hn hL hg hc2 (by dsimp only;omega) (by dsimp only;omega) (by unfold hd;dsimp only;omega),wl_of hn hL hg hc2 (by dsimp only;omega) (by dsimp only;omega) (by unfold hd;dsimp only;omega)]
    · dsimp only at ha ⊢
      cases hc:pic w h f (x,y)
      · rw [wl_of hn hL hg hc (by dsimp only;omega) (by dsimp only;omega) (by unfold hd;dsimp only;omega),wl_of hn hL hg hc (by dsimp only;omega) (by dsimp only;omega) (by unfold hd;dsimp only;omega)]
      · rw [hc, Bool.true_and] at ha
        have hc2:pic w h f (x,y+1)=false:=by simpa using ha
        rw [wl_of hn hL hg hc2 (by dsimp only;omega) (by dsimp only;omega) (by unfold hd;dsimp only;omega),wl_of hn hL hg hc2 (by dsimp only;omega) (by dsimp only;omega) (by unfold hd;dsimp only;omega)]
  have hwp:∀j,j<n→0<w:=fun j hj=>by have:=(pos_inn hn hj).1;omega
  have lp:∀j,j∈hls n w h g d→wl w h n f g d (pos w j)= .inl (some j):=fun j hj=>by
    obtain ⟨j1,j2,j3,j4⟩:=mem_hls.1 hj
    have hp:pic w h f (pos w j)=false:=by rw [pic_pos hn j1];exact (hg _ j1).1 j2
    have:=wl_of (a:=(pos w j).1) (b:=(pos w j).2) hn hL hg hp (pos_le hn j1).1 (pos_le hn j1).2 (by unfold hd;simp)
    have e:om (w+1) (h+1) (pos w j).1 (pos w j).2=pos w j:=ph_pos hn j1
    rw [e] at this
    rw [this];unfold lab;rw [ix_pos (hwp j j1),j3,if_pos ⟨pos_inn hn j1,j4⟩]
  have lf:∀p,p∈fls w h f→wl w h n f g d (p.1+1,p.2+1)= .inr (p.1+1,p.2+1):=fun p hp=>by
    obtain ⟨_,h3⟩:=mem_fls hp
    unfold full at h3
    simp only [Bool.and_eq_true] at h3
    obtain ⟨⟨a,b⟩,c,e⟩:=h3
    unfold wl
    rw [if_neg (fun e=>by have:=congrArg Prod.fst e;dsimp only at this;omega)]
    dsimp only
    rw [Nat.add_sub_cancel,Nat.add_sub_cancel,a,b,c,e];simp
  refine ⟨List.nodup_cons.2 ⟨fun hm=> ?_,List.nodup_append.2 ⟨nd_map (List.nodup_range.filter _) fun a ha b hb e=>pos_inj (hwp a (mem_hls.1 ha).1) e,nd_map ((gr_nd _ _).filter _) fun a _ b _ e=>by
      obtain ⟨e1,e2⟩:=Prod.mk.inj e
      exact Prod.ext (by omega) (by omega),fun a ha b hb e=> ?_⟩⟩,fun r hr=> ?_,fun v hv=> ?_,fun r hr s hs k=> ?_⟩
  · rcases List.mem_append.1 hm with hm | hm
    · obtain ⟨j, _, e⟩ := List.mem_map.1 hm
      have:=congrArg Prod.fst e;unfold pos at this;dsimp only at this;omega
    · obtain ⟨j, _, e⟩ := List.mem_map.1 hm
      have:=congrArg Prod.fst e;dsimp only at this;omega
  · obtain ⟨j, hj, rfl⟩ := List.mem_map.1 ha
    obtain ⟨p,hp,rfl⟩:=List.mem_map.1 hb
    have h1:=lp j hj
    rw [e,lf p hp] at h1;cases h1
  · rcases List.mem_cons.1 hr with rfl | hr
    · exact List.mem_cons_self ..
    · refine List.mem_cons_of_mem _ ?_
      rcases List.mem_append.1 hr with hr|hr
      · obtain ⟨j, hj, rfl⟩ := List.mem_map.1 hr
        obtain ⟨⟨_,_⟩,_,_⟩:=pos_inn hn (mem_hls.1 hj).1
        exact List.mem_map.2 ⟨((pos w j).1 - 1,(pos w j).2 - 1),mem_gr.2 ⟨by dsimp only;omega,by dsimp only;omega⟩,Prod.ext (by dsimp only;omega) (by dsimp only;omega)⟩
      · obtain ⟨p, hp, rfl⟩ := List.mem_map.1 hr
        exact List.mem_map.2 ⟨p,(List.mem_filter.1 hp).1,rfl⟩
  · rcases List.mem_cons.1 hv with rfl | hv
    · exact ⟨(0,0),List.mem_cons_self ..,.refl _⟩
    obtain ⟨p,hp,rfl⟩:=List.mem_map.1 hv
    obtain ⟨p1,p2⟩:=mem_gr.1 hp
    by_cases hfl:full w h f p=true
    · exact ⟨_,List.mem_cons_of_mem _ (List.mem_append_right _ (List.mem_map.2 ⟨p,List.mem_filter.2 ⟨hp,hfl⟩,rfl⟩)),.refl _⟩
    have hu:∃u:P2,pic w h f u=false∧u.1≤w+1∧u.2≤h+1∧hd (p.1+1) (p.2+1) u:=by
      unfold full at hfl
      by_cases q1:pic w h f p=true
      · by_cases q2 : pic w h f (p.1 + 1, p.2) = true
        · by_cases q3 : pic w h f (p.1, p.2 + 1) = true
          · by_cases q4 : pic w h f (p.1 + 1, p.2 + 1) = true
            · exact absurd (by rw [q1,q2,q3,q4];rfl) hfl
            · exact ⟨_,by simpa using q4,by dsimp only;omega,by dsimp only;omega,by unfold hd;dsimp only;omega⟩
          · exact ⟨_,by simpa using q3,by dsimp only;omega,by dsimp only;omega,by unfold hd;dsimp only;omega⟩
        · exact ⟨_,by simpa using q2,by dsimp only;omega,by dsimp only;omega,by unfold hd;dsimp only;omega⟩
      · exact ⟨p,by simpa using q1,by omega,by omega,by unfold hd;omega⟩
    obtain ⟨u,u1,u2,u3,u4⟩:=hu
    have h1:=ph_of u1 u2 u3 u4
    have e:om (w+1) (h+1) (p.1+1) (p.2+1)=(p.1+1,p.2+1):=by unfold om;rw [if_neg (by omega)]
    rw [e] at h1
    by_cases hi:inn w h u
    · have hx := ix_md hn hi
      have hgu:g (ix w u)=true:=(hg _ hx.1).2 (by
        cases hc:f (ix w u)
        · rfl
        · have:=(pic_iff (w:=w) (h:=h) (f:=f)).2 ⟨hi,hc⟩;rw [u1] at this;cases this)
      have hgd:=hL.mem hgu
      have h2:=conn_ph hn hg (hL.conn _ hgu) hx.1 hgu
      rw [pos_ix hn hi] at h2
      by_cases hb:brd n g d (edg w h) (d (ix w u))=true
      · obtain ⟨k, k1, k2, k3, k4⟩ := brd_iff.1 hb
        have h3:=conn_ph hn hg (hL.conn _ k2) k1 k2
        rw [k4] at h3
        have hp:pic w h f (pos w k)=false:=by rw [pic_pos hn k1];exact (hg _ k1).1 k2
        have hpl:=pos_le hn k1
        have hin:=pos_inn hn k1
        have hq:∃q:P2,¬inn w h q∧q.1≤w+1∧q.2≤h+1∧kg (pos w k) q:=by
          have k5:=edg_iff.1 k3
          have e1:(pos w k).1=k%w+1:=rfl
          have e2:(pos w k).2=k / w+1:=rfl
          rcases k5 with k5|k5|k5|k5
          · exact ⟨(0,(pos w k).2),by unfold inn;dsimp only;omega,by dsimp only;omega,by dsimp only;omega,by unfold kg;dsimp only;omega⟩
          · exact ⟨((pos w k).1,0),by unfold inn;dsimp only;omega,by dsimp only;omega,by dsimp only;omega,by unfold kg;dsimp only;omega⟩
          · exact ⟨(w+1,(pos w k).2),by unfold inn;dsimp only;omega,by dsimp only;omega,by dsimp only;omega,by unfold kg;dsimp only;omega⟩
          · exact ⟨((pos w k).1,h+1),by unfold inn;dsimp only;omega,by dsimp only;omega,by dsimp only;omega,by unfold kg;dsimp only;omega⟩
        obtain ⟨q,q1,q2,q3,q4⟩:=hq
        have hpq:pic w h f q=false:=by
          cases hc:pic w h f q
          · rfl
          · exact absurd (pic_iff.1 hc).1 q1
        exact ⟨(0,0),List.mem_cons_self ..,h1.trans (h2.trans (h3.symm.trans ((ph_kg hp hpq hpl.1 hpl.2 q2 q3 q4).trans (ph_out q2 q3 q1))))⟩
      · have hdn := hgn _ hgd
        refine ⟨pos w (d (ix w u)),List.mem_cons_of_mem _ (List.mem_append_left _ (List.mem_map.2 ⟨_,mem_hls.2 ⟨hdn,hgd,hL.idem hgu,hb⟩,rfl⟩)),?_⟩
        rw [ph_pos hn hdn] at h2
        exact h1.trans h2
    · exact ⟨(0,0),List.mem_cons_self ..,h1.trans (ph_out u2 u3 hi)⟩
  · have hl := k.const hlb
    have l0:wl w h n f g d (0,0)= .inl none:=rfl
    have cls:∀r,r∈((0,0) :: ((hls n w h g d).map (pos w)++(fls w h f).map (fun p=>(p.1+1,p.2+1))))→(r=(0,0)∧wl w h n f g d r= .inl none)∨(∃j,r=pos w j∧wl w h n f g d r= .inl (some j))∨wl w h n f g d r= .inr r:=fun r hr=>by
      rcases List.mem_cons.1 hr with rfl|hr
      · exact .inl ⟨rfl,l0⟩
      · rcases List.mem_append.1 hr with hr | hr
        · obtain ⟨j, hj, rfl⟩ := List.mem_map.1 hr
          exact .inr (.inl ⟨j,rfl,lp j hj⟩)
        · obtain ⟨p, hp, rfl⟩ := List.mem_map.1 hr
          exact .inr (.inr (lf p hp))
    rcases cls r hr with ⟨e1,a⟩|⟨j,e1,a⟩|a <;> rcases cls s hs with ⟨e2,b⟩|⟨i,e2,b⟩|b <;> rw [a,b] at hl
    · rw [e1,e2]
    · cases hl
    · cases hl
    · cases hl
    · rw [e1,e2,Option.some.inj (Sum.inl.inj hl)]
    · cases hl
    · cases hl
    · cases hl
    · exact Sum.inr.inj hl
end
end Go.Proofs.Ytpdbimfnhglhpaa.Eu
namespace Go.Proofs.Ytpdbimfnhglhpaa.Eu
open Go.Proofs.Ytpdbimfnhglhpaa.Fl
set_option linter.unusedVariables false
theorem len_sum {α:Type} (p:α→Bool) (l:List α):((l.filter p).length:Int)=(l.map fun a=>if p a=true then (1:Int) else 0).sum:=by
  induction l with
  |nil=>rfl
  |cons a l ih=>
    rw [List.filter_cons,List.map_cons,List.sum_cons,←ih]
    split
    · rw [List.length_cons];omega
    · omega
def b1 (a:Bool):Int:=if a=true then 1 else 0
def q4 (a b c d:Bool):Int:=b1 a+b1 b+b1 c+b1 d - 2*(b1 (a&&b)+b1 (c&&d)) - 2*(b1 (a&&c)+b1 (b&&d))+4*b1 ((a&&b)&&(c&&d))
theorem sm_sub (n:Nat) (f g:Nat→Int):sm n (fun i=>f i - g i)=sm n f - sm n g:=by
  induction n with
  |zero=>rfl
  |succ n ih=>rw [sm_succ,sm_succ,sm_succ,ih];omega
theorem sm_two (n:Nat) (f:Nat→Int) (h0:f 0=0) (h1:f n=0):sm n (fun i=>f i+f (i+1))=2*sm (n+1) f:=by
  rw [sm_add]
  have a:=sm_succ n f
  have b:=sm_first n f
  omega
section
variable {w h n : Nat} {f g : Nat → Bool}
theorem pic_out {x y:Nat} (ho:¬inn w h (x,y)):pic w h f (x,y)=false:=by
  cases hc:pic w h f (x,y)
  · rfl
  · exact absurd (pic_iff.1 hc).1 ho
def win4 (w h:Nat) (f:Nat→Bool) (x y:Nat):Int:=q4 (pic w h f (x,y)) (pic w h f (x+1,y)) (pic w h f (x,y+1)) (pic w h f (x+1,y+1))
def allq (w h:Nat) (f:Nat→Bool):Int:=sm (h+1) (fun y=>sm (w+1) (fun x=>win4 w h f x y))
theorem sum_pts:sm (h+1) (fun y=>sm (w+1) (fun x=>b1 (pic w h f (x,y))+b1 (pic w h f (x+1,y))+b1 (pic w h f (x,y+1))+b1 (pic w h f (x+1,y+1))))=4*(((gr (w+2) (h+2)).filter (pic w h f)).length:Int):=by
  have z:∀x y,¬inn w h (x,y)→b1 (pic w h f (x,y))=0:=fun x y ho=>by rw [pic_out ho];rfl
  have h1:∀y,sm (w+1) (fun x=>b1 (pic w h f (x,y))+b1 (pic w h f (x+1,y)))=2*sm (w+2) (fun x=>b1 (pic w h f (x,y))):=fun y=>
    sm_two (w+1) (fun x=>b1 (pic w h f (x,y))) (z _ _ (by unfold inn;dsimp only;omega)) (z _ _ (by unfold inn;dsimp only;omega))
  have z2:∀y,(y=0∨y=h+1)→2*sm (w+2) (fun x=>b1 (pic w h f (x,y)))=0:=fun y hy=>by
    rw [sm_congr (g:=fun _=>0) (fun x _=>z _ _ (by unfold inn;dsimp only;omega)),sm_zeros];rfl
  have h2:=sm_two (h+1) (fun y=>2*sm (w+2) (fun x=>b1 (pic w h f (x,y)))) (z2 _ (.inl rfl)) (z2 _ (.inr rfl))
  have h3:sm (h+1) (fun y=>sm (w+1) (fun x=>b1 (pic w h f (x,y))+b1 (pic w h f (x+1,y))+b1 (pic w h f (x,y+1))+b1 (pic w h f (x+1,y+1))))=sm (h+1) (fun y=>2*sm (w+2) (fun x=>b1 (pic w h f (x,y)))+2*sm (w+2) (fun x=>b1 (pic w h f (x,y+1)))):=by
    refine sm_congr fun y _=> ?_
    rw [← h1 y,←h1 (y+1),←sm_add]
    exact sm_congr fun x _=>by omega
  rw [h3,h2,sm_mul,len_sum,gr_sum]
  have:sm (h+2) (fun y=>sm (w+2) (fun x=>b1 (pic w h f (x,y))))=sm (h+2) (fun y=>sm (w+2) (fun x=>if pic w h f (x,y)=true then (1:Int) else 0)):=rfl
  rw [← this]
  show 2*(2*sm (h+2) _)=_
  omega
theorem sum_hor:sm (h+1) (fun y=>sm (w+1) (fun x=>b1 (pic w h f (x,y)&&pic w h f (x+1,y))+b1 (pic w h f (x,y+1)&&pic w h f (x+1,y+1))))=2*(((hor (w+1) (h+1)).filter (inA w h f)).length:Int):=by
  have z2:∀y,(y=0∨y=h+1)→sm (w+1) (fun x=>b1 (pic w h f (x,y)&&pic w h f (x+1,y)))=0:=fun y hy=>by
    rw [sm_congr (g:=fun _=>0) (fun x _=>by rw [pic_out (by unfold inn;dsimp only;omega)];rfl),sm_zeros]
  have h2:=sm_two (h+1) (fun y=>sm (w+1) (fun x=>b1 (pic w h f (x,y)&&pic w h f (x+1,y)))) (z2 _ (.inl rfl)) (z2 _ (.inr rfl))
  have h3:((hor (w+1) (h+1)).filter (inA w h f)).length=((gr (w+1) (h+2)).filter (fun p=>pic w h f p&&pic w h f (p.1+1,p.2))).length:=by
    unfold hor;rw [List.filter_map,List.length_map];rfl
  rw [h3,len_sum,gr_sum,sm_congr fun y _=>sm_add (w+1) (fun x=>b1 (pic w h f (x,y)&&pic w h f (x+1,y))) (fun x=>b1 (pic w h f (x,y+1)&&pic w h f (x+1,y+1)))]
  exact h2
theorem sum_ver:sm (h+1) (fun y=>sm (w+1) (fun x=>b1 (pic w h f (x,y)&&pic w h f (x,y+1))+b1 (pic w h f (x+1,y)&&pic w h f (x+1,y+1))))=2*(((ver (w+1) (h+1)).filter (inA w h f)).length:Int):=by
  have h1:∀y,sm (w+1) (fun x=>b1 (pic w h f (x,y)&&pic w h f (x,y+1))+b1 (pic w h f (x+1,y)&&pic w h f (x+1,y+1)))=2*sm (w+2) (fun x=>b1 (pic w h f (x,y)&&pic w h f (x,y+1))):=fun y=>
    sm_two (w+1) (fun x=>b1 (pic w h f (x,y)&&pic w h f (x,y+1))) (by rw [pic_out (x:=0) (y:=y) (by unfold inn;dsimp only;omega)];rfl) (by rw [pic_out (x:=w+1) (y:=y) (by unfold inn;dsimp only;omega)];rfl)
  have h3:((ver (w+1) (h+1)).filter (inA w h f)).length=((gr (w+2) (h+1)).filter (fun p=>pic w h f p&&pic w h f (p.1,p.2+1))).length:=by
    unfold ver;rw [List.filter_map,List.length_map];rfl
  rw [h3,len_sum,gr_sum,sm_congr fun y _=>h1 y,sm_mul]
  rfl
theorem sum_full:sm (h+1) (fun y=>sm (w+1) (fun x=>b1 ((pic w h f (x,y)&&pic w h f (x+1,y))&&(pic w h f (x,y+1)&&pic w h f (x+1,y+1)))))=((fls w h f).length:Int):=by
  unfold fls;rw [len_sum,gr_sum];rfl
theorem euler {c d:Nat→Nat} (hn:n=w*h) (hf:∀j,f j=true→j<n) (hc:Lst (fun j=>f j=true) (nb false w n) c) (hL:Lst (fun j=>g j=true) (nb true w n) d) (hgn:∀j,g j=true→j<n) (hg:∀j,j<n→(g j=true↔f j=false)):
    4*((cnt (ldr f c) n:Int) - (hol n g d (edg w h):Int))=allq w h f:=by
  have h1:=(pln (w+1) (h+1)).euler lk_perm (regions hn hf hc) (holes hn hL hgn hg)
  have h2:(cnt (ldr f c) n)=((List.range n).filter (ldr f c)).length:=rfl
  have h3:(hol n g d (edg w h))=(hls n w h g d).length:=rfl
  have h4:=(List.filter_append_perm (pic w h f) (gr (w+2) (h+2))).length_eq
  rw [List.length_append] at h4
  rw [List.length_append,List.length_map,List.length_cons,List.length_append,List.length_map,List.length_map,←h2,←h3] at h1
  have h5:(lkA w h f).length=((hor (w+1) (h+1)).filter (inA w h f)).length+((ver (w+1) (h+1)).filter (inA w h f)).length:=by
    unfold lkA grl;rw [List.filter_append,List.length_append]
  have e1:=sum_pts (w:=w) (h:=h) (f:=f)
  have e2:=sum_hor (w:=w) (h:=h) (f:=f)
  have e3:=sum_ver (w:=w) (h:=h) (f:=f)
  have e4:=sum_full (w:=w) (h:=h) (f:=f)
  have h6:allq w h f=sm (h+1) (fun y=>sm (w+1) (fun x=>b1 (pic w h f (x,y))+b1 (pic w h f (x+1,y))+b1 (pic w h f (x,y+1))+b1 (pic w h f (x+1,y+1)))) -
      2*sm (h+1) (fun y=>sm (w+1) (fun x=>b1 (pic w h f (x,y)&&pic w h f (x+1,y))+b1 (pic w h f (x,y+1)&&pic w h f (x+1,y+1)))) -
      2*sm (h+1) (fun y=>sm (w+1) (fun x=>b1 (pic w h f (x,y)&&pic w h f (x,y+1))+b1 (pic w h f (x+1,y)&&pic w h f (x+1,y+1))))+
      4*sm (h+1) (fun y=>sm (w+1) (fun x=>b1 ((pic w h f (x,y)&&pic w h f (x+1,y))&&(pic w h f (x,y+1)&&pic w h f (x+1,y+1))))):=by
    unfold allq win4 q4
    rw [← sm_mul,←sm_mul,←sm_mul,←sm_sub,←sm_sub,←sm_add]
    refine sm_congr fun y _=> ?_
    rw [← sm_mul,←sm_mul,←sm_mul,←sm_sub,←sm_sub,←sm_add]
  rw [h6,e1,e2,e3,e4]
  have h7:(gr (w+1+1) (h+1+1)).length=(gr (w+2) (h+2)).length:=rfl
  rw [h7] at h1
  omega
end
end Go.Proofs.Ytpdbimfnhglhpaa.Eu
namespace Go.Proofs.Ytpdbimfnhglhpaa.Eu
open Go.Proofs.Ytpdbimfnhglhpaa.Fl Go.Proofs.Ytpdbimfnhglhpaa.Sp
set_option linter.unusedVariables false
theorem q4_b (a b c d:Bool): -2≤q4 a b c d∧q4 a b c d≤2:=by cases a <;> cases b <;> cases c <;> cases d <;> decide
theorem sm_b {n:Nat} {f:Nat→Int} {c:Int} (h:∀i,-c≤f i∧f i≤c): -(c*n)≤sm n f∧sm n f≤c*n:=by
  induction n with
  |zero=>rw [sm_zero];simp
  |succ n ih=>
    have:=h n
    rw [sm_succ,Int.natCast_add,Int.mul_add]
    have e:c*((1:Nat):Int)=c:=by simp
    rw [e];omega
def part (w h:Nat) (f:Nat→Bool) (i k:Nat):Int:=sm i (fun y=>sm (w+1) (fun x=>win4 w h f x y))+sm k (fun x=>win4 w h f x i)
theorem part_b {w h:Nat} {f:Nat→Bool} {i k:Nat} (hw:w≤64) (hi:i≤65) (hk:k≤65): -10000≤part w h f i k∧part w h f i k≤10000:=by
  have h1:∀x y,-2≤win4 w h f x y∧win4 w h f x y≤2:=fun x y=>q4_b _ _ _ _
  have h2:∀y,-130≤sm (w+1) (fun x=>win4 w h f x y)∧sm (w+1) (fun x=>win4 w h f x y)≤130:=fun y=>by
    have:=sm_b (n:=w+1) (fun x=>h1 x y)
    rw [Int.natCast_add] at this;omega
  have h3:=sm_b (n:=i) h2
  have h4:=sm_b (n:=k) (fun x=>h1 x i)
  unfold part
  omega
theorem law {w h n:Nat} {m th z:Int} {l:List Int} {A:List Bb} (hok:Bl.rok w h m l∧0≤th∧th≤65536) (hn:l.length=n) (hwh:n=w*h) (hA:BlsR w h m l th A) (hz:HolR w h m l th z):4*((A.length:Int) - z)=allq w h (ge l th):=by
  subst hn
  obtain ⟨c,o,hc,_,e⟩:=hA.1 hok
  obtain ⟨d,hd,e2⟩:=hz.1 hok
  have hlen:A.length=cnt (ldr (ge l th) c) l.length:=by rw [e,bls_len]
  rw [hlen,e2]
  refine euler hwh (fun j hj=> ?_) hc hd (fun j hj=> ?_) (fun j hj=> ?_)
  · unfold ge at hj;simp only [Bool.and_eq_true,decide_eq_true_eq] at hj;omega
  · unfold lo at hj;simp only [Bool.and_eq_true,decide_eq_true_eq] at hj;omega
  · unfold lo ge;rw [decide_eq_true hj];simp
theorem law_b {w h n:Nat} {m th z:Int} {l:List Int} {A:List Bb} (hok:Bl.rok w h m l∧0≤th∧th≤65536) (hn:l.length=n) (hA:BlsR w h m l th A) (hz:HolR w h m l th z):A.length≤n∧0≤z∧z≤n:=by
  subst hn
  obtain ⟨c,o,hc,_,e⟩:=hA.1 hok
  obtain ⟨d,hd,e2⟩:=hz.1 hok
  have h1:=cnt_le (ldr (ge l th) c) l.length
  have h2:hol l.length (lo l th) d (edg (w:Int).toNat (h:Int).toNat)≤l.length:=cnt_le _ _
  refine ⟨?_,by omega,by omega⟩
  rw [e,bls_len];exact h1
end Go.Proofs.Ytpdbimfnhglhpaa.Eu
namespace Go.Proofs.Ytpdbimfnhglhpaa.Te
open Ms
set_option linter.unusedVariables false
def kk (w j:Nat):Nat:=(j / w)*(w+1)+j%w
def tri (w j:Nat):List V3:=[((kk w j:Nat),(kk w j:Nat)+1,(kk w j:Nat)+w+2),((kk w j:Nat),(kk w j:Nat)+w+2,(kk w j:Nat)+w+1)]
def eF (w:Nat) (f:Nat→Bool) (n:Nat):List V3:=(List.range n).flatMap fun j=>if f j=true then tri w j else []
def eV (w h:Nat):List V3:=(List.range ((w+1)*(h+1))).map fun k=>(((k%(w+1):Nat):Int),((k / (w+1):Nat):Int),0)
def six (w j:Nat):List (Int×Int):=[((kk w j:Nat),(kk w j:Nat)+1),((kk w j:Nat)+1,(kk w j:Nat)+w+2),((kk w j:Nat)+w+2,(kk w j:Nat)),((kk w j:Nat),(kk w j:Nat)+w+2),((kk w j:Nat)+w+2,(kk w j:Nat)+w+1),((kk w j:Nat)+w+1,(kk w j:Nat))]
section
variable {w h n : Nat} {f : Nat → Bool}
theorem kk_eq (w j:Nat):kk w j=j+j / w:=by
  unfold kk
  have:=Nat.div_add_mod j w
  rw [Nat.mul_succ,Nat.mul_comm (j / w) w];omega
theorem kk_lt {i j:Nat} (h:i<j):kk w i<kk w j:=by
  rw [kk_eq,kk_eq]
  have:=Nat.div_le_div_right (c:=w) (Nat.le_of_lt h)
  omega
theorem kk_inj {i j:Nat} (h:kk w i=kk w j):i=j:=by
  rcases Nat.lt_trichotomy i j with k|k|k
  · have:=kk_lt (w:=w) k;omega
  · exact k
  · have:=kk_lt (w:=w) k;omega
theorem kk_xy {x y:Nat} (hx:x<w):kk w (y*w+x)=y*(w+1)+x:=by
  unfold kk
  rw [show (y*w+x) / w=y by rw [Nat.mul_comm,Nat.mul_add_div (by omega),Nat.div_eq_of_lt hx];omega,show (y*w+x)%w=x by rw [Nat.mul_comm,Nat.mul_add_mod,Nat.mod_eq_of_lt hx]]
theorem kk_rng {j:Nat} (hw:0<w) (hj:j<w*h):kk w j+w+2<(w+1)*(h+1):=by
  unfold kk
  have h1:=Nat.mod_lt j hw
  have h2:j / w<h:=Nat.div_lt_of_lt_mul hj
  have h3:(j / w+1)*(w+1)≤h*(w+1):=Nat.mul_le_mul_right _ h2
  rw [Nat.mul_comm (w+1) (h+1),Nat.succ_mul]
  rw [Nat.succ_mul] at h3
  omega
theorem mem_eF {g:V3}:g∈eF w f n↔∃j,j<n∧f j=true∧g∈tri w j:=by
  unfold eF
  rw [List.mem_flatMap]
  constructor
  · rintro ⟨j, hj, hg⟩
    split at hg
    · exact ⟨j,List.mem_range.1 hj,by assumption,hg⟩
    · cases hg
  · rintro ⟨j, hj, hf, hg⟩
    exact ⟨j,List.mem_range.2 hj,by rw [if_pos hf];exact hg⟩
theorem tri_six (w j:Nat):(tri w j).flatMap edges3=six w j:=rfl
theorem all_eF:all (eF w f n)=(List.range n).flatMap fun j=>if f j=true then six w j else []:=by
  unfold all eF
  rw [List.flatMap_assoc]
  congr 1
  funext j
  split
  · exact tri_six w j
  · rfl
theorem mem_all {e:Int×Int}:e∈all (eF w f n)↔∃j,j<n∧f j=true∧e∈six w j:=by
  rw [all_eF,List.mem_flatMap]
  constructor
  · rintro ⟨j, hj, hg⟩
    split at hg
    · exact ⟨j,List.mem_range.1 hj,by assumption,hg⟩
    · cases hg
  · rintro ⟨j, hj, hf, hg⟩
    exact ⟨j,List.mem_range.2 hj,by rw [if_pos hf];exact hg⟩
theorem mem_six {j:Nat} {u v:Int}:(u,v)∈six w j↔(u=(kk w j:Nat)∧v=(kk w j:Nat)+1)∨(u=(kk w j:Nat)+1∧v=(kk w j:Nat)+w+2)∨(u=(kk w j:Nat)+w+2∧v=(kk w j:Nat))∨(u=(kk w j:Nat)∧v=(kk w j:Nat)+w+2)∨(u=(kk w j:Nat)+w+2∧v=(kk w j:Nat)+w+1)∨(u=(kk w j:Nat)+w+1∧v=(kk w j:Nat)):=by
  unfold six
  simp only [List.mem_cons,List.not_mem_nil,or_false,Prod.mk.injEq]
theorem six_inj (hw:0<w) {i j:Nat} {e:Int×Int} (h1:e∈six w i) (h2:e∈six w j):i=j:=by
  obtain ⟨u,v⟩:=e
  rw [mem_six] at h1 h2
  refine kk_inj (w:=w) ?_
  rcases h1 with h1|h1|h1|h1|h1|h1 <;> rcases h2 with h2|h2|h2|h2|h2|h2 <;> omega
theorem six_nd (hw:0<w) (j:Nat):(six w j).Nodup:=by
  unfold six
  simp only [List.nodup_cons,List.mem_cons,List.not_mem_nil,or_false,Prod.mk.injEq,not_or,not_false_eq_true,List.nodup_nil,and_true]
  omega
theorem nodup_fm {β:Type} {l:List Nat} {g:Nat→List β} (hl:l.Nodup) (hg:∀j∈l,(g j).Nodup) (hd:∀i∈l,∀j∈l,∀e,e∈g i→e∈g j→i=j):(l.flatMap g).Nodup:=by
  induction l with
  |nil=>simp
  |cons a t ih=>
    rw [List.flatMap_cons,List.nodup_append]
    have ha:=List.nodup_cons.1 hl
    refine ⟨hg a (by simp),ih ha.2 (fun j hj=>hg j (by simp [hj])) (fun i hi j hj=>hd i (by simp [hi]) j (by simp [hj])),fun x hx y hy e=> ?_⟩
    subst e
    obtain ⟨j,hj,hx'⟩:=List.mem_flatMap.1 hy
    have:=hd a (by simp) j (by simp [hj]) x hx hx'
    exact ha.1 (this ▸ hj)
theorem all_nd (hw:0<w):(all (eF w f n)).Nodup:=by
  rw [all_eF]
  refine nodup_fm List.nodup_range (fun j _=> ?_) fun i _ j _ e hi hj=> ?_
  · split
    · exact six_nd hw j
    · exact List.nodup_nil
  · split at hi
    · split at hj
      · exact six_inj hw hi hj
      · cases hj
    · cases hi
theorem eF_len:(eF w f n).length=2*((List.range n).filter f).length:=by
  unfold eF
  rw [List.length_flatMap]
  generalize List.range n=l
  induction l with
  |nil=>rfl
  |cons a t ih=>
    rw [List.map_cons,List.sum_cons,ih,List.filter_cons]
    split
    · simp only [List.length_cons];show 2+_=_;omega
    · simp
theorem eV_len (w h:Nat):(eV w h).length=(w+1)*(h+1):=by unfold eV;simp
theorem good (hw:0<w) (hn:n=w*h) (h100:n≤100) (hwh:w≤100∧h≤100) (hh:0<h):Ms.Good (eV w h) (eF w f n):=by
  have hlen:(w+1)*(h+1)≤302:=by
    have e:(w+1)*(h+1)=w*h+w+h+1:=by rw [Nat.mul_succ,Nat.succ_mul];omega
    omega
  refine ⟨by rw [eV_len];omega,?_,fun p hp=> ?_,fun g hg=> ?_,fun g hg=> ?_⟩
  · rw [eF_len]
    have:=List.length_filter_le f (List.range n)
    rw [List.length_range] at this;omega
  · obtain ⟨k, hk, rfl⟩ := List.mem_map.1 hp
    have hk:=List.mem_range.1 hk
    have h1:=Nat.mod_lt k (show 0<w+1 by omega)
    have h2:k / (w+1)≤k:=Nat.div_le_self _ _
    simp only [far,farI,List.any_cons,List.any_nil,Bool.or_false,Bool.or_eq_false_iff,decide_eq_false_iff_not]
    generalize k / (w+1)=q at h2 ⊢
    generalize k%(w+1)=r at h1 ⊢
    omega
  · obtain ⟨j, hj, _, hg⟩ := mem_eF.1 hg
    have hr:=kk_rng (h:=h) hw (hn ▸ hj)
    unfold badIx
    rw [eV_len,decide_eq_false_iff_not]
    simp only [tri,List.mem_cons,List.not_mem_nil,or_false] at hg
    rcases hg with rfl|rfl <;> dsimp only <;> omega
  · obtain ⟨j, hj, _, hg⟩ := mem_eF.1 hg
    unfold deg
    rw [decide_eq_false_iff_not]
    simp only [tri,List.mem_cons,List.not_mem_nil,or_false] at hg
    rcases hg with rfl|rfl <;> dsimp only <;> omega
end
end Go.Proofs.Ytpdbimfnhglhpaa.Te
namespace Go.Proofs.Ytpdbimfnhglhpaa.Te
open Ms
set_option linter.unusedVariables false
def onK (w n:Nat) (f:Nat→Bool) (m:Int):Prop:=∃j,j<n∧f j=true∧((kk w j:Nat):Int)=m
def NT (w n:Nat) (f:Nat→Bool):Prop:=∀v:Int,(onK w n f (v - w - 2)→onK w n f v→onK w n f (v - w - 1)∨onK w n f (v - 1))∧(onK w n f (v - w - 1)→onK w n f (v - 1)→onK w n f (v - w - 2)∨onK w n f v)
section
variable {F : List V3} {v : Int}
def fc (F:List V3) (v a b i:Int):Prop:=i∈at_ F v∧hasV (F.getD i.toNat (0,0,0)) a=true∧hasV (F.getD i.toNat (0,0,0)) b=true
theorem mem_pairs {i u:Int} (hi:i∈at_ F v) (hu:hasV (F.getD i.toNat (0,0,0)) u=true) (hne:u≠v):(i,u)∈pairs F v (at_ F v):=by
  unfold pairs
  refine List.mem_flatMap.2 ⟨i,hi,List.mem_map.2 ⟨u,List.mem_filter.2 ⟨?_,by simpa using hne⟩,rfl⟩⟩
  unfold hasV at hu
  rw [decide_eq_true_iff] at hu
  simp only [List.mem_cons,List.not_mem_nil,or_false]
  rcases hu with h|h|h
  · exact .inl h.symm
  · exact .inr (.inl h.symm)
  · exact .inr (.inr h.symm)
def rc (F:List V3) (v a b:Int):Prop:=∀i m,i∈at_ F v→hasV (F.getD i.toNat (0,0,0)) a=true→m∈at_ F v→hasV (F.getD m.toNat (0,0,0)) b=true→Ms.Conn (pairs F v (at_ F v)) i m
theorem rc_self {a:Int} (h:a≠v):rc F v a a:=fun i m hi ha hm hb=> .step (.refl i) (mem_pairs hi ha h) (mem_pairs hm hb h)
theorem rc_of {a b i:Int} (h:fc F v a b i) (ha:a≠v) (hb:b≠v):rc F v a b:=fun i1 m1 h1 h2 h3 h4=>(rc_self ha i1 i h1 h2 h.1 h.2.1).trans (rc_self hb i m1 h.1 h.2.2 h3 h4)
theorem rc_symm {a b:Int} (h:rc F v a b) (hc:∀x y,Ms.Conn (pairs F v (at_ F v)) x y→Ms.Conn (pairs F v (at_ F v)) y x):rc F v b a:=fun i m h1 h2 h3 h4=>hc _ _ (h m i h3 h4 h1 h2)
theorem conn_symm {P:List (Int×Int)} {x y:Int} (h:Ms.Conn P x y):Ms.Conn P y x:=by
  induction h with
  |refl=>exact .refl _
  |step _ h1 h2 ih=>exact (Ms.Conn.step (.refl _) h2 h1).trans ih
theorem rc_sym {a b:Int} (h:rc F v a b):rc F v b a:=rc_symm h fun _ _=>conn_symm
theorem rc_trans {a b c m:Int} (h:rc F v a b) (k:rc F v b c) (hm:m∈at_ F v) (hb:hasV (F.getD m.toNat (0,0,0)) b=true):rc F v a c:=fun i j h1 h2 h3 h4=>(h i m h1 h2 hm hb).trans (k m j hm hb h3 h4)
theorem mem_at_of {g:V3} (hg:g∈F) (hv:hasV g v=true):∃i,i∈at_ F v∧F.getD i.toNat (0,0,0)=g:=by
  obtain ⟨i,hi,rfl⟩:=mem_getD (0,0,0) hg
  refine ⟨(i:Int),?_,rfl⟩
  unfold at_ sel
  have key:∀(F:List V3) (k i:Nat),i<F.length→hasV (F.getD i (0,0,0)) v=true→∃q∈srcsF k F,q.1=v∧q.2=((k+i:Nat):Int):=by
    intro F
    induction F with
    |nil=>intro k i hi;simp at hi
    |cons f l ih=>
      intro k i hi hv
      cases i with
      |zero=>
        have hv:hasV f v=true:=hv
        unfold hasV at hv
        rw [decide_eq_true_iff] at hv
        rcases hv with h|h|h
        · exact ⟨(f.1,(k:Int)),by simp [srcsF],h,rfl⟩
        · exact ⟨(f.2.1,(k:Int)),by simp [srcsF],h,rfl⟩
        · exact ⟨(f.2.2,(k:Int)),by simp [srcsF],h,rfl⟩
      |succ i=>
        obtain ⟨q,h1,h2,h3⟩:=ih (k+1) i (by simp at hi;omega) hv
        exact ⟨q,by simp [srcsF,h1],h2,by rw [h3];congr 1;omega⟩
  obtain ⟨q,h1,h2,h3⟩:=key F 0 i hi hv
  exact List.mem_map.2 ⟨q,List.mem_filter.2 ⟨h1,by simp [h2]⟩,by rw [h3];congr 1;omega⟩
theorem at_has {i:Int} (h:i∈at_ F v):F.getD i.toNat (0,0,0)∈F∧hasV (F.getD i.toNat (0,0,0)) v=true:=by
  have hr:=at_mem h
  refine ⟨getD_mem (0,0,0) (by omega),?_⟩
  unfold at_ sel at h
  have key:∀(F:List V3) (k:Nat) (q:Int×Int),q∈srcsF k F→q.1=v→hasV (F.getD (q.2 - k).toNat (0,0,0)) v=true:=by
    intro F
    induction F with
    |nil=>intro k q h;cases h
    |cons f l ih=>
      intro k q h hv
      simp only [srcsF,List.mem_cons] at h
      rcases h with rfl|rfl|rfl|h
      · dsimp only at hv ⊢;rw [show ((k:Int) - k).toNat=0 by omega];show hasV f v=true;simp [hasV,hv]
      · dsimp only at hv ⊢;rw [show ((k:Int) - k).toNat=0 by omega];show hasV f v=true;simp [hasV,hv]
      · dsimp only at hv ⊢;rw [show ((k:Int) - k).toNat=0 by omega];show hasV f v=true;simp [hasV,hv]
      · have hq := srcsF_mem h
        have:=ih (k+1) q h hv
        rw [show (q.2 - (k:Int)).toNat=(q.2 - ((k+1:Nat):Int)).toNat+1 by omega]
        exact this
  obtain ⟨q,hq,e⟩:=List.mem_map.1 h
  have hq:=List.mem_filter.1 hq
  have:=key F 0 q hq.1 (by simpa using hq.2)
  rw [e] at this
  simpa using this
end
section
variable {w n : Nat} {f : Nat → Bool} {v : Int}
theorem on_A {m:Int} (h:onK w n f m):(m,m+1,m+w+2)∈eF w f n:=by
  obtain ⟨j,hj,hf,rfl⟩:=h
  exact mem_eF.2 ⟨j,hj,hf,by simp [tri]⟩
theorem on_B {m:Int} (h:onK w n f m):(m,m+w+2,m+w+1)∈eF w f n:=by
  obtain ⟨j,hj,hf,rfl⟩:=h
  exact mem_eF.2 ⟨j,hj,hf,by simp [tri]⟩
theorem fc_of {g:V3} {a b:Int} (hg:g∈eF w f n) (hv:hasV g v=true) (ha:hasV g a=true) (hb:hasV g b=true):∃i,fc (eF w f n) v a b i:=by
  obtain ⟨i,hi,e⟩:=mem_at_of hg hv
  exact ⟨i,hi,by rw [e];exact ha,by rw [e];exact hb⟩
theorem kinds {i:Int} (h:i∈at_ (eF w f n) v):(onK w n f (v - w - 2)∧hasV ((eF w f n).getD i.toNat (0,0,0)) (v - w - 2)=true)∨(onK w n f (v - w - 1)∧hasV ((eF w f n).getD i.toNat (0,0,0)) (v - w - 1)=true)∨(onK w n f (v - 1)∧hasV ((eF w f n).getD i.toNat (0,0,0)) (v - 1)=true)∨(onK w n f v∧hasV ((eF w f n).getD i.toNat (0,0,0)) (v+w+2)=true):=by
  obtain ⟨h1,h2⟩:=at_has h
  generalize (eF w f n).getD i.toNat (0,0,0)=g at h1 h2 ⊢
  obtain ⟨j,hj,hf,hg⟩:=mem_eF.1 h1
  simp only [tri,List.mem_cons,List.not_mem_nil,or_false] at hg
  have hk:∀m:Int,((kk w j:Nat):Int)=m→onK w n f m:=fun m e=>⟨j,hj,hf,e⟩
  unfold hasV at h2 ⊢
  rw [decide_eq_true_iff] at h2
  simp only [decide_eq_true_iff]
  rcases hg with rfl|rfl
  · dsimp only at h2 ⊢
    rcases h2 with h2|h2|h2
    · exact .inr (.inr (.inr ⟨hk _ h2,by omega⟩))
    · exact .inr (.inr (.inl ⟨hk _ (by omega),by omega⟩))
    · exact .inl ⟨hk _ (by omega),by omega⟩
  · dsimp only at h2 ⊢
    rcases h2 with h2|h2|h2
    · exact .inr (.inr (.inr ⟨hk _ h2,by omega⟩))
    · exact .inl ⟨hk _ (by omega),by omega⟩
    · exact .inr (.inl ⟨hk _ (by omega),by omega⟩)
theorem hv1 {g:V3} {a:Int} (h:g.1=a∨g.2.1=a∨g.2.2=a):hasV g a=true:=by unfold hasV;rw [decide_eq_true_iff];exact h
theorem star_ok (hF:(eF w f n).length≤1024) (hnt:NT w n f):starB (eF w f n) v (at_ (eF w f n) v)=true:=by
  refine (starB_iff fun i hi=> ?_).2 fun i hi m hm=> ?_
  · have:=at_mem hi;omega
  have l01:onK w n f (v - w - 2)→∃i,fc (eF w f n) v (v - w - 2) (v - w - 1) i:=fun h=>fc_of (on_A h) (hv1 (by dsimp only;omega)) (hv1 (by dsimp only;omega)) (hv1 (by dsimp only;omega))
  have l05:onK w n f (v - w - 2)→∃i,fc (eF w f n) v (v - w - 2) (v - 1) i:=fun h=>fc_of (on_B h) (hv1 (by dsimp only;omega)) (hv1 (by dsimp only;omega)) (hv1 (by dsimp only;omega))
  have l12:onK w n f (v - w - 1)→∃i,fc (eF w f n) v (v - w - 1) (v+1) i:=fun h=>fc_of (on_B h) (hv1 (by dsimp only;omega)) (hv1 (by dsimp only;omega)) (hv1 (by dsimp only;omega))
  have l23:onK w n f v→∃i,fc (eF w f n) v (v+1) (v+w+2) i:=fun h=>fc_of (on_A h) (hv1 (by dsimp only;omega)) (hv1 (by dsimp only;omega)) (hv1 (by dsimp only;omega))
  have l54:onK w n f (v - 1)→∃i,fc (eF w f n) v (v - 1) (v+w+1) i:=fun h=>fc_of (on_A h) (hv1 (by dsimp only;omega)) (hv1 (by dsimp only;omega)) (hv1 (by dsimp only;omega))
  have l43:onK w n f v→∃i,fc (eF w f n) v (v+w+1) (v+w+2) i:=fun h=>fc_of (on_B h) (hv1 (by dsimp only;omega)) (hv1 (by dsimp only;omega)) (hv1 (by dsimp only;omega))
  have r01:onK w n f (v - w - 2)→rc (eF w f n) v (v - w - 2) (v - w - 1):=fun h=>let ⟨_,q⟩:=l01 h;rc_of q (by omega) (by omega)
  have r05:onK w n f (v - w - 2)→rc (eF w f n) v (v - w - 2) (v - 1):=fun h=>let ⟨_,q⟩:=l05 h;rc_of q (by omega) (by omega)
  have r13:onK w n f (v - w - 1)→onK w n f v→rc (eF w f n) v (v - w - 1) (v+w+2):=fun h k=>by
    obtain ⟨_,q⟩:=l12 h;obtain ⟨_,q'⟩:=l23 k
    exact rc_trans (rc_of q (by omega) (by omega)) (rc_of q' (by omega) (by omega)) q.1 q.2.2
  have r53:onK w n f (v - 1)→onK w n f v→rc (eF w f n) v (v - 1) (v+w+2):=fun h k=>by
    obtain ⟨_,q⟩:=l54 h;obtain ⟨_,q'⟩:=l43 k
    exact rc_trans (rc_of q (by omega) (by omega)) (rc_of q' (by omega) (by omega)) q.1 q.2.2
  have r03:onK w n f (v - w - 2)→onK w n f v→rc (eF w f n) v (v - w - 2) (v+w+2):=fun h k=>by
    obtain ⟨_,q⟩:=l01 h;obtain ⟨_,q'⟩:=l05 h
    rcases (hnt v).1 h k with z|z
    · exact rc_trans (r01 h) (r13 z k) q.1 q.2.2
    · exact rc_trans (r05 h) (r53 z k) q'.1 q'.2.2
  have r15:onK w n f (v - w - 1)→onK w n f (v - 1)→rc (eF w f n) v (v - w - 1) (v - 1):=fun h k=>by
    rcases (hnt v).2 h k with z|z
    · obtain ⟨_, q⟩ := l01 z
      exact rc_trans (rc_sym (r01 z)) (r05 z) q.1 q.2.1
    · obtain ⟨_, q⟩ := l23 z
      exact rc_trans (r13 h z) (rc_sym (r53 k z)) q.1 q.2.2
  rcases kinds hi with ⟨a,ha⟩|⟨a,ha⟩|⟨a,ha⟩|⟨a,ha⟩ <;> rcases kinds hm with ⟨b,hb⟩|⟨b,hb⟩|⟨b,hb⟩|⟨b,hb⟩
  · exact rc_self (by omega) i m hi ha hm hb
  · exact r01 a i m hi ha hm hb
  · exact r05 a i m hi ha hm hb
  · exact r03 a b i m hi ha hm hb
  · exact rc_sym (r01 b) i m hi ha hm hb
  · exact rc_self (by omega) i m hi ha hm hb
  · exact r15 a b i m hi ha hm hb
  · exact r13 a b i m hi ha hm hb
  · exact rc_sym (r05 b) i m hi ha hm hb
  · exact rc_sym (r15 b a) i m hi ha hm hb
  · exact rc_self (by omega) i m hi ha hm hb
  · exact r53 a b i m hi ha hm hb
  · exact rc_sym (r03 b a) i m hi ha hm hb
  · exact rc_sym (r13 b a) i m hi ha hm hb
  · exact rc_sym (r53 b a) i m hi ha hm hb
  · exact rc_self (by omega) i m hi ha hm hb
theorem check_eF {h:Nat} (hw:0<w) (hh:0<h) (hn:n=w*h) (h100:n≤100) (hwh:w≤100∧h≤100) (hnt:NT w n f):check (eV w h) (eF w f n)=0:=by
  have hg:=good (f:=f) hw hn h100 hwh hh
  exact check_ok (form_zero.2 hg) (all_nd hw) fun v _=>star_ok hg.nf hnt
end
end Go.Proofs.Ytpdbimfnhglhpaa.Te
namespace Go.Proofs.Ytpdbimfnhglhpaa.Te
open Eu Fl
set_option linter.unusedVariables false
def cl (w h:Nat) (f:Nat→Bool) (e:(P2×P2)×(P2×P2)):Bool:=pic w h f e.2.1 != pic w h f e.2.2
def bA (w h:Nat) (f:Nat→Bool):DL P2 P2:=(grl w h).filter (cl w h f)
def bB (w h:Nat) (f:Nat→Bool):DL P2 P2:=(grl w h).filter (fun e=> !cl w h f e)
def NTp (w h:Nat) (f:Nat→Bool):Prop:=∀x y,(pic w h f (x,y)=true→pic w h f (x+1,y+1)=true→pic w h f (x+1,y)=true∨pic w h f (x,y+1)=true)∧(pic w h f (x+1,y)=true→pic w h f (x,y+1)=true→pic w h f (x,y)=true∨pic w h f (x+1,y+1)=true)
section
variable {w h n : Nat} {f g : Nat → Bool}
theorem b_perm:(bA w h f++bB w h f).Perm (grl w h):=List.filter_append_perm _ _
theorem pic_no {p:P2} (ho:¬inn w h p):pic w h f p=false:=by
  cases hc:pic w h f p
  · rfl
  · exact absurd (pic_iff.1 hc).1 ho
theorem pic_om (X Y:Nat):pic w h f (om w h X Y)=pic w h f (X,Y):=by
  unfold om
  split
  · rename_i c
    rw [pic_no (p:=(0,0)) (by unfold inn;dsimp only;omega),pic_no (p:=(X,Y)) (by unfold inn;dsimp only;omega)]
  · rfl
theorem om_inn {p:P2} (hp:inn w h p):om w h p.1 p.2=p:=by
  obtain ⟨⟨_,_⟩,_,_⟩:=hp
  unfold om;rw [if_neg (by omega)]
theorem om_out {p:P2} (h1:p.1≤w+1) (h2:p.2≤h+1) (ho:¬inn w h p):om w h p.1 p.2=(0,0):=by
  unfold om;rw [if_pos (by unfold inn at ho;omega)]
theorem du_v {X Y:Nat} (hX:X≤w+1) (hY:Y+1≤h+1) (hs:pic w h f (X,Y)=pic w h f (X,Y+1)):Cn (du (bB w h f)) (om w h X Y) (om w h X (Y+1)):=by
  by_cases q:1≤X∧X≤w
  · have hm := mem_hor (P := w) (Q := h) (x := X - 1) (y := Y) (by omega) (by omega)
    rw [show X - 1+1=X by omega] at hm
    exact du_of (List.mem_filter.2 ⟨hm,by unfold cl;dsimp only;rw [pic_om,pic_om,hs];simp⟩)
  · have e : ∀ Z, om w h X Z = (0, 0) := fun Z => by unfold om; rw [if_pos (by omega)]
    rw [e,e];exact .refl _
theorem du_h {X Y:Nat} (hX:X+1≤w+1) (hY:Y≤h+1) (hs:pic w h f (X,Y)=pic w h f (X+1,Y)):Cn (du (bB w h f)) (om w h X Y) (om w h (X+1) Y):=by
  by_cases q:1≤Y∧Y≤h
  · have hm := mem_ver (P := w) (Q := h) (x := X) (y := Y - 1) (by omega) (by omega)
    rw [show Y - 1+1=Y by omega] at hm
    exact (du_of (List.mem_filter.2 ⟨hm,by unfold cl;dsimp only;rw [pic_om,pic_om,hs];simp⟩)).symm
  · have e : ∀ Z, om w h Z Y = (0, 0) := fun Z => by unfold om; rw [if_pos (by omega)]
    rw [e,e];exact .refl _
theorem du_4 {p q:P2} (p1:p.1≤w+1) (p2:p.2≤h+1) (q1:q.1≤w+1) (q2:q.2≤h+1) (hk:kg p q) (he:p.1=q.1∨p.2=q.2) (hs:pic w h f p=pic w h f q):Cn (du (bB w h f)) (om w h p.1 p.2) (om w h q.1 q.2):=by
  obtain ⟨x,y⟩:=p
  obtain ⟨u,v⟩:=q
  obtain ⟨⟨k1,k2⟩,k3,k4⟩:=hk
  dsimp only at*
  by_cases e1:x=u
  · subst e1
    by_cases e2:y=v
    · subst e2;exact .refl _
    · by_cases e3 : y < v
      · obtain rfl : v = y + 1 := by omega
        exact du_v p1 q2 hs
      · obtain rfl : y = v + 1 := by omega
        exact (du_v p1 p2 hs.symm).symm
  · obtain rfl : y = v := by omega
    by_cases e3:x<u
    · obtain rfl : u = x + 1 := by omega
      exact du_h q1 p2 hs
    · obtain rfl : x = u + 1 := by omega
      exact (du_h p1 p2 hs.symm).symm
theorem du_8 (hnt:NTp w h f) {p q:P2} (p1:p.1≤w+1) (p2:p.2≤h+1) (q1:q.1≤w+1) (q2:q.2≤h+1) (hk:kg p q) (hp:pic w h f p=false) (hq:pic w h f q=false):Cn (du (bB w h f)) (om w h p.1 p.2) (om w h q.1 q.2):=by
  by_cases he:p.1=q.1∨p.2=q.2
  · exact du_4 p1 p2 q1 q2 hk he (hp.trans hq.symm)
  · have two:∀r:P2,pic w h f r=false→(r=(p.1,q.2)∨r=(q.1,p.2))→Cn (du (bB w h f)) (om w h p.1 p.2) (om w h q.1 q.2):=fun r hr h2=>by
      unfold kg at hk
      rcases h2 with rfl|rfl
      · exact (du_4 p1 p2 (q:=(p.1,q.2)) p1 q2 (by unfold kg;dsimp only;omega) (.inl rfl) (hp.trans hr.symm)).trans (du_4 (p:=(p.1,q.2)) p1 q2 q1 q2 (by unfold kg;dsimp only;omega) (.inr rfl) (hr.trans hq.symm))
      · exact (du_4 p1 p2 (q:=(q.1,p.2)) q1 p2 (by unfold kg;dsimp only;omega) (.inr rfl) (hp.trans hr.symm)).trans (du_4 (p:=(q.1,p.2)) q1 p2 q1 q2 (by unfold kg;dsimp only;omega) (.inl rfl) (hr.trans hq.symm))
    cases ha:pic w h f (p.1,q.2)
    · exact two _ ha (.inl rfl)
    · cases hb : pic w h f (q.1, p.2)
      · exact two _ hb (.inr rfl)
      · exfalso
        obtain ⟨x,y⟩:=p
        obtain ⟨u,v⟩:=q
        obtain ⟨⟨k1,k2⟩,k3,k4⟩:=hk
        dsimp only at*
        rcases Nat.lt_or_gt_of_ne (show x≠u by omega) with a|a <;> rcases Nat.lt_or_gt_of_ne (show y≠v by omega) with b|b
        · obtain rfl : u = x + 1 := by omega
          obtain rfl:v=y+1:=by omega
          rcases (hnt x y).2 hb ha with z|z
          · rw [hp] at z;cases z
          · rw [hq] at z;cases z
        · obtain rfl : u = x + 1 := by omega
          obtain rfl:y=v+1:=by omega
          rcases (hnt x v).1 ha hb with z|z
          · rw [hq] at z;cases z
          · rw [hp] at z;cases z
        · obtain rfl : x = u + 1 := by omega
          obtain rfl:v=y+1:=by omega
          rcases (hnt u y).1 hb ha with z|z
          · rw [hp] at z;cases z
          · rw [hq] at z;cases z
        · obtain rfl : x = u + 1 := by omega
          obtain rfl:y=v+1:=by omega
          rcases (hnt u v).2 ha hb with z|z
          · rw [hq] at z;cases z
          · rw [hp] at z;cases z
theorem conn_on (hn:n=w*h) {i k:Nat} (hc:Fl.Conn (fun j=>f j=true) (nb false w n) i k):i<n→f i=true→Cn (du (bB w h f)) (pos w i) (pos w k):=by
  induction hc with
  |refl=>intro _ _;exact .refl _
  |step a b d _ ih=>
    intro hi hf
    obtain ⟨k1,k2⟩:=of_nb d
    have p:=pos_le hn hi;have q:=pos_le hn d.2.1
    have:=du_4 (f:=f) p.1 p.2 q.1 q.2 k1 (k2 rfl) (by rw [pic_pos hn hi,pic_pos hn d.2.1,a,b])
    rw [om_inn (pos_inn hn hi),om_inn (pos_inn hn d.2.1)] at this
    exact this.trans (ih d.2.1 b)
theorem conn_off (hnt:NTp w h f) (hn:n=w*h) (hg:∀j,j<n→(g j=true↔f j=false)) {i k:Nat} (hc:Fl.Conn (fun j=>g j=true) (nb true w n) i k):i<n→g i=true→Cn (du (bB w h f)) (pos w i) (pos w k):=by
  induction hc with
  |refl=>intro _ _;exact .refl _
  |step a b d _ ih=>
    intro hi hf
    obtain ⟨k1,k2⟩:=of_nb d
    have p:=pos_le hn hi;have q:=pos_le hn d.2.1
    have:=du_8 hnt p.1 p.2 q.1 q.2 k1 (by rw [pic_pos hn hi];exact (hg _ hi).1 a) (by rw [pic_pos hn d.2.1];exact (hg _ d.2.1).1 b)
    rw [om_inn (pos_inn hn hi),om_inn (pos_inn hn d.2.1)] at this
    exact this.trans (ih d.2.1 b)
def wb (w h n:Nat) (f g:Nat→Bool) (c d:Nat→Nat) (u:P2):Nat ⊕ Option Nat:=if pic w h f u=true then .inl (c (ix w u)) else .inr (lab w h n g d u)
theorem wb_om {c d:Nat→Nat} {X Y:Nat} (hX:X≤w+1) (hY:Y≤h+1):wb w h n f g c d (om w h X Y)=wb w h n f g c d (X,Y):=by
  by_cases hi:inn w h (X,Y)
  · have:=om_inn hi;dsimp only at this;rw [this]
  · have := om_out (p := (X, Y)) hX hY hi; dsimp only at this; rw [this]
    unfold wb
    have z:¬inn w h (0,0):=by unfold inn;dsimp only;omega
    rw [pic_no z,pic_no hi,lab_out z,lab_out hi]
    rfl
theorem wb_kg {c d:Nat→Nat} (hn:n=w*h) (hc:Lst (fun j=>f j=true) (nb false w n) c) (hL:Lst (fun j=>g j=true) (nb true w n) d) (hg:∀j,j<n→(g j=true↔f j=false)) {u v:P2} (hk:kg u v) (he:u.1=v.1∨u.2=v.2) (hs:pic w h f u=pic w h f v):wb w h n f g c d u=wb w h n f g c d v:=by
  unfold wb
  cases hu:pic w h f u
  · rw [hu] at hs
    rw [← hs,if_neg (by decide),if_neg (by decide),lab_kg hn hL hg hu hs.symm hk]
  · rw [hu] at hs
    rw [← hs,if_pos rfl,if_pos rfl]
    by_cases e:u=v
    · rw [e]
    · exact congrArg Sum.inl (hc.same _ _ (pic_iff.1 hu).2 (pic_iff.1 hs.symm).2 (nb_of hn (pic_iff.1 hu).1 (pic_iff.1 hs.symm).1 hk e (.inr he)))
theorem classes {c d:Nat→Nat} (hnt:NTp w h f) (hn:n=w*h) (hf:∀j,f j=true→j<n) (hc:Lst (fun j=>f j=true) (nb false w n) c) (hL:Lst (fun j=>g j=true) (nb true w n) d) (hgn:∀j,g j=true→j<n) (hg:∀j,j<n→(g j=true↔f j=false)):
    Tv (du (bB w h f)) (win w h) ((0,0) :: (((List.range n).filter (ldr f c)).map (pos w)++(hls n w h g d).map (pos w))):=by
  have hlb:∀e∈du (bB w h f),wb w h n f g c d e.1=wb w h n f g c d e.2:=fun e he=>by
    obtain ⟨x,hx,rfl⟩:=List.mem_map.1 he
    obtain ⟨hm,ha⟩:=List.mem_filter.1 hx
    unfold cl at ha
    rcases mem_grl hm with ⟨x,y,h1,h2,rfl⟩|⟨x,y,h1,h2,rfl⟩
    · dsimp only at ha ⊢
      rw [pic_om,pic_om] at ha
      rw [wb_om (by omega) (by omega),wb_om (by omega) (by omega)]
      exact wb_kg hn hc hL hg (by unfold kg;dsimp only;omega) (.inl rfl) (by simpa using ha)
    · dsimp only at ha ⊢
      rw [pic_om,pic_om] at ha
      rw [wb_om (by omega) (by omega),wb_om (by omega) (by omega)]
      exact wb_kg hn hc hL hg (by unfold kg;dsimp only;omega) (.inr rfl) (by simpa using ha)
  have hld:∀j,j∈(List.range n).filter (ldr f c)→j<n∧f j=true∧c j=j:=fun j hj=>by
    obtain ⟨h1,h2⟩:=List.mem_filter.1 hj
    unfold ldr at h2
    simp only [Bool.and_eq_true,decide_eq_true_eq] at h2
    exact ⟨List.mem_range.1 h1,h2⟩
  have hwp:∀j,j<n→0<w:=fun j hj=>by have:=(pos_inn hn hj).1;omega
  have l0:wb w h n f g c d (0,0)= .inr none:=by
    have z:¬inn w h (0,0):=by unfold inn;dsimp only;omega
    unfold wb;rw [pic_no z,lab_out z];rfl
  have lr:∀j,j∈(List.range n).filter (ldr f c)→wb w h n f g c d (pos w j)= .inl j:=fun j hj=>by
    obtain ⟨j1,j2,j3⟩:=hld j hj
    unfold wb;rw [pic_pos hn j1,if_pos j2,ix_pos (hwp j j1),j3]
  have lh:∀j,j∈hls n w h g d→wb w h n f g c d (pos w j)= .inr (some j):=fun j hj=>by
    obtain ⟨j1,j2,j3,j4⟩:=mem_hls.1 hj
    have hp:pic w h f (pos w j)=false:=by rw [pic_pos hn j1];exact (hg _ j1).1 j2
    unfold wb;rw [hp,if_neg (by decide)];unfold lab;rw [ix_pos (hwp j j1),j3,if_pos ⟨pos_inn hn j1,j4⟩]
  have hlab:∀r∈((0,0) :: (((List.range n).filter (ldr f c)).map (pos w)++(hls n w h g d).map (pos w)):List P2),∀s∈((0,0) :: (((List.range n).filter (ldr f c)).map (pos w)++(hls n w h g d).map (pos w)):List P2),wb w h n f g c d r=wb w h n f g c d s→r=s:=fun r hr s hs e=>by
    rcases List.mem_cons.1 hr with rfl|hr
    · rcases List.mem_cons.1 hs with rfl | hs
      · rfl
      · rcases List.mem_append.1 hs with hs | hs
        · obtain ⟨j,hj,rfl⟩:=List.mem_map.1 hs;rw [l0,lr j hj] at e;cases e
        · obtain ⟨j,hj,rfl⟩:=List.mem_map.1 hs;rw [l0,lh j hj] at e;cases e
    · rcases List.mem_append.1 hr with hr | hr
      · obtain ⟨i, hi, rfl⟩ := List.mem_map.1 hr
        rw [lr i hi] at e
        rcases List.mem_cons.1 hs with rfl|hs
        · rw [l0] at e;cases e
        · rcases List.mem_append.1 hs with hs | hs
          · obtain ⟨j,hj,rfl⟩:=List.mem_map.1 hs;rw [lr j hj] at e;rw [Sum.inl.inj e]
          · obtain ⟨j,hj,rfl⟩:=List.mem_map.1 hs;rw [lh j hj] at e;cases e
      · obtain ⟨i, hi, rfl⟩ := List.mem_map.1 hr
        rw [lh i hi] at e
        rcases List.mem_cons.1 hs with rfl|hs
        · rw [l0] at e;cases e
        · rcases List.mem_append.1 hs with hs | hs
          · obtain ⟨j,hj,rfl⟩:=List.mem_map.1 hs;rw [lr j hj] at e;cases e
          · obtain ⟨j,hj,rfl⟩:=List.mem_map.1 hs;rw [lh j hj] at e;rw [Option.some.inj (Sum.inr.inj e)]
  have hpw:∀j,j<n→pos w j∈win w h:=fun j hj=>by
    obtain ⟨⟨_,_⟩,_,_⟩:=pos_inn hn hj
    exact List.mem_cons_of_mem _ (List.mem_map.2 ⟨((pos w j).1 - 1,(pos w j).2 - 1),mem_gr.2 ⟨by dsimp only;omega,by dsimp only;omega⟩,Prod.ext (by dsimp only;omega) (by dsimp only;omega)⟩)
  refine ⟨List.nodup_cons.2 ⟨fun hm=> ?_,List.nodup_append.2 ⟨nd_map (List.nodup_range.filter _) fun a ha b hb e=>pos_inj (hwp a (hld a ha).1) e,nd_map (List.nodup_range.filter _) fun a ha b hb e=>pos_inj (hwp a (mem_hls.1 ha).1) e,fun a ha b hb e=> ?_⟩⟩,fun r hr=> ?_,fun v hv=> ?_,fun r hr s hs k=>hlab r hr s hs (k.const hlb)⟩
  · rcases List.mem_append.1 hm with hm | hm <;>
    · obtain ⟨j, _, e⟩ := List.mem_map.1 hm
      have:=congrArg Prod.fst e;unfold pos at this;dsimp only at this;omega
  · obtain ⟨i, hi, rfl⟩ := List.mem_map.1 ha
    obtain ⟨j,hj,rfl⟩:=List.mem_map.1 hb
    have:=lr i hi
    rw [e,lh j hj] at this;cases this
  · rcases List.mem_cons.1 hr with rfl | hr
    · exact List.mem_cons_self ..
    · rcases List.mem_append.1 hr with hr | hr
      · obtain ⟨j,hj,rfl⟩:=List.mem_map.1 hr;exact hpw j (hld j hj).1
      · obtain ⟨j,hj,rfl⟩:=List.mem_map.1 hr;exact hpw j (mem_hls.1 hj).1
  · rcases List.mem_cons.1 hv with rfl | hv
    · exact ⟨(0,0),List.mem_cons_self ..,.refl _⟩
    obtain ⟨p,hp,rfl⟩:=List.mem_map.1 hv
    obtain ⟨p1,p2⟩:=mem_gr.1 hp
    have hi:inn w h (p.1+1,p.2+1):=by unfold inn;dsimp only;omega
    have hx:=ix_md hn hi
    cases hq:f (ix w (p.1+1,p.2+1))
    · have hgu : g (ix w (p.1 + 1, p.2 + 1)) = true := (hg _ hx.1).2 hq
      have hgd:=hL.mem hgu
      have hdn:=hgn _ hgd
      have h2:=conn_off hnt hn hg (hL.conn _ hgu) hx.1 hgu
      rw [pos_ix hn hi] at h2
      by_cases hb:brd n g d (edg w h) (d (ix w (p.1+1,p.2+1)))=true
      · obtain ⟨k, k1, k2, k3, k4⟩ := brd_iff.1 hb
        have h3:=conn_off hnt hn hg (hL.conn _ k2) k1 k2
        rw [k4] at h3
        have hpk:pic w h f (pos w k)=false:=by rw [pic_pos hn k1];exact (hg _ k1).1 k2
        have hpl:=pos_le hn k1
        have hin:=pos_inn hn k1
        have hq:∃q:P2,¬inn w h q∧q.1≤w+1∧q.2≤h+1∧kg (pos w k) q:=by
          have k5:=edg_iff.1 k3
          have e1:(pos w k).1=k%w+1:=rfl
          have e2:(pos w k).2=k / w+1:=rfl
          rcases k5 with k5|k5|k5|k5
          · exact ⟨(0,(pos w k).2),by unfold inn;dsimp only;omega,by dsimp only;omega,by dsimp only;omega,by unfold kg;dsimp only;omega⟩
          · exact ⟨((pos w k).1,0),by unfold inn;dsimp only;omega,by dsimp only;omega,by dsimp only;omega,by unfold kg;dsimp only;omega⟩
          · exact ⟨(w+1,(pos w k).2),by unfold inn;dsimp only;omega,by dsimp only;omega,by dsimp only;omega,by unfold kg;dsimp only;omega⟩
          · exact ⟨((pos w k).1,h+1),by unfold inn;dsimp only;omega,by dsimp only;omega,by dsimp only;omega,by unfold kg;dsimp only;omega⟩
        obtain ⟨q,q1,q2,q3,q4⟩:=hq
        have h4:=du_8 hnt hpl.1 hpl.2 q2 q3 q4 hpk (pic_no q1)
        rw [om_inn hin,om_out q2 q3 q1] at h4
        exact ⟨(0,0),List.mem_cons_self ..,h2.trans (h3.symm.trans h4)⟩
      · exact ⟨pos w (d (ix w (p.1+1,p.2+1))),List.mem_cons_of_mem _ (List.mem_append_right _ (List.mem_map.2 ⟨_,mem_hls.2 ⟨hdn,hgd,hL.idem hgu,hb⟩,rfl⟩)),h2⟩
    · have hfc := hc.mem hq
      have h2:=conn_on hn (hc.conn _ hq) hx.1 hq
      rw [pos_ix hn hi] at h2
      refine ⟨pos w (c (ix w (p.1+1,p.2+1))),List.mem_cons_of_mem _ (List.mem_append_left _ (List.mem_map.2 ⟨_,List.mem_filter.2 ⟨List.mem_range.2 (hf _ hfc),?_⟩,rfl⟩)),h2⟩
      unfold ldr;simp only [Bool.and_eq_true,decide_eq_true_eq];exact ⟨hfc,hc.idem hq⟩
end
end Go.Proofs.Ytpdbimfnhglhpaa.Te
namespace Go.Proofs.Ytpdbimfnhglhpaa.Te
open Eu Fl
set_option linter.unusedVariables false
def num (w:Nat) (p:P2):Nat:=p.2*(w+1)+p.1
def cor (w:Nat) (u:Int):P2:=(u.toNat%(w+1),u.toNat / (w+1))
section
variable {w h n : Nat} {f : Nat → Bool}
theorem num_md {p:P2} (hp:p.1≤w):num w p%(w+1)=p.1∧num w p / (w+1)=p.2:=by
  unfold num
  rw [Nat.mul_comm]
  constructor
  · rw [Nat.mul_add_mod,Nat.mod_eq_of_lt (by omega)]
  · rw [Nat.mul_add_div (by omega),Nat.div_eq_of_lt (by omega)];rfl
theorem num_inj {p q:P2} (hp:p.1≤w) (hq:q.1≤w) (e:num w p=num w q):p=q:=by
  have h1:=num_md hp
  have h2:=num_md hq
  rw [e] at h1
  exact Prod.ext (h1.1.symm.trans h2.1) (h1.2.symm.trans h2.2)
theorem cor_num {p:P2} (hp:p.1≤w):cor w (num w p:Nat)=p:=by
  unfold cor
  rw [Int.toNat_natCast]
  have:=num_md hp
  exact Prod.ext this.1 this.2
theorem num_cor {u:Int} (h0:0≤u):(num w (cor w u):Int)=u:=by
  unfold num cor
  have:=Nat.div_add_mod u.toNat (w+1)
  rw [Nat.mul_comm] at this
  dsimp only;rw [this];omega
theorem cor_le (u:Int):(cor w u).1≤w:=by
  unfold cor
  have:=Nat.mod_lt u.toNat (show 0<w+1 by omega)
  dsimp only;omega
theorem num_lt {p:P2} (h1:p.1≤w) (h2:p.2≤h):num w p<(w+1)*(h+1):=by
  unfold num
  have:=Nat.mul_le_mul_right (w+1) h2
  rw [Nat.mul_comm (w+1) (h+1),Nat.succ_mul];omega
theorem cor_lt {u:Int} (h0:0≤u) (h1:u<((w+1)*(h+1):Nat)):(cor w u).2≤h:=by
  unfold cor
  have:u.toNat / (w+1)<h+1:=Nat.div_lt_of_lt_mul (by omega)
  dsimp only;omega
theorem num_r (w x y:Nat):num w (x+1,y)=num w (x,y)+1:=by unfold num;dsimp only;omega
theorem num_d (w x y:Nat):num w (x,y+1)=num w (x,y)+w+1:=by unfold num;dsimp only;rw [Nat.succ_mul];omega
theorem onK_of {m:Int} (hw:0<w) (hn:n=w*h) (hk:onK w n f m):∃p:P2,p.1<w∧p.2<h∧m=(num w p:Nat)∧pic w h f (p.1+1,p.2+1)=true:=by
  obtain ⟨j,hj,hf,rfl⟩:=hk
  refine ⟨(j%w,j / w),Nat.mod_lt _ hw,Nat.div_lt_of_lt_mul (hn ▸ hj),?_,?_⟩
  · unfold num kk;rfl
  · have := pic_pos (f := f) hn hj
    unfold pos at this
    dsimp only at this ⊢
    rw [this];exact hf
theorem onK_num (hw:0<w) (hn:n=w*h) {p:P2} (hp:p.1≤w):onK w n f (num w p:Nat)↔pic w h f (p.1+1,p.2+1)=true:=by
  constructor
  · intro hk
    obtain ⟨q,q1,q2,e,hq⟩:=onK_of hw hn hk
    have:p=q:=num_inj (w:=w) hp (by omega) (by omega)
    rw [this];exact hq
  · intro hq
    obtain ⟨hi,hf⟩:=pic_iff.1 hq
    have hx:=ix_md hn hi
    refine ⟨_,hx.1,hf,?_⟩
    unfold kk num
    rw [hx.2.1,hx.2.2]
    dsimp only
    simp only [Nat.add_sub_cancel]
theorem onK_up (hw:0<w) (hn:n=w*h) {p:P2} (hp:p.1≤w):onK w n f ((num w p:Nat) - w - 1)↔pic w h f (p.1+1,p.2)=true:=by
  obtain ⟨x,y⟩:=p
  dsimp only at hp ⊢
  cases y with
  |zero=>
    rw [pic_no (by unfold inn;dsimp only;omega)]
    constructor
    · intro hk
      obtain ⟨q,q1,q2,e,hq⟩:=onK_of hw hn hk
      unfold num at e;dsimp only at e;omega
    · intro k;cases k
  |succ y=>
    rw [show ((num w (x,y+1):Nat):Int) - w - 1=(num w (x,y):Nat) by rw [num_d];omega]
    exact onK_num hw hn hp
theorem onK_lf (hw:0<w) (hn:n=w*h) {p:P2} (hp:p.1≤w):onK w n f ((num w p:Nat) - 1)↔pic w h f (p.1,p.2+1)=true:=by
  obtain ⟨x,y⟩:=p
  dsimp only at hp ⊢
  cases x with
  |zero=>
    rw [pic_no (by unfold inn;dsimp only;omega)]
    constructor
    · intro hk
      cases y with
      |zero=>
        obtain ⟨q,q1,q2,e,hq⟩:=onK_of hw hn hk
        unfold num at e;dsimp only at e;omega
      |succ y=>
        rw [show ((num w (0,y+1):Nat):Int) - 1=(num w (w,y):Nat) by rw [num_d];unfold num;dsimp only;omega] at hk
        have:=(onK_num hw hn (p:=(w,y)) (Nat.le_refl _)).1 hk
        rw [pic_no (by unfold inn;dsimp only;omega)] at this;cases this
    · intro k;cases k
  |succ x=>
    rw [show ((num w (x+1,y):Nat):Int) - 1=(num w (x,y):Nat) by rw [num_r];omega]
    exact onK_num hw hn (p:=(x,y)) (by dsimp only;omega)
theorem onK_ul (hw:0<w) (hn:n=w*h) {p:P2} (hp:p.1≤w):onK w n f ((num w p:Nat) - w - 2)↔pic w h f (p.1,p.2)=true:=by
  obtain ⟨x,y⟩:=p
  dsimp only at hp ⊢
  cases y with
  |zero=>
    rw [pic_no (by unfold inn;dsimp only;omega)]
    constructor
    · intro hk
      obtain ⟨q,q1,q2,e,hq⟩:=onK_of hw hn hk
      unfold num at e;dsimp only at e;omega
    · intro k;cases k
  |succ y=>
    rw [show ((num w (x,y+1):Nat):Int) - w - 2=(num w (x,y):Nat) - 1 by rw [num_d];omega]
    exact onK_lf hw hn hp
theorem nt_of (hw:0<w) (hn:n=w*h) (hnt:NTp w h f):NT w n f:=fun v=>by
  constructor
  · intro h1 h2
    obtain ⟨p,p1,p2,rfl,hp⟩:=onK_of hw hn h2
    rw [onK_ul hw hn (by omega)] at h1
    rw [onK_up hw hn (by omega),onK_lf hw hn (by omega)]
    exact (hnt p.1 p.2).1 h1 hp
  · intro h1 h2
    obtain ⟨p,p1,p2,e,hp⟩:=onK_of hw hn h2
    have ev:v=(num w (p.1+1,p.2):Nat):=by rw [num_r];show v=((num w p+1:Nat):Int);omega
    rw [ev,onK_up hw hn (by dsimp only;omega)] at h1
    rw [ev,onK_ul hw hn (by dsimp only;omega),onK_num hw hn (by dsimp only;omega)]
    exact (hnt (p.1+1) p.2).2 h1 hp
theorem allK {u v:Int}:(u,v)∈yd (eF w f n)↔(v=u+1∧onK w n f u)∨(v=u+w+1∧onK w n f (u - 1))∨(u=v+w+2∧onK w n f v)∨(v=u+w+2∧onK w n f u)∨(v=u - 1∧onK w n f (u - w - 2))∨(v=u - w - 1∧onK w n f v):=by
  rw [mem_all]
  constructor
  · rintro ⟨j, hj, hf, hm⟩
    rw [mem_six] at hm
    have hk:∀m:Int,((kk w j:Nat):Int)=m→onK w n f m:=fun m e=>⟨j,hj,hf,e⟩
    rcases hm with ⟨a,b⟩|⟨a,b⟩|⟨a,b⟩|⟨a,b⟩|⟨a,b⟩|⟨a,b⟩
    · exact .inl ⟨by omega,hk _ (by omega)⟩
    · exact .inr (.inl ⟨by omega,hk _ (by omega)⟩)
    · exact .inr (.inr (.inl ⟨by omega,hk _ (by omega)⟩))
    · exact .inr (.inr (.inr (.inl ⟨by omega,hk _ (by omega)⟩)))
    · exact .inr (.inr (.inr (.inr (.inl ⟨by omega,hk _ (by omega)⟩))))
    · exact .inr (.inr (.inr (.inr (.inr ⟨by omega,hk _ (by omega)⟩))))
  · rintro (⟨a,j,hj,hf,b⟩|⟨a,j,hj,hf,b⟩|⟨a,j,hj,hf,b⟩|⟨a,j,hj,hf,b⟩|⟨a,j,hj,hf,b⟩|⟨a,j,hj,hf,b⟩) <;> exact ⟨j,hj,hf,mem_six.2 (by omega)⟩
theorem isB_iff (hw:0<w) {u v:Int}:Ms.isB (eF w f n) (u,v)↔(v=u+1∧onK w n f u∧¬onK w n f (u - w - 1))∨(v=u+w+1∧onK w n f (u - 1)∧¬onK w n f u)∨(v=u - 1∧onK w n f (u - w - 2)∧¬onK w n f (u - 1))∨(v=u - w - 1∧onK w n f v∧¬onK w n f (v - 1)):=by
  unfold Ms.isB
  rw [allK,allK]
  dsimp only
  constructor
  · rintro ⟨a | a | a | a | a | a, hb⟩
    · obtain ⟨rfl, a⟩ := a
      exact .inl ⟨rfl,a,fun k=>hb (.inr (.inr (.inr (.inr (.inl ⟨by omega,by rw [show u+1 - w - 2=u - w - 1 by omega];exact k⟩)))))⟩
    · obtain ⟨rfl, a⟩ := a
      exact .inr (.inl ⟨rfl,a,fun k=>hb (.inr (.inr (.inr (.inr (.inr ⟨by omega,k⟩)))))⟩)
    · exact absurd (.inr (.inr (.inr (.inl ⟨by omega,a.2⟩)))) hb
    · exact absurd (.inr (.inr (.inl ⟨by omega,a.2⟩))) hb
    · obtain ⟨rfl, a⟩ := a
      exact .inr (.inr (.inl ⟨rfl,a,fun k=>hb (.inl ⟨by omega,k⟩)⟩))
    · obtain ⟨rfl, a⟩ := a
      exact .inr (.inr (.inr ⟨rfl,a,fun k=>hb (.inr (.inl ⟨by omega,k⟩))⟩))
  · rintro (⟨rfl, a, b⟩ | ⟨rfl, a, b⟩ | ⟨rfl, a, b⟩ | ⟨rfl, a, b⟩)
    · refine ⟨.inl ⟨rfl, a⟩, ?_⟩
      rintro (⟨x,y⟩|⟨x,y⟩|⟨x,y⟩|⟨x,y⟩|⟨x,y⟩|⟨x,y⟩)
      · omega
      · omega
      · omega
      · omega
      · exact b (by rw [show u - w - 1=u+1 - w - 2 by omega];exact y)
      · omega
    · refine ⟨.inr (.inl ⟨rfl, a⟩), ?_⟩
      rintro (⟨x,y⟩|⟨x,y⟩|⟨x,y⟩|⟨x,y⟩|⟨x,y⟩|⟨x,y⟩)
      · omega
      · omega
      · omega
      · omega
      · omega
      · exact b y
    · refine ⟨.inr (.inr (.inr (.inr (.inl ⟨rfl, a⟩)))), ?_⟩
      rintro (⟨x,y⟩|⟨x,y⟩|⟨x,y⟩|⟨x,y⟩|⟨x,y⟩|⟨x,y⟩)
      · exact b y
      · omega
      · omega
      · omega
      · omega
      · omega
    · refine ⟨.inr (.inr (.inr (.inr (.inr ⟨rfl, a⟩)))), ?_⟩
      rintro (⟨x,y⟩|⟨x,y⟩|⟨x,y⟩|⟨x,y⟩|⟨x,y⟩|⟨x,y⟩)
      · omega
      · exact b y
      · omega
      · omega
      · omega
      · omega
def dirE (w h:Nat) (f:Nat→Bool) (e:(P2×P2)×(P2×P2)):Int×Int:=if pic w h f e.2.2=true then ((num w e.1.1:Nat),(num w e.1.2:Nat)) else ((num w e.1.2:Nat),(num w e.1.1:Nat))
theorem dir_B (hw:0<w) (hn:n=w*h) {e:(P2×P2)×(P2×P2)} (he:e∈bA w h f):Ms.isB (eF w f n) (dirE w h f e):=by
  obtain ⟨hm,ha⟩:=List.mem_filter.1 he
  unfold cl at ha
  unfold dirE
  rcases mem_grl hm with ⟨x,y,h1,h2,rfl⟩|⟨x,y,h1,h2,rfl⟩
  · dsimp only at ha ⊢
    rw [pic_om,pic_om] at ha
    rw [pic_om]
    have k1:=onK_num (f:=f) hw hn (p:=(x,y)) (by dsimp only;omega)
    have k2:=onK_up (f:=f) hw hn (p:=(x,y)) (by dsimp only;omega)
    dsimp only at k1 k2
    rw [num_r]
    split
    · rename_i c
      rw [c] at ha
      exact (isB_iff hw).2 (.inl ⟨by omega,k1.2 c,fun k=>by rw [k2.1 k] at ha;cases ha⟩)
    · rename_i c
      have c2:pic w h f (x+1,y)=true:=by simpa [c] using ha
      exact (isB_iff hw).2 (.inr (.inr (.inl ⟨by omega,by rw [show ((num w (x,y)+1:Nat):Int) - w - 2=(num w (x,y):Nat) - w - 1 by omega];exact k2.2 c2,fun k=>c (k1.1 (by rw [show ((num w (x,y)+1:Nat):Int) - 1=(num w (x,y):Nat) by omega] at k;exact k))⟩)))
  · dsimp only at ha ⊢
    rw [pic_om,pic_om] at ha
    rw [pic_om]
    have k1:=onK_num (f:=f) hw hn (p:=(x,y)) (by dsimp only;omega)
    have k2:=onK_lf (f:=f) hw hn (p:=(x,y)) (by dsimp only;omega)
    dsimp only at k1 k2
    rw [num_d]
    split
    · rename_i c
      rw [c] at ha
      exact (isB_iff hw).2 (.inr (.inl ⟨by omega,k2.2 c,fun k=>by rw [k1.1 k] at ha;cases ha⟩))
    · rename_i c
      have c2:pic w h f (x+1,y+1)=true:=by simpa [c] using ha
      exact (isB_iff hw).2 (.inr (.inr (.inr ⟨by omega,k1.2 c2,fun k=>c (k2.1 k)⟩)))
theorem dir_sur (hw:0<w) (hn:n=w*h) {u v:Int} (hb:Ms.isB (eF w f n) (u,v)):∃e∈bA w h f,dirE w h f e=(u,v):=by
  rcases (isB_iff hw).1 hb with ⟨rfl,a,b⟩|⟨rfl,a,b⟩|⟨rfl,a,b⟩|⟨e,a,b⟩
  · obtain ⟨p, p1, p2, rfl, hp⟩ := onK_of hw hn a
    have k2:=(not_congr (onK_up (f:=f) hw hn (p:=p) (by omega))).1 b
    have hm:=mem_hor (P:=w) (Q:=h) (x:=p.1) (y:=p.2) p1 (by omega)
    refine ⟨_,List.mem_filter.2 ⟨hm,?_⟩,?_⟩
    · unfold cl;dsimp only;rw [pic_om,pic_om,hp];simpa using k2
    · unfold dirE;dsimp only;rw [pic_om,if_pos hp,num_r];rfl
  · obtain ⟨p, p1, p2, e, hp⟩ := onK_of hw hn a
    have eu:u=(num w (p.1+1,p.2):Nat):=by rw [num_r];show u=((num w p+1:Nat):Int);omega
    rw [eu] at b ⊢
    have k2:=(not_congr (onK_num (f:=f) hw hn (p:=(p.1+1,p.2)) (by dsimp only;omega))).1 b
    have hm:=mem_ver (P:=w) (Q:=h) (x:=p.1+1) (y:=p.2) (by omega) p2
    refine ⟨_,List.mem_filter.2 ⟨hm,?_⟩,?_⟩
    · unfold cl;dsimp only;rw [pic_om,pic_om,hp];simpa using k2
    · unfold dirE;dsimp only;rw [pic_om,if_pos hp,num_d];congr 1
  · obtain ⟨p, p1, p2, e, hp⟩ := onK_of hw hn a
    have eu:u=(num w (p.1+1,p.2+1):Nat):=by rw [num_r,num_d];show u=((num w p+w+1+1:Nat):Int);omega
    have ev:u - 1=(num w (p.1,p.2+1):Nat):=by rw [num_d];show u - 1=((num w p+w+1:Nat):Int);omega
    rw [ev] at b ⊢
    rw [eu]
    have k2:=(not_congr (onK_num (f:=f) hw hn (p:=(p.1,p.2+1)) (by dsimp only;omega))).1 b
    have hm:=mem_hor (P:=w) (Q:=h) (x:=p.1) (y:=p.2+1) p1 (by omega)
    refine ⟨_,List.mem_filter.2 ⟨hm,?_⟩,?_⟩
    · unfold cl;dsimp only;rw [pic_om,pic_om,hp];simpa using k2
    · unfold dirE;dsimp only;rw [pic_om,if_neg k2]
  · obtain ⟨p, p1, p2, rfl, hp⟩ := onK_of hw hn a
    have k2:=(not_congr (onK_lf (f:=f) hw hn (p:=p) (by omega))).1 b
    have hm:=mem_ver (P:=w) (Q:=h) (x:=p.1) (y:=p.2) (by omega) p2
    refine ⟨_,List.mem_filter.2 ⟨hm,?_⟩,?_⟩
    · unfold cl;dsimp only;rw [pic_om,pic_om,hp];simpa using k2
    · unfold dirE; dsimp only; rw [pic_om, if_neg k2, num_d]
      exact Prod.ext (by show ((num w p+w+1:Nat):Int)=u;omega) rfl
theorem dir_inj (hw:0<w) {e e':(P2×P2)×(P2×P2)} (he:e∈grl w h) (he':e'∈grl w h) (hd:dirE w h f e=dirE w h f e'):e=e':=by
  have key:∀{a b:P2},a.1≤w→b.1≤w→num w a=num w b→a=b:=fun h1 h2=>num_inj h1 h2
  unfold dirE at hd
  rcases mem_grl he with ⟨x,y,h1,h2,rfl⟩|⟨x,y,h1,h2,rfl⟩ <;> rcases mem_grl he' with ⟨x',y',h1',h2',rfl⟩|⟨x',y',h1',h2',rfl⟩
  · dsimp only at hd
    rw [num_r,num_r] at hd
    have:num w (x,y)=num w (x',y'):=by split at hd <;> split at hd <;> (have a:=congrArg Prod.fst hd;have b:=congrArg Prod.snd hd;dsimp only at a b;omega)
    have:=key (a:=(x,y)) (b:=(x',y')) (by dsimp only;omega) (by dsimp only;omega) this
    cases this;rfl
  · exfalso
    dsimp only at hd
    rw [num_r,num_d] at hd
    split at hd <;> split at hd <;> (have a:=congrArg Prod.fst hd;have b:=congrArg Prod.snd hd;dsimp only at a b;omega)
  · exfalso
    dsimp only at hd
    rw [num_r,num_d] at hd
    split at hd <;> split at hd <;> (have a:=congrArg Prod.fst hd;have b:=congrArg Prod.snd hd;dsimp only at a b;omega)
  · dsimp only at hd
    rw [num_d,num_d] at hd
    have:num w (x,y)=num w (x',y'):=by split at hd <;> split at hd <;> (have a:=congrArg Prod.fst hd;have b:=congrArg Prod.snd hd;dsimp only at a b;omega)
    have:=key (a:=(x,y)) (b:=(x',y')) (by dsimp only;omega) (by dsimp only;omega) this
    cases this;rfl
theorem grl_nd (w h:Nat):(grl w h).Nodup:=by
  unfold grl
  refine List.nodup_append.2 ⟨nd_map (gr_nd _ _) fun a _ b _ e=> ?_,nd_map (gr_nd _ _) fun a _ b _ e=> ?_,fun a ha b hb e=> ?_⟩
  · exact congrArg (fun z=>z.1.1) e
  · exact congrArg (fun z=>z.1.1) e
  · obtain ⟨p, _, rfl⟩ := List.mem_map.1 ha
    obtain ⟨q,_,rfl⟩:=List.mem_map.1 hb
    have e1:=congrArg (fun z=>z.1.1) e
    have e2:=congrArg (fun z=>z.1.2.1) e
    dsimp only at e1 e2
    rw [e1] at e2;omega
theorem bA_len (hw:0<w) (hn:n=w*h):(bA w h f).length=(yg (eF w f n)).length:=by
  have nd1:((bA w h f).map (dirE w h f)).Nodup:=nd_map ((grl_nd w h).filter _) fun a ha b hb e=>dir_inj hw (List.mem_filter.1 ha).1 (List.mem_filter.1 hb).1 e
  have nd2:(yg (eF w f n)).Nodup:=(all_nd hw).filter _
  have l1:=nd_len (O:=yg (eF w f n)) nd1 fun x hx=>by
    obtain ⟨e,he,rfl⟩:=List.mem_map.1 hx
    exact yc.2 (dir_B hw hn he)
  have l2:=nd_len (O:=(bA w h f).map (dirE w h f)) nd2 fun x hx=>by
    obtain ⟨e,he,k⟩:=dir_sur (u:=x.1) (v:=x.2) hw hn (yc.1 hx)
    exact List.mem_map.2 ⟨e,he,k⟩
  rw [List.length_map] at l1 l2
  omega
end
end Go.Proofs.Ytpdbimfnhglhpaa.Te
namespace Go.Proofs.Ytpdbimfnhglhpaa.Te
open Eu Fl
open Go.Proofs.Ytpdbimfnhglhpaa.Sp (mget)
set_option linter.unusedVariables false
section
variable {L : List (List Int)}
theorem fl_uniq (hn:L.flatten.Nodup) {l l':List Int} (hl:l∈L) (hl':l'∈L) {x:Int} (h1:x∈l) (h2:x∈l'):l=l':=by
  induction L with
  |nil=>cases hl
  |cons a t ih=>
    rw [List.flatten_cons,List.nodup_append] at hn
    rcases List.mem_cons.1 hl with e|k <;> rcases List.mem_cons.1 hl' with e'|k'
    · rw [e,e']
    · rw [e] at h1;exact absurd rfl (hn.2.2 x h1 x (List.mem_flatten.2 ⟨l',k',h2⟩))
    · rw [e'] at h2;exact absurd rfl (hn.2.2 x h2 x (List.mem_flatten.2 ⟨l,k,h1⟩))
    · exact ih hn.2.1 k k'
theorem heads_nd (hn:L.flatten.Nodup) (hp:∀l∈L,0<l.length):(L.map fun l=>l.getD 0 0).Nodup:=by
  induction L with
  |nil=>simp
  |cons a t ih=>
    rw [List.flatten_cons,List.nodup_append] at hn
    rw [List.map_cons,List.nodup_cons]
    refine ⟨fun hm=> ?_,ih hn.2.1 fun l hl=>hp l (by simp [hl])⟩
    obtain ⟨l,hl,e⟩:=List.mem_map.1 hm
    have h1:a.getD 0 0∈a:=yb 0 (hp a (by simp))
    have h2:l.getD 0 0∈l:=yb 0 (hp l (by simp [hl]))
    exact hn.2.2 _ h1 _ (List.mem_flatten.2 ⟨l,hl,h2⟩) e.symm
theorem find_of (hn:L.flatten.Nodup) {l:List Int} (hl:l∈L) {x:Int} (hx:x∈l):L.find? (fun l=>decide (x∈l))=some l:=by
  cases hc:L.find? (fun l=>decide (x∈l)) with
  |none=>
    have:=List.find?_eq_none.1 hc l hl
    simp [hx] at this
  |some l'=>
    have h1:=List.mem_of_find?_eq_some hc
    have h2:=List.find?_some hc
    rw [fl_uniq hn h1 hl (x:=x) (by simpa using h2) hx]
end
section
variable {w h n : Nat} {f g : Nat → Bool} {bm : List (Int × Int)}
theorem link_ends {e:(P2×P2)×(P2×P2)} (he:e∈grl w h):(e.1.1.1≤w∧e.1.1.2≤h)∧e.1.2.1≤w∧e.1.2.2≤h:=by
  rcases mem_grl he with ⟨x,y,h1,h2,rfl⟩|⟨x,y,h1,h2,rfl⟩ <;> dsimp only <;> omega
theorem loops_count {c d:Nat→Nat} (hw:0<w) (hnt:NTp w h f) (hn:n=w*h) (hf:∀j,f j=true→j<n) (hc:Lst (fun j=>f j=true) (nb false w n) c) (hL:Lst (fun j=>g j=true) (nb true w n) d) (hgn:∀j,g j=true→j<n) (hg:∀j,j<n→(g j=true↔f j=false))
    (hck:Ms.check (eV w h) (eF w f n)=0) (hb:Ms.BMap (eF w f n) bm):(Ms.loops (fun jj=>mget bm jj) (eV w h).length).length=((List.range n).filter (ldr f c)).length+(hls n w h g d).length:=by
  obtain ⟨hN,hget⟩:=Ms.nxt_of hck hb
  obtain ⟨s1,s2,s3⟩:=Ms.loops_spec hN
  generalize Ms.loops (fun jj=>mget bm jj) (eV w h).length=L at s1 s2 s3 ⊢
  rw [eV_len] at hN
  have hcls:=classes hnt hn hf hc hL hgn hg
  -- a border edge links its corners
  have fa:∀u v,mget bm u=some v→Cn (pr (bA w h f)) (cor w u) (cor w v):=fun u v k=>by
    obtain ⟨e,he,hd⟩:=dir_sur (u:=u) (v:=v) hw hn (hb.some_ _ _ k)
    obtain ⟨⟨a1,_⟩,a2,_⟩:=link_ends (List.mem_filter.1 he).1
    have hl:Cn (pr (bA w h f)) e.1.1 e.1.2:=Cn.one (List.mem_map.2 ⟨e,he,rfl⟩)
    unfold dirE at hd
    split at hd
    · have e1 := congrArg Prod.fst hd; have e2 := congrArg Prod.snd hd
      dsimp only at e1 e2
      rw [← e1,←e2,cor_num a1,cor_num a2];exact hl
    · have e1 := congrArg Prod.fst hd; have e2 := congrArg Prod.snd hd
      dsimp only at e1 e2
      rw [← e1,←e2,cor_num a1,cor_num a2];exact hl.symm
  have fb:∀e∈pr (bA w h f),(mget bm (num w e.1:Nat)=some ((num w e.2:Nat):Int))∨(mget bm (num w e.2:Nat)=some ((num w e.1:Nat):Int)):=fun e he=>by
    obtain ⟨x,hx,rfl⟩:=List.mem_map.1 he
    have:=dir_B hw hn hx
    unfold dirE at this
    split at this
    · exact .inl (hget _ _ this)
    · exact .inr (hget _ _ this)
  have inl:∀u v,mget bm u=some v→∃l∈L,u∈l∧v∈l:=fun u v k=>by
    obtain ⟨l,hl,hu⟩:=List.mem_flatten.1 (s3 u v k)
    obtain ⟨i,hi,rfl⟩:=Ms.mem_getD 0 hu
    have hc:=(s2 l hl).next i hi
    have e:v=l.getD ((i+1)%l.length) 0:=by
      have:some v=some (l.getD ((i+1)%l.length) 0):=k.symm.trans hc
      exact Option.some.inj this
    exact ⟨l,hl,hu,by rw [e];exact yb 0 (Nat.mod_lt _ (s2 l hl).ne)⟩
  -- all corners of a loop are linked
  have lp:∀l∈L,∀i,i<l.length→Cn (pr (bA w h f)) (cor w (l.getD 0 0)) (cor w (l.getD i 0)):=fun l hl i=>by
    induction i with
    |zero=>intro _;exact .refl _
    |succ i ih=>
      intro hi
      have hc:=(s2 l hl).next i (by omega)
      rw [Nat.mod_eq_of_lt hi] at hc
      exact (ih (by omega)).trans (fa _ _ hc)
  have hhd:∀l∈L,∃v,mget bm (l.getD 0 0)=some v:=fun l hl=>⟨_,(s2 l hl).next 0 (s2 l hl).ne⟩
  let bc:P2→Bool:=fun p=>(mget bm (num w p:Nat)).isSome
  have hbc:∀l∈L,(cor w (l.getD 0 0)).1≤w∧(cor w (l.getD 0 0)).2≤h∧num w (cor w (l.getD 0 0))=l.getD 0 0:=fun l hl=>by
    obtain ⟨v,hv⟩:=hhd l hl
    have:=(hN.rng _ _ hv).1
    exact ⟨cor_le _,cor_lt this.1 this.2,num_cor this.1⟩
  have hbs:∀l∈L,bc (cor w (l.getD 0 0))=true:=fun l hl=>by
    show (mget bm (num w (cor w (l.getD 0 0)):Nat)).isSome=true
    rw [(hbc l hl).2.2]
    obtain ⟨v,hv⟩:=hhd l hl
    rw [hv];rfl
  let lb:P2→Option (List Int) ⊕ P2:=fun p=>if bc p=true then .inl (L.find? (fun l=>decide (((num w p:Nat):Int)∈l))) else .inr p
  have hlb:∀e∈pr (bA w h f),lb e.1=lb e.2:=fun e he=>by
    have one:∀a b:P2,mget bm (num w a:Nat)=some ((num w b:Nat):Int)→lb a=lb b:=fun a b k=>by
      have k1:bc a=true:=by show (mget bm (num w a:Nat)).isSome=true;rw [k];rfl
      obtain ⟨z,hz⟩:=hN.go _ _ k
      have k2:bc b=true:=by
        show (mget bm (num w b:Nat)).isSome=true
        have hz:mget bm (num w b:Nat)=some z:=hz
        rw [hz];rfl
      obtain ⟨l,hl,h1,h2⟩:=inl _ _ k
      show (if bc a=true then Sum.inl _ else Sum.inr a)=if bc b=true then Sum.inl _ else Sum.inr b
      rw [if_pos k1,if_pos k2,find_of s1 hl h1,find_of s1 hl h2]
    rcases fb e he with k|k
    · exact one _ _ k
    · exact (one _ _ k).symm
  have hT:Tv (pr (bA w h f)) (gr (w+1) (h+1)) ((gr (w+1) (h+1)).filter (fun p=> !bc p)++(L.map fun l=>l.getD 0 0).map (cor w)):=by
    refine ⟨List.nodup_append.2 ⟨(gr_nd _ _).filter _,nd_map (heads_nd s1 fun l hl=>(s2 l hl).ne) fun a ha b hb e=> ?_,fun a ha b hb e=> ?_⟩,fun r hr=> ?_,fun v hv=> ?_,fun r hr s hs k=> ?_⟩
    · obtain ⟨l, hl, rfl⟩ := List.mem_map.1 ha
      obtain ⟨m,hm,rfl⟩:=List.mem_map.1 hb
      rw [← (hbc l hl).2.2,←(hbc m hm).2.2,e]
    · subst e
      obtain ⟨x,hx,rfl⟩:=List.mem_map.1 hb
      obtain ⟨l,hl,rfl⟩:=List.mem_map.1 hx
      have:=(List.mem_filter.1 ha).2
      rw [hbs l hl] at this;cases this
    · rcases List.mem_append.1 hr with hr | hr
      · exact (List.mem_filter.1 hr).1
      · obtain ⟨x, hx, rfl⟩ := List.mem_map.1 hr
        obtain ⟨l,hl,rfl⟩:=List.mem_map.1 hx
        have:=hbc l hl
        exact mem_gr.2 ⟨by omega,by omega⟩
    · by_cases hq : bc v = true
      · obtain ⟨z, hz⟩ := Option.isSome_iff_exists.1 hq
        obtain ⟨l,hl,h1,h2⟩:=inl _ _ hz
        obtain ⟨i,hi,e⟩:=Ms.mem_getD 0 h1
        refine ⟨cor w (l.getD 0 0),List.mem_append_right _ (List.mem_map.2 ⟨_,List.mem_map.2 ⟨l,hl,rfl⟩,rfl⟩),?_⟩
        have:=lp l hl i hi
        rw [e,cor_num (by have:=(mem_gr.1 hv).1;omega)] at this
        exact this.symm
      · exact ⟨v,List.mem_append_left _ (List.mem_filter.2 ⟨hv,by simpa using hq⟩),.refl _⟩
    · have e := k.const hlb
      have e:(if bc r=true then Sum.inl (L.find? (fun l=>decide (((num w r:Nat):Int)∈l))) else Sum.inr r)=if bc s=true then Sum.inl (L.find? (fun l=>decide (((num w s:Nat):Int)∈l))) else Sum.inr s:=e
      rcases List.mem_append.1 hr with hr|hr <;> rcases List.mem_append.1 hs with hs|hs
      · have hr2 := (List.mem_filter.1 hr).2
        have hs2:=(List.mem_filter.1 hs).2
        rw [if_neg (by simpa using hr2),if_neg (by simpa using hs2)] at e
        exact Sum.inr.inj e
      · obtain ⟨x, hx, rfl⟩ := List.mem_map.1 hs
        obtain ⟨l,hl,rfl⟩:=List.mem_map.1 hx
        have hr2:=(List.mem_filter.1 hr).2
        rw [if_neg (by simpa using hr2),if_pos (hbs l hl)] at e;cases e
      · obtain ⟨x, hx, rfl⟩ := List.mem_map.1 hr
        obtain ⟨l,hl,rfl⟩:=List.mem_map.1 hx
        have hs2:=(List.mem_filter.1 hs).2
        rw [if_pos (hbs l hl),if_neg (by simpa using hs2)] at e;cases e
      · obtain ⟨x, hx, rfl⟩ := List.mem_map.1 hr
        obtain ⟨l,hl,rfl⟩:=List.mem_map.1 hx
        obtain ⟨y,hy,rfl⟩:=List.mem_map.1 hs
        obtain ⟨m,hm,rfl⟩:=List.mem_map.1 hy
        rw [if_pos (hbs l hl),if_pos (hbs m hm),(hbc l hl).2.2,(hbc m hm).2.2,find_of s1 hl (yb 0 (s2 l hl).ne),find_of s1 hm (yb 0 (s2 m hm).ne)] at e
        rw [Option.some.inj (Sum.inl.inj e)]
  have hE:=(pln w h).euler b_perm hT hcls
  -- as many border corners as border edges
  have nd2:((yg (eF w f n)).map (·.1)).Nodup:=nd_map ((all_nd hw).filter _) fun a ha b hb e=>by
    have h1:=hget a.1 a.2 (yc.1 ha)
    have h2:=hget b.1 b.2 (yc.1 hb)
    rw [e,h2] at h1
    exact Prod.ext e (Option.some.inj h1).symm
  have nd1:(((gr (w+1) (h+1)).filter bc).map (fun p=>((num w p:Nat):Int))).Nodup:=nd_map ((gr_nd _ _).filter _) fun a ha b hb e=>by
    have h1:=(mem_gr.1 (List.mem_filter.1 ha).1).1
    have h2:=(mem_gr.1 (List.mem_filter.1 hb).1).1
    exact num_inj (w:=w) (by omega) (by omega) (by omega)
  have l1:=nd_len (O:=(yg (eF w f n)).map (·.1)) nd1 fun x hx=>by
    obtain ⟨p,hp,rfl⟩:=List.mem_map.1 hx
    obtain ⟨z,hz⟩:=Option.isSome_iff_exists.1 (List.mem_filter.1 hp).2
    exact List.mem_map.2 ⟨_,yc.2 (hb.some_ _ _ hz),rfl⟩
  have l2:=nd_len (O:=((gr (w+1) (h+1)).filter bc).map (fun p=>((num w p:Nat):Int))) nd2 fun x hx=>by
    obtain ⟨e,he,rfl⟩:=List.mem_map.1 hx
    have hv:=hget e.1 e.2 (yc.1 he)
    have hr:=(hN.rng _ _ hv).1
    refine List.mem_map.2 ⟨cor w e.1,List.mem_filter.2 ⟨mem_gr.2 ⟨?_,?_⟩,?_⟩,num_cor hr.1⟩
    · have:=cor_le (w:=w) e.1;omega
    · have:=cor_lt hr.1 hr.2;omega
    · show (mget bm (num w (cor w e.1) : Nat)).isSome = true
      rw [num_cor hr.1,hv];rfl
  have l3:((gr (w+1) (h+1)).filter bc).length+((gr (w+1) (h+1)).filter (fun p=> !bc p)).length=(gr (w+1) (h+1)).length:=by
    have:=(List.filter_append_perm bc (gr (w+1) (h+1))).length_eq
    rw [List.length_append] at this;exact this
  have l4:=bA_len (f:=f) hw hn
  simp only [List.length_map,List.length_append,List.length_cons] at l1 l2 hE
  omega
end
end Go.Proofs.Ytpdbimfnhglhpaa.Te
namespace Go.Proofs.Ytpdbimfnhglhpaa.Te
open Eu Fl
set_option linter.unusedVariables false
section
variable {w h n : Nat} {f g : Nat → Bool}
theorem reg_hol {c d:Nat→Nat} (hn:n=w*h) (hf:∀j,f j=true→j<n) (hc:Lst (fun j=>f j=true) (nb false w n) c) (hL:Lst (fun j=>g j=true) (nb true w n) d) (hgn:∀j,g j=true→j<n) (hg:∀j,j<n→(g j=true↔f j=false)):
    ((List.range n).filter (ldr f c)).length+(lkA w h f).length=(hls n w h g d).length+((gr (w+2) (h+2)).filter (pic w h f)).length+(fls w h f).length:=by
  have h1:=(pln (w+1) (h+1)).euler lk_perm (regions hn hf hc) (holes hn hL hgn hg)
  have h4:=(List.filter_append_perm (pic w h f) (gr (w+2) (h+2))).length_eq
  rw [List.length_append] at h4
  rw [List.length_append,List.length_map,List.length_cons,List.length_append,List.length_map,List.length_map] at h1
  have h7:(gr (w+1+1) (h+1+1)).length=(gr (w+2) (h+2)).length:=rfl
  rw [h7] at h1
  omega
theorem pts_len (hw:0<w) (hn:n=w*h) (hf:∀j,f j=true→j<n):((gr (w+2) (h+2)).filter (pic w h f)).length=((List.range n).filter f).length:=by
  have l1:=nd_len (I:=((List.range n).filter f).map (pos w)) (O:=(gr (w+2) (h+2)).filter (pic w h f)) (nd_map (List.nodup_range.filter _) fun a _ b _ e=>pos_inj hw e) fun x hx=>by
    obtain ⟨j,hj,rfl⟩:=List.mem_map.1 hx
    obtain ⟨h1,h2⟩:=List.mem_filter.1 hj
    have h1:=List.mem_range.1 h1
    have:=pos_le hn h1
    exact List.mem_filter.2 ⟨mem_gr.2 ⟨by omega,by omega⟩,by rw [pic_pos hn h1];exact h2⟩
  have l2:=nd_len (I:=(gr (w+2) (h+2)).filter (pic w h f)) (O:=((List.range n).filter f).map (pos w)) ((gr_nd _ _).filter _) fun x hx=>by
    obtain ⟨hi,hfx⟩:=pic_iff.1 (List.mem_filter.1 hx).2
    exact List.mem_map.2 ⟨ix w x,List.mem_filter.2 ⟨List.mem_range.2 (ix_md hn hi).1,hfx⟩,pos_ix hn hi⟩
  rw [List.length_map] at l1 l2
  omega
theorem b1_ne (a b:Bool):(if (a != b)=true then (1:Int) else 0)=b1 a+b1 b - 2*b1 (a&&b):=by cases a <;> cases b <;> decide
theorem sm_ends (m:Nat) (f:Nat→Int) (h0:f 0=0) (h1:f (m+1)=0):sm m (fun i=>f (i+1))=sm (m+2) f:=by
  rw [sm_succ,sm_first,h0,h1];omega
theorem sm_last (m:Nat) (f:Nat→Int) (h1:f m=0):sm m f=sm (m+1) f:=by rw [sm_succ,h1];omega
theorem sm_skip (m:Nat) (f:Nat→Int) (h0:f 0=0):sm m (fun i=>f (i+1))=sm (m+1) f:=by rw [sm_first,h0];omega
theorem pz {x y:Nat} (ho:¬inn w h (x,y)):b1 (pic w h f (x,y))=0:=by rw [pic_no ho];rfl
theorem bA_cnt:((bA w h f).length:Int)=4*(((gr (w+2) (h+2)).filter (pic w h f)).length:Int) - 2*((lkA w h f).length:Int):=by
  have hA:(bA w h f).length=((hor w h).filter (cl w h f)).length+((ver w h).filter (cl w h f)).length:=by
    unfold bA grl;rw [List.filter_append,List.length_append]
  have hB:(lkA w h f).length=((hor (w+1) (h+1)).filter (inA w h f)).length+((ver (w+1) (h+1)).filter (inA w h f)).length:=by
    unfold lkA grl;rw [List.filter_append,List.length_append]
  have hP:(((gr (w+2) (h+2)).filter (pic w h f)).length:Int)=sm (h+2) (fun y=>sm (w+2) (fun x=>b1 (pic w h f (x,y)))):=by
    rw [len_sum,gr_sum];rfl
  have hH:(((hor (w+1) (h+1)).filter (inA w h f)).length:Int)=sm (h+2) (fun y=>sm (w+1) (fun x=>b1 (pic w h f (x,y)&&pic w h f (x+1,y)))):=by
    unfold hor;rw [List.filter_map,List.length_map,len_sum,gr_sum];rfl
  have hV:(((ver (w+1) (h+1)).filter (inA w h f)).length:Int)=sm (h+1) (fun y=>sm (w+2) (fun x=>b1 (pic w h f (x,y)&&pic w h f (x,y+1)))):=by
    unfold ver;rw [List.filter_map,List.length_map,len_sum,gr_sum];rfl
  have cH:(((hor w h).filter (cl w h f)).length:Int)=sm (h+1) (fun y=>sm w (fun x=>b1 (pic w h f (x+1,y))+b1 (pic w h f (x+1,y+1)) - 2*b1 (pic w h f (x+1,y)&&pic w h f (x+1,y+1)))):=by
    unfold hor;rw [List.filter_map,List.length_map,len_sum,gr_sum]
    refine sm_congr fun y _=>sm_congr fun x _=> ?_
    rw [← b1_ne]
    show (if (pic w h f (om w h (x+1) y) != pic w h f (om w h (x+1) (y+1)))=true then (1:Int) else 0)=_
    rw [pic_om,pic_om]
  have cV:(((ver w h).filter (cl w h f)).length:Int)=sm h (fun y=>sm (w+1) (fun x=>b1 (pic w h f (x+1,y+1))+b1 (pic w h f (x,y+1)) - 2*b1 (pic w h f (x+1,y+1)&&pic w h f (x,y+1)))):=by
    unfold ver;rw [List.filter_map,List.length_map,len_sum,gr_sum]
    refine sm_congr fun y _=>sm_congr fun x _=> ?_
    rw [← b1_ne]
    show (if (pic w h f (om w h (x+1) (y+1)) != pic w h f (om w h x (y+1)))=true then (1:Int) else 0)=_
    rw [pic_om,pic_om]
  have col:∀y,sm w (fun x=>b1 (pic w h f (x+1,y)))=sm (w+2) (fun x=>b1 (pic w h f (x,y))):=fun y=>sm_ends w (fun x=>b1 (pic w h f (x,y))) (pz (by unfold inn;dsimp only;omega)) (pz (by unfold inn;dsimp only;omega))
  have colp:∀y,sm w (fun x=>b1 (pic w h f (x+1,y)&&pic w h f (x+1,y+1)))=sm (w+2) (fun x=>b1 (pic w h f (x,y)&&pic w h f (x,y+1))):=fun y=>sm_ends w (fun x=>b1 (pic w h f (x,y)&&pic w h f (x,y+1))) (by rw [pic_no (p:=(0,y)) (by unfold inn;dsimp only;omega)];rfl) (by rw [pic_no (p:=(w+1,y)) (by unfold inn;dsimp only;omega)];rfl)
  have zr:∀y,(y=0∨y=h+1)→sm (w+2) (fun x=>b1 (pic w h f (x,y)))=0:=fun y hy=>by
    rw [sm_congr (g:=fun _=>0) fun x _=>pz (by unfold inn;dsimp only;omega),sm_zeros]
  have zh:∀y,(y=0∨y=h+1)→sm (w+1) (fun x=>b1 (pic w h f (x,y)&&pic w h f (x+1,y)))=0:=fun y hy=>by
    rw [sm_congr (g:=fun _=>0) fun x _=>by rw [pic_no (p:=(x,y)) (by unfold inn;dsimp only;omega)];rfl,sm_zeros]
  -- links across
  have e1:sm (h+1) (fun y=>sm w (fun x=>b1 (pic w h f (x+1,y))+b1 (pic w h f (x+1,y+1)) - 2*b1 (pic w h f (x+1,y)&&pic w h f (x+1,y+1))))=
      2*sm (h+2) (fun y=>sm (w+2) (fun x=>b1 (pic w h f (x,y)))) - 2*sm (h+1) (fun y=>sm (w+2) (fun x=>b1 (pic w h f (x,y)&&pic w h f (x,y+1)))):=by
    rw [sm_congr (g:=fun y=>(sm (w+2) (fun x=>b1 (pic w h f (x,y)))+sm (w+2) (fun x=>b1 (pic w h f (x,y+1)))) - 2*sm (w+2) (fun x=>b1 (pic w h f (x,y)&&pic w h f (x,y+1)))) fun y _=>by
      rw [sm_sub,sm_add,sm_mul,col,col,colp],sm_sub,sm_add,sm_mul]
    rw [sm_last (h+1) (fun y=>sm (w+2) (fun x=>b1 (pic w h f (x,y)))) (zr _ (.inr rfl)),sm_skip (h+1) (fun y=>sm (w+2) (fun x=>b1 (pic w h f (x,y)))) (zr _ (.inl rfl))]
    have z:sm (h+1+1) (fun y=>sm (w+2) (fun x=>b1 (pic w h f (x,y))))=sm (h+2) (fun y=>sm (w+2) (fun x=>b1 (pic w h f (x,y)))):=rfl
    rw [z]
    omega
  have rowp:∀y,sm (w+1) (fun x=>b1 (pic w h f (x+1,y)))=sm (w+2) (fun x=>b1 (pic w h f (x,y))):=fun y=>sm_skip (w+1) (fun x=>b1 (pic w h f (x,y))) (pz (by unfold inn;dsimp only;omega))
  have rowq:∀y,sm (w+1) (fun x=>b1 (pic w h f (x,y)))=sm (w+2) (fun x=>b1 (pic w h f (x,y))):=fun y=>sm_last (w+1) (fun x=>b1 (pic w h f (x,y))) (pz (by unfold inn;dsimp only;omega))
  have e2:sm h (fun y=>sm (w+1) (fun x=>b1 (pic w h f (x+1,y+1))+b1 (pic w h f (x,y+1)) - 2*b1 (pic w h f (x+1,y+1)&&pic w h f (x,y+1))))=
      2*sm (h+2) (fun y=>sm (w+2) (fun x=>b1 (pic w h f (x,y)))) - 2*sm (h+2) (fun y=>sm (w+1) (fun x=>b1 (pic w h f (x,y)&&pic w h f (x+1,y)))):=by
    rw [sm_congr (g:=fun y=>2*sm (w+2) (fun x=>b1 (pic w h f (x,y+1))) - 2*sm (w+1) (fun x=>b1 (pic w h f (x,y+1)&&pic w h f (x+1,y+1)))) fun y _=>by
      rw [sm_sub,sm_add,sm_mul,rowp,rowq,sm_congr (f:=fun x=>b1 (pic w h f (x+1,y+1)&&pic w h f (x,y+1))) (g:=fun x=>b1 (pic w h f (x,y+1)&&pic w h f (x+1,y+1))) fun x _=>by rw [Bool.and_comm]]
      omega,sm_sub,sm_mul,sm_mul]
    rw [sm_ends h (fun y=>sm (w+2) (fun x=>b1 (pic w h f (x,y)))) (zr _ (.inl rfl)) (zr _ (.inr rfl)),sm_ends h (fun y=>sm (w+1) (fun x=>b1 (pic w h f (x,y)&&pic w h f (x+1,y)))) (zh _ (.inl rfl)) (zh _ (.inr rfl))]
  rw [e1] at cH
  rw [e2] at cV
  rw [hA,hB,hP]
  push_cast
  omega
def anyP (w h:Nat) (f:Nat→Bool) (p:P2):Bool:=(pic w h f (p.1,p.2)||pic w h f (p.1+1,p.2))||(pic w h f (p.1,p.2+1)||pic w h f (p.1+1,p.2+1))
theorem any_cnt (hnt:NTp w h f):(((gr (w+1) (h+1)).filter (anyP w h f)).length:Int)=4*(((gr (w+2) (h+2)).filter (pic w h f)).length:Int) - 2*((lkA w h f).length:Int)+((fls w h f).length:Int):=by
  have hB:(lkA w h f).length=((hor (w+1) (h+1)).filter (inA w h f)).length+((ver (w+1) (h+1)).filter (inA w h f)).length:=by
    unfold lkA grl;rw [List.filter_append,List.length_append]
  have hC:(((gr (w+1) (h+1)).filter (anyP w h f)).length:Int)=sm (h+1) (fun y=>sm (w+1) (fun x=>b1 (anyP w h f (x,y)))):=by
    rw [len_sum,gr_sum];rfl
  have key:∀x y,b1 (anyP w h f (x,y))=(b1 (pic w h f (x,y))+b1 (pic w h f (x+1,y))+b1 (pic w h f (x,y+1))+b1 (pic w h f (x+1,y+1))) - (b1 (pic w h f (x,y)&&pic w h f (x+1,y))+b1 (pic w h f (x,y+1)&&pic w h f (x+1,y+1))) - (b1 (pic w h f (x,y)&&pic w h f (x,y+1))+b1 (pic w h f (x+1,y)&&pic w h f (x+1,y+1)))+b1 ((pic w h f (x,y)&&pic w h f (x+1,y))&&(pic w h f (x,y+1)&&pic w h f (x+1,y+1))):=fun x y=>by
    have ht:=hnt x y
    unfold anyP
    dsimp only
    revert ht
    generalize pic w h f (x,y)=a
    generalize pic w h f (x+1,y)=b
    generalize pic w h f (x,y+1)=c
    generalize pic w h f (x+1,y+1)=d
    cases a <;> cases b <;> cases c <;> cases d <;> simp [b1]
  have e1:=sum_pts (w:=w) (h:=h) (f:=f)
  have e2:=sum_hor (w:=w) (h:=h) (f:=f)
  have e3:=sum_ver (w:=w) (h:=h) (f:=f)
  have e4:=sum_full (w:=w) (h:=h) (f:=f)
  have h6:sm (h+1) (fun y=>sm (w+1) (fun x=>b1 (anyP w h f (x,y))))=sm (h+1) (fun y=>sm (w+1) (fun x=>b1 (pic w h f (x,y))+b1 (pic w h f (x+1,y))+b1 (pic w h f (x,y+1))+b1 (pic w h f (x+1,y+1)))) -
      sm (h+1) (fun y=>sm (w+1) (fun x=>b1 (pic w h f (x,y)&&pic w h f (x+1,y))+b1 (pic w h f (x,y+1)&&pic w h f (x+1,y+1)))) -
      sm (h+1) (fun y=>sm (w+1) (fun x=>b1 (pic w h f (x,y)&&pic w h f (x,y+1))+b1 (pic w h f (x+1,y)&&pic w h f (x+1,y+1))))+
      sm (h+1) (fun y=>sm (w+1) (fun x=>b1 ((pic w h f (x,y)&&pic w h f (x+1,y))&&(pic w h f (x,y+1)&&pic w h f (x+1,y+1))))):=by
    rw [← sm_sub,←sm_sub,←sm_add]
    refine sm_congr fun y _=> ?_
    rw [← sm_sub,←sm_sub,←sm_add]
    exact sm_congr fun x _=>key x y
  rw [hC,h6,e1,e2,e3,e4,hB]
  push_cast
  omega
end
end Go.Proofs.Ytpdbimfnhglhpaa.Te
namespace Go.Proofs.Ytpdbimfnhglhpaa.Te
open Eu Fl
set_option linter.unusedVariables false
section
variable {w h n : Nat} {f g : Nat → Bool}
theorem oneway_cnt {F:List Ms.V3} (hn:(yd F).Nodup) (hne:∀e∈yd F,e.1≠e.2):2*((yd F).filter (yf F)).length=(yd F).length+(yg F).length:=by
  let Z:=(yd F).filter (fun e=> !decide ((e.2,e.1) ∉ yd F))
  have hz:∀e,e∈Z↔e∈yd F∧(e.2,e.1)∈yd F:=fun e=>by
    show e∈List.filter _ _↔_
    rw [List.mem_filter];simp
  have hZ:Z.Nodup:=hn.filter _
  have l0:(yg F).length+Z.length=(yd F).length:=by
    have:=(List.filter_append_perm (fun e=>decide ((e.2,e.1) ∉ yd F)) (yd F)).length_eq
    rw [List.length_append] at this;exact this
  let A:=Z.filter (fun e=>decide (e.1<e.2))
  let B:=Z.filter (fun e=> !decide (e.1<e.2))
  have l1:A.length+B.length=Z.length:=by
    have:=(List.filter_append_perm (fun e:Int×Int=>decide (e.1<e.2)) Z).length_eq
    rw [List.length_append] at this;exact this
  have mA:∀e,e∈A↔e∈Z∧e.1<e.2:=fun e=>by show e∈List.filter _ _↔_;rw [List.mem_filter];simp
  have mB:∀e,e∈B↔e∈Z∧¬e.1<e.2:=fun e=>by show e∈List.filter _ _↔_;rw [List.mem_filter];simp
  have sw:∀{a b:Int×Int},(a.2,a.1)=(b.2,b.1)→a=b:=fun {a b} e=>by
    have e1:=congrArg Prod.fst e;have e2:=congrArg Prod.snd e
    exact Prod.ext e2 e1
  have l2:A.length≤B.length:=by
    have:=nd_len (I:=A.map fun e=>(e.2,e.1)) (O:=B) (nd_map (hZ.filter _) fun a _ b _ e=>sw e) fun x hx=>by
      obtain ⟨e,he,rfl⟩:=List.mem_map.1 hx
      obtain ⟨h1,h2⟩:=(mA e).1 he
      obtain ⟨h3,h4⟩:=(hz e).1 h1
      exact (mB _).2 ⟨(hz _).2 ⟨h4,h3⟩,by dsimp only;omega⟩
    rwa [List.length_map] at this
  have l3:B.length≤A.length:=by
    have:=nd_len (I:=B.map fun e=>(e.2,e.1)) (O:=A) (nd_map (hZ.filter _) fun a _ b _ e=>sw e) fun x hx=>by
      obtain ⟨e,he,rfl⟩:=List.mem_map.1 hx
      obtain ⟨h1,h2⟩:=(mB e).1 he
      obtain ⟨h3,h4⟩:=(hz e).1 h1
      have:=hne e h3
      exact (mA _).2 ⟨(hz _).2 ⟨h4,h3⟩,by dsimp only;omega⟩
    rwa [List.length_map] at this
  have l4:((yd F).filter (yf F)).length=(yg F).length+A.length:=by
    have hnd:(yg F++A).Nodup:=List.nodup_append.2 ⟨hn.filter _,hZ.filter _,fun a ha b hb e=>by
      subst e
      exact (yc.1 ha).2 ((hz a).1 ((mA a).1 hb).1).2⟩
    have a1:=nd_len (I:=(yd F).filter (yf F)) (O:=yg F++A) (hn.filter _) fun e he=>by
      obtain ⟨h1,h2⟩:=List.mem_filter.1 he
      unfold yf at h2
      rw [decide_eq_true_iff] at h2
      by_cases k:(e.2,e.1)∈yd F
      · exact List.mem_append_right _ ((mA e).2 ⟨(hz e).2 ⟨h1,k⟩,h2.resolve_right (fun x=>x k)⟩)
      · exact List.mem_append_left _ (yc.2 ⟨h1,k⟩)
    have a2:=nd_len (I:=yg F++A) (O:=(yd F).filter (yf F)) hnd fun e he=>by
      rcases List.mem_append.1 he with he|he
      · have := yc.1 he
        exact List.mem_filter.2 ⟨this.1,by unfold yf;rw [decide_eq_true_iff];exact .inr this.2⟩
      · obtain ⟨h1, h2⟩ := (mA e).1 he
        exact List.mem_filter.2 ⟨((hz e).1 h1).1,by unfold yf;rw [decide_eq_true_iff];exact .inl h2⟩
    rw [List.length_append] at a1 a2;omega
  omega
theorem used_any (hw:0<w) (hn:n=w*h) {p:P2} (hp:p.1≤w):(eF w f n).any (fun g=>ya g ((num w p:Nat):Int))=true↔anyP w h f p=true:=by
  rw [List.any_eq_true]
  have k0:=onK_num (f:=f) hw hn hp
  have k1:=onK_lf (f:=f) hw hn hp
  have k2:=onK_up (f:=f) hw hn hp
  have k3:=onK_ul (f:=f) hw hn hp
  unfold anyP
  rw [Bool.or_eq_true,Bool.or_eq_true,Bool.or_eq_true]
  constructor
  · rintro ⟨g, hg, hv⟩
    obtain ⟨i,hi,e⟩:=mem_at_of hg hv
    rcases kinds hi with ⟨a,_⟩|⟨a,_⟩|⟨a,_⟩|⟨a,_⟩
    · exact .inl (.inl (k3.1 a))
    · exact .inl (.inr (k2.1 a))
    · exact .inr (.inl (k1.1 a))
    · exact .inr (.inr (k0.1 a))
  · rintro ((a | a) | a | a)
    · exact ⟨_,on_A (k3.2 a),hv1 (by dsimp only;omega)⟩
    · exact ⟨_,on_B (k2.2 a),hv1 (by dsimp only;omega)⟩
    · exact ⟨_,on_A (k1.2 a),hv1 (by dsimp only;omega)⟩
    · exact ⟨_,on_A (k0.2 a),hv1 (by dsimp only;omega)⟩
theorem used_cnt (hw:0<w) (hn:n=w*h):Ms.usedN (eF w f n) ((w+1)*(h+1))=((gr (w+1) (h+1)).filter (anyP w h f)).length:=by
  unfold Ms.usedN
  have l1:=nd_len (I:=((gr (w+1) (h+1)).filter (anyP w h f)).map (num w)) (O:=(List.range ((w+1)*(h+1))).filter (fun v:Nat=>(eF w f n).any (fun g=>ya g (v:Int)))) (nd_map ((gr_nd _ _).filter _) fun a ha b hb e=>by
    have h1:=(mem_gr.1 (List.mem_filter.1 ha).1).1
    have h2:=(mem_gr.1 (List.mem_filter.1 hb).1).1
    exact num_inj (w:=w) (by omega) (by omega) e) fun x hx=>by
      obtain ⟨p,hp,rfl⟩:=List.mem_map.1 hx
      obtain ⟨h1,h2⟩:=List.mem_filter.1 hp
      have h1:=mem_gr.1 h1
      exact List.mem_filter.2 ⟨List.mem_range.2 (num_lt (by omega) (by omega)),(used_any hw hn (by omega)).2 h2⟩
  have l2:=nd_len (I:=(List.range ((w+1)*(h+1))).filter (fun v:Nat=>(eF w f n).any (fun g=>ya g (v:Int)))) (O:=((gr (w+1) (h+1)).filter (anyP w h f)).map (num w)) (List.nodup_range.filter _) fun v hv=>by
    obtain ⟨h1,h2⟩:=List.mem_filter.1 hv
    have h1:=List.mem_range.1 h1
    have e:=num_cor (w:=w) (u:=(v:Int)) (by omega)
    have a1:=cor_le (w:=w) (v:Int)
    have a2:=cor_lt (w:=w) (h:=h) (u:=(v:Int)) (by omega) (by omega)
    refine List.mem_map.2 ⟨cor w (v:Int),List.mem_filter.2 ⟨mem_gr.2 ⟨by omega,by omega⟩,(used_any hw hn a1).1 ?_⟩,by omega⟩
    rw [e];exact h2
  rw [List.length_map] at l1 l2
  omega
theorem all_len:(yd (eF w f n)).length=3*(eF w f n).length:=by
  unfold yd
  rw [List.length_flatMap]
  generalize eF w f n=F
  induction F with
  |nil=>rfl
  |cons a t ih=>rw [List.map_cons,List.sum_cons,ih,List.length_cons];show 3+_=_;omega
theorem euler_eq {c d:Nat→Nat} (hw:0<w) (hnt:NTp w h f) (hn:n=w*h) (hf:∀j,f j=true→j<n) (hc:Lst (fun j=>f j=true) (nb false w n) c) (hL:Lst (fun j=>g j=true) (nb true w n) d) (hgn:∀j,g j=true→j<n) (hg:∀j,j<n→(g j=true↔f j=false))
    (hck:Ms.check (eV w h) (eF w f n)=0):Ms.eulerP (eF w f n)=(((List.range n).filter (ldr f c)).length:Int) - ((hls n w h g d).length:Int):=by
  rw [Ms.euler_same hck]
  unfold Ms.eulerL
  have hgd:=Ms.form_zero.1 (Ms.check_form hck)
  have h1:=oneway_cnt (F:=eF w f n) (all_nd hw) fun e he=>(Ms.all_rng hgd he).2.2.2.2
  have h2:=bA_len (f:=f) hw hn
  have h3:=bA_cnt (w:=w) (h:=h) (f:=f)
  have h4:=any_cnt hnt
  have h5:=used_cnt (f:=f) hw hn
  have h6:=reg_hol hn hf hc hL hgn hg
  have h7:=pts_len hw hn hf
  have h8:=eF_len (w:=w) (n:=n) (f:=f)
  have h9:=all_len (w:=w) (n:=n) (f:=f)
  rw [eV_len]
  omega
end
end Go.Proofs.Ytpdbimfnhglhpaa.Te
namespace Go.Proofs.Ytpdbimfnhglhpaa.Te
open Eu Fl
set_option linter.unusedVariables false
section
variable {E : Nat → Nat → Bool}
theorem ap_last {l:List Int} {x:Int} {k:Nat} (hl:l.length=k):(l++[x]).getD k 0=x:=by
  subst hl;exact Ms.gL
theorem nums_rng:∀n:Nat,∀k,k<n→0≤(Ms.numsL E n).getD k 0∧(Ms.numsL E n).getD k 0<(Ms.cntF E n:Int)
  |0,k,h=>by omega
  |n+1,k,h=>by
    rw [Ms.numsL,Ms.cntF]
    by_cases q:k<n
    · rw [Ms.getD_keep (by rw [Ms.numsL_len]; exact q)]
      have:=nums_rng n k q
      split <;> omega
    · have e : k = n := by omega
      subst e
      rw [ap_last (Ms.numsL_len E k)]
      cases hs:ye E k with
      |none=>
        have e:(if (none:Option Nat).isSome=true then 0 else 1:Nat)=1:=rfl
        rw [e];dsimp only
        exact ⟨Int.natCast_nonneg _,Int.ofNat_lt.2 (Nat.lt_succ_self _)⟩
      |some q=>
        have hq:=List.mem_range.1 (List.mem_of_find?_eq_some hs)
        have:=nums_rng k q hq
        have e:(if (some q).isSome=true then 0 else 1:Nat)=0:=rfl
        rw [e];dsimp only;omega
def mostL (l:List Int):Int:=l.foldl (fun m p=>max m (p+1)) 0
theorem most_snoc (l:List Int) (x:Int):mostL (l++[x])=max (mostL l) (x+1):=by unfold mostL;rw [List.foldl_append];rfl
theorem most_nums:∀n:Nat,mostL (Ms.numsL E n)=(Ms.cntF E n:Int)
  |0=>rfl
  |n+1=>by
    rw [Ms.numsL,Ms.cntF,most_snoc,most_nums n]
    cases hs:ye E n with
    |none=>dsimp only;rw [if_neg (by decide)];omega
    |some q=>
      have hq:=List.mem_range.1 (List.mem_of_find?_eq_some hs)
      have:=nums_rng (E:=E) n q hq
      have e:(if (some q).isSome=true then 0 else 1:Nat)=0:=rfl
      rw [e];dsimp only;omega
theorem cnt_lead:∀n:Nat,Ms.cntF E n=((List.range n).filter (fun i=>(ye E i).isNone)).length
  |0=>rfl
  |n+1=>by
    rw [Ms.cntF,cnt_lead n,List.range_succ,List.filter_append,List.length_append]
    congr 1
    rw [List.filter_cons]
    cases ye E n <;> rfl
theorem nseen_none {i:Nat}:(ye E i).isNone=true↔∀k,k<i→E k i=false:=by
  unfold ye
  rw [Option.isNone_iff_eq_none,List.find?_eq_none]
  constructor
  · intro h k hk;have:=h k (List.mem_range.2 hk);simpa using this
  · intro h k hk;have:=h k (List.mem_range.1 hk);simp [this]
end
section
variable {w h n : Nat} {f g : Nat → Bool}
def jof (w:Nat) (g:Ms.V3):Nat:=(cor w g.1).2*w+(cor w g.1).1
theorem kk_num (w j:Nat):kk w j=num w (j%w,j / w):=rfl
theorem jof_tri (hw:0<w) {j:Nat} {g:Ms.V3} (hg:g∈tri w j):jof w g=j:=by
  have e:g.1=((num w (j%w,j / w):Nat):Int):=by
    simp only [tri,List.mem_cons,List.not_mem_nil,or_false] at hg
    rcases hg with rfl|rfl <;> rfl
  unfold jof
  rw [e,cor_num (by have:=Nat.mod_lt j hw;dsimp only;omega)]
  have:=Nat.div_add_mod j w
  rw [Nat.mul_comm] at this;exact this
theorem face_pix {a:Nat} (ha:a<(eF w f n).length):∃j,j<n∧f j=true∧(eF w f n).getD a (0,0,0)∈tri w j:=mem_eF.1 (yb (0,0,0) ha)
theorem idx_of {g:Ms.V3} (hg:g∈eF w f n):∃a,a<(eF w f n).length∧(eF w f n).getD a (0,0,0)=g:=Ms.mem_getD (0,0,0) hg
theorem dg_eF:∀g∈eF w f n,Ms.deg g=false:=fun g hg=>by
  obtain ⟨j,hj,_,hg⟩:=mem_eF.1 hg
  unfold Ms.deg
  rw [decide_eq_false_iff_not]
  simp only [tri,List.mem_cons,List.not_mem_nil,or_false] at hg
  rcases hg with rfl|rfl <;> dsimp only <;> omega
theorem near_of {a b:Nat} {p q:Int} (ha:a<(eF w f n).length) (hpq:p≠q) (h1:ya ((eF w f n).getD a (0,0,0)) p=true) (h2:ya ((eF w f n).getD a (0,0,0)) q=true) (h3:ya ((eF w f n).getD b (0,0,0)) p=true) (h4:ya ((eF w f n).getD b (0,0,0)) q=true):Ms.nearF (eF w f n) a b=true:=by
  unfold Ms.nearF
  rw [decide_eq_true_iff]
  exact (Ms.share_iff (dg_eF _ (yb (0,0,0) ha))).2 ⟨p,q,hpq,h1,h2,h3,h4⟩
theorem tri_diag {j:Nat} {g:Ms.V3} (hg:g∈tri w j):ya g (kk w j:Nat)=true∧ya g ((kk w j:Nat)+w+2)=true:=by
  simp only [tri,List.mem_cons,List.not_mem_nil,or_false] at hg
  rcases hg with rfl|rfl
  · exact ⟨hv1 (by dsimp only;omega),hv1 (by dsimp only;omega)⟩
  · exact ⟨hv1 (by dsimp only;omega),hv1 (by dsimp only;omega)⟩
abbrev fA (w j:Nat):Ms.V3:=(((kk w j:Nat):Int),((kk w j:Nat):Int)+1,((kk w j:Nat):Int)+w+2)
abbrev fB (w j:Nat):Ms.V3:=(((kk w j:Nat):Int),((kk w j:Nat):Int)+w+2,((kk w j:Nat):Int)+w+1)
theorem mA (w j:Nat):fA w j∈tri w j:=List.mem_cons_self ..
theorem mB (w j:Nat):fB w j∈tri w j:=List.mem_cons_of_mem _ (List.mem_cons_self ..)
theorem cls_same {a b j:Nat} (ha:a<(eF w f n).length) (hb:b<(eF w f n).length) (h1:(eF w f n).getD a (0,0,0)∈tri w j) (h2:(eF w f n).getD b (0,0,0)∈tri w j):Ms.Cls (eF w f n) (eF w f n).length a b:=
  .step (.refl a) ha hb (near_of hb (p:=(kk w j:Nat)) (q:=(kk w j:Nat)+w+2) (by omega) (tri_diag h2).1 (tri_diag h2).2 (tri_diag h1).1 (tri_diag h1).2)
theorem nb_kk (hw:0<w) {i j:Nat} (hk:nb false w n i j):kk w j=kk w i+1∨kk w i=kk w j+1∨kk w j=kk w i+w+1∨kk w i=kk w j+w+1:=by
  obtain ⟨k1,k2⟩:=of_nb hk
  have k2:=k2 rfl
  have hne:¬(i%w=j%w∧i / w=j / w):=fun e=>hk.2.2.1 (by have a:=Nat.div_add_mod i w;have b:=Nat.div_add_mod j w;rw [e.1,e.2] at a;omega)
  rw [kk_num,kk_num]
  unfold kg pos at k1
  unfold pos at k2
  dsimp only at k1 k2
  generalize i%w=x at *;generalize j%w=x' at *;generalize i / w=y at *;generalize j / w=y' at*
  by_cases e:y=y'
  · subst e
    by_cases q:x<x'
    · obtain rfl : x' = x + 1 := by omega
      rw [num_r];omega
    · obtain rfl : x = x' + 1 := by omega
      rw [num_r];omega
  · obtain rfl : x = x' := by omega
    by_cases q:y<y'
    · obtain rfl : y' = y + 1 := by omega
      rw [num_d];omega
    · obtain rfl : y = y' + 1 := by omega
      rw [num_d];omega
theorem cls_nb (hd:∀g∈eF w f n,Ms.deg g=false) (hw:0<w) {i j a b:Nat} (hk:nb false w n i j) (hi:f i=true) (hj:f j=true) (ha:a<(eF w f n).length) (hb:b<(eF w f n).length) (h1:(eF w f n).getD a (0,0,0)∈tri w i) (h2:(eF w f n).getD b (0,0,0)∈tri w j):Ms.Cls (eF w f n) (eF w f n).length a b:=by
  have tA:∀j,j<n→f j=true→∃a,a<(eF w f n).length∧(eF w f n).getD a (0,0,0)=fA w j:=fun j hj hf=>idx_of (mem_eF.2 ⟨j,hj,hf,mA w j⟩)
  have tB:∀j,j<n→f j=true→∃a,a<(eF w f n).length∧(eF w f n).getD a (0,0,0)=fB w j:=fun j hj hf=>idx_of (mem_eF.2 ⟨j,hj,hf,mB w j⟩)
  obtain ⟨p,p1,p2⟩:=tA i hk.1 hi
  obtain ⟨q,q1,q2⟩:=tB i hk.1 hi
  obtain ⟨r,r1,r2⟩:=tA j hk.2.1 hj
  obtain ⟨s,s1,s2⟩:=tB j hk.2.1 hj
  have ap:=cls_same ha p1 h1 (by rw [p2];exact mA w i)
  have aq:=cls_same ha q1 h1 (by rw [q2];exact mB w i)
  have rb:=cls_same r1 hb (by rw [r2];exact mA w j) h2
  have sb:=cls_same s1 hb (by rw [s2];exact mB w j) h2
  have go:∀{x y:Nat} {u v:Int},x<(eF w f n).length→y<(eF w f n).length→u≠v→ya ((eF w f n).getD y (0,0,0)) u=true→ya ((eF w f n).getD y (0,0,0)) v=true→ya ((eF w f n).getD x (0,0,0)) u=true→ya ((eF w f n).getD x (0,0,0)) v=true→Ms.Cls (eF w f n) (eF w f n).length x y:=fun hx hy hne a1 a2 a3 a4=> .step (.refl _) hx hy (near_of hy hne a1 a2 a3 a4)
  rcases nb_kk hw hk with e|e|e|e
  · exact (ap.trans (go p1 s1 (u:=(kk w j:Nat)) (v:=(kk w j:Nat)+w+1) (by omega) (by rw [s2];exact hv1 (by dsimp only;omega)) (by rw [s2];exact hv1 (by dsimp only;omega)) (by rw [p2];exact hv1 (by dsimp only;omega)) (by rw [p2];exact hv1 (by dsimp only;omega)))).trans sb
  · exact (aq.trans (go q1 r1 (u:=(kk w i:Nat)) (v:=(kk w i:Nat)+w+1) (by omega) (by rw [r2];exact hv1 (by dsimp only;omega)) (by rw [r2];exact hv1 (by dsimp only;omega)) (by rw [q2];exact hv1 (by dsimp only;omega)) (by rw [q2];exact hv1 (by dsimp only;omega)))).trans rb
  · exact (aq.trans (go q1 r1 (u:=(kk w j:Nat)) (v:=(kk w j:Nat)+1) (by omega) (by rw [r2];exact hv1 (by dsimp only;omega)) (by rw [r2];exact hv1 (by dsimp only;omega)) (by rw [q2];exact hv1 (by dsimp only;omega)) (by rw [q2];exact hv1 (by dsimp only;omega)))).trans rb
  · exact (ap.trans (go p1 s1 (u:=(kk w i:Nat)) (v:=(kk w i:Nat)+1) (by omega) (by rw [s2];exact hv1 (by dsimp only;omega)) (by rw [s2];exact hv1 (by dsimp only;omega)) (by rw [p2];exact hv1 (by dsimp only;omega)) (by rw [p2];exact hv1 (by dsimp only;omega)))).trans sb
theorem cls_conn (hw:0<w) {i j:Nat} (hc:Fl.Conn (fun j=>f j=true) (nb false w n) i j):∀{a b:Nat},i<n→f i=true→f j=true→a<(eF w f n).length→b<(eF w f n).length→(eF w f n).getD a (0,0,0)∈tri w i→(eF w f n).getD b (0,0,0)∈tri w j→Ms.Cls (eF w f n) (eF w f n).length a b:=by
  induction hc with
  |refl=>intro a b _ _ _ ha hb h1 h2;exact cls_same ha hb h1 h2
  |step p q r _ ih=>
    intro a b hi hfi hfj ha hb h1 h2
    obtain ⟨x,x1,x2⟩:=idx_of (f:=f) (mem_eF.2 ⟨_,r.2.1,q,mA w _⟩)
    exact (cls_nb dg_eF hw r p q ha x1 h1 (by rw [x2];exact mA w _)).trans (ih r.2.1 q hfj x1 hb (by rw [x2];exact mA w _) h2)
theorem near_pix (hw:0<w) {i j:Nat} {g g':Ms.V3} (hg:g∈tri w i) (hg':g'∈tri w j) {p q:Int} (hpq:p≠q) (h1:ya g p=true) (h2:ya g q=true) (h3:ya g' p=true) (h4:ya g' q=true):i=j∨kk w j=kk w i+1∨kk w i=kk w j+1∨kk w j=kk w i+w+1∨kk w i=kk w j+w+1:=by
  have k:kk w i=kk w j→i=j:=kk_inj
  suffices kk w i=kk w j∨kk w j=kk w i+1∨kk w i=kk w j+1∨kk w j=kk w i+w+1∨kk w i=kk w j+w+1 by
    rcases this with a|a
    · exact .inl (k a)
    · exact .inr a
  clear k
  unfold ya at h1 h2 h3 h4
  rw [decide_eq_true_iff] at h1 h2 h3 h4
  simp only [tri,List.mem_cons,List.not_mem_nil,or_false] at hg hg'
  generalize kk w i=K at*
  generalize kk w j=M at*
  rcases hg with rfl|rfl <;> rcases hg' with rfl|rfl <;> dsimp only at h1 h2 h3 h4 <;> omega
theorem kk_nb (hw:0<w) {i j:Nat} (hi:i<n) (hj:j<n) (hk:kk w j=kk w i+1∨kk w i=kk w j+1∨kk w j=kk w i+w+1∨kk w i=kk w j+w+1):nb false w n i j:=by
  have hne:i≠j:=fun e=>by subst e;omega
  have h1:=Nat.mod_lt i hw
  have h2:=Nat.mod_lt j hw
  rw [kk_num,kk_num] at hk
  unfold nb
  refine ⟨hi,hj,hne,?_⟩
  generalize i%w=x at *;generalize j%w=x' at *;generalize i / w=y at *;generalize j / w=y' at*
  rcases hk with e|e|e|e
  · rw [← num_r] at e
    have:=num_inj (w:=w) (by dsimp only;omega) (by dsimp only;omega) e
    cases this;omega
  · rw [← num_r] at e
    have:=num_inj (w:=w) (by dsimp only;omega) (by dsimp only;omega) e
    cases this;omega
  · rw [← num_d] at e
    have:=num_inj (w:=w) (by dsimp only;omega) (by dsimp only;omega) e
    cases this;omega
  · rw [← num_d] at e
    have:=num_inj (w:=w) (by dsimp only;omega) (by dsimp only;omega) e
    cases this;omega
theorem parts_iff {c:Nat→Nat} (hw:0<w) (hc:Lst (fun j=>f j=true) (nb false w n) c) {a b:Nat} (ha:a<(eF w f n).length) (hb:b<(eF w f n).length):
    ((c (jof w ((eF w f n).getD a (0,0,0))):Nat):Int)=((c (jof w ((eF w f n).getD b (0,0,0))):Nat):Int)↔Ms.Cls (eF w f n) (eF w f n).length a b:=by
  obtain ⟨i,i1,i2,i3⟩:=face_pix ha
  obtain ⟨j,j1,j2,j3⟩:=face_pix hb
  constructor
  · intro e
    rw [jof_tri hw i3,jof_tri hw j3] at e
    have e:c i=c j:=by omega
    have k1:=hc.conn i i2
    have k2:=hc.conn j j2
    have hci:c i<n:=by have:=hc.le i i2;omega
    obtain ⟨x,x1,x2⟩:=idx_of (f:=f) (mem_eF.2 ⟨_,hci,hc.mem i2,mA w _⟩)
    have a1:=cls_conn hw k1 i1 i2 (hc.mem i2) ha x1 i3 (by rw [x2];exact mA w _)
    have a2:=cls_conn hw k2 j1 j2 (hc.mem j2) hb x1 j3 (by rw [x2,e];exact mA w _)
    exact a1.trans (a2.symm dg_eF (Nat.le_refl _))
  · intro hk
    clear i3 i2 i1 j3 j2 j1
    induction hk with
    |refl=>rfl
    |step _ p1 p2 p3 ih=>
      rw [ih p1]
      obtain ⟨i,i1,i2,i3⟩:=face_pix p1
      obtain ⟨j,j1,j2,j3⟩:=face_pix p2
      rw [jof_tri hw i3,jof_tri hw j3]
      unfold Ms.nearF at p3
      rw [decide_eq_true_iff] at p3
      obtain ⟨p,q,hpq,h1,h2,h3,h4⟩:=(Ms.share_iff (dg_eF _ (yb (0,0,0) p2))).1 p3
      rcases near_pix hw j3 i3 hpq h1 h2 h3 h4 with e|e
      · rw [e]
      · rw [hc.same j i j2 i2 (kk_nb hw j1 i1 e)]
theorem parts_cnt {c:Nat→Nat} (hw:0<w) (hn:n=w*h) (hf:∀j,f j=true→j<n) (hc:Lst (fun j=>f j=true) (nb false w n) c):mostL (Ms.partsL (eF w f n))=(((List.range n).filter (ldr f c)).length:Int):=by
  let r:Nat→Int:=fun a=>((c (jof w ((eF w f n).getD a (0,0,0))):Nat):Int)
  have hr:∀a b,a<(eF w f n).length→b<(eF w f n).length→(r a=r b↔Ms.Cls (eF w f n) (eF w f n).length a b):=fun a b ha hb=>parts_iff hw hc ha hb
  rw [← Ms.parts_of dg_eF hr,most_nums,cnt_lead]
  have hE:∀a b,Ms.Er r a b=true↔r a=r b:=fun a b=>by unfold Ms.Er;rw [decide_eq_true_iff]
  have mem:∀a,a∈(List.range (eF w f n).length).filter (fun i=>(ye (Ms.Er r) i).isNone)↔a<(eF w f n).length∧∀k,k<a→¬r k=r a:=fun a=>by
    rw [List.mem_filter,List.mem_range,nseen_none]
    refine and_congr Iff.rfl ⟨fun q k hk e=> ?_,fun q k hk=> ?_⟩
    · have:=q k hk;rw [(hE k a).2 e] at this;cases this
    · cases hq : Ms.Er r k a
      · rfl
      · exact absurd ((hE k a).1 hq) (q k hk)
  have ldm:∀j,j∈(List.range n).filter (ldr f c)↔j<n∧f j=true∧c j=j:=fun j=>by
    rw [List.mem_filter,List.mem_range];unfold ldr;simp
  have l1:=nd_len (I:=((List.range (eF w f n).length).filter (fun i=>(ye (Ms.Er r) i).isNone)).map (fun a=>(r a).toNat)) (O:=(List.range n).filter (ldr f c)) (nd_map (List.nodup_range.filter _) fun a ha b hb e=>by
    obtain ⟨a1,a2⟩:=(mem a).1 ha
    obtain ⟨b1,b2⟩:=(mem b).1 hb
    have e:r a=r b:=by
      have x:0≤r a:=Int.natCast_nonneg _
      have y:0≤r b:=Int.natCast_nonneg _
      omega
    rcases Nat.lt_trichotomy a b with q|q|q
    · exact absurd e (b2 a q)
    · exact q
    · exact absurd e.symm (a2 b q)) fun x hx => by
      obtain ⟨a,ha,rfl⟩:=List.mem_map.1 hx
      obtain ⟨a1,a2⟩:=(mem a).1 ha
      obtain ⟨j,j1,j2,j3⟩:=face_pix a1
      have e:(r a).toNat=c j:=by show (((c (jof w ((eF w f n).getD a (0,0,0))):Nat):Int)).toNat=c j;rw [jof_tri hw j3];rfl
      rw [e]
      exact (ldm _).2 ⟨hf _ (hc.mem j2),hc.mem j2,hc.idem j2⟩
  have l2:=nd_len (I:=(List.range n).filter (ldr f c)) (O:=((List.range (eF w f n).length).filter (fun i=>(ye (Ms.Er r) i).isNone)).map (fun a=>(r a).toNat)) (List.nodup_range.filter _) fun j hj=>by
    obtain ⟨j1,j2,j3⟩:=(ldm j).1 hj
    obtain ⟨x,x1,x2⟩:=idx_of (f:=f) (mem_eF.2 ⟨j,j1,j2,mA w j⟩)
    have ex:r x=(j:Int):=by
      show ((c (jof w ((eF w f n).getD x (0,0,0))):Nat):Int)=j
      rw [x2,jof_tri hw (mA w j),j3]
    -- the least face of this part
    have key:∀m x,x≤m→x<(eF w f n).length→r x=(j:Int)→∃a,a<(eF w f n).length∧r a=(j:Int)∧∀k,k<a→¬r k=r a:=by
      intro m
      induction m with
      |zero=>intro x hx hl e;exact ⟨x,hl,e,fun k hk=>by omega⟩
      |succ m ih=>
        intro x hx hl e
        by_cases q:∃k,k<x∧r k=r x
        · obtain ⟨k, k1, k2⟩ := q
          exact ih k (by omega) (by omega) (k2.trans e)
        · exact ⟨x,hl,e,fun k hk e2=>q ⟨k,hk,e2⟩⟩
    obtain ⟨a,a1,a2,a3⟩:=key x x (Nat.le_refl _) x1 ex
    exact List.mem_map.2 ⟨a,(mem a).2 ⟨a1,a3⟩,by rw [a2];rfl⟩
  rw [List.length_map] at l1 l2
  omega
end
end Go.Proofs.Ytpdbimfnhglhpaa.Te
