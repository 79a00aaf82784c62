/- Lemmas on the walk and plain lemmas that the claim of this folder uses; each states its own conditions. Lines were printed by a program of ours. -/
import Derived.Test.YtefbbhiaalcjfaaGreatZ4D
set_option linter.unusedVariables false
set_option linter.unusedSimpArgs false
set_option linter.unusedSectionVars false
namespace Go.Proofs.YtefbbhiaalcjfaaGreat.Sp
open Go
set_option linter.unusedVariables false
set_option maxRecDepth 100000
set_option maxHeartbeats 1000000
theorem zMc {w:Nat} {h:Nat} {m:Int} {p:Option Addr} {n:Nat} {cap:Nat} {l:List Int} {th:Int} (hn:l.length=n) (hw:1≤w∧w≤64) (hh:1≤h∧h≤64) (hwh:n=w*h) (hb:n≤4096):Con Tryz.prog 25 [.agg #[.int .i64 ((w:Nat):Int),.int .i64 ((h:Nat):Int),.int .i64 m,.slice p n cap],.int .i64 th] [] [slF (rI .i64) p cap l] (Y:=(Option Addr)×Nat×(List Int)×(Nat→Nat)) (fun y=>Fl.Lst (fun j=>Fl.ge l th j=true) (Fl.nb false w n) y.2.2.2∧Fl.OutI n (Fl.ge l th) y.2.2.2 n y.2.2.1) (fun y=> .tuple #[.slice (y.1) n (y.2.1),.int .i64 (((Fl.cnt (Fl.ldr (Fl.ge l th) y.2.2.2) n):Nat):Int)]) (fun y=>[]) (fun y=>[slF (rI .i64) (y.1) (y.2.1) (y.2.2.1)]):=by
 refine zr Tryz.func25 rfl rfl rfl (fun c=> ?_)
 show RunC _ _ _ _ _ [(0,.agg #[.int .i64 ((w:Nat):Int),.int .i64 ((h:Nat):Int),.int .i64 m,.slice p n cap]),(1,.int .i64 th)] [] [slF (rI .i64) p cap l]
 refine zba 0 rfl (fun hL0=> ?_)
 refine zi<|zc<|zJ rfl rfl (zT rfl rfl) (fun b1=> ?_)
 refine zJ rfl rfl (zT rfl rfl) (fun b2=> ?_)
 refine r_pv rfl rfl (zd rfl)<|r_pv rfl rfl (zd rfl)<|zj<|zf<|zi<|zWb 0 rfl .z<|zaa (OW:=[]) (O:=[emA,boxA b1 24 [.int .i64 ((w:Nat):Int),.int .i64 ((h:Nat):Int),.int .i64 m,.slice p n cap]]) 100000 mixed (.then .ret) (by kernel_rfl)<|d_u 0 rfl rfl (by kernel_rfl) (by kernel_rfl) rfl rfl (zg 1 ty24 rfl rfl (.take (.take (.take (.take .nil)))))<|d_pv 1 rfl rfl (by kernel_rfl) (by kernel_rfl) rfl rfl (zob .n (.c rfl .n))<|zG 2 (by kernel_rfl) (zw rfl rfl rfl rfl (.n) ce56 (zIf) (.n) ?_)
 rintro ⟨p33,c34⟩ -
 dsimp only [List.append_eq,List.nil_append,List.cons_append]
 refine zG 3 (by kernel_rfl) (zw rfl rfl rfl rfl (.c rfl (.c rfl (.c rfl .n))) ce49 (zYd (w:=w) (h:=h) (m:=m) (p:=p) (n:=n) (cap:=cap) (l:=l) (tb:=b2) (th:=th) (p2:=p33) (c2:=c34) (hn:=by assumption) (hw:=by assumption) (hh:=by assumption) (hwh:=by assumption) (hb:=by assumption)) (.c (j:=2) rfl (.c (j:=1) rfl (.c (j:=0) rfl .n))) ?_)
 rintro ⟨p35,c36,o,cc⟩ hcl
 dsimp only [List.append_eq,List.nil_append,List.cons_append]
 replace hcl:Fl.Lst (fun j=>(Fl.ge l th) j=true) (Fl.nb false w n) cc∧Fl.OutI n (Fl.ge l th) cc n o:=hcl
 refine d_pv 4 rfl rfl (by kernel_rfl) (by kernel_rfl) rfl rfl (zm rfl rfl)<|d_pv 5 rfl rfl (by kernel_rfl) (by kernel_rfl) rfl rfl (zm rfl rfl)<|d_pv 6 rfl rfl (by kernel_rfl) (by kernel_rfl) rfl rfl (zd rfl)<|d_pv 7 rfl rfl (by kernel_rfl) (by kernel_rfl) rfl rfl (zd rfl)<|zY (by kernel_rfl)<|zf<|zI ?_
 exact zpa Tryz.results25 (p35,c36,o,cc) hcl (zt rfl) (zt rfl) rfl (ho:=(.n:PickO _ _ _)) ((.c (j:=0) rfl .n):SelR _ _ _)
theorem zkf {w:Int} {h:Int} {m:Int} {p:Option Addr} {n:Nat} {cap:Nat} {l:List Int} {th:Int} (hn:l.length=n):Con Tryz.prog 20 [.agg #[.int .i64 w,.int .i64 h,.int .i64 m,.slice p n cap],.int .i64 th] [] [slF (rI .i64) p cap l] (Y:=(Option Addr)×Nat×(List Int)) (fun y=>Fl.LabR w h m l th y.2.2) (fun y=> .tuple #[.slice (y.1) (y.2.2.length) (y.2.1),.int .i64 (if Bl.rok w h m l then (if 0≤th∧th≤65536 then 0 else 2) else 1)]) (fun y=>[]) (fun y=>[slF (rI .i64) (y.1) (y.2.1) (y.2.2)]):=by
 refine zr Tryz.func20 rfl rfl rfl (fun c=> ?_)
 show RunC _ _ _ _ _ [(0,.agg #[.int .i64 w,.int .i64 h,.int .i64 m,.slice p n cap]),(1,.int .i64 th)] [] [slF (rI .i64) p cap l]
 refine zba 0 rfl (fun hL0=> ?_)
 refine zi<|zc<|zJ rfl rfl (zT rfl rfl) (fun b1=> ?_)
 refine r_pv rfl rfl (zd rfl)<|r_pv rfl rfl (zd rfl)<|zj<|zf<|zi<|zi<|zc<|r_u rfl rfl (zg 0 ty24 rfl rfl (.take (.take (.take (.take .nil)))))<|r_pv rfl rfl (zb rfl)<|zL rfl rfl (.c rfl (.c rfl .n)) ce24 (zTb (w:=w) (h:=h) (m:=m) (p:=p) (n:=n) (cap:=cap) (l:=l) (th:=th) (hn:=by assumption)) (.c (j:=0) rfl .n)<|r_pv rfl rfl (zd rfl)<|zj<|zf<|zi<|zc<|r_pv rfl rfl (zb rfl)<|r_pv rfl rfl (zJa rfl rfl)<|zj<|zf<|zK rfl (fun hc=> ?_) (fun hc=> ?_)
 ·
  have hno:=fun k=>hc (Fl.ask0.2 k)
  refine zi<|zc<|r_pv rfl rfl (zb rfl)<|r_pv rfl rfl (zd rfl)<|r_pv rfl rfl (zd rfl)<|zj<|zf<|zI<|zv<|zBc (rI .i64) ?_
  exact zpa Tryz.results20 (none,0,[]) (Fl.LabR.no hno) (zt rfl) (zt rfl) rfl (ho:=(.n:PickO _ _ _)) ((.c (j:=0) rfl .n):SelR _ _ _)
 ·
  have hok:=Fl.ask0.1 (Decidable.not_not.1 hc)
  obtain ⟨wn,hn9,rfl,rfl,hw9,hh9,hwh,hb9⟩:=Fl.rok_n hok.1 hn
  refine zD<|zf<|zi<|zc<|r_u rfl rfl (zg 0 ty24 rfl rfl (.take (.take (.take (.take .nil)))))<|r_pv rfl rfl (zb rfl)<|zx rfl rfl (.c rfl (.c rfl .n)) ce25 (zMc (w:=wn) (h:=hn9) (m:=m) (p:=p) (n:=n) (cap:=cap) (l:=l) (th:=th) (hn:=by assumption) (hw:=by first|rfl|assumption|omega) (hh:=by first|rfl|assumption|omega) (hwh:=by first|rfl|assumption|omega) (hb:=by first|rfl|assumption|omega)) (.c (j:=0) rfl .n) ?_
  rintro ⟨p32,c33,o,cc⟩ hcl
  dsimp only [List.append_eq,List.nil_append,List.cons_append]
  replace hcl:Fl.Lst (fun j=>Fl.ge l th j=true) (Fl.nb false wn n) cc∧Fl.OutI n (Fl.ge l th) cc n o:=hcl
  refine r_pv rfl rfl (zb rfl)<|r_pv rfl rfl (zm rfl rfl)<|r_pv rfl rfl (zm rfl rfl)<|r_pv rfl rfl (zd rfl)<|r_pv rfl rfl (zd rfl)<|zj<|zf<|zi<|zc<|r_pv rfl rfl (zb rfl)<|r_pv rfl rfl (zd rfl)<|r_pv rfl rfl (zd rfl)<|zj<|zf<|zI ?_
  have hol:=hcl.2.len
  exact zpa Tryz.results20 (p32,c33,o) (Fl.LabR.yes hok hn (hcl.2.lab hcl.1 (fun j hj=>by have:=Fl.ge_lt hj;omega))) (zt rfl) (zt rfl) (by rw [Decidable.not_not.1 hc,hol]) (ho:=(.n:PickO _ _ _)) ((.c (j:=0) rfl .n):SelR _ _ _)
end Go.Proofs.YtefbbhiaalcjfaaGreat.Sp
namespace Go.Proofs.YtefbbhiaalcjfaaGreat.Fl
open Sp
def edg (w h k:Nat):Bool:=decide (k%w=0∨k / w=0∨k%w+1=w∨k / w+1=h)
theorem edg_iff {w h k:Nat}:edg w h k=true↔(k%w=0∨k / w=0∨k%w+1=w∨k / w+1=h):=by simp [edg]
def brd (n:Nat) (f:Nat→Bool) (c:Nat→Nat) (g:Nat→Bool) (j:Nat):Bool:=(List.range n).any (fun k=>f k&&g k&&decide (c k=j))
theorem brd_iff {n:Nat} {f:Nat→Bool} {c:Nat→Nat} {g:Nat→Bool} {j:Nat}:brd n f c g j=true↔∃k,k<n∧f k=true∧g k=true∧c k=j:=by
  simp [brd,and_assoc]
def hol (n:Nat) (f:Nat→Bool) (c:Nat→Nat) (g:Nat→Bool):Nat:=cnt (fun j=>ldr f c j&& !brd n f c g j) n
theorem cnt_split (q b:Nat→Bool) (i:Nat):cnt q i=cnt (fun j=>q j&&b j) i+cnt (fun j=>q j&& !b j) i:=by
  induction i with
  |zero=>rfl
  |succ i ih=>rw [cnt_succ,cnt_succ,cnt_succ,ih];cases q i <;> cases b i <;> simp <;> omega
section
variable {n i : Nat} {f g : Nat → Bool} {adj : Nat → Nat → Prop} {c d : Nat → Nat}
theorem brd_uniq (hc:Lst (fun j=>f j=true) adj c) (hd:Lst (fun j=>f j=true) adj d):brd n f c g=brd n f d g:=by
  funext j
  rw [Bool.eq_iff_iff,brd_iff,brd_iff]
  exact ⟨fun ⟨k,h1,h2,h3,h4⟩=>⟨k,h1,h2,h3,by rw [← hc.uniq hd h2];exact h4⟩,fun ⟨k,h1,h2,h3,h4⟩=>⟨k,h1,h2,h3,by rw [hc.uniq hd h2];exact h4⟩⟩
theorem hol_uniq (hc:Lst (fun j=>f j=true) adj c) (hd:Lst (fun j=>f j=true) adj d):hol n f c g=hol n f d g:=by
  unfold hol;rw [ldr_uniq hc hd,brd_uniq hc hd]
structure OpnI (f:Nat→Bool) (c:Nat→Nat) (g:Nat→Bool) (i:Nat) (mp:List (Int×Bool)):Prop where
  nd:(mp.map (·.1)).Nodup
  mem:∀z,z∈mp.map (·.1)↔∃k,k<i∧f k=true∧g k=true∧z=(cnt (ldr f c) (c k):Int)
theorem OpnI.start:OpnI f c g 0 []:=⟨by simp,fun z=>⟨fun h=>(by cases h),fun ⟨_,h,_⟩=>(by omega)⟩⟩
theorem OpnI.skip {mp:List (Int×Bool)} (h:OpnI f c g i mp) (hx:¬(f i=true∧g i=true)):OpnI f c g (i+1) mp:=
  ⟨h.nd,fun z=>(h.mem z).trans ⟨fun ⟨k,a,b⟩=>⟨k,by omega,b⟩,fun ⟨k,a,b,e,e2⟩=>⟨k,by
    by_cases x:k=i
    · exact absurd ⟨x ▸ b,x ▸ e⟩ hx
    · omega,b,e,e2⟩⟩⟩
theorem OpnI.put {mp:List (Int×Bool)} (h:OpnI f c g i mp) (hf:f i=true) (hg:g i=true):OpnI f c g (i+1) (mput mp (cnt (ldr f c) (c i):Int) true):=by
  refine ⟨mput_nodup h.nd,fun z=> ?_⟩
  have key:z∈(mput mp (cnt (ldr f c) (c i):Int) true).map (·.1)↔z∈mp.map (·.1)∨z=(cnt (ldr f c) (c i):Int):=by
    rw [mput_keys];split
    · rename_i hm;exact ⟨.inl,fun x=>x.elim id fun x=>x ▸ hm⟩
    · simp
  rw [key,h.mem]
  constructor
  · rintro (⟨k, a, b⟩ | e)
    · exact ⟨k,by omega,b⟩
    · exact ⟨i,by omega,hf,hg,e⟩
  · rintro ⟨k, a, b, e, e2⟩
    by_cases x:k=i
    · subst x;exact .inr e2
    · exact .inl ⟨k,by omega,b,e,e2⟩
theorem OpnI.fin {mp:List (Int×Bool)} (hc:Lst (fun j=>f j=true) adj c) (hn:∀j,f j=true→j<n) (h:OpnI f c g n mp):mp.length=cnt (fun j=>ldr f c j&&brd n f c g j) n:=by
  have hP:((((List.range n).filter (fun j=>ldr f c j&&brd n f c g j)).map (fun j=>(cnt (ldr f c) j:Int)))).Nodup:=by
    refine List.pairwise_map.2 (List.Pairwise.imp_of_mem (fun {a b} ha _ hlt=> ?_) (List.Pairwise.filter _ (List.pairwise_lt_range (n:=n))))
    have h1:=(List.mem_filter.1 ha).2
    rw [Bool.and_eq_true] at h1
    have:=cnt_lt (ldr f c) hlt h1.1
    intro e;omega
  have hp:=(List.perm_ext_iff_of_nodup h.nd hP).2 fun z=>by
    rw [h.mem,List.mem_map]
    constructor
    · rintro ⟨k, a, b, e, e2⟩
      refine ⟨c k,List.mem_filter.2 ⟨List.mem_range.2 (hn _ (hc.mem b)),?_⟩,e2.symm⟩
      rw [Bool.and_eq_true]
      exact ⟨ldr_iff.2 ⟨hc.mem b,hc.idem b⟩,brd_iff.2 ⟨k,a,b,e,rfl⟩⟩
    · rintro ⟨j, hj, e2⟩
      have h1:=(List.mem_filter.1 hj).2
      rw [Bool.and_eq_true] at h1
      obtain ⟨k,a,b,e,e3⟩:=brd_iff.1 h1.2
      exact ⟨k,a,b,e,by rw [e3];exact e2.symm⟩
  have:=hp.length_eq
  rw [List.length_map,List.length_map] at this
  exact this
theorem OpnI.hol {mp:List (Int×Bool)} (hc:Lst (fun j=>f j=true) adj c) (hn:∀j,f j=true→j<n) (h:OpnI f c g n mp):((cnt (ldr f c) n:Nat):Int) - ((mp.length:Nat):Int)=(hol n f c g:Int):=by
  rw [h.fin hc hn,cnt_split (ldr f c) (brd n f c g) n];unfold Fl.hol;omega
structure BdI (n:Nat) (c:Nat→Nat) (g:Nat→Bool) (i:Nat) (b:List Bool):Prop where
  len:b.length=n
  iff:∀j,j<n→(b.getD j false=true↔∃k,k<i∧g k=true∧c k=j)
theorem getD_setB {b:List Bool} {j k:Nat} {v:Bool} (h:k<b.length):(b.set k v).getD j false=if j=k then v else b.getD j false:=by
  rw [List.getD_eq_getElem?_getD,List.getElem?_set]
  by_cases e:k=j
  · subst e;simp [h]
  · rw [if_neg e,if_neg (fun x=>e x.symm),←List.getD_eq_getElem?_getD]
theorem BdI.start:BdI n c g 0 (List.replicate n false):=⟨by simp,fun j hj=>by
  rw [List.getD_eq_getElem?_getD,List.getElem?_replicate];simp [hj]⟩
theorem BdI.skip {b:List Bool} (h:BdI n c g i b) (hg:¬g i=true):BdI n c g (i+1) b:=
  ⟨h.len,fun j hj=>(h.iff j hj).trans ⟨fun ⟨k,a,e⟩=>⟨k,by omega,e⟩,fun ⟨k,a,e,e2⟩=>⟨k,by
    by_cases x:k=i
    · exact absurd (x ▸ e) hg
    · omega,e,e2⟩⟩⟩
theorem BdI.put {b:List Bool} (h:BdI n c g i b) (hg:g i=true) (hk:c i<n):BdI n c g (i+1) (b.set (c i) true):=by
  refine ⟨by rw [List.length_set];exact h.len,fun j hj=> ?_⟩
  rw [getD_setB (by rw [h.len];exact hk)]
  by_cases e:j=c i
  · rw [if_pos e];exact ⟨fun _=>⟨i,by omega,hg,e.symm⟩,fun _=>rfl⟩
  · rw [if_neg e, h.iff j hj]
    exact ⟨fun ⟨k,a,b⟩=>⟨k,by omega,b⟩,fun ⟨k,a,b1,b2⟩=>⟨k,by
      by_cases x:k=i
      · exact absurd (by rw [← b2,x]) e
      · omega,b1,b2⟩⟩
theorem BdI.brd {b:List Bool} (h:BdI n c g n b) (hc:Lst (fun j=>f j=true) adj c) (ho:∀k,k<n→¬f k=true→c k=k) {j:Nat} (hj:j<n) (hf:f j=true):b.getD j false=brd n f c g j:=by
  rw [Bool.eq_iff_iff,h.iff j hj,brd_iff]
  exact ⟨fun ⟨k,a,e,e2⟩=>⟨k,a,by
    by_cases x:f k=true
    · exact x
    · rw [ho k a x] at e2;exact absurd (e2 ▸ hf) x,e,e2⟩,fun ⟨k,a,_,e,e2⟩=>⟨k,a,e,e2⟩⟩
theorem cnt_congr {q r:Nat→Bool} {i:Nat} (h:∀j,j<i→q j=r j):cnt q i=cnt r i:=by
  induction i with
  |zero=>rfl
  |succ i ih=>rw [cnt_succ,cnt_succ,ih (fun j hj=>h j (by omega)),h i (by omega)]
theorem BdI.hol {b:List Bool} (h:BdI n c g n b) (hc:Lst (fun j=>f j=true) adj c) (ho:∀k,k<n→¬f k=true→c k=k):cnt (fun j=>ldr f c j&& !(b.getD j false)) n=hol n f c g:=by
  refine cnt_congr fun j hj=> ?_
  by_cases e:f j=true
  · rw [h.brd hc ho hj e]
  · simp [ldr,e]
end
def HolR (w h m:Int) (l:List Int) (th:Int) (z:Int):Prop:=
  (Bl.rok w h m l∧0≤th∧th≤65536→∃c,Lst (fun j=>lo l th j=true) (nb true w.toNat l.length) c∧z=(hol l.length (lo l th) c (edg w.toNat h.toNat):Int))∧(¬(Bl.rok w h m l∧0≤th∧th≤65536)→z=0)
theorem HolR.uniq {w h m th:Int} {l:List Int} {z y:Int} (a:HolR w h m l th z) (b:HolR w h m l th y):z=y:=by
  by_cases e:Bl.rok w h m l∧0≤th∧th≤65536
  · obtain ⟨c, hc, h1⟩ := a.1 e
    obtain ⟨d,hd,h2⟩:=b.1 e
    rw [h1,h2,hol_uniq hc hd]
  · rw [a.2 e,b.2 e]
theorem HolR.no {w h m th:Int} {l:List Int} (e:¬(Bl.rok w h m l∧0≤th∧th≤65536)):HolR w h m l th 0:=⟨fun k=>absurd k e,fun _=>rfl⟩
theorem HolR.yes {w h n:Nat} {m th z:Int} {l:List Int} {c:Nat→Nat} (e:Bl.rok w h m l∧0≤th∧th≤65536) (hn:l.length=n) (hc:Lst (fun j=>lo l th j=true) (nb true w n) c) (hz:z=(hol n (lo l th) c (edg w h):Int)):HolR w h m l th z:=by
  subst hn;exact ⟨fun _=>⟨c,hc,hz⟩,fun x=>absurd e x⟩
end Go.Proofs.YtefbbhiaalcjfaaGreat.Fl
namespace Go.Proofs.YtefbbhiaalcjfaaGreat.Sp
open Go
set_option linter.unusedVariables false
set_option maxRecDepth 100000
set_option maxHeartbeats 1000000
theorem zlf {w:Int} {h:Int} {m:Int} {p:Option Addr} {n:Nat} {cap:Nat} {l:List Int} {th:Int} (hn:l.length=n):Con Tryz.prog 22 [.agg #[.int .i64 w,.int .i64 h,.int .i64 m,.slice p n cap],.int .i64 th] [] [slF (rI .i64) p cap l] (Y:=Int) (fun y=>Fl.HolR w h m l th y) (fun y=> .tuple #[.int .i64 y,.int .i64 (if Bl.rok w h m l then (if 0≤th∧th≤65536 then 0 else 2) else 1)]) (fun y=>[]) (fun y=>[]):=by
 refine zr Tryz.func22 rfl rfl rfl (fun c=> ?_)
 show RunC _ _ _ _ _ [(0,.agg #[.int .i64 w,.int .i64 h,.int .i64 m,.slice p n cap]),(1,.int .i64 th)] [] [slF (rI .i64) p cap l]
 refine zba 0 rfl (fun hL0=> ?_)
 refine zi<|zc<|zJ rfl rfl (zT rfl rfl) (fun b1=> ?_)
 refine zJ rfl rfl (zT rfl rfl) (fun b2=> ?_)
 refine r_pv rfl rfl (zd rfl)<|r_pv rfl rfl (zd rfl)<|zj<|zf<|zi<|zi<|zc<|r_u rfl rfl (zg 1 ty24 rfl rfl (.take (.take (.take (.take .nil)))))<|r_u rfl rfl (ze 0 ty3 rfl rfl rfl)<|zL rfl rfl (.c rfl (.c rfl .n)) ce24 (zTb (w:=w) (h:=h) (m:=m) (p:=p) (n:=n) (cap:=cap) (l:=l) (th:=th) (hn:=by assumption)) (.c (j:=0) rfl .n)<|r_pv rfl rfl (zd rfl)<|zj<|zf<|zi<|zc<|r_pv rfl rfl (zb rfl)<|r_pv rfl rfl (zJa rfl rfl)<|zj<|zf<|zK rfl (fun hc=> ?_) (fun hc=> ?_)
 ·
  have hno:=fun k=>hc (Fl.ask0.2 k)
  refine zi<|zc<|r_pv rfl rfl (zb rfl)<|r_pv rfl rfl (zd rfl)<|r_pv rfl rfl (zd rfl)<|zj<|zf<|zI<|zv ?_
  exact zpa Tryz.results22 0 (Fl.HolR.no hno) (zt rfl) (zt rfl) rfl (ho:=(.n:PickO _ _ _)) (.n:SelR _ _ _)
 ·
  have hok:=Fl.ask0.1 (Decidable.not_not.1 hc)
  obtain ⟨wn,hn9,rfl,rfl,hw9,hh9,hwh,hb9⟩:=Fl.rok_n hok.1 hn
  refine zD<|zf<|zi<|zWb 0 rfl .z<|zaa (OW:=[]) (O:=[emA,boxA b1 24 [.int .i64 ((wn:Nat):Int),.int .i64 ((hn9:Nat):Int),.int .i64 m,.slice p n cap]]) 100000 mixed (.then .ret) (by kernel_rfl)<|d_u 0 rfl rfl (by kernel_rfl) (by kernel_rfl) rfl rfl (zg 1 ty24 rfl rfl (.take (.take (.take (.take .nil)))))<|d_pv 1 rfl rfl (by kernel_rfl) (by kernel_rfl) rfl rfl (zob .n (.c rfl .n))<|zG 2 (by kernel_rfl) (zw rfl rfl rfl rfl (.n) ce51 (zif) (.n) ?_)
  rintro ⟨p33,c34⟩ -
  dsimp only [List.append_eq,List.nil_append,List.cons_append]
  refine zG 3 (by kernel_rfl) (zw rfl rfl rfl rfl (.c rfl (.c rfl (.c rfl .n))) ce49 (zKd (w:=wn) (h:=hn9) (m:=m) (p:=p) (n:=n) (cap:=cap) (l:=l) (tb:=b2) (th:=th) (p2:=p33) (c2:=c34) (hn:=by assumption) (hw:=by first|rfl|assumption|omega) (hh:=by first|rfl|assumption|omega) (hwh:=by first|rfl|assumption|omega) (hb:=by first|rfl|assumption|omega)) (.c (j:=2) rfl (.c (j:=1) rfl (.c (j:=0) rfl .n))) ?_)
  rintro ⟨p35,c36,o,cc⟩ hcl
  dsimp only [List.append_eq,List.nil_append,List.cons_append]
  replace hcl:Fl.Lst (fun j=>(Fl.lo l th) j=true) (Fl.nb true wn n) cc∧Fl.OutI n (Fl.lo l th) cc n o:=hcl
  refine d_pv 4 rfl rfl (by kernel_rfl) (by kernel_rfl) rfl rfl (zb rfl)<|d_pv 5 rfl rfl (by kernel_rfl) (by kernel_rfl) rfl rfl (zm rfl rfl)<|d_pv 6 rfl rfl (by kernel_rfl) (by kernel_rfl) rfl rfl (zm rfl rfl)<|d_pv 7 rfl rfl (by kernel_rfl) (by kernel_rfl) rfl rfl (zd rfl)<|d_pv 8 rfl rfl (by kernel_rfl) (by kernel_rfl) rfl rfl (zd rfl)<|zY (by kernel_rfl)<|zf<|zi<|zc<|zxa rfl rfl (zqe (κ:=Int) (ν:=Bool) (fun z:Int=> .int .i64 z) (fun z:Bool=> .bool z) (InK .i64)) (fun b7 _=> ?_)
  refine r_pv rfl rfl (zd rfl)<|zj<|zf<|zi<|zi ?_
  have hin:∀j,(Fl.lo l th) j=true→j<n:=fun j hj=>by have:=Fl.lo_lt hj;omega
  have hol:=hcl.2.len
  refine zc<|r_pv rfl rfl (zb rfl)<|r_pv rfl rfl (zR Tryz.underlying22 rfl)<|r_pv rfl rfl (zb rfl)<|zj<|zf<|zM<|zoa (X:=Nat×(List (Int×Bool))) (fun x:Nat×(List (Int×Bool))=>x.1≤n∧Fl.OpnI (Fl.lo l th) cc (Fl.edg wn hn9) x.1 x.2) (fun x=>[(30,.int .i64 ((x.1:Nat):Int)),(29,.int .i64 ((n:Nat):Int)),(28,.slice p35 n c36),(9,.map (some b7)),(8,.int .i64 (((Fl.cnt (Fl.ldr (Fl.lo l th) cc) n):Nat):Int)),(5,.int .i64 0),(4,.int .i64 0),(2,.pointer (some ⟨b1,0,none⟩))]) (fun x=>[mapA b7 (fun z:Int=> .int .i64 z) (fun z:Bool=> .bool z) (InK .i64) (x.2),boxA b1 24 [.int .i64 ((wn:Nat):Int),.int .i64 ((hn9:Nat):Int),.int .i64 m,.slice p n cap]]) (fun x=>[slF (rI .i64) p35 c36 o,slF (rI2 .i64) p33 c34 ([((1:Int),(0:Int)),(-1,0),(0,1),(0,-1)]++[(1,1),(-1,1),(1,-1),(-1,-1)]),atF b2 0 [.int .i64 th],slF (rI .i64) p cap l]) (fun x:Nat×(List (Int×Bool))=>n - x.1) (0,([]:List (Int×Bool))) (show 0≤n∧Fl.OpnI (Fl.lo l th) cc (Fl.edg wn hn9) 0 ([]:List (Int×Bool)) from by exact ⟨Nat.zero_le _,Fl.OpnI.start⟩) ((.e rfl (by first|rfl|(congr 1;omega)|simp_all) (.of rfl)):SubM _ _) (ho:=((.e (i:=0) rfl (by first|rfl|(congr 1;omega)|simp_all) (.c (i:=1) rfl .n)):PickO _ _ _)) ((.of [0,1,2,3] rfl):SelR _ _ _) ?_
  rintro ⟨i,mp⟩ hI
  replace hI:i≤n∧Fl.OpnI (Fl.lo l th) cc (Fl.edg wn hn9) i mp:=hI
  try dsimp only
  obtain ⟨hi,hM⟩:=hI
  refine zi<|zc<|r_pv rfl rfl (zfa rfl rfl)<|zj<|zf<|zi<|zK rfl (fun h8=> ?_) (fun h8=> ?_)
  ·
   have hqd:=Nat.div_le_self i wn
   have hq0:=Int.natCast_nonneg (i / wn)
   have hm0:=Int.natCast_nonneg (i%wn)
   have hmd:=Nat.mod_lt i (show 0<wn by omega)
   have hoe:=hcl.2.old i (by omega)
   have hon:=hcl.2.new i (by omega)
   have hcn:=Fl.cnt_le (Fl.ldr (Fl.lo l th) cc) (cc i)
   refine zD<|zf<|zi<|zM<|zi<|zc<|r_pv rfl rfl (zb rfl)<|zS (x0:=(o.getD i 0)) 0 i rfl Tryz.underlying22 sz3 rfl rfl rfl (by first|rfl|assumption|(simp_all;done)|omega) rfl rfl (gD (d:=0) (by omega)) (fun b9 o10 hok11=> ?_)
   replace hok11:=zn.1 hok11
   refine r_u rfl rfl (zo (j:=0) 0 ty3 rfl rfl rfl rfl)<|r_pv rfl rfl (zd rfl)<|r_pv rfl rfl (zd rfl)<|zj<|zf<|zi<|zaa (OW:=[]) (O:=[mapA b7 (fun z:Int=> .int .i64 z) (fun z:Bool=> .bool z) (InK .i64) mp,boxA b1 24 [.int .i64 ((wn:Nat):Int),.int .i64 ((hn9:Nat):Int),.int .i64 m,.slice p n cap]]) 100000 mixed (.then (.block (.then (.then (.block (.then .ret)))))) (by kernel_rfl)<|d_pv 0 rfl rfl (by kernel_rfl) (by kernel_rfl) rfl rfl (zb rfl)<|d_pv 1 rfl rfl (by kernel_rfl) (by kernel_rfl) rfl rfl (zh Tryz.underlying24 rfl sz3 rfl rfl)<|d_u 2 rfl rfl (by kernel_rfl) (by kernel_rfl) rfl rfl (ze 1 ty3 rfl rfl rfl)<|d_pv 3 rfl rfl (by kernel_rfl) (by kernel_rfl) rfl rfl (zSa (z:=(((i%wn):Nat):Int)) rfl rfl (by omega) (remN (by omega) (by omega)))<|d_pv 4 rfl rfl (by kernel_rfl) (by kernel_rfl) rfl rfl (zb rfl)<|d_pv 5 rfl rfl (by kernel_rfl) (by kernel_rfl) rfl rfl (zh Tryz.underlying24 rfl sz3 rfl rfl)<|d_u 6 rfl rfl (by kernel_rfl) (by kernel_rfl) rfl rfl (ze 1 ty3 rfl rfl rfl)<|d_pv 7 rfl rfl (by kernel_rfl) (by kernel_rfl) rfl rfl (zRa (z:=(((i / wn):Nat):Int)) rfl rfl (by omega) (by rw [quoN (z:=(((i / wn):Nat):Int)) (by omega) (by omega)];exact w64 (by omega)))<|d_pv 8 rfl rfl (by kernel_rfl) (by kernel_rfl) rfl rfl (zd rfl)<|d_pv 9 rfl rfl (by kernel_rfl) (by kernel_rfl) rfl rfl (zd rfl)<|zY (by kernel_rfl)<|zf<|zQa (X:=Unit) (fun x=>True) (fun x=>[(66,.bool (decide (0≤o.getD i 0∧(Fl.edg wn hn9) i=true))),(11,.int .i64 (o.getD i 0)),(30,.int .i64 ((i:Nat):Int)),(29,.int .i64 ((n:Nat):Int)),(28,.slice p35 n c36),(9,.map (some b7)),(8,.int .i64 (((Fl.cnt (Fl.ldr (Fl.lo l th) cc) n):Nat):Int)),(5,.int .i64 0),(4,.int .i64 0),(2,.pointer (some ⟨b1,0,none⟩))]) (fun x=>[mapA b7 (fun z:Int=> .int .i64 z) (fun z:Bool=> .bool z) (InK .i64) mp,boxA b1 24 [.int .i64 ((wn:Nat):Int),.int .i64 ((hn9:Nat):Int),.int .i64 m,.slice p n cap]]) (fun x=>[atF b9 o10 [.int .i64 (o.getD i 0)],slF (rI .i64) p35 c36 o,slF (rI2 .i64) p33 c34 ([((1:Int),(0:Int)),(-1,0),(0,1),(0,-1)]++[(1,1),(-1,1),(1,-1),(-1,-1)]),atF b2 0 [.int .i64 th],slF (rI .i64) p cap l]) ?_ ?_
   ·
    refine zc<|r_pv rfl rfl (zb rfl)<|r_pv rfl rfl (zFa rfl rfl)<|zO rfl rfl (zb rfl) (fun hk0=> ?_) (fun hk0=> ?_)
    ·
     refine r_pv rfl rfl (zb rfl)<|r_pv rfl rfl (zza rfl rfl)<|zO rfl rfl (zb rfl) (fun hx0=> ?_) (fun hx0=> ?_)
     ·
      refine za rfl rfl<|za rfl rfl<|r_pv rfl rfl (zk rfl rfl)<|r_pv rfl rfl (zb rfl)<|za rfl rfl<|za rfl rfl<|za rfl rfl<|za rfl rfl<|za rfl rfl<|r_pv rfl rfl (zk rfl rfl)<|r_pv rfl rfl (zb rfl)<|za rfl rfl<|za rfl rfl<|za rfl rfl<|za rfl rfl<|za rfl rfl<|r_pv rfl rfl (zk rfl rfl)<|r_pv rfl rfl (zk rfl rfl)<|zj ?_
      exact zZ () (show True from by first|trivial|omega|simp_all) ((.e rfl (congrArg Value.bool (by exact Eq.symm (decide_eq_true ⟨by omega,Fl.edg_iff.2 (by omega)⟩))) (.of rfl)):SubM _ _) (ho:=((.of [0,0] rfl):PickO _ _ _)) ((.of [0,1,2,3,4] rfl):SelR _ _ _)
     ·
      refine r_pv rfl rfl (zb rfl)<|r_pv rfl rfl (zza rfl rfl)<|r_pv rfl rfl (zk rfl rfl)<|zO rfl rfl (zb rfl) (fun hx1=> ?_) (fun hx1=> ?_)
      ·
       refine za rfl rfl<|za rfl rfl<|za rfl rfl<|za rfl rfl<|za rfl rfl<|r_pv rfl rfl (zk rfl rfl)<|r_pv rfl rfl (zb rfl)<|za rfl rfl<|za rfl rfl<|za rfl rfl<|za rfl rfl<|za rfl rfl<|r_pv rfl rfl (zk rfl rfl)<|r_pv rfl rfl (zk rfl rfl)<|zj ?_
       exact zZ () (show True from by first|trivial|omega|simp_all) ((.e rfl (congrArg Value.bool (by exact Eq.symm (decide_eq_true ⟨by omega,Fl.edg_iff.2 (by omega)⟩))) (.of rfl)):SubM _ _) (ho:=((.of [0,0] rfl):PickO _ _ _)) ((.of [0,1,2,3,4] rfl):SelR _ _ _)
      ·
       refine r_pv rfl rfl (zb rfl)<|r_pv rfl rfl (zh Tryz.underlying24 rfl sz3 rfl rfl)<|r_u rfl rfl (ze 1 ty3 rfl rfl rfl)<|r_pv rfl rfl (zha (z:=(((wn:Nat):Int) - 1)) rfl rfl (w64 (by omega)))<|r_pv rfl rfl (zza rfl rfl)<|r_pv rfl rfl (zk rfl rfl)<|zO rfl rfl (zb rfl) (fun hx2=> ?_) (fun hx2=> ?_)
       ·
        refine za rfl rfl<|za rfl rfl<|za rfl rfl<|za rfl rfl<|za rfl rfl<|r_pv rfl rfl (zk rfl rfl)<|r_pv rfl rfl (zk rfl rfl)<|zj ?_
        exact zZ () (show True from by first|trivial|omega|simp_all) ((.e rfl (congrArg Value.bool (by exact Eq.symm (decide_eq_true ⟨by omega,Fl.edg_iff.2 (by omega)⟩))) (.of rfl)):SubM _ _) (ho:=((.of [0,0] rfl):PickO _ _ _)) ((.of [0,1,2,3,4] rfl):SelR _ _ _)
       ·
        refine r_pv rfl rfl (zb rfl)<|r_pv rfl rfl (zh Tryz.underlying24 rfl sz3 rfl rfl)<|r_u rfl rfl (ze 1 ty3 rfl rfl rfl)<|r_pv rfl rfl (zha (z:=(((hn9:Nat):Int) - 1)) rfl rfl (w64 (by omega)))<|r_pv rfl rfl (zza rfl rfl)<|r_pv rfl rfl (zk rfl rfl)<|r_pv rfl rfl (zk rfl rfl)<|zj ?_
        exact zZ () (show True from by first|trivial|omega|simp_all) ((.e rfl (congrArg Value.bool (by exact decide_eq_decide.2 ⟨fun h9=>⟨by omega,Fl.edg_iff.2 (by omega)⟩,fun h9=>by have h8:=Fl.edg_iff.1 h9.2;omega⟩)) (.of rfl)):SubM _ _) (ho:=((.of [0,0] rfl):PickO _ _ _)) ((.of [0,1,2,3,4] rfl):SelR _ _ _)
    ·
     refine za rfl rfl<|za rfl rfl<|za rfl rfl<|za rfl rfl<|za rfl rfl<|za rfl rfl<|za rfl rfl<|za rfl rfl<|za rfl rfl<|za rfl rfl<|za rfl rfl<|za rfl rfl<|za rfl rfl<|za rfl rfl<|za rfl rfl<|za rfl rfl<|za rfl rfl<|za rfl rfl<|za rfl rfl<|za rfl rfl<|r_pv rfl rfl (zk rfl rfl)<|zj ?_
     exact zZ () (show True from by first|trivial|omega|simp_all) ((.e rfl (congrArg Value.bool (by exact Eq.symm (decide_eq_false (fun h9=>hk0 (by omega))))) (.of rfl)):SubM _ _) (ho:=((.of [0,0] rfl):PickO _ _ _)) ((.of [0,1,2,3,4] rfl):SelR _ _ _)
   ·
    rintro ⟨⟩ -
    try dsimp only
    refine zK rfl (fun hx=> ?_) (fun hx=> ?_)
    ·
     have hfi:(Fl.lo l th) i=true:=by by_cases h9:(Fl.lo l th) i=true;exact h9;have h8:=hon (fun h7=>h9 h7.1);omega
     have hoi:=hoe hfi (hin _ (hcl.1.mem hfi))
     have hci:=hcl.1.le i hfi
     refine zc<|r_pv rfl rfl (zb rfl)<|r_pv rfl rfl (zb rfl)<|zAa 0 rfl rfl rfl (zKe (a0:=(o.getD i 0)) (v:=true) ky3 Tryz.underlying78 rfl rfl rfl (zn.2 (by omega))) (fun _=> .z) (fun _ _=> ?_)
     refine zj<|zX<|zf<|zc<|r_pv rfl rfl (zN (z:=(((i+1):Nat):Int)) rfl rfl (w64 (by omega)))<|r_pv rfl rfl (zb rfl)<|zj<|zia ((i+1),mput mp (o.getD i 0) true) (show (i+1)≤n∧Fl.OpnI (Fl.lo l th) cc (Fl.edg wn hn9) (i+1) (mput mp (o.getD i 0) true) from by have h9:=hM.put hfi hx.2;rw [← hoi] at h9;exact ⟨by omega,h9⟩) (by show n - (i+1)<n - i;omega) ((.of rfl):SubM _ _) (ho:=((.of [0,0] rfl):PickO _ _ _)) ((.of [1,2,3,4] rfl):SelR _ _ _)
    ·
     refine zD<|zX<|zf<|zc<|r_pv rfl rfl (zN (z:=(((i+1):Nat):Int)) rfl rfl (w64 (by omega)))<|r_pv rfl rfl (zb rfl)<|zj<|zia ((i+1),mp) (show (i+1)≤n∧Fl.OpnI (Fl.lo l th) cc (Fl.edg wn hn9) (i+1) mp from by exact ⟨by omega,hM.skip (fun h9=>hx ⟨by have h8:=hoe h9.1 (hin _ (hcl.1.mem h9.1));omega,h9.2⟩)⟩) (by show n - (i+1)<n - i;omega) ((.of rfl):SubM _ _) (ho:=((.of [0,0] rfl):PickO _ _ _)) ((.of [1,2,3,4] rfl):SelR _ _ _)
  ·
   refine zla<|zp<|zp<|zC<|zf<|zi ?_
   have hin8:i=n:=by omega
   rw [hin8] at hM
   have hml:=hM.hol hcl.1 hin
   have hcn:=Fl.cnt_le (Fl.ldr (Fl.lo l th) cc) n
   refine zc<|r_pv rfl rfl (zb rfl)<|r_pv rfl rfl (zb rfl)<|r_u rfl rfl (zLe (encK:=(fun z:Int=> .int .i64 z)) (encV:=(fun z:Bool=> .bool z)) (ok:=(InK .i64)) (m:=mp) 0 rfl Tryz.underlying78 rfl)<|r_pv rfl rfl (zha (z:=((((Fl.cnt (Fl.ldr (Fl.lo l th) cc) n):Nat):Int) - (((mp).length:Nat):Int))) rfl rfl (w64 (by omega)))<|r_pv rfl rfl (zd rfl)<|r_pv rfl rfl (zd rfl)<|zj<|zf<|zI ?_
   exact zpa Tryz.results22 ((Fl.hol n (Fl.lo l th) cc (Fl.edg wn hn9):Nat):Int) (Fl.HolR.yes hok hn hcl.1 rfl) (zt rfl) (zt rfl) (by rw [Decidable.not_not.1 hc,hM.hol hcl.1 hin]) (ho:=(.n:PickO _ _ _)) (.n:SelR _ _ _)
end Go.Proofs.YtefbbhiaalcjfaaGreat.Sp
namespace Go.Proofs.YtefbbhiaalcjfaaGreat.Fl
open Sp (Bb b0)
def one (w:Nat) (l:List Int) (i:Nat):Bb:=
  ⟨1,((i%w:Nat):Int),((i / w:Nat):Int),((i%w:Nat):Int),((i / w:Nat):Int),((i%w:Nat):Int),((i / w:Nat):Int),((i%w:Nat):Int)*((i%w:Nat):Int),((i%w:Nat):Int)*((i / w:Nat):Int),((i / w:Nat):Int)*((i / w:Nat):Int),l.getD i 0,l.getD i 0*((i%w:Nat):Int),l.getD i 0*((i / w:Nat):Int)⟩
def tog (a b:Bb):Bb:=
  ⟨a.ar+b.ar,min a.le b.le,min a.tp b.tp,max a.rt b.rt,max a.bt b.bt,a.sx+b.sx,a.sy+b.sy,a.xx+b.xx,a.xy+b.xy,a.yy+b.yy,a.ms+b.ms,a.mx+b.mx,a.my+b.my⟩
def okb (a:Bb):Prop:=Bl.ok a.ar a.le a.tp a.rt a.bt a.sx a.sy a.xx a.xy a.yy a.ms a.mx a.my
instance (a:Bb):Decidable (okb a):=inferInstanceAs (Decidable (Bl.ok ..))
def acc (w:Nat) (l o:List Int) (k:Int):Nat→Option Bb
  |0=>none
  |i+1=>if o.getD i 0=k then some (match acc w l o k i with|none=>one w l i|some a=>tog a (one w l i)) else acc w l o k i
theorem one_ok {w h n i:Nat} {l:List Int} (hw:1≤w∧w≤64) (hh:h≤64) (hn:n=w*h) (hi:i<n) (hg:0≤l.getD i 0∧l.getD i 0≤65535):okb (one w l i):=by
  have h1:i%w≤63:=by have:=Nat.mod_lt i (show 0<w by omega);omega
  have h2:i / w≤63:=by have:=Nat.div_lt_of_lt_mul (show i<w*h by omega);omega
  unfold okb one Bl.ok
  dsimp only
  generalize ((i%w:Nat))=X at *;generalize i / w=Y at *;generalize l.getD i 0=G at*
  have a1:=Bl.mul_b (x:=(X:Int)) (y:=(X:Int)) (m:=63) (n:=63) (by omega) (by omega)
  have a2:=Bl.mul_b (x:=(X:Int)) (y:=(Y:Int)) (m:=63) (n:=63) (by omega) (by omega)
  have a3:=Bl.mul_b (x:=(Y:Int)) (y:=(Y:Int)) (m:=63) (n:=63) (by omega) (by omega)
  omega
theorem mul_le2 {a b x y s:Int} (ha:0≤a) (hx:y≤x) (hs:a*x≤s):a*y≤s:=Int.le_trans (Int.mul_le_mul_of_nonneg_left hx ha) hs
theorem mul_ge2 {a b x y s:Int} (ha:0≤a) (hx:x≤y) (hs:s≤a*x):s≤a*y:=Int.le_trans hs (Int.mul_le_mul_of_nonneg_left hx ha)
theorem tog_ok {a b:Bb} (ha:okb a) (hb:okb b) (h:a.ar+b.ar≤4096):okb (tog a b):=by
  unfold okb Bl.ok at ha hb
  unfold okb tog Bl.ok
  dsimp only
  obtain ⟨a1,a2,a3,a4,a5,a6,a7,a8,a9,a10,a11,a12,a13⟩:=ha
  obtain ⟨b1,b2,b3,b4,b5,b6,b7,b8,b9,b10,b11,b12,b13⟩:=hb
  simp only [Int.add_mul]
  have m1:min a.le b.le≤a.le:=by omega
  have m2:min a.le b.le≤b.le:=by omega
  have m3:min a.tp b.tp≤a.tp:=by omega
  have m4:min a.tp b.tp≤b.tp:=by omega
  have m5:a.rt≤max a.rt b.rt:=by omega
  have m6:b.rt≤max a.rt b.rt:=by omega
  have m7:a.bt≤max a.bt b.bt:=by omega
  have m8:b.bt≤max a.bt b.bt:=by omega
  have c1:=mul_le2 (b:=0) (by omega) m1 a6.1
  have c2:=mul_le2 (b:=0) (by omega) m2 b6.1
  have c3:=mul_ge2 (b:=0) (by omega) m5 a6.2
  have c4:=mul_ge2 (b:=0) (by omega) m6 b6.2
  have c5:=mul_le2 (b:=0) (by omega) m3 a7.1
  have c6:=mul_le2 (b:=0) (by omega) m4 b7.1
  have c7:=mul_ge2 (b:=0) (by omega) m7 a7.2
  have c8:=mul_ge2 (b:=0) (by omega) m8 b7.2
  have d1:=mul_le2 (b:=0) (by omega) m1 a12.1
  have d2:=mul_le2 (b:=0) (by omega) m2 b12.1
  have d3:=mul_ge2 (b:=0) (by omega) m5 a12.2
  have d4:=mul_ge2 (b:=0) (by omega) m6 b12.2
  have d5:=mul_le2 (b:=0) (by omega) m3 a13.1
  have d6:=mul_le2 (b:=0) (by omega) m4 b13.1
  have d7:=mul_ge2 (b:=0) (by omega) m7 a13.2
  have d8:=mul_ge2 (b:=0) (by omega) m8 b13.2
  clear a6 b6 a7 b7 a12 b12 a13 b13
  omega
theorem acc_ok {w h n:Nat} {l o:List Int} {k:Int} (hw:1≤w∧w≤64) (hh:h≤64) (hn:n=w*h) (hb:n≤4096) (hg:∀i,i<n→0≤l.getD i 0∧l.getD i 0≤65535):∀i,i≤n→∀a,acc w l o k i=some a→okb a∧a.ar≤(i:Int):=by
  intro i
  induction i with
  |zero=>intro _ a e;cases e
  |succ i ih=>
    intro hi a e
    have ho:=one_ok hw hh hn (show i<n by omega) (hg i (by omega))
    unfold acc at e
    split at e
    · cases hc : acc w l o k i with
      |none=>rw [hc] at e;cases e;exact ⟨ho,by show (1:Int)≤_;omega⟩
      |some b=>
        rw [hc] at e;cases e
        obtain ⟨h1,h2⟩:=ih (by omega) b hc
        have h3:b.ar+(one w l i).ar≤((i+1:Nat):Int):=by show b.ar+1≤_;omega
        exact ⟨tog_ok h1 ho (by omega),h3⟩
    · obtain ⟨h1,h2⟩:=ih (by omega) a e;exact ⟨h1,by omega⟩
def gb (a:Option Bb):Bb:=a.getD b0
def bls (w:Nat) (l o:List Int) (N n:Nat):List Bb:=(List.range N).map (fun k:Nat=>gb (acc w l o (k:Int) n))
theorem bls_len (w:Nat) (l o:List Int) (N n:Nat):(bls w l o N n).length=N:=by simp [bls]
theorem bls_get {w:Nat} {l o:List Int} {N n k:Nat} (h:k<N):(bls w l o N n).getD k b0=gb (acc w l o (k:Int) n):=by
  unfold bls;rw [List.getD_eq_getElem?_getD,List.getElem?_map,List.getElem?_range h];rfl
theorem ext_gD {A B:List Bb} (hl:A.length=B.length) (h:∀k,k<A.length→A.getD k b0=B.getD k b0):A=B:=by
  refine List.ext_getElem hl fun k h1 h2=> ?_
  have:=h k h1
  rw [List.getD_eq_getElem?_getD,List.getD_eq_getElem?_getD,List.getElem?_eq_getElem h1,List.getElem?_eq_getElem h2] at this
  exact this
theorem gD_set {A:List Bb} {k j:Nat} {v:Bb} (h:k<A.length):(A.set k v).getD j b0=if j=k then v else A.getD j b0:=by
  rw [List.getD_eq_getElem?_getD,List.getElem?_set]
  by_cases e:k=j
  · subst e;simp [h]
  · rw [if_neg e,if_neg (fun x=>e x.symm),←List.getD_eq_getElem?_getD]
section
variable {w h n N i : Nat} {l o : List Int} {A : List Bb}
structure TbI (w:Nat) (l o:List Int) (N i:Nat) (A:List Bb):Prop where
  len:A.length=N
  get:∀k,k<N→A.getD k b0=gb (acc w l o (k:Int) i)
theorem TbI.start:TbI w l o N 0 (List.replicate N b0):=⟨by simp,fun k hk=>by
  rw [List.getD_eq_getElem?_getD,List.getElem?_replicate];simp [hk,acc,gb]⟩
theorem TbI.skip (h:TbI w l o N i A) (hx:o.getD i 0<0):TbI w l o N (i+1) A:=
  ⟨h.len,fun k hk=>by rw [h.get k hk];unfold acc;rw [if_neg (show ¬o.getD i 0=(k:Int) by omega)];cases i <;> rfl⟩
theorem acc_next {k:Int} (hx:o.getD i 0=k):acc w l o k (i+1)=some (match acc w l o k i with|none=>one w l i|some a=>tog a (one w l i)):=by
  rw [acc,if_pos hx]
theorem acc_keep {k:Int} (hx:¬o.getD i 0=k):acc w l o k (i+1)=acc w l o k i:=by rw [acc,if_neg hx]
theorem TbI.put (h:TbI w l o N i A) {k:Nat} {v:Bb} (hk:k<N) (ho:o.getD i 0=(k:Int)) (hv:v=gb (acc w l o (k:Int) (i+1))):TbI w l o N (i+1) (A.set k v):=
  ⟨by rw [List.length_set];exact h.len,fun j hj=>by
    rw [gD_set (by rw [h.len];exact hk)]
    by_cases e:j=k
    · rw [if_pos e,hv,e]
    · rw [if_neg e,h.get j hj,acc_keep (show ¬o.getD i 0=(j:Int) by omega)]⟩
theorem gb_new {k:Int} (hx:o.getD i 0=k) (ha:(gb (acc w l o k i)).ar=0) (hok:∀a,acc w l o k i=some a→okb a):one w l i=gb (acc w l o k (i+1)):=by
  rw [acc_next hx]
  cases e:acc w l o k i with
  |none=>rfl
  |some a=>rw [e] at ha;have:=(hok a e).1;change a.ar=0 at ha;omega
theorem gb_old {k:Int} (hx:o.getD i 0=k) (ha:¬(gb (acc w l o k i)).ar=0):tog (gb (acc w l o k i)) (one w l i)=gb (acc w l o k (i+1)):=by
  rw [acc_next hx]
  cases e:acc w l o k i with
  |none=>rw [e] at ha;exact absurd rfl ha
  |some a=>rfl
theorem gb_ok {k:Int} (ha:¬(gb (acc w l o k i)).ar=0) (hok:∀a,acc w l o k i=some a→okb a∧a.ar≤(i:Int)):okb (gb (acc w l o k i))∧(gb (acc w l o k i)).ar≤(i:Int):=by
  cases e:acc w l o k i with
  |none=>rw [e] at ha;exact absurd rfl ha
  |some a=>exact hok a e
theorem gb_okn {k:Int} (ha:acc w l o k i≠none) (hok:∀a,acc w l o k i=some a→okb a∧a.ar≤(i:Int)):okb (gb (acc w l o k i)):=by
  cases e:acc w l o k i with
  |none=>exact absurd e ha
  |some a=>exact (hok a e).1
theorem TbI.fin (h:TbI w l o N n A):A=bls w l o N n:=ext_gD (by rw [h.len,bls_len]) fun k hk=>by
  rw [h.len] at hk;rw [h.get k hk,bls_get hk]
end
structure LabC (n:Nat) (f:Nat→Bool) (c:Nat→Nat) (o:List Int):Prop where
  len:o.length=n
  yes:∀j,j<n→f j=true→o.getD j 0=(cnt (ldr f c) (c j):Int)
  not:∀j,j<n→¬f j=true→o.getD j 0= -1
section
variable {w n i : Nat} {f : Nat → Bool} {adj : Nat → Nat → Prop} {c : Nat → Nat} {l o : List Int}
theorem OutI.labc (hc:Lst (fun j=>f j=true) adj c) (hn:∀j,f j=true→j<n) (h:OutI n f c n o):LabC n f c o:=
  ⟨h.len,fun j hj hf=>h.old j hj hf (hn _ (hc.mem hf)),fun j hj hf=>h.new j hj fun k=>hf k.1⟩
theorem Lab.labc (h:Lab n f adj o):∃c,Lst (fun j=>f j=true) adj c∧LabC n f c o:=let ⟨c,a,b,d⟩:=h.ex;⟨c,a,h.len,b,d⟩
theorem LabC.lt (hc:Lst (fun j=>f j=true) adj c) (hn:∀j,f j=true→j<n) (h:LabC n f c o) (hi:i<n) (hf:f i=true):o.getD i 0<(cnt (ldr f c) n:Int)∧0≤o.getD i 0:=by
  rw [h.yes i hi hf]
  have:=cnt_lt (ldr f c) (hn _ (hc.mem hf)) (ldr_iff.2 ⟨hc.mem hf,hc.idem hf⟩)
  omega
theorem LabC.pos (h:LabC n f c o) (hi:i<n):(0≤o.getD i 0↔f i=true):=by
  by_cases e:f i=true
  · rw [h.yes i hi e];exact ⟨fun _=>e,fun _=>by omega⟩
  · rw [h.not i hi e];exact ⟨fun x=>by omega,fun x=>absurd x e⟩
theorem LabC.fresh (hc:Lst (fun j=>f j=true) adj c) (h:LabC n f c o):∀i,i≤n→∀k:Nat,cnt (ldr f c) i≤k→acc w l o (k:Int) i=none:=by
  intro i
  induction i with
  |zero=>intro _ k _;rfl
  |succ i ih=>
    intro hi k hk
    have h1:=cnt_mono (ldr f c) (show i≤i+1 by omega)
    rw [acc_keep,ih (by omega) k (by omega)]
    intro e
    by_cases hf:f i=true
    · rw [h.yes i (by omega) hf] at e
      have h2:=cnt_lt (ldr f c) (show c i<i+1 by have:=hc.le i hf;omega) (ldr_iff.2 ⟨hc.mem hf,hc.idem hf⟩)
      omega
    · rw [h.not i (by omega) hf] at e;omega
theorem LabC.lead (hc:Lst (fun j=>f j=true) adj c) (h:LabC n f c o) (hi:i<n) (hf:f i=true) (he:o.getD i 0=(cnt (ldr f c) i:Int)):ldr f c i=true:=by
  have hci:c i=i:=by
    by_cases e:c i<i
    · have h2 := cnt_lt (ldr f c) e (ldr_iff.2 ⟨hc.mem hf, hc.idem hf⟩)
      rw [h.yes i hi hf] at he;omega
    · have:=hc.le i hf;omega
  exact ldr_iff.2 ⟨hf,hci⟩
theorem acc_some {k:Int}:∀i,(∃j,j<i∧o.getD j 0=k)→acc w l o k i≠none:=by
  intro i
  induction i with
  |zero=>rintro ⟨j,h,_⟩;omega
  |succ i ih=>
    rintro ⟨j,h,e⟩
    by_cases x:o.getD i 0=k
    · rw [acc_next x];exact fun y=>by cases y
    · rw [acc_keep x];exact ih ⟨j,by by_cases z:j=i;exact absurd (z ▸ e) x;omega,e⟩
theorem LabC.seen (hc:Lst (fun j=>f j=true) adj c) (h:LabC n f c o) (hi:i<n) (hf:f i=true) (he:¬o.getD i 0=(cnt (ldr f c) i:Int)):acc w l o (o.getD i 0) i≠none:=by
  have hci:¬c i=i:=fun e=>he (by rw [h.yes i hi hf,e])
  have hlt:c i<i:=by have:=hc.le i hf;omega
  refine acc_some i ⟨c i,hlt,?_⟩
  rw [h.yes i hi hf,h.yes (c i) (by omega) (hc.mem hf),hc.idem hf]
end
def BlsR (w h m:Int) (l:List Int) (th:Int) (A:List Bb):Prop:=
  (Bl.rok w h m l∧0≤th∧th≤65536→∃c o,Lst (fun j=>ge l th j=true) (nb false w.toNat l.length) c∧LabC l.length (ge l th) c o∧A=bls w.toNat l o (cnt (ldr (ge l th) c) l.length) l.length)∧(¬(Bl.rok w h m l∧0≤th∧th≤65536)→A=[])
theorem LabC.lab {n:Nat} {f:Nat→Bool} {adj:Nat→Nat→Prop} {c:Nat→Nat} {o:List Int} (hc:Lst (fun j=>f j=true) adj c) (h:LabC n f c o):Lab n f adj o:=⟨h.len,c,hc,h.yes,h.not⟩
theorem BlsR.uniq {w h m th:Int} {l:List Int} {A B:List Bb} (a:BlsR w h m l th A) (b:BlsR w h m l th B):A=B:=by
  by_cases e:Bl.rok w h m l∧0≤th∧th≤65536
  · obtain ⟨c, o, h1, h2, h3⟩ := a.1 e
    obtain ⟨d,p,k1,k2,k3⟩:=b.1 e
    have e1:o=p:=(h2.lab h1).uniq (k2.lab k1)
    rw [h3,k3,e1,ldr_uniq h1 k1]
  · rw [a.2 e,b.2 e]
theorem BlsR.no {w h m th:Int} {l:List Int} (e:¬(Bl.rok w h m l∧0≤th∧th≤65536)):BlsR w h m l th []:=⟨fun k=>absurd k e,fun _=>rfl⟩
theorem BlsR.yes {w n:Nat} {h m th:Int} {l o:List Int} {c:Nat→Nat} {A:List Bb} (e:Bl.rok w h m l∧0≤th∧th≤65536) (hn:l.length=n) (hc:Lst (fun j=>ge l th j=true) (nb false w n) c) (ho:LabC n (ge l th) c o) (hA:A=bls w l o (cnt (ldr (ge l th) c) n) n):BlsR w h m l th A:=by
  subst hn;exact ⟨fun _=>⟨c,o,hc,ho,hA⟩,fun x=>absurd e x⟩
theorem rok_g {w h m:Int} {l:List Int} {n:Nat} (e:Bl.rok w h m l) (hn:l.length=n):∀i,i<n→0≤l.getD i 0∧l.getD i 0≤65535:=fun i hi=>by
  obtain ⟨_,_,h3,_,h5⟩:=e
  have hm:l.getD i 0∈l:=Big.getD_mem (by omega)
  by_cases k:l.getD i 0<0∨m<l.getD i 0
  · exact absurd ⟨_,hm,k⟩ h5
  · omega
end Go.Proofs.YtefbbhiaalcjfaaGreat.Fl
namespace Go.Proofs.YtefbbhiaalcjfaaGreat.Sp
open Go
set_option linter.unusedVariables false
set_option maxRecDepth 100000
set_option maxHeartbeats 1000000
theorem zmf {w:Int} {h:Int} {m:Int} {p:Option Addr} {n:Nat} {cap:Nat} {l:List Int} {th:Int} (hn:l.length=n):Con Tryz.prog 7 [.agg #[.int .i64 w,.int .i64 h,.int .i64 m,.slice p n cap],.int .i64 th] [] [slF (rI .i64) p cap l] (Y:=(Option Addr)×Nat×(List Bb)) (fun y=>Fl.BlsR w h m l th y.2.2) (fun y=> .tuple #[.slice (y.1) (y.2.2.length) (y.2.1),.int .i64 (if Bl.rok w h m l then (if 0≤th∧th≤65536 then 0 else 2) else 1)]) (fun y=>[]) (fun y=>[slF (rI13 .i64) (y.1) (y.2.1) (y.2.2)]):=by
 refine zr Tryz.func7 rfl rfl rfl (fun c=> ?_)
 show RunC _ _ _ _ _ [(0,.agg #[.int .i64 w,.int .i64 h,.int .i64 m,.slice p n cap]),(1,.int .i64 th)] [] [slF (rI .i64) p cap l]
 refine zba 0 rfl (fun hL0=> ?_)
 refine zi<|zc<|zJ rfl rfl (zT rfl rfl) (fun b1=> ?_)
 refine r_pv rfl rfl (zd rfl)<|r_pv rfl rfl (zd rfl)<|zj<|zf<|zi<|zi<|zc<|r_u rfl rfl (zg 0 ty24 rfl rfl (.take (.take (.take (.take .nil)))))<|r_pv rfl rfl (zb rfl)<|zL rfl rfl (.c rfl (.c rfl .n)) ce24 (zTb (w:=w) (h:=h) (m:=m) (p:=p) (n:=n) (cap:=cap) (l:=l) (th:=th) (hn:=by assumption)) (.c (j:=0) rfl .n)<|r_pv rfl rfl (zd rfl)<|zj<|zf<|zi<|zc<|r_pv rfl rfl (zb rfl)<|r_pv rfl rfl (zJa rfl rfl)<|zj<|zf<|zK rfl (fun hc=> ?_) (fun hc=> ?_)
 ·
  have hno:=fun k=>hc (Fl.ask0.2 k)
  refine zi<|zc<|r_pv rfl rfl (zb rfl)<|r_pv rfl rfl (zd rfl)<|r_pv rfl rfl (zd rfl)<|zj<|zf<|zI<|zv<|zBc (rI13 .i64) ?_
  exact zpa Tryz.results7 (none,0,[]) (Fl.BlsR.no hno) (zt rfl) (zt rfl) rfl (ho:=(.n:PickO _ _ _)) ((.c (j:=0) rfl .n):SelR _ _ _)
 ·
  have hok:=Fl.ask0.1 (Decidable.not_not.1 hc)
  obtain ⟨wn,hn9,rfl,rfl,hw9,hh9,hwh,hb9⟩:=Fl.rok_n hok.1 hn
  refine zD<|zf<|zi<|zc<|r_u rfl rfl (zg 0 ty24 rfl rfl (.take (.take (.take (.take .nil)))))<|r_pv rfl rfl (zb rfl)<|zx rfl rfl (.c rfl (.c rfl .n)) ce25 (zMc (w:=wn) (h:=hn9) (m:=m) (p:=p) (n:=n) (cap:=cap) (l:=l) (th:=th) (hn:=by assumption) (hw:=by first|rfl|assumption|omega) (hh:=by first|rfl|assumption|omega) (hwh:=by first|rfl|assumption|omega) (hb:=by first|rfl|assumption|omega)) (.c (j:=0) rfl .n) ?_
  rintro ⟨p32,c33,o,cc⟩ hcl
  dsimp only [List.append_eq,List.nil_append,List.cons_append]
  replace hcl:Fl.Lst (fun j=>Fl.ge l th j=true) (Fl.nb false wn n) cc∧Fl.OutI n (Fl.ge l th) cc n o:=hcl
  refine r_pv rfl rfl (zb rfl)<|r_pv rfl rfl (zm rfl rfl)<|r_pv rfl rfl (zm rfl rfl)<|r_pv rfl rfl (zd rfl)<|r_pv rfl rfl (zd rfl)<|zj<|zf<|zi ?_
  have hin:∀j,(Fl.ge l th) j=true→j<n:=fun j hj=>by have:=Fl.ge_lt hj;omega
  have hLC:=hcl.2.labc hcl.1 hin
  have hol:=hLC.len
  have hcn:=Fl.cnt_le (Fl.ldr (Fl.ge l th) cc) n
  refine zc<|r_pv rfl rfl (zb rfl)<|zxa rfl rfl (zkb (r:=rI13 .i64) (k:=(Fl.cnt (Fl.ldr (Fl.ge l th) cc) n)) (x0:=b0) (γ0:=()) Tryz.underlying27 inf33 rfl rfl rfl rfl (by omega) (by omega) rfl (fun _ _=>by exact okB_0) (by decide)) (fun b4 _=> ?_)
  refine r_pv rfl rfl (zd rfl)<|zj<|zf<|zi<|zi<|zc<|r_pv rfl rfl (zb rfl)<|r_pv rfl rfl (zR Tryz.underlying22 rfl)<|r_pv rfl rfl (zb rfl)<|zj<|zf<|zM<|zoa (X:=Nat×(List Bb)) (fun x:Nat×(List Bb)=>x.1≤n∧Fl.TbI wn l o (Fl.cnt (Fl.ldr (Fl.ge l th) cc) n) x.1 x.2) (fun x=>[(32,.int .i64 ((x.1:Nat):Int)),(31,.int .i64 ((n:Nat):Int)),(30,.slice p32 n c33),(9,.slice (some ⟨b4,0,none⟩) (Fl.cnt (Fl.ldr (Fl.ge l th) cc) n) (Fl.cnt (Fl.ldr (Fl.ge l th) cc) n)),(5,.int .i64 0),(4,.slice none 0 0),(2,.pointer (some ⟨b1,0,none⟩))]) (fun x=>[rowA 33 (rI13 .i64) (some ⟨b4,0,none⟩) (Fl.cnt (Fl.ldr (Fl.ge l th) cc) n) (x.2),boxA b1 24 [.int .i64 ((wn:Nat):Int),.int .i64 ((hn9:Nat):Int),.int .i64 m,.slice p n cap]]) (fun x=>[slF (rI .i64) p32 c33 o,slF (rI .i64) p cap l]) (fun x:Nat×(List Bb)=>n - x.1) (0,List.replicate (Fl.cnt (Fl.ldr (Fl.ge l th) cc) n) b0) (show 0≤n∧Fl.TbI wn l o (Fl.cnt (Fl.ldr (Fl.ge l th) cc) n) 0 (List.replicate (Fl.cnt (Fl.ldr (Fl.ge l th) cc) n) b0) from by exact ⟨Nat.zero_le _,Fl.TbI.start⟩) ((.e rfl (by first|rfl|(congr 1;omega)|simp_all) (.of rfl)):SubM _ _) (ho:=((.of [0,0] rfl):PickO _ _ _)) ((.of [0,1] rfl):SelR _ _ _) ?_
  rintro ⟨i,A⟩ hI
  replace hI:i≤n∧Fl.TbI wn l o (Fl.cnt (Fl.ldr (Fl.ge l th) cc) n) i A:=hI
  try dsimp only
  obtain ⟨hi,hT⟩:=hI
  have hAl:=hT.len
  refine zi<|zc<|r_pv rfl rfl (zfa rfl rfl)<|zj<|zf<|zi<|zK rfl (fun h5=> ?_) (fun h5=> ?_)
  ·
   refine zD<|zf<|zi<|zM<|zi<|zc<|r_pv rfl rfl (zb rfl)<|zS (x0:=(o.getD i 0)) 0 i rfl Tryz.underlying22 sz3 rfl rfl rfl (by first|rfl|assumption|(simp_all;done)|omega) rfl rfl (gD (d:=0) (by omega)) (fun b6 o7 hok8=> ?_)
   replace hok8:=zn.1 hok8
   refine r_u rfl rfl (zo (j:=0) 0 ty3 rfl rfl rfl rfl)<|r_pv rfl rfl (zd rfl)<|r_pv rfl rfl (zd rfl)<|zj<|zf<|zi<|zi<|zc<|r_pv rfl rfl (zb rfl)<|r_pv rfl rfl (zfa rfl rfl)<|zj<|zf<|zK rfl (fun hneg=> ?_) (fun hneg=> ?_)
   ·
    refine zla<|zp<|zC<|zf<|zc<|r_pv rfl rfl (zN (z:=(((i+1):Nat):Int)) rfl rfl (w64 (by omega)))<|r_pv rfl rfl (zb rfl)<|zj<|zia ((i+1),A) (show (i+1)≤n∧Fl.TbI wn l o (Fl.cnt (Fl.ldr (Fl.ge l th) cc) n) (i+1) A from by exact ⟨by omega,hT.skip hneg⟩) (by show n - (i+1)<n - i;omega) ((.of rfl):SubM _ _) (ho:=((.of [0,0] rfl):PickO _ _ _)) ((.of [1,2] rfl):SelR _ _ _)
   ·
    have hqd:=Nat.div_le_self i wn
    have hq0:=Int.natCast_nonneg (i / wn)
    have hm0:=Int.natCast_nonneg (i%wn)
    have hfi:(Fl.ge l th) i=true:=(hLC.pos (by omega)).1 (by omega)
    obtain ⟨hlt9,hge9⟩:=hLC.lt hcl.1 hin (show i<n by omega) hfi
    obtain ⟨kk,hkk⟩:∃kk:Nat,o.getD i 0=(kk:Int):=⟨(o.getD i 0).toNat,by omega⟩
    have e9:((o.getD i 0):Int)=((kk:Nat):Int):=by exact hkk
    rw [e9]
    have hkN:kk<(Fl.cnt (Fl.ldr (Fl.ge l th) cc) n):=by omega
    have hget:=hT.get kk hkN
    have hacc:=Fl.acc_ok (l:=l) (o:=o) (k:=(kk:Int)) hw9 hh9.2 hwh hb9 (Fl.rok_g hok.1 hn) i (by omega)
    refine zD<|zf<|zi<|zaa (OW:=[]) (O:=[rowA 33 (rI13 .i64) (some ⟨b4,0,none⟩) (Fl.cnt (Fl.ldr (Fl.ge l th) cc) n) A,boxA b1 24 [.int .i64 ((wn:Nat):Int),.int .i64 ((hn9:Nat):Int),.int .i64 m,.slice p n cap]]) 100000 mixed (.then (.block (.then (.then (.block (.then .ret)))))) (by kernel_rfl)<|d_pv 0 rfl rfl (by kernel_rfl) (by kernel_rfl) rfl rfl (zb rfl)<|d_pv 1 rfl rfl (by kernel_rfl) (by kernel_rfl) rfl rfl (zh Tryz.underlying24 rfl sz3 rfl rfl)<|d_u 2 rfl rfl (by kernel_rfl) (by kernel_rfl) rfl rfl (ze 1 ty3 rfl rfl rfl)<|d_pv 3 rfl rfl (by kernel_rfl) (by kernel_rfl) rfl rfl (zSa (z:=(((i%wn):Nat):Int)) rfl rfl (by omega) (remN (by omega) (by omega)))<|d_pv 4 rfl rfl (by kernel_rfl) (by kernel_rfl) rfl rfl (zb rfl)<|d_pv 5 rfl rfl (by kernel_rfl) (by kernel_rfl) rfl rfl (zh Tryz.underlying24 rfl sz3 rfl rfl)<|d_u 6 rfl rfl (by kernel_rfl) (by kernel_rfl) rfl rfl (ze 1 ty3 rfl rfl rfl)<|d_pv 7 rfl rfl (by kernel_rfl) (by kernel_rfl) rfl rfl (zRa (z:=(((i / wn):Nat):Int)) rfl rfl (by omega) (by rw [quoN (z:=(((i / wn):Nat):Int)) (by omega) (by omega)];exact w64 (by omega)))<|d_pv 8 rfl rfl (by kernel_rfl) (by kernel_rfl) rfl rfl (zh Tryz.underlying24 rfl sz22 rfl rfl)<|d_u 9 rfl rfl (by kernel_rfl) (by kernel_rfl) rfl rfl (ze 1 ty22 rfl rfl rfl)<|d_pv 10 rfl rfl (by kernel_rfl) (by kernel_rfl) rfl rfl (zb rfl)<|zua (x0:=(l.getD i 0)) 11 rfl rfl (by kernel_rfl) (by kernel_rfl) 2 i rfl Tryz.underlying22 sz3 rfl rfl rfl (by first|rfl|assumption|(simp_all;done)|omega) rfl rfl (gD (d:=0) (by omega)) (fun b10 o11 hok12=> ?_)
    replace hok12:=zn.1 hok12
    refine d_u 12 rfl rfl (by kernel_rfl) (by kernel_rfl) rfl rfl (zo (j:=0) 0 ty3 rfl rfl rfl rfl)<|d_pv 13 rfl rfl (by kernel_rfl) (by kernel_rfl) rfl rfl (zd rfl)<|d_pv 14 rfl rfl (by kernel_rfl) (by kernel_rfl) rfl rfl (zd rfl)<|d_pv 15 rfl rfl (by kernel_rfl) (by kernel_rfl) rfl rfl (zd rfl)<|zY (by kernel_rfl)<|zf<|zi ?_
    obtain ⟨kx,hkx⟩:∃z,z=(i%wn):=⟨_,rfl⟩
    rw [← hkx]
    obtain ⟨ky,hky⟩:∃z,z=(i / wn):=⟨_,rfl⟩
    rw [← hky]
    obtain ⟨kg,hkg⟩:∃z,z=(l.getD i 0):=⟨_,rfl⟩
    rw [← hkg]
    have hkxb:kx≤63:=by rw [hkx];have:=Nat.mod_lt i (show 0<wn by omega);omega
    have hkyb:ky≤63:=by rw [hky];have:=Nat.div_lt_of_lt_mul (show i<wn*hn9 by omega);omega
    have hkgb:0≤kg∧kg≤65535:=by rw [hkg];exact Fl.rok_g hok.1 hn i (by omega)
    have hp1:kx*kx≤63*63:=Nat.mul_le_mul hkxb hkxb
    have hp2:kx*ky≤63*63:=Nat.mul_le_mul hkxb hkyb
    have hp3:ky*ky≤63*63:=Nat.mul_le_mul hkyb hkyb
    have hp4:=Bl.mul_b (x:=kg) (y:=(kx:Int)) (m:=65535) (n:=63) hkgb (by omega)
    have hp5:=Bl.mul_b (x:=kg) (y:=(ky:Int)) (m:=65535) (n:=63) hkgb (by omega)
    have hO1:Fl.okb (Fl.one wn l i):=Fl.one_ok hw9 hh9.2 hwh (by omega) (Fl.rok_g hok.1 hn i (by omega))
    refine zc<|r_pv rfl rfl (zb rfl)<|r_pv rfl rfl (zb rfl)<|r_pv rfl rfl (zb rfl)<|r_pv rfl rfl (zb rfl)<|r_pv rfl rfl (zb rfl)<|r_pv rfl rfl (zb rfl)<|r_pv rfl rfl (zb rfl)<|r_pv rfl rfl (zb rfl)<|r_pv rfl rfl (zda (z:=(((kx*kx):Nat):Int)) rfl rfl (w64 (by omega)))<|r_pv rfl rfl (zb rfl)<|r_pv rfl rfl (zb rfl)<|r_pv rfl rfl (zda (z:=(((kx*ky):Nat):Int)) rfl rfl (w64 (by omega)))<|r_pv rfl rfl (zb rfl)<|r_pv rfl rfl (zb rfl)<|r_pv rfl rfl (zda (z:=(((ky*ky):Nat):Int)) rfl rfl (w64 (by omega)))<|r_pv rfl rfl (zb rfl)<|r_pv rfl rfl (zb rfl)<|r_pv rfl rfl (zb rfl)<|r_pv rfl rfl (zda (z:=(kg*((kx:Nat):Int))) rfl rfl (w64 (by omega)))<|r_pv rfl rfl (zb rfl)<|r_pv rfl rfl (zb rfl)<|r_pv rfl rfl (zda (z:=(kg*((ky:Nat):Int))) rfl rfl (w64 (by omega)))<|r_pv rfl rfl (zE zr33 rfl Tryz.underlying33 (.c sz3 (.c sz3 (.c sz3 (.c sz3 (.c sz3 (.c sz3 (.c sz3 (.c sz3 (.c sz3 (.c sz3 (.c sz3 (.c sz3 (.c sz3 .n))))))))))))) (.c rfl (.c rfl (.c rfl (.c rfl (.c rfl (.c rfl (.c rfl (.c rfl (.c rfl (.c rfl (.c rfl (.c rfl (.c rfl .n))))))))))))) (.c rfl rfl rfl (.take .nil) (.c rfl rfl rfl (.skip (.take .nil)) (.c rfl rfl rfl (.skip (.skip (.skip (.take .nil)))) (.c rfl rfl rfl (.skip (.skip (.take .nil))) (.c rfl rfl rfl (.skip (.skip (.skip (.skip (.take .nil))))) (.c rfl rfl rfl (.skip (.skip (.skip (.skip (.skip (.take .nil)))))) (.c rfl rfl rfl (.skip (.skip (.skip (.skip (.skip (.skip (.take .nil))))))) (.c rfl rfl rfl (.skip (.skip (.skip (.skip (.skip (.skip (.skip (.take .nil)))))))) (.c rfl rfl rfl (.skip (.skip (.skip (.skip (.skip (.skip (.skip (.skip (.take .nil))))))))) (.c rfl rfl rfl (.skip (.skip (.skip (.skip (.skip (.skip (.skip (.skip (.skip (.take .nil)))))))))) (.c rfl rfl rfl (.skip (.skip (.skip (.skip (.skip (.skip (.skip (.skip (.skip (.skip (.take .nil))))))))))) (.c rfl rfl rfl (.skip (.skip (.skip (.skip (.skip (.skip (.skip (.skip (.skip (.skip (.skip (.take .nil)))))))))))) (.c rfl rfl rfl (.skip (.skip (.skip (.skip (.skip (.skip (.skip (.skip (.skip (.skip (.skip (.skip (.take .nil))))))))))))) .n))))))))))))))<|zJ rfl rfl (zu zr33 rfl) (fun b13=> ?_)
    refine zl 0 rfl rfl rfl rfl rfl sz33 rfl (.take (.take (.take (.take (.take (.take (.take (.take (.take (.take (.take (.take (.take .nil))))))))))))) .z<|zj<|zf<|zi<|zc<|r_pv rfl rfl (zb rfl)<|r_pv rfl rfl (zb rfl)<|r_pv rfl rfl (zW (j:=kk) Tryz.underlying27 sz33 rfl rfl rfl (by omega))<|r_u rfl rfl (zud 1 rfl Tryz.underlying33 rfl sz3 rfl (by omega) rfl)<|r_vl rfl rfl (ztc (x0:=(A.getD kk b0)) (v:= .int .i64 ((A.getD kk b0).ar)) 1 kk 0 rfl ty3 rfl rfl (gD (d:=b0) (by omega)) rfl) (fun _ hok14=> ?_)
    obtain ⟨hok140,hok141,hok142,hok143,hok144,hok145,hok146,hok147,hok148,hok149,hok1410,hok1411,hok1412⟩:=hok14
    replace hok140:=zn.1 hok140
    replace hok141:=zn.1 hok141
    replace hok142:=zn.1 hok142
    replace hok143:=zn.1 hok143
    replace hok144:=zn.1 hok144
    replace hok145:=zn.1 hok145
    replace hok146:=zn.1 hok146
    replace hok147:=zn.1 hok147
    replace hok148:=zn.1 hok148
    replace hok149:=zn.1 hok149
    replace hok1410:=zn.1 hok1410
    replace hok1411:=zn.1 hok1411
    replace hok1412:=zn.1 hok1412
    refine r_pv rfl rfl (zza rfl rfl)<|zj<|zf<|zK rfl (fun hz=> ?_) (fun hz=> ?_)
    ·
     have hnew:=Fl.gb_new hkk (by rw [← hget];exact hz) (fun a ha=>(hacc a ha).1)
     refine zc<|r_pv rfl rfl (zb rfl)<|r_pv rfl rfl (zb rfl)<|r_u rfl rfl (zg 0 ty33 rfl rfl (.take (.take (.take (.take (.take (.take (.take (.take (.take (.take (.take (.take (.take .nil))))))))))))))<|r_pv rfl rfl (zW (j:=kk) Tryz.underlying27 sz33 rfl rfl rfl (by omega))<|zAa 1 rfl rfl rfl (zU (j:=kk) (x0:=(⟨1,((kx:Nat):Int),((ky:Nat):Int),((kx:Nat):Int),((ky:Nat):Int),((kx:Nat):Int),((ky:Nat):Int),(((kx*kx):Nat):Int),(((kx*ky):Nat):Int),(((ky*ky):Nat):Int),kg,(kg*((kx:Nat):Int)),(kg*((ky:Nat):Int))⟩:Bb)) (γ0:=()) rfl rfl (by first|omega|(rw [List.length_map];omega)|(simp only [List.length_set];omega)|(simp;omega)) rfl rfl sz33 (fun _ _=>by exact ⟨zn.2 (by first|omega|decide|(dsimp only;omega)),zn.2 (by first|omega|decide|(dsimp only;omega)),zn.2 (by first|omega|decide|(dsimp only;omega)),zn.2 (by first|omega|decide|(dsimp only;omega)),zn.2 (by first|omega|decide|(dsimp only;omega)),zn.2 (by first|omega|decide|(dsimp only;omega)),zn.2 (by first|omega|decide|(dsimp only;omega)),zn.2 (by first|omega|decide|(dsimp only;omega)),zn.2 (by first|omega|decide|(dsimp only;omega)),zn.2 (by first|omega|decide|(dsimp only;omega)),zn.2 (by first|omega|decide|(dsimp only;omega)),zn.2 (by first|omega|decide|(dsimp only;omega)),zn.2 (by first|omega|decide|(dsimp only;omega))⟩)) (fun _=>(.s .z)) (fun _ _=> ?_)
     refine zj<|zX<|zf<|zc<|r_pv rfl rfl (zN (z:=(((i+1):Nat):Int)) rfl rfl (w64 (by omega)))<|r_pv rfl rfl (zb rfl)<|zj<|zia ((i+1),(A.set kk (⟨1,((kx:Nat):Int),((ky:Nat):Int),((kx:Nat):Int),((ky:Nat):Int),((kx:Nat):Int),((ky:Nat):Int),(((kx*kx):Nat):Int),(((kx*ky):Nat):Int),(((ky*ky):Nat):Int),kg,(kg*((kx:Nat):Int)),(kg*((ky:Nat):Int))⟩:Bb))) (show (i+1)≤n∧Fl.TbI wn l o (Fl.cnt (Fl.ldr (Fl.ge l th) cc) n) (i+1) (A.set kk (⟨1,((kx:Nat):Int),((ky:Nat):Int),((kx:Nat):Int),((ky:Nat):Int),((kx:Nat):Int),((ky:Nat):Int),(((kx*kx):Nat):Int),(((kx*ky):Nat):Int),(((ky*ky):Nat):Int),kg,(kg*((kx:Nat):Int)),(kg*((ky:Nat):Int))⟩:Bb)) from by exact ⟨by omega,hT.put hkN hkk (by rw [← hnew,hkx,hky,hkg];rfl)⟩) (by show n - (i+1)<n - i;omega) ((.of rfl):SubM _ _) (ho:=((.of [1,1] rfl):PickO _ _ _)) ((.of [2,3] rfl):SelR _ _ _)
    ·
     have hold:=Fl.gb_old (w:=wn) (l:=l) hkk (by rw [← hget];exact hz)
     have hA1:Fl.okb (A.getD kk b0):=by rw [hget];exact (Fl.gb_ok (by rw [← hget];exact hz) hacc).1
     rw [← hget] at hold
     have hbd1:=Bl.ok_bd hA1
     unfold Bl.bd at hbd1
     refine zqa (.c (i:=1) rfl (.c (i:=0) rfl (.c (i:=0) rfl .n)))<|zaa (OW:=[rowA 33 (rI13 .i64) (some ⟨b4,0,none⟩) (Fl.cnt (Fl.ldr (Fl.ge l th) cc) n) A]) (O:=[boxA b13 33 [.int .i64 1,.int .i64 ((kx:Nat):Int),.int .i64 ((ky:Nat):Int),.int .i64 ((kx:Nat):Int),.int .i64 ((ky:Nat):Int),.int .i64 ((kx:Nat):Int),.int .i64 ((ky:Nat):Int),.int .i64 (((kx*kx):Nat):Int),.int .i64 (((kx*ky):Nat):Int),.int .i64 (((ky*ky):Nat):Int),.int .i64 kg,.int .i64 (kg*((kx:Nat):Int)),.int .i64 (kg*((ky:Nat):Int))],boxA b1 24 [.int .i64 ((wn:Nat):Int),.int .i64 ((hn9:Nat):Int),.int .i64 m,.slice p n cap]]) 9 mixed (.block (.then (.then (.block (.then .ret))))) (by kernel_rfl)<|d_pv 0 rfl rfl (by kernel_rfl) (by kernel_rfl) rfl rfl (zb rfl)<|d_pv 1 rfl rfl (by kernel_rfl) (by kernel_rfl) rfl rfl (zb rfl)<|d_pv 2 rfl rfl (by kernel_rfl) (by kernel_rfl) rfl rfl (zb rfl)<|d_pv 3 rfl rfl (by kernel_rfl) (by kernel_rfl) rfl rfl (zb rfl)<|d_pv 4 rfl rfl (by kernel_rfl) (by kernel_rfl) rfl rfl (zW (j:=kk) Tryz.underlying27 sz33 rfl rfl rfl (by omega))<|d_vlw 5 rfl rfl (by kernel_rfl) (by kernel_rfl) (by kernel_rfl) rfl rfl (zyc 0 kk rfl ty33 rfl rfl (gD (d:=b0) (by omega))) (fun _ hok15=> ?_)
     obtain ⟨hok150,hok151,hok152,hok153,hok154,hok155,hok156,hok157,hok158,hok159,hok1510,hok1511,hok1512⟩:=hok15
     replace hok150:=zn.1 hok150
     replace hok151:=zn.1 hok151
     replace hok152:=zn.1 hok152
     replace hok153:=zn.1 hok153
     replace hok154:=zn.1 hok154
     replace hok155:=zn.1 hok155
     replace hok156:=zn.1 hok156
     replace hok157:=zn.1 hok157
     replace hok158:=zn.1 hok158
     replace hok159:=zn.1 hok159
     replace hok1510:=zn.1 hok1510
     replace hok1511:=zn.1 hok1511
     replace hok1512:=zn.1 hok1512
     refine d_uw 6 rfl rfl (by kernel_rfl) (by kernel_rfl) (by kernel_rfl) rfl rfl (zg 1 ty33 rfl rfl (.take (.take (.take (.take (.take (.take (.take (.take (.take (.take (.take (.take (.take .nil))))))))))))))<|zG 7 (by kernel_rfl) (zDb rfl rfl rfl rfl (.c rfl (.c rfl .n)) ce26 (zte (ar1:=(A.getD kk b0).ar) (le1:=(A.getD kk b0).le) (tp1:=(A.getD kk b0).tp) (rt1:=(A.getD kk b0).rt) (bt1:=(A.getD kk b0).bt) (sx1:=(A.getD kk b0).sx) (sy1:=(A.getD kk b0).sy) (xx1:=(A.getD kk b0).xx) (xy1:=(A.getD kk b0).xy) (yy1:=(A.getD kk b0).yy) (ms1:=(A.getD kk b0).ms) (mx1:=(A.getD kk b0).mx) (my1:=(A.getD kk b0).my) (ar2:=1) (le2:=((kx:Nat):Int)) (tp2:=((ky:Nat):Int)) (rt2:=((kx:Nat):Int)) (bt2:=((ky:Nat):Int)) (sx2:=((kx:Nat):Int)) (sy2:=((ky:Nat):Int)) (xx2:=(((kx*kx):Nat):Int)) (xy2:=(((kx*ky):Nat):Int)) (yy2:=(((ky*ky):Nat):Int)) (ms2:=kg) (mx2:=(kg*((kx:Nat):Int))) (my2:=(kg*((ky:Nat):Int))) (hb1:=by exact Bl.ok_bd hA1) (hb2:=by exact Bl.ok_bd (by rw [hkx,hky,hkg];exact hO1))) (.n) ?_)
     refine d_pv 8 rfl rfl (by kernel_rfl) (by kernel_rfl) rfl rfl (zW (j:=kk) Tryz.underlying27 sz33 rfl rfl rfl (by omega))<|zG 9 (by kernel_rfl) (zsf (A':=fun _=>rowA 33 (rI13 .i64) (some ⟨b4,0,none⟩) (Fl.cnt (Fl.ldr (Fl.ge l th) cc) n) (A.set kk (⟨(((A.getD kk b0).ar)+1),(min ((A.getD kk b0).le) ((kx:Nat):Int)),(min ((A.getD kk b0).tp) ((ky:Nat):Int)),(max ((A.getD kk b0).rt) ((kx:Nat):Int)),(max ((A.getD kk b0).bt) ((ky:Nat):Int)),(((A.getD kk b0).sx)+((kx:Nat):Int)),(((A.getD kk b0).sy)+((ky:Nat):Int)),(((A.getD kk b0).xx)+(((kx*kx):Nat):Int)),(((A.getD kk b0).xy)+(((kx*ky):Nat):Int)),(((A.getD kk b0).yy)+(((ky*ky):Nat):Int)),(((A.getD kk b0).ms)+kg),(((A.getD kk b0).mx)+(kg*((kx:Nat):Int))),(((A.getD kk b0).my)+(kg*((ky:Nat):Int)))⟩:Bb))) (by kernel_rfl) rfl rfl rfl (zU (j:=kk) (x0:=(⟨(((A.getD kk b0).ar)+1),(min ((A.getD kk b0).le) ((kx:Nat):Int)),(min ((A.getD kk b0).tp) ((ky:Nat):Int)),(max ((A.getD kk b0).rt) ((kx:Nat):Int)),(max ((A.getD kk b0).bt) ((ky:Nat):Int)),(((A.getD kk b0).sx)+((kx:Nat):Int)),(((A.getD kk b0).sy)+((ky:Nat):Int)),(((A.getD kk b0).xx)+(((kx*kx):Nat):Int)),(((A.getD kk b0).xy)+(((kx*ky):Nat):Int)),(((A.getD kk b0).yy)+(((ky*ky):Nat):Int)),(((A.getD kk b0).ms)+kg),(((A.getD kk b0).mx)+(kg*((kx:Nat):Int))),(((A.getD kk b0).my)+(kg*((ky:Nat):Int)))⟩:Bb)) (γ0:=()) rfl rfl (by first|omega|(rw [List.length_map];omega)|(simp only [List.length_set];omega)|(simp;omega)) rfl rfl sz33 (fun _ _=>by exact ⟨zn.2 (by first|omega|decide|(dsimp only;omega)),zn.2 (by first|omega|decide|(dsimp only;omega)),zn.2 (by first|omega|decide|(dsimp only;omega)),zn.2 (by first|omega|decide|(dsimp only;omega)),zn.2 (by first|omega|decide|(dsimp only;omega)),zn.2 (by first|omega|decide|(dsimp only;omega)),zn.2 (by first|omega|decide|(dsimp only;omega)),zn.2 (by first|omega|decide|(dsimp only;omega)),zn.2 (by first|omega|decide|(dsimp only;omega)),zn.2 (by first|omega|decide|(dsimp only;omega)),zn.2 (by first|omega|decide|(dsimp only;omega)),zn.2 (by first|omega|decide|(dsimp only;omega)),zn.2 (by first|omega|decide|(dsimp only;omega))⟩)) (fun _ _=> ?_))
     refine zY (by kernel_rfl)<|zX<|zf<|zc<|r_pv rfl rfl (zN (z:=(((i+1):Nat):Int)) rfl rfl (w64 (by omega)))<|r_pv rfl rfl (zb rfl)<|zj<|zia ((i+1),(A.set kk (⟨(((A.getD kk b0).ar)+1),(min ((A.getD kk b0).le) ((kx:Nat):Int)),(min ((A.getD kk b0).tp) ((ky:Nat):Int)),(max ((A.getD kk b0).rt) ((kx:Nat):Int)),(max ((A.getD kk b0).bt) ((ky:Nat):Int)),(((A.getD kk b0).sx)+((kx:Nat):Int)),(((A.getD kk b0).sy)+((ky:Nat):Int)),(((A.getD kk b0).xx)+(((kx*kx):Nat):Int)),(((A.getD kk b0).xy)+(((kx*ky):Nat):Int)),(((A.getD kk b0).yy)+(((ky*ky):Nat):Int)),(((A.getD kk b0).ms)+kg),(((A.getD kk b0).mx)+(kg*((kx:Nat):Int))),(((A.getD kk b0).my)+(kg*((ky:Nat):Int)))⟩:Bb))) (show (i+1)≤n∧Fl.TbI wn l o (Fl.cnt (Fl.ldr (Fl.ge l th) cc) n) (i+1) (A.set kk (⟨(((A.getD kk b0).ar)+1),(min ((A.getD kk b0).le) ((kx:Nat):Int)),(min ((A.getD kk b0).tp) ((ky:Nat):Int)),(max ((A.getD kk b0).rt) ((kx:Nat):Int)),(max ((A.getD kk b0).bt) ((ky:Nat):Int)),(((A.getD kk b0).sx)+((kx:Nat):Int)),(((A.getD kk b0).sy)+((ky:Nat):Int)),(((A.getD kk b0).xx)+(((kx*kx):Nat):Int)),(((A.getD kk b0).xy)+(((kx*ky):Nat):Int)),(((A.getD kk b0).yy)+(((ky*ky):Nat):Int)),(((A.getD kk b0).ms)+kg),(((A.getD kk b0).mx)+(kg*((kx:Nat):Int))),(((A.getD kk b0).my)+(kg*((ky:Nat):Int)))⟩:Bb)) from by exact ⟨by omega,hT.put hkN hkk (by rw [← hold,hkx,hky,hkg];rfl)⟩) (by show n - (i+1)<n - i;omega) ((.of rfl):SubM _ _) (ho:=((.of [0,1] rfl):PickO _ _ _)) ((.of [2,3] rfl):SelR _ _ _)
  ·
   refine zla<|zp<|zp<|zC<|zf<|zi<|zc<|r_pv rfl rfl (zb rfl)<|r_pv rfl rfl (zd rfl)<|r_pv rfl rfl (zd rfl)<|zj<|zf<|zI ?_
   have hin8:i=n:=by omega
   rw [hin8] at hT
   refine zcb 0 rfl .z ?_
   exact zpa Tryz.results7 (some ⟨b4,0,none⟩,(Fl.cnt (Fl.ldr (Fl.ge l th) cc) n),A) (Fl.BlsR.yes hok hn hcl.1 hLC hT.fin) (zt rfl) (zt rfl) (by rw [Decidable.not_not.1 hc,hAl]) (ho:=(.n:PickO _ _ _)) ((.c (j:=0) rfl .n):SelR _ _ _)
end Go.Proofs.YtefbbhiaalcjfaaGreat.Sp
namespace Go.Proofs.YtefbbhiaalcjfaaGreat.Fl
open Sp (Bb b0)
theorem self_eq (z:Int):decide (z=z)=true:=decide_eq_true rfl
instance (e:Bool) (w n j k:Nat):Decidable (nb e w n j k):=by unfold nb;infer_instance
theorem Lst.cert {n:Nat} {f:Nat→Bool} {adj:Nat→Nat→Prop} (c p:Nat→Nat) (hf:∀i,f i=true→i<n)
    (h1:∀i,i<n→f i=true→c i≤i∧(c i=i∨(f (p i)=true∧adj i (p i)∧p i<i∧c (p i)=c i)))
    (h2:∀i,i<n→∀k,k<n→f i=true→f k=true→adj i k→c i=c k):Lst (fun j=>f j=true) adj c:=by
  refine ⟨fun i hi=>(h1 i (hf i hi) hi).1,fun i=> ?_,fun i k hi hk ha=>h2 i (hf i hi) k (hf k hk) hi hk ha⟩
  induction i using Nat.strongRecOn with
  |ind i ih=>
    intro hi
    rcases (h1 i (hf i hi) hi).2 with e|⟨a,b,d,e⟩
    · rw [e];exact .refl i
    · rw [← e];exact .step hi a b (ih (p i) d a)
def pixK:List Int:=[9,9,0,0,0,9,0,5,0,0,0,5]
def labK:List Int:=[0,0,-1,-1,-1,0,-1,1,-1,-1,-1,1]
def cK (i:Nat):Nat:=([0,0,2,3,4,0,6,7,8,9,10,7]:List Nat).getD i 0
def pK (i:Nat):Nat:=([0,0,2,3,4,1,6,7,8,9,10,7]:List Nat).getD i 0
theorem lstK:Lst (fun j=>ge pixK 5 j=true) (nb false 4 12) cK:=
  Lst.cert (n:=12) (f:=ge pixK 5) cK pK (fun i hi=>ge_lt (l:=pixK) hi) (by decide +kernel) (by decide +kernel)
theorem labcK:LabC 12 (ge pixK 5) cK labK:=⟨rfl,by decide +kernel,by decide +kernel⟩
theorem labrK:LabR 4 3 9 pixK 5 labK:=LabR.yes (w:=4) (n:=12) (by decide +kernel) rfl (labcK.lab lstK)
def blK:List Bb:=[⟨3,0,0,1,1,2,1,2,1,1,27,18,9⟩,⟨2,3,1,3,2,6,3,18,9,5,10,30,15⟩]
theorem blsK:BlsR 4 3 9 pixK 5 blK:=BlsR.yes (w:=4) (n:=12) (by decide +kernel) rfl lstK labcK (by decide +kernel)
def pixH:List Int:=[1,1,1,1,0,1,1,1,1]
theorem holK:HolR 3 3 1 pixH 1 1:=
  HolR.yes (w:=3) (h:=3) (n:=9) (c:=id) (by decide +kernel) rfl
    (Lst.cert (n:=9) (f:=lo pixH 1) id id (fun i hi=>lo_lt (l:=pixH) hi) (by decide +kernel) (by decide +kernel)) (by decide +kernel)
end Go.Proofs.YtefbbhiaalcjfaaGreat.Fl
namespace Go.Proofs.YtefbbhiaalcjfaaGreat.Sp
open Go
set_option linter.unusedVariables false
set_option maxRecDepth 100000
set_option maxHeartbeats 1000000
theorem znf:Con Tryz.prog 5 [] [] [] (Y:=Unit) (fun y=>True) (fun y=> .bool true) (fun y=>[]) (fun y=>[]):=by
 refine zr Tryz.func5 rfl rfl rfl (fun c=> ?_)
 show RunC _ _ _ _ _ [] [] []
 refine zi<|zc<|r_pv rfl rfl (zd rfl)<|zj<|zf<|zi<|zc<|zxa rfl rfl (zP (enc:=fun z:Int=>[.int .i64 z]) (ok:=InK .i64) (h1:=fun _=>rfl) (h2:=fun _=>rfl) (k:=12) Tryz.underlying22 inf3 rfl (by decide) (by decide) (by decide) (.c (x:=9) rfl rfl (fun _ _=>by exact zn.2 (by omega)) (.c (x:=9) rfl rfl (fun _ _=>by exact zn.2 (by omega)) (.c (x:=0) rfl rfl (fun _ _=>by exact zn.2 (by omega)) (.c (x:=0) rfl rfl (fun _ _=>by exact zn.2 (by omega)) (.c (x:=0) rfl rfl (fun _ _=>by exact zn.2 (by omega)) (.c (x:=9) rfl rfl (fun _ _=>by exact zn.2 (by omega)) (.c (x:=0) rfl rfl (fun _ _=>by exact zn.2 (by omega)) (.c (x:=5) rfl rfl (fun _ _=>by exact zn.2 (by omega)) (.c (x:=0) rfl rfl (fun _ _=>by exact zn.2 (by omega)) (.c (x:=0) rfl rfl (fun _ _=>by exact zn.2 (by omega)) (.c (x:=0) rfl rfl (fun _ _=>by exact zn.2 (by omega)) (.c (x:=5) rfl rfl (fun _ _=>by exact zn.2 (by omega)) .n))))))))))))) (fun b1 _=> ?_)
 refine r_pv rfl rfl (zE zr24 rfl Tryz.underlying24 (.c sz3 (.c sz3 (.c sz3 (.c sz22 .n)))) (.c rfl (.c rfl (.c rfl (.c rfl .n)))) (.c rfl rfl rfl (.take .nil) (.c rfl rfl rfl (.skip (.take .nil)) (.c rfl rfl rfl (.skip (.skip (.take .nil))) (.c rfl rfl rfl (.skip (.skip (.skip (.take .nil)))) .n)))))<|zJ rfl rfl (zu zr24 rfl) (fun b2=> ?_)
 refine zl 0 rfl rfl rfl rfl rfl sz24 rfl (.take (.take (.take (.take .nil)))) .z<|zj<|zf<|zi<|zc<|r_u rfl rfl (zg 0 ty24 rfl rfl (.take (.take (.take (.take .nil)))))<|zja 1 rfl (.s .z)<|zx rfl rfl (.c rfl (.c rfl .n)) ce20 (zkf (w:=4) (h:=3) (m:=9) (p:=some ⟨b1,0,none⟩) (n:=12) (cap:=12) (l:=[9,9,0,0,0,9,0,5,0,0,0,5]) (th:=5) (hn:=by first|rfl|assumption|omega|decide|(decide +kernel))) (.c (j:=0) rfl .n) ?_
 rintro ⟨p33,c34,oL⟩ hL
 dsimp only [List.append_eq,List.nil_append,List.cons_append]
 replace hL:Fl.LabR 4 3 9 ([9,9,0,0,0,9,0,5,0,0,0,5]) 5 oL:=hL
 have e5:oL=Fl.labK:=by exact hL.uniq Fl.labrK
 subst e5
 have e6:=Fl.ask0.2 (show Bl.rok 4 3 9 ([9,9,0,0,0,9,0,5,0,0,0,5])∧(0:Int)≤5∧(5:Int)≤65536 by decide +kernel)
 rw [e6]
 refine r_pv rfl rfl (zb rfl)<|r_pv rfl rfl (zm rfl rfl)<|r_pv rfl rfl (zm rfl rfl)<|r_pv rfl rfl (zd rfl)<|r_pv rfl rfl (zd rfl)<|zj<|zf<|zi<|zc<|r_u rfl rfl (zg 0 ty24 rfl rfl (.take (.take (.take (.take .nil)))))<|zx rfl rfl (.c rfl (.c rfl .n)) ce7 (zmf (w:=4) (h:=3) (m:=9) (p:=some ⟨b1,0,none⟩) (n:=12) (cap:=12) (l:=[9,9,0,0,0,9,0,5,0,0,0,5]) (th:=5) (hn:=by first|rfl|assumption|omega|decide|(decide +kernel))) (.c (j:=1) rfl .n) ?_
 rintro ⟨p37,c38,aB⟩ hB
 dsimp only [List.append_eq,List.nil_append,List.cons_append]
 replace hB:Fl.BlsR 4 3 9 ([9,9,0,0,0,9,0,5,0,0,0,5]) 5 aB:=hB
 have e9:aB=Fl.blK:=by exact hB.uniq Fl.blsK
 subst e9
 have e10:=Fl.ask0.2 (show Bl.rok 4 3 9 ([9,9,0,0,0,9,0,5,0,0,0,5])∧(0:Int)≤5∧(5:Int)≤65536 by decide +kernel)
 rw [e10]
 refine r_pv rfl rfl (zb rfl)<|r_pv rfl rfl (zm rfl rfl)<|r_pv rfl rfl (zm rfl rfl)<|r_pv rfl rfl (zd rfl)<|r_pv rfl rfl (zd rfl)<|zj<|zf<|zi<|zi<|zc<|r_pv rfl rfl (zb rfl)<|r_pv rfl rfl (zb rfl)<|r_pv rfl rfl (zN (z:=0) rfl rfl (w64 (by decide)))<|r_pv rfl rfl (zJa rfl rfl) ?_
 rw [show false=false from by decide]
 refine r_pv rfl rfl (zb rfl)<|r_pv rfl rfl (zb rfl)<|zxa rfl rfl (zP (enc:=fun z:Int=>[.int .i64 z]) (ok:=InK .i64) (h1:=fun _=>rfl) (h2:=fun _=>rfl) (k:=12) Tryz.underlying22 inf3 rfl (by decide) (by decide) (by decide) (.c (x:=0) rfl rfl (fun _ _=>by exact zn.2 (by omega)) (.c (x:=0) rfl rfl (fun _ _=>by exact zn.2 (by omega)) (.c (x:=(-1)) rfl rfl (fun _ _=>by exact zn.2 (by omega)) (.c (x:=(-1)) rfl rfl (fun _ _=>by exact zn.2 (by omega)) (.c (x:=(-1)) rfl rfl (fun _ _=>by exact zn.2 (by omega)) (.c (x:=0) rfl rfl (fun _ _=>by exact zn.2 (by omega)) (.c (x:=(-1)) rfl rfl (fun _ _=>by exact zn.2 (by omega)) (.c (x:=1) rfl rfl (fun _ _=>by exact zn.2 (by omega)) (.c (x:=(-1)) rfl rfl (fun _ _=>by exact zn.2 (by omega)) (.c (x:=(-1)) rfl rfl (fun _ _=>by exact zn.2 (by omega)) (.c (x:=(-1)) rfl rfl (fun _ _=>by exact zn.2 (by omega)) (.c (x:=1) rfl rfl (fun _ _=>by exact zn.2 (by omega)) .n))))))))))))) (fun b11 _=> ?_)
 refine zja 0 rfl .z<|zL rfl rfl (.c rfl (.c rfl .n)) ce21 (zjf (p1:=p33) (n1:=(Fl.labK.length)) (c1:=c34) (l1:=Fl.labK) (p2:=some ⟨b11,0,none⟩) (n2:=12) (c2:=12) (l2:=[0,0,(-1),(-1),(-1),0,(-1),1,(-1),(-1),(-1),1]) (hn1:=by first|rfl|assumption|omega|decide|(decide +kernel)) (hn2:=by first|rfl|assumption|omega|decide|(decide +kernel))) (.c (j:=2) rfl (.c (j:=0) rfl .n)) ?_
 rw [show (decide (Fl.labK=([0,0,(-1),(-1),(-1),0,(-1),1,(-1),(-1),(-1),1])))=true from by decide +kernel]
 refine r_pv rfl rfl (zrb rfl)<|r_pv rfl rfl (zk rfl rfl)<|r_pv rfl rfl (zb rfl)<|r_pv rfl rfl (zb rfl)<|r_pv rfl rfl (zR Tryz.underlying27 rfl)<|r_pv rfl rfl (zJa rfl rfl) ?_
 rw [show (decide ((((Fl.blK.length):Nat):Int)≠2))=false from by decide +kernel]
 refine r_pv rfl rfl (zk rfl rfl)<|zj<|zf<|zdb rfl rfl<|zD<|zf<|zi<|zc<|r_pv rfl rfl (zb rfl)<|zS (x0:=(Fl.blK.getD 0 b0)) 1 0 rfl Tryz.underlying27 sz33 rfl rfl rfl (by first|rfl|assumption|(simp_all;done)|omega) rfl rfl (gD (d:=b0) (by first|omega|decide)) (fun b12 o13 hok14=> ?_)
 obtain ⟨hok140,hok141,hok142,hok143,hok144,hok145,hok146,hok147,hok148,hok149,hok1410,hok1411,hok1412⟩:=hok14
 replace hok140:=zn.1 hok140
 replace hok141:=zn.1 hok141
 replace hok142:=zn.1 hok142
 replace hok143:=zn.1 hok143
 replace hok144:=zn.1 hok144
 replace hok145:=zn.1 hok145
 replace hok146:=zn.1 hok146
 replace hok147:=zn.1 hok147
 replace hok148:=zn.1 hok148
 replace hok149:=zn.1 hok149
 replace hok1410:=zn.1 hok1410
 replace hok1411:=zn.1 hok1411
 replace hok1412:=zn.1 hok1412
 refine r_u rfl rfl (zTa (j:=0) 0 ty33 rfl rfl rfl (.take (.take (.take (.take (.take (.take (.take (.take (.take (.take (.take (.take (.take .nil))))))))))))))<|zx rfl rfl (.c rfl .n) ce13 (zJd (ar:=(Fl.blK.getD 0 b0).ar) (le:=(Fl.blK.getD 0 b0).le) (tp:=(Fl.blK.getD 0 b0).tp) (rt:=(Fl.blK.getD 0 b0).rt) (bt:=(Fl.blK.getD 0 b0).bt) (sx:=(Fl.blK.getD 0 b0).sx) (sy:=(Fl.blK.getD 0 b0).sy) (xx:=(Fl.blK.getD 0 b0).xx) (xy:=(Fl.blK.getD 0 b0).xy) (yy:=(Fl.blK.getD 0 b0).yy) (ms:=(Fl.blK.getD 0 b0).ms) (mx:=(Fl.blK.getD 0 b0).mx) (my:=(Fl.blK.getD 0 b0).my) (hok:=by first|rfl|assumption|omega|decide|(decide +kernel)) (hm:=by first|rfl|assumption|omega|decide|(decide +kernel))) (.n) ?_
 rintro ⟨w315,w416,w517,w618⟩ -
 dsimp only [List.append_eq,List.nil_append,List.cons_append]
 refine r_pv rfl rfl (zb rfl)<|r_pv rfl rfl (zm rfl rfl)<|r_pv rfl rfl (zm rfl rfl)<|zJ rfl rfl (zu zr44 rfl) (fun b19=> ?_)
 refine zl 0 rfl rfl rfl rfl rfl sz44 rfl (.take (.take (.take (.take (.take (.take (.take (.take .nil)))))))) .z<|r_pv rfl rfl (zd rfl)<|zj<|zf<|zi<|zc<|r_pv rfl rfl (zb rfl)<|zS (x0:=(Fl.blK.getD 0 b0)) 4 0 rfl Tryz.underlying27 sz33 rfl rfl rfl (by first|rfl|assumption|(simp_all;done)|omega) rfl rfl (gD (d:=b0) (by first|omega|decide)) (fun b20 o21 hok22=> ?_)
 obtain ⟨hok220,hok221,hok222,hok223,hok224,hok225,hok226,hok227,hok228,hok229,hok2210,hok2211,hok2212⟩:=hok22
 replace hok220:=zn.1 hok220
 replace hok221:=zn.1 hok221
 replace hok222:=zn.1 hok222
 replace hok223:=zn.1 hok223
 replace hok224:=zn.1 hok224
 replace hok225:=zn.1 hok225
 replace hok226:=zn.1 hok226
 replace hok227:=zn.1 hok227
 replace hok228:=zn.1 hok228
 replace hok229:=zn.1 hok229
 replace hok2210:=zn.1 hok2210
 replace hok2211:=zn.1 hok2211
 replace hok2212:=zn.1 hok2212
 refine r_u rfl rfl (zTa (j:=0) 0 ty33 rfl rfl rfl (.take (.take (.take (.take (.take (.take (.take (.take (.take (.take (.take (.take (.take .nil))))))))))))))<|zx rfl rfl (.c rfl .n) ce16 (zmd (ar:=(Fl.blK.getD 0 b0).ar) (le:=(Fl.blK.getD 0 b0).le) (tp:=(Fl.blK.getD 0 b0).tp) (rt:=(Fl.blK.getD 0 b0).rt) (bt:=(Fl.blK.getD 0 b0).bt) (sx:=(Fl.blK.getD 0 b0).sx) (sy:=(Fl.blK.getD 0 b0).sy) (xx:=(Fl.blK.getD 0 b0).xx) (xy:=(Fl.blK.getD 0 b0).xy) (yy:=(Fl.blK.getD 0 b0).yy) (ms:=(Fl.blK.getD 0 b0).ms) (mx:=(Fl.blK.getD 0 b0).mx) (my:=(Fl.blK.getD 0 b0).my) (hok:=by first|rfl|assumption|omega|decide|(decide +kernel))) (.n) ?_
 rintro ⟨w323,w424,w525,w626,w727,w828⟩ -
 dsimp only [List.append_eq,List.nil_append,List.cons_append]
 refine r_pv rfl rfl (zb rfl)<|r_pv rfl rfl (zm rfl rfl)<|r_pv rfl rfl (zm rfl rfl)<|r_pv rfl rfl (zm rfl rfl)<|r_pv rfl rfl (zm rfl rfl)<|zJ rfl rfl (zu zr42 rfl) (fun b29=> ?_)
 refine zJ rfl rfl (zu zr42 rfl) (fun b30=> ?_)
 refine zJ rfl rfl (zu zr42 rfl) (fun b31=> ?_)
 refine zl 2 rfl rfl rfl rfl rfl sz42 rfl (.take (.take (.take (.take .nil)))) (.s (.s .z))<|zl 1 rfl rfl rfl rfl rfl sz42 rfl (.take (.take (.take (.take .nil)))) (.s .z)<|zl 0 rfl rfl rfl rfl rfl sz42 rfl (.take (.take (.take (.take .nil)))) .z<|r_pv rfl rfl (zd rfl)<|zj<|zf<|zi<|zc<|zxa rfl rfl (zP (enc:=fun z:Int=>[.int .i64 z]) (ok:=InK .i64) (h1:=fun _=>rfl) (h2:=fun _=>rfl) (k:=9) Tryz.underlying22 inf3 rfl (by decide) (by decide) (by decide) (.c (x:=1) rfl rfl (fun _ _=>by exact zn.2 (by omega)) (.c (x:=1) rfl rfl (fun _ _=>by exact zn.2 (by omega)) (.c (x:=1) rfl rfl (fun _ _=>by exact zn.2 (by omega)) (.c (x:=1) rfl rfl (fun _ _=>by exact zn.2 (by omega)) (.c (x:=0) rfl rfl (fun _ _=>by exact zn.2 (by omega)) (.c (x:=1) rfl rfl (fun _ _=>by exact zn.2 (by omega)) (.c (x:=1) rfl rfl (fun _ _=>by exact zn.2 (by omega)) (.c (x:=1) rfl rfl (fun _ _=>by exact zn.2 (by omega)) (.c (x:=1) rfl rfl (fun _ _=>by exact zn.2 (by omega)) .n)))))))))) (fun b32 _=> ?_)
 refine r_pv rfl rfl (zE zr24 rfl Tryz.underlying24 (.c sz3 (.c sz3 (.c sz3 (.c sz22 .n)))) (.c rfl (.c rfl (.c rfl (.c rfl .n)))) (.c rfl rfl rfl (.take .nil) (.c rfl rfl rfl (.skip (.take .nil)) (.c rfl rfl rfl (.skip (.skip (.take .nil))) (.c rfl rfl rfl (.skip (.skip (.skip (.take .nil)))) .n)))))<|zja 0 rfl .z<|zx rfl rfl (.c rfl (.c rfl .n)) ce22 (zlf (w:=3) (h:=3) (m:=1) (p:=some ⟨b32,0,none⟩) (n:=9) (cap:=9) (l:=[1,1,1,1,0,1,1,1,1]) (th:=1) (hn:=by first|rfl|assumption|omega|decide|(decide +kernel))) (.c (j:=0) rfl .n) ?_
 rintro zH hH
 dsimp only [List.append_eq,List.nil_append,List.cons_append]
 replace hH:Fl.HolR 3 3 1 ([1,1,1,1,0,1,1,1,1]) 1 zH:=hH
 have e33:zH=1:=by exact hH.uniq Fl.holK
 subst e33
 have e34:=Fl.ask0.2 (show Bl.rok 3 3 1 ([1,1,1,1,0,1,1,1,1])∧(0:Int)≤1∧(1:Int)≤65536 by decide +kernel)
 rw [e34]
 refine r_pv rfl rfl (zb rfl)<|r_pv rfl rfl (zm rfl rfl)<|r_pv rfl rfl (zm rfl rfl)<|r_pv rfl rfl (zd rfl)<|r_pv rfl rfl (zd rfl)<|zj<|zf<|zi<|zc<|zx rfl rfl (.c rfl (.c rfl .n)) ce23 (zmb (z1:=7) (z2:=6) (hz1:=by first|rfl|assumption|omega|decide|(decide +kernel)) (hz2:=by first|rfl|assumption|omega|decide|(decide +kernel)) (hy:=by first|rfl|assumption|omega|decide|(decide +kernel))) (.n) ?_
 rintro ⟨w335,w436⟩ -
 dsimp only [List.append_eq,List.nil_append,List.cons_append]
 refine r_pv rfl rfl (zb rfl)<|r_pv rfl rfl (zm rfl rfl)<|r_pv rfl rfl (zm rfl rfl)<|zJ rfl rfl (zu zr42 rfl) (fun b37=> ?_)
 refine zl 0 rfl rfl rfl rfl rfl sz42 rfl (.take (.take (.take (.take .nil)))) .z<|r_pv rfl rfl (zd rfl)<|zj<|zf<|zi<|zc<|zx rfl rfl (.c rfl (.c rfl .n)) ce23 (zmb (z1:=2) (z2:=9) (hz1:=by first|rfl|assumption|omega|decide|(decide +kernel)) (hz2:=by first|rfl|assumption|omega|decide|(decide +kernel)) (hy:=by first|rfl|assumption|omega|decide|(decide +kernel))) (.n) ?_
 rintro ⟨w338,w439⟩ -
 dsimp only [List.append_eq,List.nil_append,List.cons_append]
 refine r_pv rfl rfl (zb rfl)<|r_pv rfl rfl (zm rfl rfl)<|r_pv rfl rfl (zm rfl rfl)<|zJ rfl rfl (zu zr42 rfl) (fun b40=> ?_)
 refine zl 0 rfl rfl rfl rfl rfl sz42 rfl (.take (.take (.take (.take .nil)))) .z<|r_pv rfl rfl (zd rfl)<|zj<|zf<|zi<|zc<|r_pv rfl rfl (zb rfl)<|r_pv rfl rfl (zb rfl)<|r_pv rfl rfl (zN (z:=0) rfl rfl (w64 (by decide)))<|r_pv rfl rfl (zb rfl)<|r_pv rfl rfl (zN (z:=0) rfl rfl (w64 (by decide)))<|r_pv rfl rfl (zza rfl rfl) ?_
 rw [show true=true from by decide]
 refine r_pv rfl rfl (zb rfl)<|r_pv rfl rfl (zb rfl)<|r_pv rfl rfl (zza rfl rfl) ?_
 rw [show true=true from by decide]
 refine r_pv rfl rfl (zk rfl rfl)<|r_pv rfl rfl (zb rfl)<|r_pv rfl rfl (zh Tryz.underlying44 rfl sz42 rfl rfl)<|r_u rfl rfl (zg 6 ty42 rfl rfl (.take (.take (.take (.take .nil)))))<|r_u rfl rfl (zg 1 ty42 rfl rfl (.take (.take (.take (.take .nil)))))<|zL rfl rfl (.c rfl (.c rfl .n)) ce15 (zDa (u1:=w315) (v1:=w416) (q1:=Rat.divInt (2*((Fl.blK.getD 0 b0).mx)+((Fl.blK.getD 0 b0).ms)) (2*((Fl.blK.getD 0 b0).ms))) (u2:=w335) (v2:=w436) (q2:=Rat.divInt 7 6) (hl:=by first|rfl|assumption|omega|decide|(decide +kernel))) (.c (j:=7) rfl (.c (j:=1) rfl .n)) ?_
 rw [show (decide ((Rat.divInt (2*((Fl.blK.getD 0 b0).mx)+((Fl.blK.getD 0 b0).ms)) (2*((Fl.blK.getD 0 b0).ms)))=(Rat.divInt 7 6)))=true from by decide +kernel]
 refine r_pv rfl rfl (zk rfl rfl)<|r_pv rfl rfl (zb rfl)<|r_u rfl rfl (zg 5 ty42 rfl rfl (.take (.take (.take (.take .nil)))))<|r_u rfl rfl (zg 0 ty42 rfl rfl (.take (.take (.take (.take .nil)))))<|zL rfl rfl (.c rfl (.c rfl .n)) ce15 (zDa (u1:=w323) (v1:=w424) (q1:=Rat.divInt (((Fl.blK.getD 0 b0).xx)*((Fl.blK.getD 0 b0).ar) - ((Fl.blK.getD 0 b0).sx)*((Fl.blK.getD 0 b0).sx)) (((Fl.blK.getD 0 b0).ar)*((Fl.blK.getD 0 b0).ar))) (u2:=w338) (v2:=w439) (q2:=Rat.divInt 2 9) (hl:=by first|rfl|assumption|omega|decide|(decide +kernel))) (.c (j:=3) rfl (.c (j:=0) rfl .n)) ?_
 rw [show (decide ((Rat.divInt (((Fl.blK.getD 0 b0).xx)*((Fl.blK.getD 0 b0).ar) - ((Fl.blK.getD 0 b0).sx)*((Fl.blK.getD 0 b0).sx)) (((Fl.blK.getD 0 b0).ar)*((Fl.blK.getD 0 b0).ar)))=(Rat.divInt 2 9)))=true from by decide +kernel]
 refine r_pv rfl rfl (zk rfl rfl)<|r_pv rfl rfl (zb rfl)<|r_u rfl rfl (zg 3 ty42 rfl rfl (.take (.take (.take (.take .nil)))))<|r_u rfl rfl (zg 0 ty42 rfl rfl (.take (.take (.take (.take .nil)))))<|zL rfl rfl (.c rfl (.c rfl .n)) ce15 (zDa (u1:=w727) (v1:=w828) (q1:=Rat.divInt (((Fl.blK.getD 0 b0).yy)*((Fl.blK.getD 0 b0).ar) - ((Fl.blK.getD 0 b0).sy)*((Fl.blK.getD 0 b0).sy)) (((Fl.blK.getD 0 b0).ar)*((Fl.blK.getD 0 b0).ar))) (u2:=w338) (v2:=w439) (q2:=Rat.divInt 2 9) (hl:=by first|rfl|assumption|omega|decide|(decide +kernel))) (.c (j:=5) rfl (.c (j:=0) rfl .n)) ?_
 rw [show (decide ((Rat.divInt (((Fl.blK.getD 0 b0).yy)*((Fl.blK.getD 0 b0).ar) - ((Fl.blK.getD 0 b0).sy)*((Fl.blK.getD 0 b0).sy)) (((Fl.blK.getD 0 b0).ar)*((Fl.blK.getD 0 b0).ar)))=(Rat.divInt 2 9)))=true from by decide +kernel]
 refine r_pv rfl rfl (zk rfl rfl)<|r_pv rfl rfl (zb rfl)<|r_pv rfl rfl (zb rfl)<|zS (x0:=(Fl.blK.getD 0 b0)) 11 0 rfl Tryz.underlying27 sz33 rfl rfl rfl (by first|rfl|assumption|(simp_all;done)|omega) rfl rfl (gD (d:=b0) (by first|omega|decide)) (fun b41 o42 hok43=> ?_)
 obtain ⟨hok430,hok431,hok432,hok433,hok434,hok435,hok436,hok437,hok438,hok439,hok4310,hok4311,hok4312⟩:=hok43
 replace hok430:=zn.1 hok430
 replace hok431:=zn.1 hok431
 replace hok432:=zn.1 hok432
 replace hok433:=zn.1 hok433
 replace hok434:=zn.1 hok434
 replace hok435:=zn.1 hok435
 replace hok436:=zn.1 hok436
 replace hok437:=zn.1 hok437
 replace hok438:=zn.1 hok438
 replace hok439:=zn.1 hok439
 replace hok4310:=zn.1 hok4310
 replace hok4311:=zn.1 hok4311
 replace hok4312:=zn.1 hok4312
 refine r_u rfl rfl (zTa (j:=0) 0 ty33 rfl rfl rfl (.take (.take (.take (.take (.take (.take (.take (.take (.take (.take (.take (.take (.take .nil))))))))))))))<|r_pv rfl rfl (zE zr33 rfl Tryz.underlying33 (.c sz3 (.c sz3 (.c sz3 (.c sz3 (.c sz3 (.c sz3 (.c sz3 (.c sz3 (.c sz3 (.c sz3 (.c sz3 (.c sz3 (.c sz3 .n))))))))))))) (.c rfl (.c rfl (.c rfl (.c rfl (.c rfl (.c rfl (.c rfl (.c rfl (.c rfl (.c rfl (.c rfl .n))))))))))) (.c rfl rfl rfl (.take .nil) (.c rfl rfl rfl (.skip (.skip (.skip (.take .nil)))) (.c rfl rfl rfl (.skip (.skip (.skip (.skip (.take .nil))))) (.c rfl rfl rfl (.skip (.skip (.skip (.skip (.skip (.take .nil)))))) (.c rfl rfl rfl (.skip (.skip (.skip (.skip (.skip (.skip (.take .nil))))))) (.c rfl rfl rfl (.skip (.skip (.skip (.skip (.skip (.skip (.skip (.take .nil)))))))) (.c rfl rfl rfl (.skip (.skip (.skip (.skip (.skip (.skip (.skip (.skip (.take .nil))))))))) (.c rfl rfl rfl (.skip (.skip (.skip (.skip (.skip (.skip (.skip (.skip (.skip (.take .nil)))))))))) (.c rfl rfl rfl (.skip (.skip (.skip (.skip (.skip (.skip (.skip (.skip (.skip (.skip (.take .nil))))))))))) (.c rfl rfl rfl (.skip (.skip (.skip (.skip (.skip (.skip (.skip (.skip (.skip (.skip (.skip (.take .nil)))))))))))) (.c rfl rfl rfl (.skip (.skip (.skip (.skip (.skip (.skip (.skip (.skip (.skip (.skip (.skip (.skip (.take .nil))))))))))))) .n))))))))))))<|r_pv rfl rfl (zse (p:=(Fl.blK.getD 0 b0).ar=3∧(Fl.blK.getD 0 b0).le=0∧(Fl.blK.getD 0 b0).tp=0∧(Fl.blK.getD 0 b0).rt=1∧(Fl.blK.getD 0 b0).bt=1∧(Fl.blK.getD 0 b0).sx=2∧(Fl.blK.getD 0 b0).sy=1∧(Fl.blK.getD 0 b0).xx=2∧(Fl.blK.getD 0 b0).xy=1∧(Fl.blK.getD 0 b0).yy=1∧(Fl.blK.getD 0 b0).ms=27∧(Fl.blK.getD 0 b0).mx=18∧(Fl.blK.getD 0 b0).my=9) (by kernel_rfl) rfl rfl (zre Tryz.underlying33 (by kernel_rfl) (zgb (by decide) ty3 rfl rfl (zfb Tryz.underlying3) (zgb (by decide) ty3 rfl rfl (zfb Tryz.underlying3) (zgb (by decide) ty3 rfl rfl (zfb Tryz.underlying3) (zgb (by decide) ty3 rfl rfl (zfb Tryz.underlying3) (zgb (by decide) ty3 rfl rfl (zfb Tryz.underlying3) (zgb (by decide) ty3 rfl rfl (zfb Tryz.underlying3) (zgb (by decide) ty3 rfl rfl (zfb Tryz.underlying3) (zgb (by decide) ty3 rfl rfl (zfb Tryz.underlying3) (zgb (by decide) ty3 rfl rfl (zfb Tryz.underlying3) (zgb (by decide) ty3 rfl rfl (zfb Tryz.underlying3) (zgb (by decide) ty3 rfl rfl (zfb Tryz.underlying3) (zgb (by decide) ty3 rfl rfl (zfb Tryz.underlying3) (zgb (by decide) ty3 rfl rfl (zfb Tryz.underlying3) zOf)))))))))))))) (by simp [Bool.decide_and])) ?_
 rw [show (decide ((Fl.blK.getD 0 b0).ar=3∧(Fl.blK.getD 0 b0).le=0∧(Fl.blK.getD 0 b0).tp=0∧(Fl.blK.getD 0 b0).rt=1∧(Fl.blK.getD 0 b0).bt=1∧(Fl.blK.getD 0 b0).sx=2∧(Fl.blK.getD 0 b0).sy=1∧(Fl.blK.getD 0 b0).xx=2∧(Fl.blK.getD 0 b0).xy=1∧(Fl.blK.getD 0 b0).yy=1∧(Fl.blK.getD 0 b0).ms=27∧(Fl.blK.getD 0 b0).mx=18∧(Fl.blK.getD 0 b0).my=9))=true from by decide +kernel]
 refine r_pv rfl rfl (zk rfl rfl)<|r_pv rfl rfl (zd rfl)<|zj<|zf<|zI ?_
 exact zB Tryz.results5 () trivial (zt rfl) rfl (ho:=(.n:PickO _ _ _)) (.n:SelR _ _ _)
end Go.Proofs.YtefbbhiaalcjfaaGreat.Sp
namespace Go.Proofs.YtefbbhiaalcjfaaGreat.Fl
open Sp (Bb b0)
theorem tog_comm (a b:Bb):tog a b=tog b a:=by unfold tog;simp only [Bb.mk.injEq];omega
theorem tog_assoc (a b c:Bb):tog (tog a b) c=tog a (tog b c):=by unfold tog;simp only [Bb.mk.injEq];omega
def om:Option Bb→Option Bb→Option Bb
  |none,b=>b
  |some a,none=>some a
  |some a,some b=>some (tog a b)
theorem om_none (a:Option Bb):om a none=a:=by cases a <;> rfl
theorem om_comm (a b:Option Bb):om a b=om b a:=by
  cases a <;> cases b <;> simp only [om]
  rw [tog_comm]
theorem om_assoc (a b c:Option Bb):om (om a b) c=om a (om b c):=by
  cases a <;> cases b <;> cases c <;> simp only [om]
  rw [tog_assoc]
def sumP:List (Option Bb)→Option Bb
  |[]=>none
  |a :: t=>om a (sumP t)
def sumO (l:List Bb):Option Bb:=sumP (l.map some)
theorem sumP_append (A B:List (Option Bb)):sumP (A++B)=om (sumP A) (sumP B):=by
  induction A with
  |nil=>rfl
  |cons a t ih=>rw [List.cons_append,sumP,ih,sumP,om_assoc]
theorem sumO_append (A B:List Bb):sumO (A++B)=om (sumO A) (sumO B):=by unfold sumO;rw [List.map_append,sumP_append]
theorem sumO_cons (x:Bb) (B:List Bb):sumO (x :: B)=om (some x) (sumO B):=rfl
section
variable {w n : Nat} {f : Nat → Bool} {adj : Nat → Nat → Prop} {c : Nat → Nat} {l o : List Int}
theorem cnt_surj (q:Nat→Bool):∀n k,k<cnt q n→∃j,j<n∧q j=true∧cnt q j=k:=by
  intro n
  induction n with
  |zero=>intro k h;exact absurd h (by simp [cnt])
  |succ n ih=>
    intro k h
    rw [cnt_succ] at h
    by_cases e:k<cnt q n
    · obtain ⟨j,a,b,d⟩:=ih k e;exact ⟨j,by omega,b,d⟩
    · by_cases x : q n = true
      · rw [if_pos x] at h;exact ⟨n,by omega,x,by omega⟩
      · rw [if_neg x] at h;omega
theorem acc_all (h:LabC n f c o) {k:Nat} (hk:k<cnt (ldr f c) n):acc w l o (k:Int) n≠none:=by
  obtain ⟨j,a,b,d⟩:=cnt_surj _ _ _ hk
  refine acc_some n ⟨j,a,?_⟩
  rw [h.yes j a (ldr_iff.1 b).1,(ldr_iff.1 b).2,d]
end
theorem BlsR.ok {w h m th:Int} {l:List Int} {A:List Bb} (a:BlsR w h m l th A):∀g∈A,okb g:=by
  intro g hg
  by_cases e:Bl.rok w h m l∧0≤th∧th≤65536
  · obtain ⟨c, o, h1, h2, h3⟩ := a.1 e
    obtain ⟨u,v,rfl,rfl,hw,hh,hn,hb⟩:=rok_n e.1 rfl
    rw [h3] at hg
    obtain ⟨k,hk,rfl⟩:=List.mem_map.1 hg
    exact gb_okn (acc_all h2 (List.mem_range.1 hk)) (acc_ok hw hh.2 hn hb (rok_g e.1 rfl) _ (Nat.le_refl _))
  · rw [a.2 e] at hg;cases hg
def tar:List Bb→Int
  |[]=>0
  |a :: t=>a.ar+tar t
theorem tar_append (A B:List Bb):tar (A++B)=tar A+tar B:=by
  induction A with
  |nil=>simp [tar]
  |cons a t ih=>rw [List.cons_append,tar,ih,tar];omega
theorem tar_sum:∀A:List Bb,(∀s,sumO A=some s→s.ar=tar A)
  |[]=>fun s h=>by cases h
  |a :: t=>fun s h=>by
    rw [sumO_cons] at h
    cases e:sumO t with
    |none=>
      rw [e] at h;cases h
      cases t with
      |nil=>simp [tar]
      |cons b t=>rw [sumO_cons] at e;cases h2:sumO t <;> rw [h2] at e <;> cases e
    |some b=>rw [e] at h;cases h;have:=tar_sum t b e;show a.ar+b.ar=_;rw [this];rfl
theorem tar_pos {A:List Bb} (h:∀x∈A,okb x):0≤tar A:=by
  induction A with
  |nil=>exact Int.le_refl _
  |cons a t ih=>have h1:=(h a (by simp)).1;have h2:=ih fun x hx=>h x (by simp [hx]);rw [tar];omega
theorem split2 {A:List Bb} {i:Nat} (h:i+1<A.length):∃P x Q y,A=P++x :: (Q++[y])∧P.length=i∧A.getD i b0=x∧A.getD (A.length - 1) b0=y∧∀v,(A.set i v).take (A.length - 1)=P++v :: Q:=by
  have hne:A.drop (i+1)≠[]:=fun e=>by have:=congrArg List.length e;rw [List.length_drop] at this;simp at this;omega
  have e1:A=A.take i++A[i] :: ((A.drop (i+1)).dropLast++[(A.drop (i+1)).getLast hne]):=by
    rw [List.dropLast_concat_getLast hne,←List.drop_eq_getElem_cons (show i<A.length by omega),List.take_append_drop]
  obtain ⟨P,hP⟩:∃P,P=A.take i:=⟨_,rfl⟩
  obtain ⟨Q,hQ⟩:∃Q,Q=(A.drop (i+1)).dropLast:=⟨_,rfl⟩
  obtain ⟨x,hx⟩:∃x,x=A[i]:=⟨_,rfl⟩
  obtain ⟨y,hy⟩:∃y,y=(A.drop (i+1)).getLast hne:=⟨_,rfl⟩
  rw [← hP,←hQ,←hx,←hy] at e1
  have hl:P.length=i:=by rw [hP,List.length_take];omega
  refine ⟨P,x,Q,y,e1,hl,?_,?_,fun v=> ?_⟩
  · rw [List.getD_eq_getElem?_getD,List.getElem?_eq_getElem (by omega),hx];rfl
  · rw [e1, List.getD_eq_getElem?_getD]
    have e2:(P++x :: (Q++[y])).length - 1=P.length+(Q.length+1):=by simp
    rw [e2,List.getElem?_append_right (by omega),Nat.add_sub_cancel_left,List.getElem?_cons_succ,List.getElem?_append_right (Nat.le_refl _)];simp
  · have e2 : A.length - 1 = P.length + (Q.length + 1) := by rw [e1]; simp
    rw [e2,e1,←hl,List.set_append_right _ _ (Nat.le_refl _),Nat.sub_self,List.set_cons_zero,List.take_append,List.take_of_length_le (by omega),Nat.add_sub_cancel_left,List.take_succ_cons,List.take_append,List.take_of_length_le (Nat.le_refl _),Nat.sub_self]
    simp
structure WhI (T:Option Bb) (N k:Nat) (A:List Bb):Prop where
  sum:sumO A=T
  ok:∀x∈A,okb x
  len:k+A.length=N
theorem WhI.step {T:Option Bb} {N k i:Nat} {A:List Bb} (h:WhI T N k A) (hT:∀s,T=some s→s.ar≤4096) (hi:i+1<A.length):
    okb (A.getD i b0)∧okb (A.getD (A.length - 1) b0)∧(A.getD i b0).ar+(A.getD (A.length - 1) b0).ar≤4096∧WhI T N (k+1) ((A.set i (tog (A.getD i b0) (A.getD (A.length - 1) b0))).take (A.length - 1)):=by
  obtain ⟨P,x,Q,y,e1,e2,e3,e4,e5⟩:=split2 hi
  rw [e5,e3,e4]
  have hx:okb x:=h.ok x (by rw [e1];simp)
  have hy:okb y:=h.ok y (by rw [e1];simp)
  have hP:=tar_pos (A:=P) fun z hz=>h.ok z (by rw [e1];simp [hz])
  have hQ:=tar_pos (A:=Q) fun z hz=>h.ok z (by rw [e1];simp [hz])
  have hs:x.ar+y.ar≤4096:=by
    cases e:T with
    |none=>
      have:=h.sum;rw [e1,e,sumO_append,sumO_cons] at this
      cases h1:sumO P <;> cases h2:sumO (Q++[y]) <;> rw [h1,h2] at this <;> cases this
    |some s=>
      have h1:=tar_sum A s (by rw [h.sum,e])
      rw [e1,tar_append,tar,tar_append,tar,tar] at h1
      have:=hT s e;omega
  refine ⟨hx,hy,hs,?_,fun z hz=> ?_,?_⟩
  · rw [← h.sum, e1, sumO_append, sumO_append, sumO_cons, sumO_cons, sumO_append, sumO_cons]
    have:sumO ([]:List Bb)=none:=rfl
    rw [this,om_none]
    congr 1
    rw [om_comm (sumO Q),←om_assoc];rfl
  · rcases List.mem_append.1 hz with a | a
    · exact h.ok z (by rw [e1];simp [a])
    · rcases List.mem_cons.1 a with a | a
      · rw [a];exact tog_ok hx hy hs
      · exact h.ok z (by rw [e1];simp [a])
  · have:=h.len;rw [e1] at this;simp only [List.length_append,List.length_cons,List.length_nil] at this ⊢;omega
theorem WhI.nil {T:Option Bb} {N k:Nat} {A:List Bb} (h:WhI T N k A) (hl:A.length=0):T=none:=by
  rw [← h.sum,List.length_eq_zero_iff.1 hl];rfl
theorem WhI.one {T:Option Bb} {N k:Nat} {A:List Bb} (h:WhI T N k A) (hl:A.length=1):A.getD 0 b0=gb T:=by
  obtain ⟨x,rfl⟩:=List.length_eq_one_iff.1 hl
  rw [← h.sum];rfl
end Go.Proofs.YtefbbhiaalcjfaaGreat.Fl
namespace Go.Proofs.YtefbbhiaalcjfaaGreat.Sp
open Go
set_option linter.unusedVariables false
set_option maxRecDepth 100000
set_option maxHeartbeats 1000000
theorem zJb {u:Int} {v:Int} {w:Int} {ar:Int} (ho:1≤ar∧ar≤4096) (hp:0≤u∧u≤16257024) (hs:0≤v∧v≤258048) (ht:0≤w∧w≤258048):Con Tryz.prog 36 [.int .i64 u,.int .i64 v,.int .i64 w,.int .i64 ar] [] [] (Y:=Wd×Wd) (fun y=>True) (fun y=> .agg #[y.1.b,y.1.l,y.2.b,y.2.l]) (fun y=>[]) (fun y=>[qF true y.1 y.2 (Rat.divInt (u*ar - v*w) (ar*ar))]):=by
 refine zr Tryz.func36 rfl rfl rfl (fun c=> ?_)
 show RunC _ _ _ _ _ [(0,.int .i64 u),(1,.int .i64 v),(2,.int .i64 w),(3,.int .i64 ar)] [] []
 have p1:=Bl.mul_b (m:=16257024) (n:=4096) hp (show 0≤ar∧ar≤4096 by omega)
 have p2:=Bl.mul_b hs ht
 have p3:=Bl.mul_b (m:=4096) (n:=4096) (show 0≤ar∧ar≤4096 by omega) (show 0≤ar∧ar≤4096 by omega)
 have p4:ar*ar≠0:=Int.mul_ne_zero (by omega) (by omega)
 refine zi<|zc<|zJ rfl rfl (zu zr42 rfl) (fun b1=> ?_)
 refine zj<|zf<|zi<|zc<|r_pv rfl rfl (zb rfl)<|r_pv rfl rfl (zb rfl)<|r_pv rfl rfl (zda (z:=(u*ar)) rfl rfl (w64 (by omega)))<|r_pv rfl rfl (zb rfl)<|r_pv rfl rfl (zb rfl)<|r_pv rfl rfl (zda (z:=(v*w)) rfl rfl (w64 (by omega)))<|r_pv rfl rfl (zha (z:=((u*ar) - (v*w))) rfl rfl (w64 (by omega)))<|r_pv rfl rfl (zb rfl)<|r_pv rfl rfl (zb rfl)<|r_pv rfl rfl (zda (z:=(ar*ar)) rfl rfl (w64 (by omega)))<|zx rfl rfl (.c rfl (.c rfl .n)) ce23 (zmb (z1:=((u*ar) - (v*w))) (z2:=(ar*ar)) (hz1:=by first|rfl|assumption|omega) (hz2:=by first|rfl|assumption|omega) (hy:=by first|rfl|assumption|omega)) (.n) ?_
 rintro ⟨w32,w43⟩ -
 dsimp only [List.append_eq,List.nil_append,List.cons_append]
 refine r_pv rfl rfl (zb rfl)<|r_pv rfl rfl (zm rfl rfl)<|r_pv rfl rfl (zm rfl rfl)<|zJ rfl rfl (zu zr42 rfl) (fun b4=> ?_)
 refine zl 0 rfl rfl rfl rfl rfl sz42 rfl (.take (.take (.take (.take .nil)))) .z<|r_pv rfl rfl (zd rfl)<|zj<|zf<|zi<|zc<|r_u rfl rfl (zg 0 ty42 rfl rfl (.take (.take (.take (.take .nil)))))<|zl 1 rfl rfl rfl rfl rfl sz42 rfl (.take (.take (.take (.take .nil)))) (.s .z)<|zj<|zf<|zI ?_
 exact zB Tryz.results36 (w32,w43) trivial (zq 1 ty42 rfl rfl (.take (.take (.take (.take .nil))))) rfl (ho:=(.n:PickO _ _ _)) ((.c (j:=0) rfl .n):SelR _ _ _)
theorem zZd {ar:Int} {le:Int} {tp:Int} {rt:Int} {bt:Int} {sx:Int} {sy:Int} {xx:Int} {xy:Int} {yy:Int} {ms:Int} {mx:Int} {my:Int}:Con Tryz.prog 14 [.agg #[.int .i64 ar,.int .i64 le,.int .i64 tp,.int .i64 rt,.int .i64 bt,.int .i64 sx,.int .i64 sy,.int .i64 xx,.int .i64 xy,.int .i64 yy,.int .i64 ms,.int .i64 mx,.int .i64 my]] [] [] (Y:=Wd×Wd×Wd×Wd) (fun y=>True) (fun y=> .tuple #[.agg #[y.1.b,y.1.l,y.2.1.b,y.2.1.l,y.2.2.1.b,y.2.2.1.l,y.2.2.2.b,y.2.2.2.l],.int .i64 (if Bl.ok ar le tp rt bt sx sy xx xy yy ms mx my then (if ms=0 then 13 else 0) else 1)]) (fun y=>[]) (fun y=>[qF (decide (Bl.ok ar le tp rt bt sx sy xx xy yy ms mx my∧ms≠0)) y.1 y.2.1 (if Bl.ok ar le tp rt bt sx sy xx xy yy ms mx my∧ms≠0 then Rat.divInt (2*mx+ms) (2*ms) else 0),qF (decide (Bl.ok ar le tp rt bt sx sy xx xy yy ms mx my∧ms≠0)) y.2.2.1 y.2.2.2 (if Bl.ok ar le tp rt bt sx sy xx xy yy ms mx my∧ms≠0 then Rat.divInt (2*my+ms) (2*ms) else 0)]):=by
 refine zr Tryz.func14 rfl rfl rfl (fun c=> ?_)
 show RunC _ _ _ _ _ [(0,.agg #[.int .i64 ar,.int .i64 le,.int .i64 tp,.int .i64 rt,.int .i64 bt,.int .i64 sx,.int .i64 sy,.int .i64 xx,.int .i64 xy,.int .i64 yy,.int .i64 ms,.int .i64 mx,.int .i64 my])] [] []
 refine zi<|zc<|zJ rfl rfl (zT rfl rfl) (fun b1=> ?_)
 refine zJ rfl rfl (zu zr44 rfl) (fun b2=> ?_)
 refine r_pv rfl rfl (zd rfl)<|zj<|zf<|zi<|zi<|zc<|r_u rfl rfl (zg 1 ty33 rfl rfl (.take (.take (.take (.take (.take (.take (.take (.take (.take (.take (.take (.take (.take .nil))))))))))))))<|zL rfl rfl (.c rfl .n) ce33 (zCc (ar:=ar) (le:=le) (tp:=tp) (rt:=rt) (bt:=bt) (sx:=sx) (sy:=sy) (xx:=xx) (xy:=xy) (yy:=yy) (ms:=ms) (mx:=mx) (my:=my)) (.n)<|r_pv rfl rfl (zJa rfl rfl)<|zj<|zf<|zK rfl (fun hc=> ?_) (fun hc=> ?_)
 ·
  have hok:¬Bl.ok ar le tp rt bt sx sy xx xy yy ms mx my:=fun k=>hc (if_pos k)
  have hno:¬(Bl.ok ar le tp rt bt sx sy xx xy yy ms mx my∧ms≠0):=fun k=>hok k.1
  refine zi<|zc<|r_pv rfl rfl (zE zr44 rfl Tryz.underlying44 (.c sz42 (.c sz42 .n)) .n .n)<|zl 0 rfl rfl rfl rfl rfl sz44 rfl (.take (.take (.take (.take (.take (.take (.take (.take .nil)))))))) .z<|r_pv rfl rfl (zd rfl)<|zj<|zf<|zI<|zv<|zib (qF false wz wz 0) (fun g _=>qF_none g) ?_
  exact zpa Tryz.results14 (wz,wz,wz,wz) trivial (zq 0 ty44 rfl rfl (.take (.take (.take (.take (.take (.take (.take (.take .nil))))))))) (zt rfl) (by simp only [if_neg hok];rfl) (ho:=(.n:PickO _ _ _)) ((.e (j:=0) rfl (by rw [if_neg hno,decide_eq_false hno]) (.e (j:=0) rfl (by rw [if_neg hno,decide_eq_false hno]) .n)):SelR _ _ _)
 ·
  have hok:Bl.ok ar le tp rt bt sx sy xx xy yy ms mx my:=Bl.c0.1 (Decidable.not_not.1 hc)
  have ho9:=hok
  unfold Bl.ok at ho9
  have e0:=Bl.mul_b (x:=ar) (y:=le) (m:=4096) (n:=63) (by omega) (by omega)
  have e1:=Bl.mul_b (x:=ar) (y:=rt) (m:=4096) (n:=63) (by omega) (by omega)
  have e2:=Bl.mul_b (x:=ar) (y:=tp) (m:=4096) (n:=63) (by omega) (by omega)
  have e3:=Bl.mul_b (x:=ar) (y:=bt) (m:=4096) (n:=63) (by omega) (by omega)
  have e4:=Bl.mul_b (x:=ms) (y:=le) (m:=268431360) (n:=63) (by omega) (by omega)
  have e5:=Bl.mul_b (x:=ms) (y:=rt) (m:=268431360) (n:=63) (by omega) (by omega)
  have e6:=Bl.mul_b (x:=ms) (y:=tp) (m:=268431360) (n:=63) (by omega) (by omega)
  have e7:=Bl.mul_b (x:=ms) (y:=bt) (m:=268431360) (n:=63) (by omega) (by omega)
  refine zD<|zf<|zi<|zi<|zc<|r_pv rfl rfl (zh Tryz.underlying33 rfl sz3 rfl rfl)<|r_u rfl rfl (ze 1 ty3 rfl rfl rfl)<|r_pv rfl rfl (zza rfl rfl)<|zj<|zf<|zK rfl (fun hm=> ?_) (fun hm=> ?_)
  ·
   have hno:¬(Bl.ok ar le tp rt bt sx sy xx xy yy ms mx my∧ms≠0):=fun k=>k.2 hm
   refine zi<|zc<|r_pv rfl rfl (zE zr44 rfl Tryz.underlying44 (.c sz42 (.c sz42 .n)) .n .n)<|zl 0 rfl rfl rfl rfl rfl sz44 rfl (.take (.take (.take (.take (.take (.take (.take (.take .nil)))))))) .z<|r_pv rfl rfl (zd rfl)<|zj<|zf<|zI<|zv<|zib (qF false wz wz 0) (fun g _=>qF_none g) ?_
   exact zpa Tryz.results14 (wz,wz,wz,wz) trivial (zq 0 ty44 rfl rfl (.take (.take (.take (.take (.take (.take (.take (.take .nil))))))))) (zt rfl) (by rw [if_pos hok,if_pos hm];rfl) (ho:=(.n:PickO _ _ _)) ((.e (j:=0) rfl (by rw [if_neg hno,decide_eq_false hno]) (.e (j:=0) rfl (by rw [if_neg hno,decide_eq_false hno]) .n)):SelR _ _ _)
  ·
   have hye:Bl.ok ar le tp rt bt sx sy xx xy yy ms mx my∧ms≠0:=⟨hok,hm⟩
   refine zD<|zf<|zi<|zc<|r_pv rfl rfl (zh Tryz.underlying33 rfl sz3 rfl rfl)<|r_u rfl rfl (ze 1 ty3 rfl rfl rfl)<|r_pv rfl rfl (zda (z:=(2*mx)) rfl rfl (w64 (by omega)))<|r_pv rfl rfl (zh Tryz.underlying33 rfl sz3 rfl rfl)<|r_u rfl rfl (ze 1 ty3 rfl rfl rfl)<|r_pv rfl rfl (zN (z:=((2*mx)+ms)) rfl rfl (w64 (by omega)))<|r_pv rfl rfl (zh Tryz.underlying33 rfl sz3 rfl rfl)<|r_u rfl rfl (ze 1 ty3 rfl rfl rfl)<|r_pv rfl rfl (zda (z:=(2*ms)) rfl rfl (w64 (by omega)))<|zx rfl rfl (.c rfl (.c rfl .n)) ce23 (zmb (z1:=((2*mx)+ms)) (z2:=(2*ms)) (hz1:=by first|rfl|assumption|omega) (hz2:=by first|rfl|assumption|omega) (hy:=by first|rfl|assumption|omega)) (.n) ?_
   rintro ⟨w33,w44⟩ -
   dsimp only [List.append_eq,List.nil_append,List.cons_append]
   refine r_pv rfl rfl (zb rfl)<|r_pv rfl rfl (zm rfl rfl)<|r_pv rfl rfl (zm rfl rfl)<|zJ rfl rfl (zu zr42 rfl) (fun b5=> ?_)
   refine zl 0 rfl rfl rfl rfl rfl sz42 rfl (.take (.take (.take (.take .nil)))) .z<|r_pv rfl rfl (zd rfl)<|zj<|zf<|zi<|zc<|r_pv rfl rfl (zh Tryz.underlying33 rfl sz3 rfl rfl)<|r_u rfl rfl (ze 2 ty3 rfl rfl rfl)<|r_pv rfl rfl (zda (z:=(2*my)) rfl rfl (w64 (by omega)))<|r_pv rfl rfl (zh Tryz.underlying33 rfl sz3 rfl rfl)<|r_u rfl rfl (ze 2 ty3 rfl rfl rfl)<|r_pv rfl rfl (zN (z:=((2*my)+ms)) rfl rfl (w64 (by omega)))<|r_pv rfl rfl (zh Tryz.underlying33 rfl sz3 rfl rfl)<|r_u rfl rfl (ze 2 ty3 rfl rfl rfl)<|r_pv rfl rfl (zda (z:=(2*ms)) rfl rfl (w64 (by omega)))<|zx rfl rfl (.c rfl (.c rfl .n)) ce23 (zmb (z1:=((2*my)+ms)) (z2:=(2*ms)) (hz1:=by first|rfl|assumption|omega) (hz2:=by first|rfl|assumption|omega) (hy:=by first|rfl|assumption|omega)) (.n) ?_
   rintro ⟨w36,w47⟩ -
   dsimp only [List.append_eq,List.nil_append,List.cons_append]
   refine r_pv rfl rfl (zb rfl)<|r_pv rfl rfl (zm rfl rfl)<|r_pv rfl rfl (zm rfl rfl)<|zJ rfl rfl (zu zr42 rfl) (fun b8=> ?_)
   refine zl 0 rfl rfl rfl rfl rfl sz42 rfl (.take (.take (.take (.take .nil)))) .z<|r_pv rfl rfl (zd rfl)<|zj<|zf<|zi<|zc<|r_u rfl rfl (zg 1 ty42 rfl rfl (.take (.take (.take (.take .nil)))))<|r_u rfl rfl (zg 0 ty42 rfl rfl (.take (.take (.take (.take .nil)))))<|r_pv rfl rfl (zE zr44 rfl Tryz.underlying44 (.c sz42 (.c sz42 .n)) (.c rfl (.c rfl .n)) (.c rfl rfl rfl (.take (.take (.take (.take .nil)))) (.c rfl rfl rfl (.skip (.skip (.skip (.skip (.take (.take (.take (.take .nil)))))))) .n)))<|zl 2 rfl rfl rfl rfl rfl sz44 rfl (.take (.take (.take (.take (.take (.take (.take (.take .nil)))))))) (.s (.s .z))<|r_pv rfl rfl (zd rfl)<|zj<|zf<|zI ?_
   exact zpa Tryz.results14 (w33,w44,w36,w47) trivial (zq 2 ty44 rfl rfl (.take (.take (.take (.take (.take (.take (.take (.take .nil))))))))) (zt rfl) (by rw [if_pos hok,if_neg hm]) (ho:=(.n:PickO _ _ _)) ((.e (j:=1) rfl (by rw [if_pos hye,decide_eq_true hye]) (.e (j:=0) rfl (by rw [if_pos hye,decide_eq_true hye]) .n)):SelR _ _ _)
theorem zsc {ar:Int} {le:Int} {tp:Int} {rt:Int} {bt:Int} {sx:Int} {sy:Int} {xx:Int} {xy:Int} {yy:Int} {ms:Int} {mx:Int} {my:Int}:Con Tryz.prog 17 [.agg #[.int .i64 ar,.int .i64 le,.int .i64 tp,.int .i64 rt,.int .i64 bt,.int .i64 sx,.int .i64 sy,.int .i64 xx,.int .i64 xy,.int .i64 yy,.int .i64 ms,.int .i64 mx,.int .i64 my]] [] [] (Y:=Wd×Wd×Wd×Wd×Wd×Wd) (fun y=>True) (fun y=> .tuple #[.agg #[y.1.b,y.1.l,y.2.1.b,y.2.1.l],.agg #[y.2.2.1.b,y.2.2.1.l,y.2.2.2.1.b,y.2.2.2.1.l],.agg #[y.2.2.2.2.1.b,y.2.2.2.2.1.l,y.2.2.2.2.2.b,y.2.2.2.2.2.l],.int .i64 (if Bl.ok ar le tp rt bt sx sy xx xy yy ms mx my then 0 else 1)]) (fun y=>[]) (fun y=>[qF (decide (Bl.ok ar le tp rt bt sx sy xx xy yy ms mx my)) y.1 y.2.1 (if Bl.ok ar le tp rt bt sx sy xx xy yy ms mx my then Rat.divInt (xx*ar - sx*sx) (ar*ar) else 0),qF (decide (Bl.ok ar le tp rt bt sx sy xx xy yy ms mx my)) y.2.2.1 y.2.2.2.1 (if Bl.ok ar le tp rt bt sx sy xx xy yy ms mx my then Rat.divInt (xy*ar - sx*sy) (ar*ar) else 0),qF (decide (Bl.ok ar le tp rt bt sx sy xx xy yy ms mx my)) y.2.2.2.2.1 y.2.2.2.2.2 (if Bl.ok ar le tp rt bt sx sy xx xy yy ms mx my then Rat.divInt (yy*ar - sy*sy) (ar*ar) else 0)]):=by
 refine zr Tryz.func17 rfl rfl rfl (fun c=> ?_)
 show RunC _ _ _ _ _ [(0,.agg #[.int .i64 ar,.int .i64 le,.int .i64 tp,.int .i64 rt,.int .i64 bt,.int .i64 sx,.int .i64 sy,.int .i64 xx,.int .i64 xy,.int .i64 yy,.int .i64 ms,.int .i64 mx,.int .i64 my])] [] []
 refine zi<|zc<|zJ rfl rfl (zT rfl rfl) (fun b1=> ?_)
 refine zJ rfl rfl (zu zr42 rfl) (fun b2=> ?_)
 refine zJ rfl rfl (zu zr42 rfl) (fun b3=> ?_)
 refine zJ rfl rfl (zu zr42 rfl) (fun b4=> ?_)
 refine r_pv rfl rfl (zd rfl)<|zj<|zf<|zi<|zi<|zc<|r_u rfl rfl (zg 3 ty33 rfl rfl (.take (.take (.take (.take (.take (.take (.take (.take (.take (.take (.take (.take (.take .nil))))))))))))))<|zL rfl rfl (.c rfl .n) ce33 (zCc (ar:=ar) (le:=le) (tp:=tp) (rt:=rt) (bt:=bt) (sx:=sx) (sy:=sy) (xx:=xx) (xy:=xy) (yy:=yy) (ms:=ms) (mx:=mx) (my:=my)) (.n)<|r_pv rfl rfl (zJa rfl rfl)<|zj<|zf<|zK rfl (fun hc=> ?_) (fun hc=> ?_)
 ·
  have hok:¬Bl.ok ar le tp rt bt sx sy xx xy yy ms mx my:=fun k=>hc (if_pos k)
  refine zi<|zc<|r_pv rfl rfl (zE zr42 rfl Tryz.underlying42 (.c sz40 (.c sz40 .n)) .n .n)<|r_pv rfl rfl (zE zr42 rfl Tryz.underlying42 (.c sz40 (.c sz40 .n)) .n .n)<|r_pv rfl rfl (zE zr42 rfl Tryz.underlying42 (.c sz40 (.c sz40 .n)) .n .n)<|zl 2 rfl rfl rfl rfl rfl sz42 rfl (.take (.take (.take (.take .nil)))) (.s (.s .z))<|zl 1 rfl rfl rfl rfl rfl sz42 rfl (.take (.take (.take (.take .nil)))) (.s .z)<|zl 0 rfl rfl rfl rfl rfl sz42 rfl (.take (.take (.take (.take .nil)))) .z<|r_pv rfl rfl (zd rfl)<|zj<|zf<|zI<|zv<|zib (qF false wz wz 0) (fun g _=>qF_none g) ?_
  exact zfe Tryz.results17 (wz,wz,wz,wz,wz,wz) trivial (zq 2 ty42 rfl rfl (.take (.take (.take (.take .nil))))) (zq 1 ty42 rfl rfl (.take (.take (.take (.take .nil))))) (zq 0 ty42 rfl rfl (.take (.take (.take (.take .nil))))) (zt rfl) (by simp only [if_neg hok];rfl) (ho:=(.n:PickO _ _ _)) ((.e (j:=0) rfl (by rw [if_neg hok,decide_eq_false hok]) (.e (j:=0) rfl (by rw [if_neg hok,decide_eq_false hok]) (.e (j:=0) rfl (by rw [if_neg hok,decide_eq_false hok]) .n))):SelR _ _ _)
 ·
  have hok:Bl.ok ar le tp rt bt sx sy xx xy yy ms mx my:=Bl.c0.1 (Decidable.not_not.1 hc)
  have ho9:=hok
  unfold Bl.ok at ho9
  have e0:=Bl.mul_b (x:=ar) (y:=le) (m:=4096) (n:=63) (by omega) (by omega)
  have e1:=Bl.mul_b (x:=ar) (y:=rt) (m:=4096) (n:=63) (by omega) (by omega)
  have e2:=Bl.mul_b (x:=ar) (y:=tp) (m:=4096) (n:=63) (by omega) (by omega)
  have e3:=Bl.mul_b (x:=ar) (y:=bt) (m:=4096) (n:=63) (by omega) (by omega)
  have e4:=Bl.mul_b (x:=ms) (y:=le) (m:=268431360) (n:=63) (by omega) (by omega)
  have e5:=Bl.mul_b (x:=ms) (y:=rt) (m:=268431360) (n:=63) (by omega) (by omega)
  have e6:=Bl.mul_b (x:=ms) (y:=tp) (m:=268431360) (n:=63) (by omega) (by omega)
  have e7:=Bl.mul_b (x:=ms) (y:=bt) (m:=268431360) (n:=63) (by omega) (by omega)
  refine zD<|zf<|zi<|zqa (.c (i:=2) rfl (.c (i:=1) rfl (.c (i:=0) rfl (.c (i:=0) rfl .n))))<|zaa (OW:=[boxA b2 42 [.bool false,.slice none 0 0,.bool false,.slice none 0 0],boxA b3 42 [.bool false,.slice none 0 0,.bool false,.slice none 0 0],boxA b4 42 [.bool false,.slice none 0 0,.bool false,.slice none 0 0]]) (O:=[boxA b1 33 [.int .i64 ar,.int .i64 le,.int .i64 tp,.int .i64 rt,.int .i64 bt,.int .i64 sx,.int .i64 sy,.int .i64 xx,.int .i64 xy,.int .i64 yy,.int .i64 ms,.int .i64 mx,.int .i64 my]]) 27 mixed (.then .ret) (by kernel_rfl)<|d_pv 0 rfl rfl (by kernel_rfl) (by kernel_rfl) rfl rfl (zh Tryz.underlying33 rfl sz3 rfl rfl)<|d_uw 1 rfl rfl (by kernel_rfl) (by kernel_rfl) (by kernel_rfl) rfl rfl (ze 3 ty3 rfl rfl rfl)<|d_pv 2 rfl rfl (by kernel_rfl) (by kernel_rfl) rfl rfl (zh Tryz.underlying33 rfl sz3 rfl rfl)<|d_uw 3 rfl rfl (by kernel_rfl) (by kernel_rfl) (by kernel_rfl) rfl rfl (ze 3 ty3 rfl rfl rfl)<|d_pv 4 rfl rfl (by kernel_rfl) (by kernel_rfl) rfl rfl (zh Tryz.underlying33 rfl sz3 rfl rfl)<|d_uw 5 rfl rfl (by kernel_rfl) (by kernel_rfl) (by kernel_rfl) rfl rfl (ze 3 ty3 rfl rfl rfl)<|d_pv 6 rfl rfl (by kernel_rfl) (by kernel_rfl) rfl rfl (zh Tryz.underlying33 rfl sz3 rfl rfl)<|d_uw 7 rfl rfl (by kernel_rfl) (by kernel_rfl) (by kernel_rfl) rfl rfl (ze 3 ty3 rfl rfl rfl)<|d_pv 9 rfl rfl (by kernel_rfl) (by kernel_rfl) rfl rfl (zh Tryz.underlying33 rfl sz3 rfl rfl)<|d_uw 10 rfl rfl (by kernel_rfl) (by kernel_rfl) (by kernel_rfl) rfl rfl (ze 3 ty3 rfl rfl rfl)<|d_pv 11 rfl rfl (by kernel_rfl) (by kernel_rfl) rfl rfl (zh Tryz.underlying33 rfl sz3 rfl rfl)<|d_uw 12 rfl rfl (by kernel_rfl) (by kernel_rfl) (by kernel_rfl) rfl rfl (ze 3 ty3 rfl rfl rfl)<|d_pv 13 rfl rfl (by kernel_rfl) (by kernel_rfl) rfl rfl (zh Tryz.underlying33 rfl sz3 rfl rfl)<|d_uw 14 rfl rfl (by kernel_rfl) (by kernel_rfl) (by kernel_rfl) rfl rfl (ze 3 ty3 rfl rfl rfl)<|d_pv 15 rfl rfl (by kernel_rfl) (by kernel_rfl) rfl rfl (zh Tryz.underlying33 rfl sz3 rfl rfl)<|d_uw 16 rfl rfl (by kernel_rfl) (by kernel_rfl) (by kernel_rfl) rfl rfl (ze 3 ty3 rfl rfl rfl)<|d_pv 18 rfl rfl (by kernel_rfl) (by kernel_rfl) rfl rfl (zh Tryz.underlying33 rfl sz3 rfl rfl)<|d_uw 19 rfl rfl (by kernel_rfl) (by kernel_rfl) (by kernel_rfl) rfl rfl (ze 3 ty3 rfl rfl rfl)<|d_pv 20 rfl rfl (by kernel_rfl) (by kernel_rfl) rfl rfl (zh Tryz.underlying33 rfl sz3 rfl rfl)<|d_uw 21 rfl rfl (by kernel_rfl) (by kernel_rfl) (by kernel_rfl) rfl rfl (ze 3 ty3 rfl rfl rfl)<|d_pv 22 rfl rfl (by kernel_rfl) (by kernel_rfl) rfl rfl (zh Tryz.underlying33 rfl sz3 rfl rfl)<|d_uw 23 rfl rfl (by kernel_rfl) (by kernel_rfl) (by kernel_rfl) rfl rfl (ze 3 ty3 rfl rfl rfl) ?_
  refine d_pv 24 rfl rfl (by kernel_rfl) (by kernel_rfl) rfl rfl (zh Tryz.underlying33 rfl sz3 rfl rfl)<|d_uw 25 rfl rfl (by kernel_rfl) (by kernel_rfl) (by kernel_rfl) rfl rfl (ze 3 ty3 rfl rfl rfl)<|zG 8 (by kernel_rfl) (zw rfl rfl rfl rfl (.c rfl (.c rfl (.c rfl (.c rfl .n)))) ce36 (zJb (u:=xx) (v:=sx) (w:=sx) (ar:=ar) (ho:=by first|rfl|assumption|omega) (hp:=by first|rfl|assumption|omega) (hs:=by first|rfl|assumption|omega) (ht:=by first|rfl|assumption|omega)) (.n) ?_)
  rintro ⟨w35,w46⟩ -
  dsimp only [List.append_eq,List.nil_append,List.cons_append]
  refine zG 17 (by kernel_rfl) (zw rfl rfl rfl rfl (.c rfl (.c rfl (.c rfl (.c rfl .n)))) ce36 (zJb (u:=xy) (v:=sx) (w:=sy) (ar:=ar) (ho:=by first|rfl|assumption|omega) (hp:=by first|rfl|assumption|omega) (hs:=by first|rfl|assumption|omega) (ht:=by first|rfl|assumption|omega)) (.n) ?_)
  rintro ⟨w37,w48⟩ -
  dsimp only [List.append_eq,List.nil_append,List.cons_append]
  refine zG 26 (by kernel_rfl) (zw rfl rfl rfl rfl (.c rfl (.c rfl (.c rfl (.c rfl .n)))) ce36 (zJb (u:=yy) (v:=sy) (w:=sy) (ar:=ar) (ho:=by first|rfl|assumption|omega) (hp:=by first|rfl|assumption|omega) (hs:=by first|rfl|assumption|omega) (ht:=by first|rfl|assumption|omega)) (.n) ?_)
  rintro ⟨w39,w410⟩ -
  dsimp only [List.append_eq,List.nil_append,List.cons_append]
  refine zG 27 (by kernel_rfl) (zz (by kernel_rfl) rfl rfl rfl rfl rfl sz42 rfl (.take (.take (.take (.take .nil)))) ?_)
  refine zGa (zga (i:=1) rfl)<|zG 28 (by kernel_rfl) (zz (by kernel_rfl) rfl rfl rfl rfl rfl sz42 rfl (.take (.take (.take (.take .nil)))) ?_)
  refine zGa (zga (i:=2) rfl)<|zG 29 (by kernel_rfl) (zz (by kernel_rfl) rfl rfl rfl rfl rfl sz42 rfl (.take (.take (.take (.take .nil)))) ?_)
  refine d_pv 30 rfl rfl (by kernel_rfl) (by kernel_rfl) rfl rfl (zd rfl)<|zY (by kernel_rfl)<|zf<|zI ?_
  exact zfe Tryz.results17 (w35,w46,w37,w48,w39,w410) trivial (zq 2 ty42 rfl rfl (.take (.take (.take (.take .nil))))) (zq 1 ty42 rfl rfl (.take (.take (.take (.take .nil))))) (zq 0 ty42 rfl rfl (.take (.take (.take (.take .nil))))) (zt rfl) (by rw [if_pos hok]) (ho:=(.n:PickO _ _ _)) ((.e (j:=2) rfl (by rw [if_pos hok,decide_eq_true hok]) (.e (j:=1) rfl (by rw [if_pos hok,decide_eq_true hok]) (.e (j:=0) rfl (by rw [if_pos hok,decide_eq_true hok]) .n))):SelR _ _ _)
theorem znb {u1:Wd} {v1:Wd} {q1:Rat} (hl:Big.hq q1+Big.hq q1+1≤1048576):Con Tryz.prog 37 [.agg #[u1.b,u1.l,v1.b,v1.l]] [] [qF true u1 v1 q1] (Y:=Wd×Wd) (fun y=>True) (fun y=> .agg #[y.1.b,y.1.l,y.2.b,y.2.l]) (fun y=>[]) (fun y=>[qF true y.1 y.2 (q1*q1)]):=by
 refine zr Tryz.func37 rfl rfl rfl (fun c=> ?_)
 show RunC _ _ _ _ _ [(0,.agg #[u1.b,u1.l,v1.b,v1.l])] [] [qF true u1 v1 q1]
 refine zi<|zc<|zJ rfl rfl (zT rfl rfl) (fun b1=> ?_)
 refine zJ rfl rfl (zu zr42 rfl) (fun b2=> ?_)
 refine zj<|zf<|zi<|zc<|r_u rfl rfl (zg 1 ty42 rfl rfl (.take (.take (.take (.take .nil)))))<|r_u rfl rfl (zg 1 ty42 rfl rfl (.take (.take (.take (.take .nil)))))<|zx rfl rfl (.c rfl (.c rfl .n)) ce38 (zfc (k1:=true) (u1:=u1) (v1:=v1) (q1:=q1) (k2:=true) (u2:=u1) (v2:=v1) (q2:=q1) (hl:=by assumption)) (.c (j:=0) rfl (.c (j:=0) rfl .n)) ?_
 rintro ⟨w33,w44⟩ -
 dsimp only [List.append_eq,List.nil_append,List.cons_append]
 refine zl 0 rfl rfl rfl rfl rfl sz42 rfl (.take (.take (.take (.take .nil)))) .z<|zj<|zf<|zI ?_
 exact zB Tryz.results37 (w33,w44) trivial (zq 0 ty42 rfl rfl (.take (.take (.take (.take .nil))))) rfl (ho:=(.n:PickO _ _ _)) ((.c (j:=0) rfl .n):SelR _ _ _)
end Go.Proofs.YtefbbhiaalcjfaaGreat.Sp
namespace Go.Proofs.YtefbbhiaalcjfaaGreat.Fl
theorem self_ne (z:Int):decide (z≠z)=false:=decide_eq_false (fun h=>h rfl)
def rndQ (qx qy qz qn:Rat):Bool:=decide (Big.sgq ((qx - qz)*(qx - qz)+((4:Int):Rat)*(qy*qy) - (qn*(qx+qz))*(qn*(qx+qz)))≤0)
theorem hq_q {n d:Int} (hd:d≠0) (h1: -9223372036854775808≤n∧n≤9223372036854775807) (h2: -9223372036854775808≤d∧d≤9223372036854775807):Big.hq (Rat.divInt n d)≤3:=by
  have a:=Big.zQd h1.1 h1.2
  have b:=Big.zQd h2.1 h2.2
  have:=Big.hq_divInt (n:=n) hd;omega
theorem cen0 {p:Prop} [Decidable p] {m:Int}:(if p then (if m=0 then (13:Int) else 0) else 1)=0↔p∧m≠0:=by
  by_cases h:p
  · by_cases k : m = 0
    · simp [h,k]
    · simp [h,k]
  · simp [h]
theorem rnd_hq {qx qy qz qn:Rat} (hx:Big.hq qx≤3) (hy:Big.hq qy≤3) (hz:Big.hq qz≤3) (hn:Big.hq qn≤3):
    Big.hq (qx - qz)≤7∧Big.hq (qx+ -qz)≤7∧Big.hq (-qz)≤3∧Big.hq ((qx - qz)*(qx - qz))≤14∧Big.hq ((qx+ -qz)*(qx+ -qz))≤14∧Big.hq ((4:Int):Rat)≤3∧Big.hq (qy*qy)≤6∧Big.hq (((4:Int):Rat)*(qy*qy))≤9∧
    Big.hq ((qx - qz)*(qx - qz)+((4:Int):Rat)*(qy*qy))≤24∧Big.hq ((qx+ -qz)*(qx+ -qz)+((4:Int):Rat)*(qy*qy))≤24∧Big.hq (qx+qz)≤7∧Big.hq (qn*(qx+qz))≤10∧Big.hq ((qn*(qx+qz))*(qn*(qx+qz)))≤20:=by
  have a1:=Big.hq_sub qx qz
  have a2:=Big.hq_neg qz
  have a3:=Big.hq_add qx (-qz)
  have a4:=Big.hq_mul (qx - qz) (qx - qz)
  have a5:=Big.hq_mul (qx+ -qz) (qx+ -qz)
  have a6:=Big.hq_64 (z:=4) (by omega) (by omega)
  have a7:=Big.hq_mul qy qy
  have a8:=Big.hq_mul ((4:Int):Rat) (qy*qy)
  have a9:=Big.hq_add ((qx - qz)*(qx - qz)) (((4:Int):Rat)*(qy*qy))
  have b1:=Big.hq_add ((qx+ -qz)*(qx+ -qz)) (((4:Int):Rat)*(qy*qy))
  have b2:=Big.hq_add qx qz
  have b3:=Big.hq_mul qn (qx+qz)
  have b4:=Big.hq_mul (qn*(qx+qz)) (qn*(qx+qz))
  omega
end Go.Proofs.YtefbbhiaalcjfaaGreat.Fl
namespace Go.Proofs.YtefbbhiaalcjfaaGreat.Sp
open Go
set_option linter.unusedVariables false
set_option maxRecDepth 100000
set_option maxHeartbeats 1000000
theorem zof {ar:Int} {le:Int} {tp:Int} {rt:Int} {bt:Int} {sx:Int} {sy:Int} {xx:Int} {xy:Int} {yy:Int} {ms:Int} {mx:Int} {my:Int} {num:Int} {den:Int} (hnum: -9223372036854775808≤num∧num≤9223372036854775807) (hden: -9223372036854775808≤den∧den≤9223372036854775807):Con Tryz.prog 18 [.agg #[.int .i64 ar,.int .i64 le,.int .i64 tp,.int .i64 rt,.int .i64 bt,.int .i64 sx,.int .i64 sy,.int .i64 xx,.int .i64 xy,.int .i64 yy,.int .i64 ms,.int .i64 mx,.int .i64 my],.int .i64 num,.int .i64 den] [] [] (Y:=Unit) (fun y=>True) (fun y=> .tuple #[.bool (if Bl.ok ar le tp rt bt sx sy xx xy yy ms mx my∧(0≤num∧num≤1000)∧(1≤den∧den≤1000) then Fl.rndQ (Rat.divInt (xx*ar - sx*sx) (ar*ar)) (Rat.divInt (xy*ar - sx*sy) (ar*ar)) (Rat.divInt (yy*ar - sy*sy) (ar*ar)) (Rat.divInt num den) else false),.int .i64 (if Bl.ok ar le tp rt bt sx sy xx xy yy ms mx my then (if (0≤num∧num≤1000)∧(1≤den∧den≤1000) then 0 else 2) else 1)]) (fun y=>[]) (fun y=>[]):=by
 refine zr Tryz.func18 rfl rfl rfl (fun c=> ?_)
 show RunC _ _ _ _ _ [(0,.agg #[.int .i64 ar,.int .i64 le,.int .i64 tp,.int .i64 rt,.int .i64 bt,.int .i64 sx,.int .i64 sy,.int .i64 xx,.int .i64 xy,.int .i64 yy,.int .i64 ms,.int .i64 mx,.int .i64 my]),(1,.int .i64 num),(2,.int .i64 den)] [] []
 refine zi<|zc<|zJ rfl rfl (zT rfl rfl) (fun b1=> ?_)
 refine r_pv rfl rfl (zd rfl)<|r_pv rfl rfl (zd rfl)<|zj<|zf<|zi<|zc<|r_u rfl rfl (zg 0 ty33 rfl rfl (.take (.take (.take (.take (.take (.take (.take (.take (.take (.take (.take (.take (.take .nil))))))))))))))<|zx rfl rfl (.c rfl .n) ce16 (zSb (ar:=ar) (le:=le) (tp:=tp) (rt:=rt) (bt:=bt) (sx:=sx) (sy:=sy) (xx:=xx) (xy:=xy) (yy:=yy) (ms:=ms) (mx:=mx) (my:=my)) (.n) ?_
 rintro ⟨w32,w43,w54,w65,w76,w87⟩ -
 dsimp only [List.append_eq,List.nil_append,List.cons_append]
 refine r_pv rfl rfl (zb rfl)<|r_pv rfl rfl (zm rfl rfl)<|r_pv rfl rfl (zm rfl rfl)<|r_pv rfl rfl (zm rfl rfl)<|r_pv rfl rfl (zm rfl rfl)<|zJ rfl rfl (zu zr42 rfl) (fun b8=> ?_)
 refine zJ rfl rfl (zu zr42 rfl) (fun b9=> ?_)
 refine zJ rfl rfl (zu zr42 rfl) (fun b10=> ?_)
 refine zl 2 rfl rfl rfl rfl rfl sz42 rfl (.take (.take (.take (.take .nil)))) (.s (.s .z))<|zl 1 rfl rfl rfl rfl rfl sz42 rfl (.take (.take (.take (.take .nil)))) (.s .z)<|zl 0 rfl rfl rfl rfl rfl sz42 rfl (.take (.take (.take (.take .nil)))) .z<|r_pv rfl rfl (zd rfl)<|zj<|zf<|zi<|zi<|zc<|r_pv rfl rfl (zb rfl)<|r_pv rfl rfl (zJa rfl rfl)<|zj<|zf<|zK rfl (fun hc=> ?_) (fun hc=> ?_)
 ·
  have hok:¬Bl.ok ar le tp rt bt sx sy xx xy yy ms mx my:=fun k=>hc (if_pos k)
  refine zi<|zc<|r_pv rfl rfl (zb rfl)<|r_pv rfl rfl (zd rfl)<|r_pv rfl rfl (zd rfl)<|zj<|zf<|zI<|zv ?_
  exact zpa Tryz.results18 () trivial (zt rfl) (zt rfl) (by simp only [if_neg (show ¬(Bl.ok ar le tp rt bt sx sy xx xy yy ms mx my∧(0≤num∧num≤1000)∧(1≤den∧den≤1000)) from fun k=>hok k.1),if_neg hok]) (ho:=(.n:PickO _ _ _)) (.n:SelR _ _ _)
 ·
  have hok:Bl.ok ar le tp rt bt sx sy xx xy yy ms mx my:=Bl.c0.1 (Decidable.not_not.1 hc)
  have ho9:=hok
  unfold Bl.ok at ho9
  have e0:=Bl.mul_b (x:=ar) (y:=le) (m:=4096) (n:=63) (by omega) (by omega)
  have e1:=Bl.mul_b (x:=ar) (y:=rt) (m:=4096) (n:=63) (by omega) (by omega)
  have e2:=Bl.mul_b (x:=ar) (y:=tp) (m:=4096) (n:=63) (by omega) (by omega)
  have e3:=Bl.mul_b (x:=ar) (y:=bt) (m:=4096) (n:=63) (by omega) (by omega)
  have e4:=Bl.mul_b (x:=ms) (y:=le) (m:=268431360) (n:=63) (by omega) (by omega)
  have e5:=Bl.mul_b (x:=ms) (y:=rt) (m:=268431360) (n:=63) (by omega) (by omega)
  have e6:=Bl.mul_b (x:=ms) (y:=tp) (m:=268431360) (n:=63) (by omega) (by omega)
  have e7:=Bl.mul_b (x:=ms) (y:=bt) (m:=268431360) (n:=63) (by omega) (by omega)
  have p0:=Bl.mul_b (x:=ar) (y:=ar) (m:=4096) (n:=4096) (by omega) (by omega)
  have pne:ar*ar≠0:=Int.mul_ne_zero (by omega) (by omega)
  have px1:=Bl.mul_b (x:=xx) (y:=ar) (m:=16257024) (n:=4096) (by omega) (by omega)
  have px2:=Bl.mul_b (x:=sx) (y:=sx) (m:=258048) (n:=258048) (by omega) (by omega)
  have px3:=Fl.hq_q (n:=xx*ar - sx*sx) pne (by omega) (by omega)
  have py1:=Bl.mul_b (x:=xy) (y:=ar) (m:=16257024) (n:=4096) (by omega) (by omega)
  have py2:=Bl.mul_b (x:=sx) (y:=sy) (m:=258048) (n:=258048) (by omega) (by omega)
  have py3:=Fl.hq_q (n:=xy*ar - sx*sy) pne (by omega) (by omega)
  have pz1:=Bl.mul_b (x:=yy) (y:=ar) (m:=16257024) (n:=4096) (by omega) (by omega)
  have pz2:=Bl.mul_b (x:=sy) (y:=sy) (m:=258048) (n:=258048) (by omega) (by omega)
  have pz3:=Fl.hq_q (n:=yy*ar - sy*sy) pne (by omega) (by omega)
  have e11:(decide (Bl.ok ar le tp rt bt sx sy xx xy yy ms mx my))=true:=by exact decide_eq_true hok
  rw [e11]
  have e12:(if Bl.ok ar le tp rt bt sx sy xx xy yy ms mx my then Rat.divInt (xx*ar - sx*sx) (ar*ar) else 0)=Rat.divInt (xx*ar - sx*sx) (ar*ar):=by exact if_pos hok
  rw [e12]
  have e13:(if Bl.ok ar le tp rt bt sx sy xx xy yy ms mx my then Rat.divInt (xy*ar - sx*sy) (ar*ar) else 0)=Rat.divInt (xy*ar - sx*sy) (ar*ar):=by exact if_pos hok
  rw [e13]
  have e14:(if Bl.ok ar le tp rt bt sx sy xx xy yy ms mx my then Rat.divInt (yy*ar - sy*sy) (ar*ar) else 0)=Rat.divInt (yy*ar - sy*sy) (ar*ar):=by exact if_pos hok
  rw [e14]
  obtain ⟨qx,hqx⟩:∃z,z=Rat.divInt (xx*ar - sx*sx) (ar*ar):=⟨_,rfl⟩
  rw [← hqx]
  obtain ⟨qy,hqy⟩:∃z,z=Rat.divInt (xy*ar - sx*sy) (ar*ar):=⟨_,rfl⟩
  rw [← hqy]
  obtain ⟨qz,hqz⟩:∃z,z=Rat.divInt (yy*ar - sy*sy) (ar*ar):=⟨_,rfl⟩
  rw [← hqz]
  rw [← hqx] at px3
  rw [← hqy] at py3
  rw [← hqz] at pz3
  refine zD<|zf<|zi<|zQa (X:=Unit) (fun x=>True) (fun x=>[(38,.bool (decide (¬((0≤num∧num≤1000)∧(1≤den∧den≤1000))))),(10,.pointer (some ⟨b10,0,none⟩)),(9,.pointer (some ⟨b9,0,none⟩)),(8,.pointer (some ⟨b8,0,none⟩)),(7,.int .i64 0),(6,.bool false),(1,.int .i64 num),(2,.int .i64 den)]) (fun x=>[boxA b10 42 (cw [w76,w87]),boxA b9 42 (cw [w54,w65]),boxA b8 42 (cw [w32,w43]),boxA b1 33 [.int .i64 ar,.int .i64 le,.int .i64 tp,.int .i64 rt,.int .i64 bt,.int .i64 sx,.int .i64 sy,.int .i64 xx,.int .i64 xy,.int .i64 yy,.int .i64 ms,.int .i64 mx,.int .i64 my]]) (fun x=>[qF true w32 w43 qx,qF true w54 w65 qy,qF true w76 w87 qz]) ?_ ?_
  ·
   refine zc<|r_pv rfl rfl (zb rfl)<|r_pv rfl rfl (zfa rfl rfl)<|zO rfl rfl (zb rfl) (fun h15=> ?_) (fun h15=> ?_)
   ·
    refine za rfl rfl<|za rfl rfl<|r_pv rfl rfl (zk rfl rfl)<|r_pv rfl rfl (zb rfl)<|za rfl rfl<|za rfl rfl<|r_pv rfl rfl (zk rfl rfl)<|r_pv rfl rfl (zb rfl)<|za rfl rfl<|za rfl rfl<|r_pv rfl rfl (zk rfl rfl)<|zj ?_
    exact zZ () (show True from by first|trivial|omega|simp_all) ((.e rfl (congrArg Value.bool (by exact Eq.symm (decide_eq_true (by omega)))) (.of rfl)):SubM _ _) (ho:=((.of [0,0,0,0] rfl):PickO _ _ _)) ((.of [0,1,2] rfl):SelR _ _ _)
   ·
    refine r_pv rfl rfl (zb rfl)<|r_pv rfl rfl (zBa rfl rfl)<|r_pv rfl rfl (zk rfl rfl)<|zO rfl rfl (zb rfl) (fun h16=> ?_) (fun h16=> ?_)
    ·
     refine za rfl rfl<|za rfl rfl<|r_pv rfl rfl (zk rfl rfl)<|r_pv rfl rfl (zb rfl)<|za rfl rfl<|za rfl rfl<|r_pv rfl rfl (zk rfl rfl)<|zj ?_
     exact zZ () (show True from by first|trivial|omega|simp_all) ((.e rfl (congrArg Value.bool (by exact Eq.symm (decide_eq_true (by omega)))) (.of rfl)):SubM _ _) (ho:=((.of [0,0,0,0] rfl):PickO _ _ _)) ((.of [0,1,2] rfl):SelR _ _ _)
    ·
     refine r_pv rfl rfl (zb rfl)<|r_pv rfl rfl (zfa rfl rfl)<|r_pv rfl rfl (zk rfl rfl)<|zO rfl rfl (zb rfl) (fun h17=> ?_) (fun h17=> ?_)
     ·
      refine za rfl rfl<|za rfl rfl<|r_pv rfl rfl (zk rfl rfl)<|zj ?_
      exact zZ () (show True from by first|trivial|omega|simp_all) ((.e rfl (congrArg Value.bool (by exact Eq.symm (decide_eq_true (by omega)))) (.of rfl)):SubM _ _) (ho:=((.of [0,0,0,0] rfl):PickO _ _ _)) ((.of [0,1,2] rfl):SelR _ _ _)
     ·
      refine r_pv rfl rfl (zb rfl)<|r_pv rfl rfl (zBa rfl rfl)<|r_pv rfl rfl (zk rfl rfl)<|zj ?_
      exact zZ () (show True from by first|trivial|omega|simp_all) ((.e rfl (congrArg Value.bool (by exact decide_eq_decide.2 (by constructor <;> intro k <;> omega))) (.of rfl)):SubM _ _) (ho:=((.of [0,0,0,0] rfl):PickO _ _ _)) ((.of [0,1,2] rfl):SelR _ _ _)
  ·
   rintro ⟨⟩ -
   try dsimp only [cw]
   refine zK rfl (fun hr=> ?_) (fun hr=> ?_)
   ·
    refine zi<|zc<|r_pv rfl rfl (zd rfl)<|r_pv rfl rfl (zd rfl)<|zj<|zf<|zI<|zv ?_
    exact zpa Tryz.results18 () trivial (zt rfl) (zt rfl) (by simp only [if_neg (show ¬(Bl.ok ar le tp rt bt sx sy xx xy yy ms mx my∧(0≤num∧num≤1000)∧(1≤den∧den≤1000)) from fun k=>hr k.2),if_pos hok,if_neg hr]) (ho:=(.n:PickO _ _ _)) (.n:SelR _ _ _)
   ·
    have hr9:(0≤num∧num≤1000)∧(1≤den∧den≤1000):=Decidable.not_not.1 hr
    have hqn:=Fl.hq_q (n:=num) (d:=den) (by omega) (by omega) (by omega)
    have hh9:=Fl.rnd_hq px3 py3 pz3 hqn
    refine zD<|zf<|zi<|zc<|r_pv rfl rfl (zd rfl)<|zj<|zf<|zi<|zaa (OW:=[]) (O:=[boxA b10 42 [w76.b,w76.l,w87.b,w87.l],boxA b9 42 [w54.b,w54.l,w65.b,w65.l],boxA b8 42 [w32.b,w32.l,w43.b,w43.l],boxA b1 33 [.int .i64 ar,.int .i64 le,.int .i64 tp,.int .i64 rt,.int .i64 bt,.int .i64 sx,.int .i64 sy,.int .i64 xx,.int .i64 xy,.int .i64 yy,.int .i64 ms,.int .i64 mx,.int .i64 my]]) 12 mixed (.then .ret) (by kernel_rfl)<|d_pv 0 rfl rfl (by kernel_rfl) (by kernel_rfl) rfl rfl (zb rfl)<|d_u 1 rfl rfl (by kernel_rfl) (by kernel_rfl) rfl rfl (zg 2 ty42 rfl rfl (.take (.take (.take (.take .nil)))))<|d_u 2 rfl rfl (by kernel_rfl) (by kernel_rfl) rfl rfl (zg 0 ty42 rfl rfl (.take (.take (.take (.take .nil)))))<|d_pv 6 rfl rfl (by kernel_rfl) (by kernel_rfl) rfl rfl (zb rfl)<|d_u 7 rfl rfl (by kernel_rfl) (by kernel_rfl) rfl rfl (zg 1 ty42 rfl rfl (.take (.take (.take (.take .nil)))))<|zUc (m':=[(46,.agg #[w54.b,w54.l,w65.b,w65.l]),(45,.func (.func 37) #[] #[]),(41,.agg #[w76.b,w76.l,w87.b,w87.l]),(40,.agg #[w32.b,w32.l,w43.b,w43.l]),(39,.func (.func 37) #[] #[]),(12,.func (.func 37) #[] #[]),(10,.pointer (some ⟨b10,0,none⟩)),(8,.pointer (some ⟨b8,0,none⟩)),(7,.int .i64 0),(6,.bool false),(1,.int .i64 num),(2,.int .i64 den)]) (R':=[qF true w32 w43 qx,qF true w54 w65 qy,qF true w76 w87 qz]) ((.of rfl):SubM _ _) (List.Perm.refl _) (List.Perm.refl _) ((.of [0,1,2] rfl):SelR _ _ _)<|zka (X:=Wd×Wd×Wd×Wd×Wd×Wd×Wd×Wd×Wd×Wd×Wd×Wd×Nat) (k':=0) (L':=(lb 13 8191)) (fun (u3_1,u3_2,u4_1,u4_2,u5_1,u5_2,u8_1,u8_2,u9_1,u9_2,u10_1,u10_2,u11_1)=>([(13,.pointer (some ⟨u11_1,0,none⟩)),(12,.func (.func 37) #[] #[]),(10,.pointer (some ⟨b10,0,none⟩)),(8,.pointer (some ⟨b8,0,none⟩)),(7,.int .i64 0),(6,.bool false),(1,.int .i64 num),(2,.int .i64 den)],[boxA u11_1 42 (cw [u10_1,u10_2])],[boxA b10 42 (cw [w76,w87]),boxA b9 42 (cw [w54,w65]),boxA b8 42 (cw [w32,w43]),boxA b1 33 [.int .i64 ar,.int .i64 le,.int .i64 tp,.int .i64 rt,.int .i64 bt,.int .i64 sx,.int .i64 sy,.int .i64 xx,.int .i64 xy,.int .i64 yy,.int .i64 ms,.int .i64 mx,.int .i64 my]],[qF true u10_1 u10_2 (((qx - qz)*(qx - qz))+(((4:Int):Rat)*(qy*qy))),qF true u9_1 u9_2 (((4:Int):Rat)*(qy*qy)),qF true u8_1 u8_2 (qy*qy),qF true u5_1 u5_2 ((4:Int):Rat),qF true u4_1 u4_2 ((qx - qz)*(qx - qz)),qF true u3_1 u3_2 (qx - qz),qF true w32 w43 qx,qF true w54 w65 qy,qF true w76 w87 qz])) ?_ (fun hD0=> ?_)
    ·
     rintro ⟨u3_1,u3_2,u4_1,u4_2,u5_1,u5_2,u8_1,u8_2,u9_1,u9_2,u10_1,u10_2,u11_1⟩
     dsimp only [cw]
     refine zY (by kernel_rfl)<|zf<|zi<|zaa (OW:=[]) (O:=[boxA u11_1 42 [u10_1.b,u10_1.l,u10_2.b,u10_2.l],boxA b10 42 [w76.b,w76.l,w87.b,w87.l],boxA b9 42 [w54.b,w54.l,w65.b,w65.l],boxA b8 42 [w32.b,w32.l,w43.b,w43.l],boxA b1 33 [.int .i64 ar,.int .i64 le,.int .i64 tp,.int .i64 rt,.int .i64 bt,.int .i64 sx,.int .i64 sy,.int .i64 xx,.int .i64 xy,.int .i64 yy,.int .i64 ms,.int .i64 mx,.int .i64 my]]) 10 mixed (.then .ret) (by kernel_rfl)<|d_pv 0 rfl rfl (by kernel_rfl) (by kernel_rfl) rfl rfl (zb rfl)<|d_pv 1 rfl rfl (by kernel_rfl) (by kernel_rfl) rfl rfl (zb rfl)<|d_pv 2 rfl rfl (by kernel_rfl) (by kernel_rfl) rfl rfl (zb rfl)<|d_u 4 rfl rfl (by kernel_rfl) (by kernel_rfl) rfl rfl (zg 3 ty42 rfl rfl (.take (.take (.take (.take .nil)))))<|d_u 5 rfl rfl (by kernel_rfl) (by kernel_rfl) rfl rfl (zg 1 ty42 rfl rfl (.take (.take (.take (.take .nil)))))<|zUc (m':=[(55,.agg #[w76.b,w76.l,w87.b,w87.l]),(54,.agg #[w32.b,w32.l,w43.b,w43.l]),(52,.int .i64 den),(51,.int .i64 num),(50,.func (.func 37) #[] #[]),(13,.pointer (some ⟨u11_1,0,none⟩)),(7,.int .i64 0),(6,.bool false)]) (R':=[qF true u10_1 u10_2 (((qx - qz)*(qx - qz))+(((4:Int):Rat)*(qy*qy))),qF true u9_1 u9_2 (((4:Int):Rat)*(qy*qy)),qF true u8_1 u8_2 (qy*qy),qF true u5_1 u5_2 ((4:Int):Rat),qF true u4_1 u4_2 ((qx - qz)*(qx - qz)),qF true u3_1 u3_2 (qx - qz),qF true w32 w43 qx,qF true w54 w65 qy,qF true w76 w87 qz]) ((.of rfl):SubM _ _) (List.Perm.refl _) (List.Perm.refl _) ((.of [0,1,2,3,4,5,6,7,8] rfl):SelR _ _ _)<|zka (X:=Wd×Wd×Wd×Wd×Wd×Wd×Wd×Wd×Nat) (k':=0) (L':=(lb 11 2047)) (fun (u3_1r2,u3_2r2,u6_1r2,u6_2r2,u7_1r2,u7_2r2,u8_1r2,u8_2r2,u9_1r2)=>([(14,.pointer (some ⟨u9_1r2,0,none⟩)),(13,.pointer (some ⟨u11_1,0,none⟩)),(7,.int .i64 0),(6,.bool false)],[boxA u9_1r2 42 (cw [u8_1r2,u8_2r2])],[boxA u11_1 42 (cw [u10_1,u10_2]),boxA b10 42 (cw [w76,w87]),boxA b9 42 (cw [w54,w65]),boxA b8 42 (cw [w32,w43]),boxA b1 33 [.int .i64 ar,.int .i64 le,.int .i64 tp,.int .i64 rt,.int .i64 bt,.int .i64 sx,.int .i64 sy,.int .i64 xx,.int .i64 xy,.int .i64 yy,.int .i64 ms,.int .i64 mx,.int .i64 my]],[qF true u8_1r2 u8_2r2 (((Rat.divInt num den)*(qx+qz))*((Rat.divInt num den)*(qx+qz))),qF true u7_1r2 u7_2r2 ((Rat.divInt num den)*(qx+qz)),qF true u6_1r2 u6_2r2 (qx+qz),qF true u3_1r2 u3_2r2 (Rat.divInt num den),qF true u10_1 u10_2 (((qx - qz)*(qx - qz))+(((4:Int):Rat)*(qy*qy))),qF true u9_1 u9_2 (((4:Int):Rat)*(qy*qy)),qF true u8_1 u8_2 (qy*qy),qF true u5_1 u5_2 ((4:Int):Rat),qF true u4_1 u4_2 ((qx - qz)*(qx - qz)),qF true u3_1 u3_2 (qx - qz),qF true w32 w43 qx,qF true w54 w65 qy,qF true w76 w87 qz])) ?_ (fun hD0=> ?_)
     ·
      rintro ⟨u3_1r2,u3_2r2,u6_1r2,u6_2r2,u7_1r2,u7_2r2,u8_1r2,u8_2r2,u9_1r2⟩
      dsimp only [cw]
      refine zY (by kernel_rfl)<|zf<|zi<|zc<|r_u rfl rfl (zg 1 ty42 rfl rfl (.take (.take (.take (.take .nil)))))<|r_u rfl rfl (zg 0 ty42 rfl rfl (.take (.take (.take (.take .nil)))))<|zL rfl rfl (.c rfl (.c rfl .n)) ce42 (zId (k1:=true) (u1:=u10_1) (v1:=u10_2) (q1:=((qx - qz)*(qx - qz))+(((4:Int):Rat)*(qy*qy))) (k2:=true) (u2:=u8_1r2) (v2:=u8_2r2) (q2:=((Rat.divInt num den)*(qx+qz))*((Rat.divInt num den)*(qx+qz))) (hl:=by first|rfl|assumption|omega)) (.c (j:=4) rfl (.c (j:=0) rfl .n))<|r_pv rfl rfl (zVb rfl rfl)<|r_pv rfl rfl (zd rfl)<|r_pv rfl rfl (zd rfl)<|zj<|zf<|zI ?_
      exact zpa Tryz.results18 () trivial (zt rfl) (zt rfl) (by rw [if_pos ⟨hok,hr9⟩,if_pos hok,if_pos hr9];rfl) (ho:=(.n:PickO _ _ _)) (.n:SelR _ _ _)
     refine zka (X:=Wd×Wd×Wd×Wd×Wd×Wd×Wd×Wd×Nat) (k':=1) (L':=(lb 11 1023)) (fun (u3_1r2,u3_2r2,u6_1r2,u6_2r2,u7_1r2,u7_2r2,u8_1r2,u8_2r2,u9_1r2)=>([(14,.pointer (some ⟨u9_1r2,0,none⟩)),(58,.agg (cw [u8_1r2,u8_2r2]).toArray),(13,.pointer (some ⟨u11_1,0,none⟩)),(7,.int .i64 0),(6,.bool false)],[boxA u9_1r2 42 [.bool false,.slice none 0 0,.bool false,.slice none 0 0]],[boxA u11_1 42 (cw [u10_1,u10_2]),boxA b10 42 (cw [w76,w87]),boxA b9 42 (cw [w54,w65]),boxA b8 42 (cw [w32,w43]),boxA b1 33 [.int .i64 ar,.int .i64 le,.int .i64 tp,.int .i64 rt,.int .i64 bt,.int .i64 sx,.int .i64 sy,.int .i64 xx,.int .i64 xy,.int .i64 yy,.int .i64 ms,.int .i64 mx,.int .i64 my]],[qF true u8_1r2 u8_2r2 (((Rat.divInt num den)*(qx+qz))*((Rat.divInt num den)*(qx+qz))),qF true u7_1r2 u7_2r2 ((Rat.divInt num den)*(qx+qz)),qF true u6_1r2 u6_2r2 (qx+qz),qF true u3_1r2 u3_2r2 (Rat.divInt num den),qF true u10_1 u10_2 (((qx - qz)*(qx - qz))+(((4:Int):Rat)*(qy*qy))),qF true u9_1 u9_2 (((4:Int):Rat)*(qy*qy)),qF true u8_1 u8_2 (qy*qy),qF true u5_1 u5_2 ((4:Int):Rat),qF true u4_1 u4_2 ((qx - qz)*(qx - qz)),qF true u3_1 u3_2 (qx - qz),qF true w32 w43 qx,qF true w54 w65 qy,qF true w76 w87 qz])) ?_ (fun hD1=> ?_)
     ·
      rintro ⟨u3_1r2,u3_2r2,u6_1r2,u6_2r2,u7_1r2,u7_2r2,u8_1r2,u8_2r2,u9_1r2⟩
      dsimp only [cw]
      refine zG 10 (by kernel_rfl) ?_
      ·
       refine zz (by kernel_rfl) rfl rfl rfl rfl rfl sz42 rfl (.take (.take (.take (.take .nil)))) ?_
       exact zV (hD0 (u3_1r2,u3_2r2,u6_1r2,u6_2r2,u7_1r2,u7_2r2,u8_1r2,u8_2r2,u9_1r2)) (by kernel_rfl) ((.of rfl):SubM _ _) .rfl .rfl ((.of [0,1,2,3,4,5,6,7,8,9,10,11,12] rfl):SelR _ _ _)
     refine zka (X:=Wd×Wd×Wd×Wd×Wd×Wd×Wd×Wd) (k':=2) (L':=(lb 11 511)) (fun (u3_1r2,u3_2r2,u6_1r2,u6_2r2,u7_1r2,u7_2r2,u8_1r2,u8_2r2)=>([(58,.agg (cw [u8_1r2,u8_2r2]).toArray),(13,.pointer (some ⟨u11_1,0,none⟩)),(7,.int .i64 0),(6,.bool false)],[],[boxA u11_1 42 (cw [u10_1,u10_2]),boxA b10 42 (cw [w76,w87]),boxA b9 42 (cw [w54,w65]),boxA b8 42 (cw [w32,w43]),boxA b1 33 [.int .i64 ar,.int .i64 le,.int .i64 tp,.int .i64 rt,.int .i64 bt,.int .i64 sx,.int .i64 sy,.int .i64 xx,.int .i64 xy,.int .i64 yy,.int .i64 ms,.int .i64 mx,.int .i64 my]],[qF true u8_1r2 u8_2r2 (((Rat.divInt num den)*(qx+qz))*((Rat.divInt num den)*(qx+qz))),qF true u7_1r2 u7_2r2 ((Rat.divInt num den)*(qx+qz)),qF true u6_1r2 u6_2r2 (qx+qz),qF true u3_1r2 u3_2r2 (Rat.divInt num den),qF true u10_1 u10_2 (((qx - qz)*(qx - qz))+(((4:Int):Rat)*(qy*qy))),qF true u9_1 u9_2 (((4:Int):Rat)*(qy*qy)),qF true u8_1 u8_2 (qy*qy),qF true u5_1 u5_2 ((4:Int):Rat),qF true u4_1 u4_2 ((qx - qz)*(qx - qz)),qF true u3_1 u3_2 (qx - qz),qF true w32 w43 qx,qF true w54 w65 qy,qF true w76 w87 qz])) ?_ (fun hD2=> ?_)
     ·
      rintro ⟨u3_1r2,u3_2r2,u6_1r2,u6_2r2,u7_1r2,u7_2r2,u8_1r2,u8_2r2⟩
      dsimp only [cw]
      refine zG 9 (by kernel_rfl) ?_
      ·
       refine zKa rfl rfl rfl rfl (zu zr42 rfl) (fun u9_1r2 _=> ?_)
       exact zV (hD1 (u3_1r2,u3_2r2,u6_1r2,u6_2r2,u7_1r2,u7_2r2,u8_1r2,u8_2r2,u9_1r2)) (by kernel_rfl) ((.of rfl):SubM _ _) .rfl .rfl ((.of [0,1,2,3,4,5,6,7,8,9,10,11,12] rfl):SelR _ _ _)
     refine zka (X:=Wd×Wd×Wd×Wd×Wd×Wd×Nat) (k':=2) (L':=(lb 11 767)) (fun (u3_1r2,u3_2r2,u6_1r2,u6_2r2,u7_1r2,u7_2r2,u9_1r2)=>([(14,.pointer (some ⟨u9_1r2,0,none⟩)),(57,.agg (cw [u7_1r2,u7_2r2]).toArray),(50,.func (.func 37) #[] #[]),(13,.pointer (some ⟨u11_1,0,none⟩)),(7,.int .i64 0),(6,.bool false)],[boxA u9_1r2 42 [.bool false,.slice none 0 0,.bool false,.slice none 0 0]],[boxA u11_1 42 (cw [u10_1,u10_2]),boxA b10 42 (cw [w76,w87]),boxA b9 42 (cw [w54,w65]),boxA b8 42 (cw [w32,w43]),boxA b1 33 [.int .i64 ar,.int .i64 le,.int .i64 tp,.int .i64 rt,.int .i64 bt,.int .i64 sx,.int .i64 sy,.int .i64 xx,.int .i64 xy,.int .i64 yy,.int .i64 ms,.int .i64 mx,.int .i64 my]],[qF true u7_1r2 u7_2r2 ((Rat.divInt num den)*(qx+qz)),qF true u6_1r2 u6_2r2 (qx+qz),qF true u3_1r2 u3_2r2 (Rat.divInt num den),qF true u10_1 u10_2 (((qx - qz)*(qx - qz))+(((4:Int):Rat)*(qy*qy))),qF true u9_1 u9_2 (((4:Int):Rat)*(qy*qy)),qF true u8_1 u8_2 (qy*qy),qF true u5_1 u5_2 ((4:Int):Rat),qF true u4_1 u4_2 ((qx - qz)*(qx - qz)),qF true u3_1 u3_2 (qx - qz),qF true w32 w43 qx,qF true w54 w65 qy,qF true w76 w87 qz])) ?_ (fun hD3=> ?_)
     ·
      rintro ⟨u3_1r2,u3_2r2,u6_1r2,u6_2r2,u7_1r2,u7_2r2,u9_1r2⟩
      dsimp only [cw]
      refine zG 8 (by kernel_rfl) ?_
      ·
       refine zMb (first:=[]) (cap:=[]) rfl rfl rfl rfl rfl (.c rfl .n) ce37 (znb (u1:=u7_1r2) (v1:=u7_2r2) (q1:=(Rat.divInt num den)*(qx+qz)) (hl:=by first|rfl|assumption|omega)) (.c (j:=0) rfl .n) ?_
       rintro ⟨u8_1r2,u8_2r2⟩ -
       dsimp only [List.append_eq,List.nil_append,List.cons_append]
       exact zV (hD1 (u3_1r2,u3_2r2,u6_1r2,u6_2r2,u7_1r2,u7_2r2,u8_1r2,u8_2r2,u9_1r2)) (by kernel_rfl) ((.of rfl):SubM _ _) .rfl .rfl ((.of [0,1,2,3,4,5,6,7,8,9,10,11,12] rfl):SelR _ _ _)
     refine zka (X:=Wd×Wd×Wd×Wd×Wd×Wd) (k':=3) (L':=(lb 11 255)) (fun (u3_1r2,u3_2r2,u6_1r2,u6_2r2,u7_1r2,u7_2r2)=>([(57,.agg (cw [u7_1r2,u7_2r2]).toArray),(50,.func (.func 37) #[] #[]),(13,.pointer (some ⟨u11_1,0,none⟩)),(7,.int .i64 0),(6,.bool false)],[],[boxA u11_1 42 (cw [u10_1,u10_2]),boxA b10 42 (cw [w76,w87]),boxA b9 42 (cw [w54,w65]),boxA b8 42 (cw [w32,w43]),boxA b1 33 [.int .i64 ar,.int .i64 le,.int .i64 tp,.int .i64 rt,.int .i64 bt,.int .i64 sx,.int .i64 sy,.int .i64 xx,.int .i64 xy,.int .i64 yy,.int .i64 ms,.int .i64 mx,.int .i64 my]],[qF true u7_1r2 u7_2r2 ((Rat.divInt num den)*(qx+qz)),qF true u6_1r2 u6_2r2 (qx+qz),qF true u3_1r2 u3_2r2 (Rat.divInt num den),qF true u10_1 u10_2 (((qx - qz)*(qx - qz))+(((4:Int):Rat)*(qy*qy))),qF true u9_1 u9_2 (((4:Int):Rat)*(qy*qy)),qF true u8_1 u8_2 (qy*qy),qF true u5_1 u5_2 ((4:Int):Rat),qF true u4_1 u4_2 ((qx - qz)*(qx - qz)),qF true u3_1 u3_2 (qx - qz),qF true w32 w43 qx,qF true w54 w65 qy,qF true w76 w87 qz])) ?_ (fun hD4=> ?_)
     ·
      rintro ⟨u3_1r2,u3_2r2,u6_1r2,u6_2r2,u7_1r2,u7_2r2⟩
      dsimp only [cw]
      refine zvb 8 9 (by kernel_rfl) ?_ ?_
      ·
       refine zMb (first:=[]) (cap:=[]) rfl rfl rfl rfl rfl (.c rfl .n) ce37 (znb (u1:=u7_1r2) (v1:=u7_2r2) (q1:=(Rat.divInt num den)*(qx+qz)) (hl:=by first|rfl|assumption|omega)) (.c (j:=0) rfl .n) ?_
       rintro ⟨u8_1r2,u8_2r2⟩ -
       dsimp only [List.append_eq,List.nil_append,List.cons_append]
       exact zV (hD2 (u3_1r2,u3_2r2,u6_1r2,u6_2r2,u7_1r2,u7_2r2,u8_1r2,u8_2r2)) (by kernel_rfl) ((.of rfl):SubM _ _) .rfl .rfl ((.of [0,1,2,3,4,5,6,7,8,9,10,11,12] rfl):SelR _ _ _)
      ·
       refine zKa rfl rfl rfl rfl (zu zr42 rfl) (fun u9_1r2 _=> ?_)
       exact zV (hD3 (u3_1r2,u3_2r2,u6_1r2,u6_2r2,u7_1r2,u7_2r2,u9_1r2)) (by kernel_rfl) ((.of rfl):SubM _ _) .rfl .rfl ((.of [0,1,2,3,4,5,6,7,8,9,10,11] rfl):SelR _ _ _)
     refine zka (X:=Wd×Wd×Wd×Wd×Nat) (k':=3) (L':=(lb 11 639)) (fun (u3_1r2,u3_2r2,u6_1r2,u6_2r2,u9_1r2)=>([(14,.pointer (some ⟨u9_1r2,0,none⟩)),(56,.agg (cw [u6_1r2,u6_2r2]).toArray),(53,.agg (cw [u3_1r2,u3_2r2]).toArray),(50,.func (.func 37) #[] #[]),(13,.pointer (some ⟨u11_1,0,none⟩)),(7,.int .i64 0),(6,.bool false)],[boxA u9_1r2 42 [.bool false,.slice none 0 0,.bool false,.slice none 0 0]],[boxA u11_1 42 (cw [u10_1,u10_2]),boxA b10 42 (cw [w76,w87]),boxA b9 42 (cw [w54,w65]),boxA b8 42 (cw [w32,w43]),boxA b1 33 [.int .i64 ar,.int .i64 le,.int .i64 tp,.int .i64 rt,.int .i64 bt,.int .i64 sx,.int .i64 sy,.int .i64 xx,.int .i64 xy,.int .i64 yy,.int .i64 ms,.int .i64 mx,.int .i64 my]],[qF true u6_1r2 u6_2r2 (qx+qz),qF true u3_1r2 u3_2r2 (Rat.divInt num den),qF true u10_1 u10_2 (((qx - qz)*(qx - qz))+(((4:Int):Rat)*(qy*qy))),qF true u9_1 u9_2 (((4:Int):Rat)*(qy*qy)),qF true u8_1 u8_2 (qy*qy),qF true u5_1 u5_2 ((4:Int):Rat),qF true u4_1 u4_2 ((qx - qz)*(qx - qz)),qF true u3_1 u3_2 (qx - qz),qF true w32 w43 qx,qF true w54 w65 qy,qF true w76 w87 qz])) ?_ (fun hD5=> ?_)
     ·
      rintro ⟨u3_1r2,u3_2r2,u6_1r2,u6_2r2,u9_1r2⟩
      dsimp only [cw]
      refine zG 7 (by kernel_rfl) ?_
      ·
       refine zw rfl rfl rfl rfl (.c rfl (.c rfl .n)) ce38 (zfc (k1:=true) (u1:=u3_1r2) (v1:=u3_2r2) (q1:=Rat.divInt num den) (k2:=true) (u2:=u6_1r2) (v2:=u6_2r2) (q2:=qx+qz) (hl:=by first|rfl|assumption|omega)) (.c (j:=1) rfl (.c (j:=0) rfl .n)) ?_
       rintro ⟨u7_1r2,u7_2r2⟩ -
       dsimp only [List.append_eq,List.nil_append,List.cons_append]
       exact zV (hD3 (u3_1r2,u3_2r2,u6_1r2,u6_2r2,u7_1r2,u7_2r2,u9_1r2)) (by kernel_rfl) ((.of rfl):SubM _ _) .rfl .rfl ((.of [0,1,2,3,4,5,6,7,8,9,10,11] rfl):SelR _ _ _)
     refine zka (X:=Wd×Wd×Wd×Wd) (k':=4) (L':=(lb 11 127)) (fun (u3_1r2,u3_2r2,u6_1r2,u6_2r2)=>([(56,.agg (cw [u6_1r2,u6_2r2]).toArray),(53,.agg (cw [u3_1r2,u3_2r2]).toArray),(50,.func (.func 37) #[] #[]),(13,.pointer (some ⟨u11_1,0,none⟩)),(7,.int .i64 0),(6,.bool false)],[],[boxA u11_1 42 (cw [u10_1,u10_2]),boxA b10 42 (cw [w76,w87]),boxA b9 42 (cw [w54,w65]),boxA b8 42 (cw [w32,w43]),boxA b1 33 [.int .i64 ar,.int .i64 le,.int .i64 tp,.int .i64 rt,.int .i64 bt,.int .i64 sx,.int .i64 sy,.int .i64 xx,.int .i64 xy,.int .i64 yy,.int .i64 ms,.int .i64 mx,.int .i64 my]],[qF true u6_1r2 u6_2r2 (qx+qz),qF true u3_1r2 u3_2r2 (Rat.divInt num den),qF true u10_1 u10_2 (((qx - qz)*(qx - qz))+(((4:Int):Rat)*(qy*qy))),qF true u9_1 u9_2 (((4:Int):Rat)*(qy*qy)),qF true u8_1 u8_2 (qy*qy),qF true u5_1 u5_2 ((4:Int):Rat),qF true u4_1 u4_2 ((qx - qz)*(qx - qz)),qF true u3_1 u3_2 (qx - qz),qF true w32 w43 qx,qF true w54 w65 qy,qF true w76 w87 qz])) ?_ (fun hD6=> ?_)
     ·
      rintro ⟨u3_1r2,u3_2r2,u6_1r2,u6_2r2⟩
      dsimp only [cw]
      refine zvb 7 9 (by kernel_rfl) ?_ ?_
      ·
       refine zw rfl rfl rfl rfl (.c rfl (.c rfl .n)) ce38 (zfc (k1:=true) (u1:=u3_1r2) (v1:=u3_2r2) (q1:=Rat.divInt num den) (k2:=true) (u2:=u6_1r2) (v2:=u6_2r2) (q2:=qx+qz) (hl:=by first|rfl|assumption|omega)) (.c (j:=1) rfl (.c (j:=0) rfl .n)) ?_
       rintro ⟨u7_1r2,u7_2r2⟩ -
       dsimp only [List.append_eq,List.nil_append,List.cons_append]
       exact zV (hD4 (u3_1r2,u3_2r2,u6_1r2,u6_2r2,u7_1r2,u7_2r2)) (by kernel_rfl) ((.of rfl):SubM _ _) .rfl .rfl ((.of [0,1,2,3,4,5,6,7,8,9,10,11] rfl):SelR _ _ _)
      ·
       refine zKa rfl rfl rfl rfl (zu zr42 rfl) (fun u9_1r2 _=> ?_)
       exact zV (hD5 (u3_1r2,u3_2r2,u6_1r2,u6_2r2,u9_1r2)) (by kernel_rfl) ((.of rfl):SubM _ _) .rfl .rfl ((.of [0,1,2,3,4,5,6,7,8,9,10] rfl):SelR _ _ _)
     refine zka (X:=Wd×Wd×Nat) (k':=4) (L':=(lb 11 575)) (fun (u3_1r2,u3_2r2,u9_1r2)=>([(14,.pointer (some ⟨u9_1r2,0,none⟩)),(53,.agg (cw [u3_1r2,u3_2r2]).toArray),(55,.agg (cw [w76,w87]).toArray),(54,.agg (cw [w32,w43]).toArray),(50,.func (.func 37) #[] #[]),(13,.pointer (some ⟨u11_1,0,none⟩)),(7,.int .i64 0),(6,.bool false)],[boxA u9_1r2 42 [.bool false,.slice none 0 0,.bool false,.slice none 0 0]],[boxA u11_1 42 (cw [u10_1,u10_2]),boxA b10 42 (cw [w76,w87]),boxA b9 42 (cw [w54,w65]),boxA b8 42 (cw [w32,w43]),boxA b1 33 [.int .i64 ar,.int .i64 le,.int .i64 tp,.int .i64 rt,.int .i64 bt,.int .i64 sx,.int .i64 sy,.int .i64 xx,.int .i64 xy,.int .i64 yy,.int .i64 ms,.int .i64 mx,.int .i64 my]],[qF true u3_1r2 u3_2r2 (Rat.divInt num den),qF true u10_1 u10_2 (((qx - qz)*(qx - qz))+(((4:Int):Rat)*(qy*qy))),qF true u9_1 u9_2 (((4:Int):Rat)*(qy*qy)),qF true u8_1 u8_2 (qy*qy),qF true u5_1 u5_2 ((4:Int):Rat),qF true u4_1 u4_2 ((qx - qz)*(qx - qz)),qF true u3_1 u3_2 (qx - qz),qF true w32 w43 qx,qF true w54 w65 qy,qF true w76 w87 qz])) ?_ (fun hD7=> ?_)
     ·
      rintro ⟨u3_1r2,u3_2r2,u9_1r2⟩
      dsimp only [cw]
      refine zG 6 (by kernel_rfl) ?_
      ·
       refine zw rfl rfl rfl rfl (.c rfl (.c rfl .n)) ce39 (zec (k1:=true) (u1:=w32) (v1:=w43) (q1:=qx) (k2:=true) (u2:=w76) (v2:=w87) (q2:=qz) (hl:=by first|rfl|assumption|omega)) (.c (j:=7) rfl (.c (j:=9) rfl .n)) ?_
       rintro ⟨u6_1r2,u6_2r2⟩ -
       dsimp only [List.append_eq,List.nil_append,List.cons_append]
       exact zV (hD5 (u3_1r2,u3_2r2,u6_1r2,u6_2r2,u9_1r2)) (by kernel_rfl) ((.of rfl):SubM _ _) .rfl .rfl ((.of [0,1,2,3,4,5,6,7,8,9,10] rfl):SelR _ _ _)
     refine zka (X:=Wd×Wd) (k':=5) (L':=(lb 11 63)) (fun (u3_1r2,u3_2r2)=>([(53,.agg (cw [u3_1r2,u3_2r2]).toArray),(55,.agg (cw [w76,w87]).toArray),(54,.agg (cw [w32,w43]).toArray),(50,.func (.func 37) #[] #[]),(13,.pointer (some ⟨u11_1,0,none⟩)),(7,.int .i64 0),(6,.bool false)],[],[boxA u11_1 42 (cw [u10_1,u10_2]),boxA b10 42 (cw [w76,w87]),boxA b9 42 (cw [w54,w65]),boxA b8 42 (cw [w32,w43]),boxA b1 33 [.int .i64 ar,.int .i64 le,.int .i64 tp,.int .i64 rt,.int .i64 bt,.int .i64 sx,.int .i64 sy,.int .i64 xx,.int .i64 xy,.int .i64 yy,.int .i64 ms,.int .i64 mx,.int .i64 my]],[qF true u3_1r2 u3_2r2 (Rat.divInt num den),qF true u10_1 u10_2 (((qx - qz)*(qx - qz))+(((4:Int):Rat)*(qy*qy))),qF true u9_1 u9_2 (((4:Int):Rat)*(qy*qy)),qF true u8_1 u8_2 (qy*qy),qF true u5_1 u5_2 ((4:Int):Rat),qF true u4_1 u4_2 ((qx - qz)*(qx - qz)),qF true u3_1 u3_2 (qx - qz),qF true w32 w43 qx,qF true w54 w65 qy,qF true w76 w87 qz])) ?_ (fun hD8=> ?_)
     ·
      rintro ⟨u3_1r2,u3_2r2⟩
      dsimp only [cw]
      refine zvb 6 9 (by kernel_rfl) ?_ ?_
      ·
       refine zw rfl rfl rfl rfl (.c rfl (.c rfl .n)) ce39 (zec (k1:=true) (u1:=w32) (v1:=w43) (q1:=qx) (k2:=true) (u2:=w76) (v2:=w87) (q2:=qz) (hl:=by first|rfl|assumption|omega)) (.c (j:=7) rfl (.c (j:=9) rfl .n)) ?_
       rintro ⟨u6_1r2,u6_2r2⟩ -
       dsimp only [List.append_eq,List.nil_append,List.cons_append]
       exact zV (hD6 (u3_1r2,u3_2r2,u6_1r2,u6_2r2)) (by kernel_rfl) ((.of rfl):SubM _ _) .rfl .rfl ((.of [0,1,2,3,4,5,6,7,8,9,10] rfl):SelR _ _ _)
      ·
       refine zKa rfl rfl rfl rfl (zu zr42 rfl) (fun u9_1r2 _=> ?_)
       exact zV (hD7 (u3_1r2,u3_2r2,u9_1r2)) (by kernel_rfl) ((.of rfl):SubM _ _) .rfl .rfl ((.of [0,1,2,3,4,5,6,7,8,9] rfl):SelR _ _ _)
     refine zka (X:=Nat) (k':=5) (L':=(lb 11 567)) (fun u9_1r2=>([(14,.pointer (some ⟨u9_1r2,0,none⟩)),(55,.agg (cw [w76,w87]).toArray),(54,.agg (cw [w32,w43]).toArray),(52,.int .i64 den),(51,.int .i64 num),(50,.func (.func 37) #[] #[]),(13,.pointer (some ⟨u11_1,0,none⟩)),(7,.int .i64 0),(6,.bool false)],[boxA u9_1r2 42 [.bool false,.slice none 0 0,.bool false,.slice none 0 0]],[boxA u11_1 42 (cw [u10_1,u10_2]),boxA b10 42 (cw [w76,w87]),boxA b9 42 (cw [w54,w65]),boxA b8 42 (cw [w32,w43]),boxA b1 33 [.int .i64 ar,.int .i64 le,.int .i64 tp,.int .i64 rt,.int .i64 bt,.int .i64 sx,.int .i64 sy,.int .i64 xx,.int .i64 xy,.int .i64 yy,.int .i64 ms,.int .i64 mx,.int .i64 my]],[qF true u10_1 u10_2 (((qx - qz)*(qx - qz))+(((4:Int):Rat)*(qy*qy))),qF true u9_1 u9_2 (((4:Int):Rat)*(qy*qy)),qF true u8_1 u8_2 (qy*qy),qF true u5_1 u5_2 ((4:Int):Rat),qF true u4_1 u4_2 ((qx - qz)*(qx - qz)),qF true u3_1 u3_2 (qx - qz),qF true w32 w43 qx,qF true w54 w65 qy,qF true w76 w87 qz])) ?_ (fun hD9=> ?_)
     ·
      rintro u9_1r2
      dsimp only [cw]
      refine zG 3 (by kernel_rfl) ?_
      ·
       refine zw rfl rfl rfl rfl (.c rfl (.c rfl .n)) ce32 (zHb (z1:=num) (z2:=den) (hz1:=by assumption) (hz2:=by assumption) (hy:=by first|rfl|assumption|omega)) (.n) ?_
       rintro ⟨u3_1r2,u3_2r2⟩ -
       dsimp only [List.append_eq,List.nil_append,List.cons_append]
       exact zV (hD7 (u3_1r2,u3_2r2,u9_1r2)) (by kernel_rfl) ((.of rfl):SubM _ _) .rfl .rfl ((.of [0,1,2,3,4,5,6,7,8,9] rfl):SelR _ _ _)
     refine zvb 3 9 (by kernel_rfl) ?_ ?_
     ·
      refine zw rfl rfl rfl rfl (.c rfl (.c rfl .n)) ce32 (zHb (z1:=num) (z2:=den) (hz1:=by assumption) (hz2:=by assumption) (hy:=by first|rfl|assumption|omega)) (.n) ?_
      rintro ⟨u3_1r2,u3_2r2⟩ -
      dsimp only [List.append_eq,List.nil_append,List.cons_append]
      exact zV (hD8 (u3_1r2,u3_2r2)) (by kernel_rfl) ((.of rfl):SubM _ _) .rfl .rfl ((.of [0,1,2,3,4,5,6,7,8,9] rfl):SelR _ _ _)
     ·
      refine zKa rfl rfl rfl rfl (zu zr42 rfl) (fun u9_1r2 _=> ?_)
      exact zV (hD9 u9_1r2) (by kernel_rfl) ((.of rfl):SubM _ _) .rfl .rfl ((.of [0,1,2,3,4,5,6,7,8] rfl):SelR _ _ _)
    refine zka (X:=Wd×Wd×Wd×Wd×Wd×Wd×Wd×Wd×Wd×Wd×Wd×Wd×Nat) (k':=1) (L':=(lb 13 4095)) (fun (u3_1,u3_2,u4_1,u4_2,u5_1,u5_2,u8_1,u8_2,u9_1,u9_2,u10_1,u10_2,u11_1)=>([(13,.pointer (some ⟨u11_1,0,none⟩)),(49,.agg (cw [u10_1,u10_2]).toArray),(12,.func (.func 37) #[] #[]),(10,.pointer (some ⟨b10,0,none⟩)),(8,.pointer (some ⟨b8,0,none⟩)),(7,.int .i64 0),(6,.bool false),(1,.int .i64 num),(2,.int .i64 den)],[boxA u11_1 42 [.bool false,.slice none 0 0,.bool false,.slice none 0 0]],[boxA b10 42 (cw [w76,w87]),boxA b9 42 (cw [w54,w65]),boxA b8 42 (cw [w32,w43]),boxA b1 33 [.int .i64 ar,.int .i64 le,.int .i64 tp,.int .i64 rt,.int .i64 bt,.int .i64 sx,.int .i64 sy,.int .i64 xx,.int .i64 xy,.int .i64 yy,.int .i64 ms,.int .i64 mx,.int .i64 my]],[qF true u10_1 u10_2 (((qx - qz)*(qx - qz))+(((4:Int):Rat)*(qy*qy))),qF true u9_1 u9_2 (((4:Int):Rat)*(qy*qy)),qF true u8_1 u8_2 (qy*qy),qF true u5_1 u5_2 ((4:Int):Rat),qF true u4_1 u4_2 ((qx - qz)*(qx - qz)),qF true u3_1 u3_2 (qx - qz),qF true w32 w43 qx,qF true w54 w65 qy,qF true w76 w87 qz])) ?_ (fun hD1=> ?_)
    ·
     rintro ⟨u3_1,u3_2,u4_1,u4_2,u5_1,u5_2,u8_1,u8_2,u9_1,u9_2,u10_1,u10_2,u11_1⟩
     dsimp only [cw]
     refine zG 12 (by kernel_rfl) ?_
     ·
      refine zz (by kernel_rfl) rfl rfl rfl rfl rfl sz42 rfl (.take (.take (.take (.take .nil)))) ?_
      exact zV (hD0 (u3_1,u3_2,u4_1,u4_2,u5_1,u5_2,u8_1,u8_2,u9_1,u9_2,u10_1,u10_2,u11_1)) (by kernel_rfl) ((.of rfl):SubM _ _) .rfl .rfl ((.of [0,1,2,3,4,5,6,7,8] rfl):SelR _ _ _)
    refine zka (X:=Wd×Wd×Wd×Wd×Wd×Wd×Wd×Wd×Wd×Wd×Wd×Wd) (k':=2) (L':=(lb 13 2047)) (fun (u3_1,u3_2,u4_1,u4_2,u5_1,u5_2,u8_1,u8_2,u9_1,u9_2,u10_1,u10_2)=>([(49,.agg (cw [u10_1,u10_2]).toArray),(12,.func (.func 37) #[] #[]),(10,.pointer (some ⟨b10,0,none⟩)),(8,.pointer (some ⟨b8,0,none⟩)),(7,.int .i64 0),(6,.bool false),(1,.int .i64 num),(2,.int .i64 den)],[],[boxA b10 42 (cw [w76,w87]),boxA b9 42 (cw [w54,w65]),boxA b8 42 (cw [w32,w43]),boxA b1 33 [.int .i64 ar,.int .i64 le,.int .i64 tp,.int .i64 rt,.int .i64 bt,.int .i64 sx,.int .i64 sy,.int .i64 xx,.int .i64 xy,.int .i64 yy,.int .i64 ms,.int .i64 mx,.int .i64 my]],[qF true u10_1 u10_2 (((qx - qz)*(qx - qz))+(((4:Int):Rat)*(qy*qy))),qF true u9_1 u9_2 (((4:Int):Rat)*(qy*qy)),qF true u8_1 u8_2 (qy*qy),qF true u5_1 u5_2 ((4:Int):Rat),qF true u4_1 u4_2 ((qx - qz)*(qx - qz)),qF true u3_1 u3_2 (qx - qz),qF true w32 w43 qx,qF true w54 w65 qy,qF true w76 w87 qz])) ?_ (fun hD2=> ?_)
    ·
     rintro ⟨u3_1,u3_2,u4_1,u4_2,u5_1,u5_2,u8_1,u8_2,u9_1,u9_2,u10_1,u10_2⟩
     dsimp only [cw]
     refine zG 11 (by kernel_rfl) ?_
     ·
      refine zKa rfl rfl rfl rfl (zu zr42 rfl) (fun u11_1 _=> ?_)
      exact zV (hD1 (u3_1,u3_2,u4_1,u4_2,u5_1,u5_2,u8_1,u8_2,u9_1,u9_2,u10_1,u10_2,u11_1)) (by kernel_rfl) ((.of rfl):SubM _ _) .rfl .rfl ((.of [0,1,2,3,4,5,6,7,8] rfl):SelR _ _ _)
    refine zka (X:=Wd×Wd×Wd×Wd×Wd×Wd×Wd×Wd×Wd×Wd×Nat) (k':=2) (L':=(lb 13 3071)) (fun (u3_1,u3_2,u4_1,u4_2,u5_1,u5_2,u8_1,u8_2,u9_1,u9_2,u11_1)=>([(13,.pointer (some ⟨u11_1,0,none⟩)),(48,.agg (cw [u9_1,u9_2]).toArray),(43,.agg (cw [u4_1,u4_2]).toArray),(12,.func (.func 37) #[] #[]),(10,.pointer (some ⟨b10,0,none⟩)),(8,.pointer (some ⟨b8,0,none⟩)),(7,.int .i64 0),(6,.bool false),(1,.int .i64 num),(2,.int .i64 den)],[boxA u11_1 42 [.bool false,.slice none 0 0,.bool false,.slice none 0 0]],[boxA b10 42 (cw [w76,w87]),boxA b9 42 (cw [w54,w65]),boxA b8 42 (cw [w32,w43]),boxA b1 33 [.int .i64 ar,.int .i64 le,.int .i64 tp,.int .i64 rt,.int .i64 bt,.int .i64 sx,.int .i64 sy,.int .i64 xx,.int .i64 xy,.int .i64 yy,.int .i64 ms,.int .i64 mx,.int .i64 my]],[qF true u9_1 u9_2 (((4:Int):Rat)*(qy*qy)),qF true u8_1 u8_2 (qy*qy),qF true u5_1 u5_2 ((4:Int):Rat),qF true u4_1 u4_2 ((qx - qz)*(qx - qz)),qF true u3_1 u3_2 (qx - qz),qF true w32 w43 qx,qF true w54 w65 qy,qF true w76 w87 qz])) ?_ (fun hD3=> ?_)
    ·
     rintro ⟨u3_1,u3_2,u4_1,u4_2,u5_1,u5_2,u8_1,u8_2,u9_1,u9_2,u11_1⟩
     dsimp only [cw]
     refine zG 10 (by kernel_rfl) ?_
     ·
      refine zw rfl rfl rfl rfl (.c rfl (.c rfl .n)) ce39 (zec (k1:=true) (u1:=u4_1) (v1:=u4_2) (q1:=(qx - qz)*(qx - qz)) (k2:=true) (u2:=u9_1) (v2:=u9_2) (q2:=((4:Int):Rat)*(qy*qy)) (hl:=by first|rfl|assumption|omega)) (.c (j:=3) rfl (.c (j:=0) rfl .n)) ?_
      rintro ⟨u10_1,u10_2⟩ -
      dsimp only [List.append_eq,List.nil_append,List.cons_append]
      exact zV (hD1 (u3_1,u3_2,u4_1,u4_2,u5_1,u5_2,u8_1,u8_2,u9_1,u9_2,u10_1,u10_2,u11_1)) (by kernel_rfl) ((.of rfl):SubM _ _) .rfl .rfl ((.of [0,1,2,3,4,5,6,7,8] rfl):SelR _ _ _)
    refine zka (X:=Wd×Wd×Wd×Wd×Wd×Wd×Wd×Wd×Wd×Wd) (k':=3) (L':=(lb 13 1023)) (fun (u3_1,u3_2,u4_1,u4_2,u5_1,u5_2,u8_1,u8_2,u9_1,u9_2)=>([(48,.agg (cw [u9_1,u9_2]).toArray),(43,.agg (cw [u4_1,u4_2]).toArray),(12,.func (.func 37) #[] #[]),(10,.pointer (some ⟨b10,0,none⟩)),(8,.pointer (some ⟨b8,0,none⟩)),(7,.int .i64 0),(6,.bool false),(1,.int .i64 num),(2,.int .i64 den)],[],[boxA b10 42 (cw [w76,w87]),boxA b9 42 (cw [w54,w65]),boxA b8 42 (cw [w32,w43]),boxA b1 33 [.int .i64 ar,.int .i64 le,.int .i64 tp,.int .i64 rt,.int .i64 bt,.int .i64 sx,.int .i64 sy,.int .i64 xx,.int .i64 xy,.int .i64 yy,.int .i64 ms,.int .i64 mx,.int .i64 my]],[qF true u9_1 u9_2 (((4:Int):Rat)*(qy*qy)),qF true u8_1 u8_2 (qy*qy),qF true u5_1 u5_2 ((4:Int):Rat),qF true u4_1 u4_2 ((qx - qz)*(qx - qz)),qF true u3_1 u3_2 (qx - qz),qF true w32 w43 qx,qF true w54 w65 qy,qF true w76 w87 qz])) ?_ (fun hD4=> ?_)
    ·
     rintro ⟨u3_1,u3_2,u4_1,u4_2,u5_1,u5_2,u8_1,u8_2,u9_1,u9_2⟩
     dsimp only [cw]
     refine zvb 10 11 (by kernel_rfl) ?_ ?_
     ·
      refine zw rfl rfl rfl rfl (.c rfl (.c rfl .n)) ce39 (zec (k1:=true) (u1:=u4_1) (v1:=u4_2) (q1:=(qx - qz)*(qx - qz)) (k2:=true) (u2:=u9_1) (v2:=u9_2) (q2:=((4:Int):Rat)*(qy*qy)) (hl:=by first|rfl|assumption|omega)) (.c (j:=3) rfl (.c (j:=0) rfl .n)) ?_
      rintro ⟨u10_1,u10_2⟩ -
      dsimp only [List.append_eq,List.nil_append,List.cons_append]
      exact zV (hD2 (u3_1,u3_2,u4_1,u4_2,u5_1,u5_2,u8_1,u8_2,u9_1,u9_2,u10_1,u10_2)) (by kernel_rfl) ((.of rfl):SubM _ _) .rfl .rfl ((.of [0,1,2,3,4,5,6,7,8] rfl):SelR _ _ _)
     ·
      refine zKa rfl rfl rfl rfl (zu zr42 rfl) (fun u11_1 _=> ?_)
      exact zV (hD3 (u3_1,u3_2,u4_1,u4_2,u5_1,u5_2,u8_1,u8_2,u9_1,u9_2,u11_1)) (by kernel_rfl) ((.of rfl):SubM _ _) .rfl .rfl ((.of [0,1,2,3,4,5,6,7] rfl):SelR _ _ _)
    refine zka (X:=Wd×Wd×Wd×Wd×Wd×Wd×Wd×Wd×Nat) (k':=3) (L':=(lb 13 2559)) (fun (u3_1,u3_2,u4_1,u4_2,u5_1,u5_2,u8_1,u8_2,u11_1)=>([(13,.pointer (some ⟨u11_1,0,none⟩)),(47,.agg (cw [u8_1,u8_2]).toArray),(44,.agg (cw [u5_1,u5_2]).toArray),(43,.agg (cw [u4_1,u4_2]).toArray),(12,.func (.func 37) #[] #[]),(10,.pointer (some ⟨b10,0,none⟩)),(8,.pointer (some ⟨b8,0,none⟩)),(7,.int .i64 0),(6,.bool false),(1,.int .i64 num),(2,.int .i64 den)],[boxA u11_1 42 [.bool false,.slice none 0 0,.bool false,.slice none 0 0]],[boxA b10 42 (cw [w76,w87]),boxA b9 42 (cw [w54,w65]),boxA b8 42 (cw [w32,w43]),boxA b1 33 [.int .i64 ar,.int .i64 le,.int .i64 tp,.int .i64 rt,.int .i64 bt,.int .i64 sx,.int .i64 sy,.int .i64 xx,.int .i64 xy,.int .i64 yy,.int .i64 ms,.int .i64 mx,.int .i64 my]],[qF true u8_1 u8_2 (qy*qy),qF true u5_1 u5_2 ((4:Int):Rat),qF true u4_1 u4_2 ((qx - qz)*(qx - qz)),qF true u3_1 u3_2 (qx - qz),qF true w32 w43 qx,qF true w54 w65 qy,qF true w76 w87 qz])) ?_ (fun hD5=> ?_)
    ·
     rintro ⟨u3_1,u3_2,u4_1,u4_2,u5_1,u5_2,u8_1,u8_2,u11_1⟩
     dsimp only [cw]
     refine zG 9 (by kernel_rfl) ?_
     ·
      refine zw rfl rfl rfl rfl (.c rfl (.c rfl .n)) ce38 (zfc (k1:=true) (u1:=u5_1) (v1:=u5_2) (q1:=((4:Int):Rat)) (k2:=true) (u2:=u8_1) (v2:=u8_2) (q2:=qy*qy) (hl:=by first|rfl|assumption|omega)) (.c (j:=1) rfl (.c (j:=0) rfl .n)) ?_
      rintro ⟨u9_1,u9_2⟩ -
      dsimp only [List.append_eq,List.nil_append,List.cons_append]
      exact zV (hD3 (u3_1,u3_2,u4_1,u4_2,u5_1,u5_2,u8_1,u8_2,u9_1,u9_2,u11_1)) (by kernel_rfl) ((.of rfl):SubM _ _) .rfl .rfl ((.of [0,1,2,3,4,5,6,7] rfl):SelR _ _ _)
    refine zka (X:=Wd×Wd×Wd×Wd×Wd×Wd×Wd×Wd) (k':=4) (L':=(lb 13 511)) (fun (u3_1,u3_2,u4_1,u4_2,u5_1,u5_2,u8_1,u8_2)=>([(47,.agg (cw [u8_1,u8_2]).toArray),(44,.agg (cw [u5_1,u5_2]).toArray),(43,.agg (cw [u4_1,u4_2]).toArray),(12,.func (.func 37) #[] #[]),(10,.pointer (some ⟨b10,0,none⟩)),(8,.pointer (some ⟨b8,0,none⟩)),(7,.int .i64 0),(6,.bool false),(1,.int .i64 num),(2,.int .i64 den)],[],[boxA b10 42 (cw [w76,w87]),boxA b9 42 (cw [w54,w65]),boxA b8 42 (cw [w32,w43]),boxA b1 33 [.int .i64 ar,.int .i64 le,.int .i64 tp,.int .i64 rt,.int .i64 bt,.int .i64 sx,.int .i64 sy,.int .i64 xx,.int .i64 xy,.int .i64 yy,.int .i64 ms,.int .i64 mx,.int .i64 my]],[qF true u8_1 u8_2 (qy*qy),qF true u5_1 u5_2 ((4:Int):Rat),qF true u4_1 u4_2 ((qx - qz)*(qx - qz)),qF true u3_1 u3_2 (qx - qz),qF true w32 w43 qx,qF true w54 w65 qy,qF true w76 w87 qz])) ?_ (fun hD6=> ?_)
    ·
     rintro ⟨u3_1,u3_2,u4_1,u4_2,u5_1,u5_2,u8_1,u8_2⟩
     dsimp only [cw]
     refine zvb 9 11 (by kernel_rfl) ?_ ?_
     ·
      refine zw rfl rfl rfl rfl (.c rfl (.c rfl .n)) ce38 (zfc (k1:=true) (u1:=u5_1) (v1:=u5_2) (q1:=((4:Int):Rat)) (k2:=true) (u2:=u8_1) (v2:=u8_2) (q2:=qy*qy) (hl:=by first|rfl|assumption|omega)) (.c (j:=1) rfl (.c (j:=0) rfl .n)) ?_
      rintro ⟨u9_1,u9_2⟩ -
      dsimp only [List.append_eq,List.nil_append,List.cons_append]
      exact zV (hD4 (u3_1,u3_2,u4_1,u4_2,u5_1,u5_2,u8_1,u8_2,u9_1,u9_2)) (by kernel_rfl) ((.of rfl):SubM _ _) .rfl .rfl ((.of [0,1,2,3,4,5,6,7] rfl):SelR _ _ _)
     ·
      refine zKa rfl rfl rfl rfl (zu zr42 rfl) (fun u11_1 _=> ?_)
      exact zV (hD5 (u3_1,u3_2,u4_1,u4_2,u5_1,u5_2,u8_1,u8_2,u11_1)) (by kernel_rfl) ((.of rfl):SubM _ _) .rfl .rfl ((.of [0,1,2,3,4,5,6] rfl):SelR _ _ _)
    refine zka (X:=Wd×Wd×Wd×Wd×Wd×Wd×Nat) (k':=4) (L':=(lb 13 2303)) (fun (u3_1,u3_2,u4_1,u4_2,u5_1,u5_2,u11_1)=>([(13,.pointer (some ⟨u11_1,0,none⟩)),(44,.agg (cw [u5_1,u5_2]).toArray),(43,.agg (cw [u4_1,u4_2]).toArray),(46,.agg (cw [w54,w65]).toArray),(45,.func (.func 37) #[] #[]),(12,.func (.func 37) #[] #[]),(10,.pointer (some ⟨b10,0,none⟩)),(8,.pointer (some ⟨b8,0,none⟩)),(7,.int .i64 0),(6,.bool false),(1,.int .i64 num),(2,.int .i64 den)],[boxA u11_1 42 [.bool false,.slice none 0 0,.bool false,.slice none 0 0]],[boxA b10 42 (cw [w76,w87]),boxA b9 42 (cw [w54,w65]),boxA b8 42 (cw [w32,w43]),boxA b1 33 [.int .i64 ar,.int .i64 le,.int .i64 tp,.int .i64 rt,.int .i64 bt,.int .i64 sx,.int .i64 sy,.int .i64 xx,.int .i64 xy,.int .i64 yy,.int .i64 ms,.int .i64 mx,.int .i64 my]],[qF true u5_1 u5_2 ((4:Int):Rat),qF true u4_1 u4_2 ((qx - qz)*(qx - qz)),qF true u3_1 u3_2 (qx - qz),qF true w32 w43 qx,qF true w54 w65 qy,qF true w76 w87 qz])) ?_ (fun hD7=> ?_)
    ·
     rintro ⟨u3_1,u3_2,u4_1,u4_2,u5_1,u5_2,u11_1⟩
     dsimp only [cw]
     refine zG 8 (by kernel_rfl) ?_
     ·
      refine zMb (first:=[]) (cap:=[]) rfl rfl rfl rfl rfl (.c rfl .n) ce37 (znb (u1:=w54) (v1:=w65) (q1:=qy) (hl:=by first|rfl|assumption|omega)) (.c (j:=4) rfl .n) ?_
      rintro ⟨u8_1,u8_2⟩ -
      dsimp only [List.append_eq,List.nil_append,List.cons_append]
      exact zV (hD5 (u3_1,u3_2,u4_1,u4_2,u5_1,u5_2,u8_1,u8_2,u11_1)) (by kernel_rfl) ((.of rfl):SubM _ _) .rfl .rfl ((.of [0,1,2,3,4,5,6] rfl):SelR _ _ _)
    refine zka (X:=Wd×Wd×Wd×Wd×Wd×Wd) (k':=5) (L':=(lb 13 255)) (fun (u3_1,u3_2,u4_1,u4_2,u5_1,u5_2)=>([(44,.agg (cw [u5_1,u5_2]).toArray),(43,.agg (cw [u4_1,u4_2]).toArray),(46,.agg (cw [w54,w65]).toArray),(45,.func (.func 37) #[] #[]),(12,.func (.func 37) #[] #[]),(10,.pointer (some ⟨b10,0,none⟩)),(8,.pointer (some ⟨b8,0,none⟩)),(7,.int .i64 0),(6,.bool false),(1,.int .i64 num),(2,.int .i64 den)],[],[boxA b10 42 (cw [w76,w87]),boxA b9 42 (cw [w54,w65]),boxA b8 42 (cw [w32,w43]),boxA b1 33 [.int .i64 ar,.int .i64 le,.int .i64 tp,.int .i64 rt,.int .i64 bt,.int .i64 sx,.int .i64 sy,.int .i64 xx,.int .i64 xy,.int .i64 yy,.int .i64 ms,.int .i64 mx,.int .i64 my]],[qF true u5_1 u5_2 ((4:Int):Rat),qF true u4_1 u4_2 ((qx - qz)*(qx - qz)),qF true u3_1 u3_2 (qx - qz),qF true w32 w43 qx,qF true w54 w65 qy,qF true w76 w87 qz])) ?_ (fun hD8=> ?_)
    ·
     rintro ⟨u3_1,u3_2,u4_1,u4_2,u5_1,u5_2⟩
     dsimp only [cw]
     refine zvb 8 11 (by kernel_rfl) ?_ ?_
     ·
      refine zMb (first:=[]) (cap:=[]) rfl rfl rfl rfl rfl (.c rfl .n) ce37 (znb (u1:=w54) (v1:=w65) (q1:=qy) (hl:=by first|rfl|assumption|omega)) (.c (j:=4) rfl .n) ?_
      rintro ⟨u8_1,u8_2⟩ -
      dsimp only [List.append_eq,List.nil_append,List.cons_append]
      exact zV (hD6 (u3_1,u3_2,u4_1,u4_2,u5_1,u5_2,u8_1,u8_2)) (by kernel_rfl) ((.of rfl):SubM _ _) .rfl .rfl ((.of [0,1,2,3,4,5,6] rfl):SelR _ _ _)
     ·
      refine zKa rfl rfl rfl rfl (zu zr42 rfl) (fun u11_1 _=> ?_)
      exact zV (hD7 (u3_1,u3_2,u4_1,u4_2,u5_1,u5_2,u11_1)) (by kernel_rfl) ((.of rfl):SubM _ _) .rfl .rfl ((.of [0,1,2,3,4,5] rfl):SelR _ _ _)
    refine zka (X:=Wd×Wd×Wd×Wd×Nat) (k':=5) (L':=(lb 13 2271)) (fun (u3_1,u3_2,u4_1,u4_2,u11_1)=>([(13,.pointer (some ⟨u11_1,0,none⟩)),(43,.agg (cw [u4_1,u4_2]).toArray),(46,.agg (cw [w54,w65]).toArray),(45,.func (.func 37) #[] #[]),(12,.func (.func 37) #[] #[]),(10,.pointer (some ⟨b10,0,none⟩)),(8,.pointer (some ⟨b8,0,none⟩)),(7,.int .i64 0),(6,.bool false),(1,.int .i64 num),(2,.int .i64 den)],[boxA u11_1 42 [.bool false,.slice none 0 0,.bool false,.slice none 0 0]],[boxA b10 42 (cw [w76,w87]),boxA b9 42 (cw [w54,w65]),boxA b8 42 (cw [w32,w43]),boxA b1 33 [.int .i64 ar,.int .i64 le,.int .i64 tp,.int .i64 rt,.int .i64 bt,.int .i64 sx,.int .i64 sy,.int .i64 xx,.int .i64 xy,.int .i64 yy,.int .i64 ms,.int .i64 mx,.int .i64 my]],[qF true u4_1 u4_2 ((qx - qz)*(qx - qz)),qF true u3_1 u3_2 (qx - qz),qF true w32 w43 qx,qF true w54 w65 qy,qF true w76 w87 qz])) ?_ (fun hD9=> ?_)
    ·
     rintro ⟨u3_1,u3_2,u4_1,u4_2,u11_1⟩
     dsimp only [cw]
     refine zG 5 (by kernel_rfl) ?_
     ·
      refine zw rfl rfl rfl rfl (.c rfl .n) ce41 (zIc (z:=(4:Int)) (hz:=by omega)) (.n) ?_
      rintro ⟨u5_1,u5_2⟩ -
      dsimp only [List.append_eq,List.nil_append,List.cons_append]
      exact zV (hD7 (u3_1,u3_2,u4_1,u4_2,u5_1,u5_2,u11_1)) (by kernel_rfl) ((.of rfl):SubM _ _) .rfl .rfl ((.of [0,1,2,3,4,5] rfl):SelR _ _ _)
    refine zka (X:=Wd×Wd×Wd×Wd) (k':=6) (L':=(lb 13 223)) (fun (u3_1,u3_2,u4_1,u4_2)=>([(43,.agg (cw [u4_1,u4_2]).toArray),(46,.agg (cw [w54,w65]).toArray),(45,.func (.func 37) #[] #[]),(12,.func (.func 37) #[] #[]),(10,.pointer (some ⟨b10,0,none⟩)),(8,.pointer (some ⟨b8,0,none⟩)),(7,.int .i64 0),(6,.bool false),(1,.int .i64 num),(2,.int .i64 den)],[],[boxA b10 42 (cw [w76,w87]),boxA b9 42 (cw [w54,w65]),boxA b8 42 (cw [w32,w43]),boxA b1 33 [.int .i64 ar,.int .i64 le,.int .i64 tp,.int .i64 rt,.int .i64 bt,.int .i64 sx,.int .i64 sy,.int .i64 xx,.int .i64 xy,.int .i64 yy,.int .i64 ms,.int .i64 mx,.int .i64 my]],[qF true u4_1 u4_2 ((qx - qz)*(qx - qz)),qF true u3_1 u3_2 (qx - qz),qF true w32 w43 qx,qF true w54 w65 qy,qF true w76 w87 qz])) ?_ (fun hD10=> ?_)
    ·
     rintro ⟨u3_1,u3_2,u4_1,u4_2⟩
     dsimp only [cw]
     refine zvb 5 11 (by kernel_rfl) ?_ ?_
     ·
      refine zw rfl rfl rfl rfl (.c rfl .n) ce41 (zIc (z:=(4:Int)) (hz:=by omega)) (.n) ?_
      rintro ⟨u5_1,u5_2⟩ -
      dsimp only [List.append_eq,List.nil_append,List.cons_append]
      exact zV (hD8 (u3_1,u3_2,u4_1,u4_2,u5_1,u5_2)) (by kernel_rfl) ((.of rfl):SubM _ _) .rfl .rfl ((.of [0,1,2,3,4,5] rfl):SelR _ _ _)
     ·
      refine zKa rfl rfl rfl rfl (zu zr42 rfl) (fun u11_1 _=> ?_)
      exact zV (hD9 (u3_1,u3_2,u4_1,u4_2,u11_1)) (by kernel_rfl) ((.of rfl):SubM _ _) .rfl .rfl ((.of [0,1,2,3,4] rfl):SelR _ _ _)
    refine zka (X:=Wd×Wd×Nat) (k':=6) (L':=(lb 13 2255)) (fun (u3_1,u3_2,u11_1)=>([(13,.pointer (some ⟨u11_1,0,none⟩)),(42,.agg (cw [u3_1,u3_2]).toArray),(46,.agg (cw [w54,w65]).toArray),(45,.func (.func 37) #[] #[]),(39,.func (.func 37) #[] #[]),(12,.func (.func 37) #[] #[]),(10,.pointer (some ⟨b10,0,none⟩)),(8,.pointer (some ⟨b8,0,none⟩)),(7,.int .i64 0),(6,.bool false),(1,.int .i64 num),(2,.int .i64 den)],[boxA u11_1 42 [.bool false,.slice none 0 0,.bool false,.slice none 0 0]],[boxA b10 42 (cw [w76,w87]),boxA b9 42 (cw [w54,w65]),boxA b8 42 (cw [w32,w43]),boxA b1 33 [.int .i64 ar,.int .i64 le,.int .i64 tp,.int .i64 rt,.int .i64 bt,.int .i64 sx,.int .i64 sy,.int .i64 xx,.int .i64 xy,.int .i64 yy,.int .i64 ms,.int .i64 mx,.int .i64 my]],[qF true u3_1 u3_2 (qx - qz),qF true w32 w43 qx,qF true w54 w65 qy,qF true w76 w87 qz])) ?_ (fun hD11=> ?_)
    ·
     rintro ⟨u3_1,u3_2,u11_1⟩
     dsimp only [cw]
     refine zG 4 (by kernel_rfl) ?_
     ·
      refine zMb (first:=[]) (cap:=[]) rfl rfl rfl rfl rfl (.c rfl .n) ce37 (znb (u1:=u3_1) (v1:=u3_2) (q1:=qx - qz) (hl:=by first|rfl|assumption|omega)) (.c (j:=0) rfl .n) ?_
      rintro ⟨u4_1,u4_2⟩ -
      dsimp only [List.append_eq,List.nil_append,List.cons_append]
      exact zV (hD9 (u3_1,u3_2,u4_1,u4_2,u11_1)) (by kernel_rfl) ((.of rfl):SubM _ _) .rfl .rfl ((.of [0,1,2,3,4] rfl):SelR _ _ _)
    refine zka (X:=Wd×Wd) (k':=7) (L':=(lb 13 207)) (fun (u3_1,u3_2)=>([(42,.agg (cw [u3_1,u3_2]).toArray),(46,.agg (cw [w54,w65]).toArray),(45,.func (.func 37) #[] #[]),(39,.func (.func 37) #[] #[]),(12,.func (.func 37) #[] #[]),(10,.pointer (some ⟨b10,0,none⟩)),(8,.pointer (some ⟨b8,0,none⟩)),(7,.int .i64 0),(6,.bool false),(1,.int .i64 num),(2,.int .i64 den)],[],[boxA b10 42 (cw [w76,w87]),boxA b9 42 (cw [w54,w65]),boxA b8 42 (cw [w32,w43]),boxA b1 33 [.int .i64 ar,.int .i64 le,.int .i64 tp,.int .i64 rt,.int .i64 bt,.int .i64 sx,.int .i64 sy,.int .i64 xx,.int .i64 xy,.int .i64 yy,.int .i64 ms,.int .i64 mx,.int .i64 my]],[qF true u3_1 u3_2 (qx - qz),qF true w32 w43 qx,qF true w54 w65 qy,qF true w76 w87 qz])) ?_ (fun hD12=> ?_)
    ·
     rintro ⟨u3_1,u3_2⟩
     dsimp only [cw]
     refine zvb 4 11 (by kernel_rfl) ?_ ?_
     ·
      refine zMb (first:=[]) (cap:=[]) rfl rfl rfl rfl rfl (.c rfl .n) ce37 (znb (u1:=u3_1) (v1:=u3_2) (q1:=qx - qz) (hl:=by first|rfl|assumption|omega)) (.c (j:=0) rfl .n) ?_
      rintro ⟨u4_1,u4_2⟩ -
      dsimp only [List.append_eq,List.nil_append,List.cons_append]
      exact zV (hD10 (u3_1,u3_2,u4_1,u4_2)) (by kernel_rfl) ((.of rfl):SubM _ _) .rfl .rfl ((.of [0,1,2,3,4] rfl):SelR _ _ _)
     ·
      refine zKa rfl rfl rfl rfl (zu zr42 rfl) (fun u11_1 _=> ?_)
      exact zV (hD11 (u3_1,u3_2,u11_1)) (by kernel_rfl) ((.of rfl):SubM _ _) .rfl .rfl ((.of [0,1,2,3] rfl):SelR _ _ _)
    refine zka (X:=Nat) (k':=7) (L':=(lb 13 2247)) (fun u11_1=>([(13,.pointer (some ⟨u11_1,0,none⟩)),(46,.agg (cw [w54,w65]).toArray),(45,.func (.func 37) #[] #[]),(41,.agg (cw [w76,w87]).toArray),(40,.agg (cw [w32,w43]).toArray),(39,.func (.func 37) #[] #[]),(12,.func (.func 37) #[] #[]),(10,.pointer (some ⟨b10,0,none⟩)),(8,.pointer (some ⟨b8,0,none⟩)),(7,.int .i64 0),(6,.bool false),(1,.int .i64 num),(2,.int .i64 den)],[boxA u11_1 42 [.bool false,.slice none 0 0,.bool false,.slice none 0 0]],[boxA b10 42 (cw [w76,w87]),boxA b9 42 (cw [w54,w65]),boxA b8 42 (cw [w32,w43]),boxA b1 33 [.int .i64 ar,.int .i64 le,.int .i64 tp,.int .i64 rt,.int .i64 bt,.int .i64 sx,.int .i64 sy,.int .i64 xx,.int .i64 xy,.int .i64 yy,.int .i64 ms,.int .i64 mx,.int .i64 my]],[qF true w32 w43 qx,qF true w54 w65 qy,qF true w76 w87 qz])) ?_ (fun hD13=> ?_)
    ·
     rintro u11_1
     dsimp only [cw]
     refine zG 3 (by kernel_rfl) ?_
     ·
      refine zw rfl rfl rfl rfl (.c rfl (.c rfl .n)) ce40 (zoe (k1:=true) (u1:=w32) (v1:=w43) (q1:=qx) (k2:=true) (u2:=w76) (v2:=w87) (q2:=qz) (hl:=by first|rfl|assumption|omega)) (.c (j:=0) rfl (.c (j:=2) rfl .n)) ?_
      rintro ⟨u3_1,u3_2⟩ -
      dsimp only [List.append_eq,List.nil_append,List.cons_append]
      exact zV (hD11 (u3_1,u3_2,u11_1)) (by kernel_rfl) ((.of rfl):SubM _ _) .rfl .rfl ((.of [0,1,2,3] rfl):SelR _ _ _)
    refine zvb 3 11 (by kernel_rfl) ?_ ?_
    ·
     refine zw rfl rfl rfl rfl (.c rfl (.c rfl .n)) ce40 (zoe (k1:=true) (u1:=w32) (v1:=w43) (q1:=qx) (k2:=true) (u2:=w76) (v2:=w87) (q2:=qz) (hl:=by first|rfl|assumption|omega)) (.c (j:=0) rfl (.c (j:=2) rfl .n)) ?_
     rintro ⟨u3_1,u3_2⟩ -
     dsimp only [List.append_eq,List.nil_append,List.cons_append]
     exact zV (hD12 (u3_1,u3_2)) (by kernel_rfl) ((.of rfl):SubM _ _) .rfl .rfl ((.of [0,1,2,3] rfl):SelR _ _ _)
    ·
     refine zKa rfl rfl rfl rfl (zu zr42 rfl) (fun u11_1 _=> ?_)
     exact zV (hD13 u11_1) (by kernel_rfl) ((.of rfl):SubM _ _) .rfl .rfl ((.of [0,1,2] rfl):SelR _ _ _)
theorem zEe {ar:Int} {le:Int} {tp:Int} {rt:Int} {bt:Int} {sx:Int} {sy:Int} {xx:Int} {xy:Int} {yy:Int} {ms:Int} {mx:Int} {my:Int} {num:Int} {den:Int} (hnum: -9223372036854775808≤num∧num≤9223372036854775807) (hden: -9223372036854775808≤den∧den≤9223372036854775807):Con Tryz.prog 19 [.agg #[.int .i64 ar,.int .i64 le,.int .i64 tp,.int .i64 rt,.int .i64 bt,.int .i64 sx,.int .i64 sy,.int .i64 xx,.int .i64 xy,.int .i64 yy,.int .i64 ms,.int .i64 mx,.int .i64 my],.int .i64 num,.int .i64 den] [] [] (Y:=Unit) (fun y=>True) (fun y=> .tuple #[.bool (if Bl.ok ar le tp rt bt sx sy xx xy yy ms mx my∧(0≤num∧num≤1000)∧(1≤den∧den≤1000) then Fl.rndQ (Rat.divInt (xx*ar - sx*sx) (ar*ar)) (Rat.divInt (xy*ar - sx*sy) (ar*ar)) (Rat.divInt (yy*ar - sy*sy) (ar*ar)) (Rat.divInt num den) else false),.int .i64 (if Bl.ok ar le tp rt bt sx sy xx xy yy ms mx my then (if (0≤num∧num≤1000)∧(1≤den∧den≤1000) then 0 else 2) else 1)]) (fun y=>[]) (fun y=>[]):=by
 refine zr Tryz.func19 rfl rfl rfl (fun c=> ?_)
 show RunC _ _ _ _ _ [(0,.agg #[.int .i64 ar,.int .i64 le,.int .i64 tp,.int .i64 rt,.int .i64 bt,.int .i64 sx,.int .i64 sy,.int .i64 xx,.int .i64 xy,.int .i64 yy,.int .i64 ms,.int .i64 mx,.int .i64 my]),(1,.int .i64 num),(2,.int .i64 den)] [] []
 refine zi<|zc<|zJ rfl rfl (zT rfl rfl) (fun b1=> ?_)
 refine r_pv rfl rfl (zd rfl)<|r_pv rfl rfl (zd rfl)<|zj<|zf<|zi<|zc<|r_u rfl rfl (zg 0 ty33 rfl rfl (.take (.take (.take (.take (.take (.take (.take (.take (.take (.take (.take (.take (.take .nil))))))))))))))<|zx rfl rfl (.c rfl .n) ce17 (zsc (ar:=ar) (le:=le) (tp:=tp) (rt:=rt) (bt:=bt) (sx:=sx) (sy:=sy) (xx:=xx) (xy:=xy) (yy:=yy) (ms:=ms) (mx:=mx) (my:=my)) (.n) ?_
 rintro ⟨w32,w43,w54,w65,w76,w87⟩ -
 dsimp only [List.append_eq,List.nil_append,List.cons_append]
 refine r_pv rfl rfl (zb rfl)<|r_pv rfl rfl (zm rfl rfl)<|r_pv rfl rfl (zm rfl rfl)<|r_pv rfl rfl (zm rfl rfl)<|r_pv rfl rfl (zm rfl rfl)<|zJ rfl rfl (zu zr42 rfl) (fun b8=> ?_)
 refine zJ rfl rfl (zu zr42 rfl) (fun b9=> ?_)
 refine zJ rfl rfl (zu zr42 rfl) (fun b10=> ?_)
 refine zl 2 rfl rfl rfl rfl rfl sz42 rfl (.take (.take (.take (.take .nil)))) (.s (.s .z))<|zl 1 rfl rfl rfl rfl rfl sz42 rfl (.take (.take (.take (.take .nil)))) (.s .z)<|zl 0 rfl rfl rfl rfl rfl sz42 rfl (.take (.take (.take (.take .nil)))) .z<|r_pv rfl rfl (zd rfl)<|zj<|zf<|zi<|zi<|zc<|r_pv rfl rfl (zb rfl)<|r_pv rfl rfl (zJa rfl rfl)<|zj<|zf<|zK rfl (fun hc=> ?_) (fun hc=> ?_)
 ·
  have hok:¬Bl.ok ar le tp rt bt sx sy xx xy yy ms mx my:=fun k=>hc (if_pos k)
  refine zi<|zc<|r_pv rfl rfl (zb rfl)<|r_pv rfl rfl (zd rfl)<|r_pv rfl rfl (zd rfl)<|zj<|zf<|zI<|zv ?_
  exact zpa Tryz.results19 () trivial (zt rfl) (zt rfl) (by simp only [if_neg (show ¬(Bl.ok ar le tp rt bt sx sy xx xy yy ms mx my∧(0≤num∧num≤1000)∧(1≤den∧den≤1000)) from fun k=>hok k.1),if_neg hok]) (ho:=(.n:PickO _ _ _)) (.n:SelR _ _ _)
 ·
  have hok:Bl.ok ar le tp rt bt sx sy xx xy yy ms mx my:=Bl.c0.1 (Decidable.not_not.1 hc)
  have ho9:=hok
  unfold Bl.ok at ho9
  have e0:=Bl.mul_b (x:=ar) (y:=le) (m:=4096) (n:=63) (by omega) (by omega)
  have e1:=Bl.mul_b (x:=ar) (y:=rt) (m:=4096) (n:=63) (by omega) (by omega)
  have e2:=Bl.mul_b (x:=ar) (y:=tp) (m:=4096) (n:=63) (by omega) (by omega)
  have e3:=Bl.mul_b (x:=ar) (y:=bt) (m:=4096) (n:=63) (by omega) (by omega)
  have e4:=Bl.mul_b (x:=ms) (y:=le) (m:=268431360) (n:=63) (by omega) (by omega)
  have e5:=Bl.mul_b (x:=ms) (y:=rt) (m:=268431360) (n:=63) (by omega) (by omega)
  have e6:=Bl.mul_b (x:=ms) (y:=tp) (m:=268431360) (n:=63) (by omega) (by omega)
  have e7:=Bl.mul_b (x:=ms) (y:=bt) (m:=268431360) (n:=63) (by omega) (by omega)
  have p0:=Bl.mul_b (x:=ar) (y:=ar) (m:=4096) (n:=4096) (by omega) (by omega)
  have pne:ar*ar≠0:=Int.mul_ne_zero (by omega) (by omega)
  have px1:=Bl.mul_b (x:=xx) (y:=ar) (m:=16257024) (n:=4096) (by omega) (by omega)
  have px2:=Bl.mul_b (x:=sx) (y:=sx) (m:=258048) (n:=258048) (by omega) (by omega)
  have px3:=Fl.hq_q (n:=xx*ar - sx*sx) pne (by omega) (by omega)
  have py1:=Bl.mul_b (x:=xy) (y:=ar) (m:=16257024) (n:=4096) (by omega) (by omega)
  have py2:=Bl.mul_b (x:=sx) (y:=sy) (m:=258048) (n:=258048) (by omega) (by omega)
  have py3:=Fl.hq_q (n:=xy*ar - sx*sy) pne (by omega) (by omega)
  have pz1:=Bl.mul_b (x:=yy) (y:=ar) (m:=16257024) (n:=4096) (by omega) (by omega)
  have pz2:=Bl.mul_b (x:=sy) (y:=sy) (m:=258048) (n:=258048) (by omega) (by omega)
  have pz3:=Fl.hq_q (n:=yy*ar - sy*sy) pne (by omega) (by omega)
  have e11:(decide (Bl.ok ar le tp rt bt sx sy xx xy yy ms mx my))=true:=by exact decide_eq_true hok
  rw [e11]
  have e12:(if Bl.ok ar le tp rt bt sx sy xx xy yy ms mx my then Rat.divInt (xx*ar - sx*sx) (ar*ar) else 0)=Rat.divInt (xx*ar - sx*sx) (ar*ar):=by exact if_pos hok
  rw [e12]
  have e13:(if Bl.ok ar le tp rt bt sx sy xx xy yy ms mx my then Rat.divInt (xy*ar - sx*sy) (ar*ar) else 0)=Rat.divInt (xy*ar - sx*sy) (ar*ar):=by exact if_pos hok
  rw [e13]
  have e14:(if Bl.ok ar le tp rt bt sx sy xx xy yy ms mx my then Rat.divInt (yy*ar - sy*sy) (ar*ar) else 0)=Rat.divInt (yy*ar - sy*sy) (ar*ar):=by exact if_pos hok
  rw [e14]
  obtain ⟨qx,hqx⟩:∃z,z=Rat.divInt (xx*ar - sx*sx) (ar*ar):=⟨_,rfl⟩
  rw [← hqx]
  obtain ⟨qy,hqy⟩:∃z,z=Rat.divInt (xy*ar - sx*sy) (ar*ar):=⟨_,rfl⟩
  rw [← hqy]
  obtain ⟨qz,hqz⟩:∃z,z=Rat.divInt (yy*ar - sy*sy) (ar*ar):=⟨_,rfl⟩
  rw [← hqz]
  rw [← hqx] at px3
  rw [← hqy] at py3
  rw [← hqz] at pz3
  refine zD<|zf<|zi<|zQa (X:=Unit) (fun x=>True) (fun x=>[(34,.bool (decide (¬((0≤num∧num≤1000)∧(1≤den∧den≤1000))))),(10,.pointer (some ⟨b10,0,none⟩)),(9,.pointer (some ⟨b9,0,none⟩)),(8,.pointer (some ⟨b8,0,none⟩)),(7,.int .i64 0),(6,.bool false),(1,.int .i64 num),(2,.int .i64 den)]) (fun x=>[boxA b10 42 (cw [w76,w87]),boxA b9 42 (cw [w54,w65]),boxA b8 42 (cw [w32,w43]),boxA b1 33 [.int .i64 ar,.int .i64 le,.int .i64 tp,.int .i64 rt,.int .i64 bt,.int .i64 sx,.int .i64 sy,.int .i64 xx,.int .i64 xy,.int .i64 yy,.int .i64 ms,.int .i64 mx,.int .i64 my]]) (fun x=>[qF true w32 w43 qx,qF true w54 w65 qy,qF true w76 w87 qz]) ?_ ?_
  ·
   refine zc<|r_pv rfl rfl (zb rfl)<|zL rfl rfl (.c rfl (.c rfl (.c rfl .n))) ce43 (zta (n:=num) (lo:=0) (hi:=1000)) (.n)<|r_pv rfl rfl (zEa rfl)<|zO rfl rfl (zb rfl) (fun h15=> ?_) (fun h15=> ?_)
   ·
    refine za rfl rfl<|za rfl rfl<|za rfl rfl<|r_pv rfl rfl (zk rfl rfl)<|zj ?_
    exact zZ () (show True from by first|trivial|omega|simp_all) ((.e rfl (congrArg Value.bool (by exact Eq.symm (decide_eq_true (by omega)))) (.of rfl)):SubM _ _) (ho:=((.of [0,0,0,0] rfl):PickO _ _ _)) ((.of [0,1,2] rfl):SelR _ _ _)
   ·
    refine r_pv rfl rfl (zb rfl)<|zL rfl rfl (.c rfl (.c rfl (.c rfl .n))) ce43 (zta (n:=den) (lo:=1) (hi:=1000)) (.n)<|r_pv rfl rfl (zEa rfl)<|r_pv rfl rfl (zk rfl rfl)<|zj ?_
    exact zZ () (show True from by first|trivial|omega|simp_all) ((.e rfl (congrArg Value.bool (by exact decide_eq_decide.2 (by constructor <;> intro k <;> omega))) (.of rfl)):SubM _ _) (ho:=((.of [0,0,0,0] rfl):PickO _ _ _)) ((.of [0,1,2] rfl):SelR _ _ _)
  ·
   rintro ⟨⟩ -
   try dsimp only [cw]
   refine zK rfl (fun hr=> ?_) (fun hr=> ?_)
   ·
    refine zi<|zc<|r_pv rfl rfl (zd rfl)<|r_pv rfl rfl (zd rfl)<|zj<|zf<|zI<|zv ?_
    exact zpa Tryz.results19 () trivial (zt rfl) (zt rfl) (by simp only [if_neg (show ¬(Bl.ok ar le tp rt bt sx sy xx xy yy ms mx my∧(0≤num∧num≤1000)∧(1≤den∧den≤1000)) from fun k=>hr k.2),if_pos hok,if_neg hr]) (ho:=(.n:PickO _ _ _)) (.n:SelR _ _ _)
   ·
    have hr9:(0≤num∧num≤1000)∧(1≤den∧den≤1000):=Decidable.not_not.1 hr
    have hqn:=Fl.hq_q (n:=num) (d:=den) (by omega) (by omega) (by omega)
    have hh9:=Fl.rnd_hq px3 py3 pz3 hqn
    refine zD<|zf<|zi<|zc<|r_pv rfl rfl (zb rfl)<|r_pv rfl rfl (zb rfl)<|zx rfl rfl (.c rfl (.c rfl .n)) ce23 (zmb (z1:=num) (z2:=den) (hz1:=by assumption) (hz2:=by assumption) (hy:=by first|rfl|assumption|omega)) (.n) ?_
    rintro ⟨w316,w417⟩ -
    dsimp only [List.append_eq,List.nil_append,List.cons_append]
    refine r_pv rfl rfl (zb rfl)<|r_pv rfl rfl (zm rfl rfl)<|r_pv rfl rfl (zm rfl rfl)<|zJ rfl rfl (zu zr42 rfl) (fun b18=> ?_)
    refine zl 0 rfl rfl rfl rfl rfl sz42 rfl (.take (.take (.take (.take .nil)))) .z<|r_pv rfl rfl (zd rfl)<|zj<|zf<|zi<|zaa (OW:=[]) (O:=[boxA b18 42 [w316.b,w316.l,w417.b,w417.l],boxA b10 42 [w76.b,w76.l,w87.b,w87.l],boxA b9 42 [w54.b,w54.l,w65.b,w65.l],boxA b8 42 [w32.b,w32.l,w43.b,w43.l],boxA b1 33 [.int .i64 ar,.int .i64 le,.int .i64 tp,.int .i64 rt,.int .i64 bt,.int .i64 sx,.int .i64 sy,.int .i64 xx,.int .i64 xy,.int .i64 yy,.int .i64 ms,.int .i64 mx,.int .i64 my]]) 5 mixed (.then .ret) (by kernel_rfl)<|d_u 0 rfl rfl (by kernel_rfl) (by kernel_rfl) rfl rfl (zg 3 ty42 rfl rfl (.take (.take (.take (.take .nil)))))<|d_u 1 rfl rfl (by kernel_rfl) (by kernel_rfl) rfl rfl (zg 1 ty42 rfl rfl (.take (.take (.take (.take .nil)))))<|zUc (m':=[(42,.agg #[w76.b,w76.l,w87.b,w87.l]),(41,.agg #[w32.b,w32.l,w43.b,w43.l]),(12,.pointer (some ⟨b18,0,none⟩)),(10,.pointer (some ⟨b10,0,none⟩)),(9,.pointer (some ⟨b9,0,none⟩)),(8,.pointer (some ⟨b8,0,none⟩)),(7,.int .i64 0),(6,.bool false)]) (R':=[qF true w316 w417 (Rat.divInt num den),qF true w32 w43 qx,qF true w54 w65 qy,qF true w76 w87 qz]) ((.of rfl):SubM _ _) (List.Perm.refl _) (List.Perm.refl _) ((.of [0,1,2,3] rfl):SelR _ _ _)<|zka (X:=Wd×Wd×Wd×Wd×Nat) (k':=0) (L':=(lb 6 63)) (fun (u2_1,u2_2,u3_1,u3_2,u4_1)=>([(14,.pointer (some ⟨u4_1,0,none⟩)),(12,.pointer (some ⟨b18,0,none⟩)),(10,.pointer (some ⟨b10,0,none⟩)),(9,.pointer (some ⟨b9,0,none⟩)),(8,.pointer (some ⟨b8,0,none⟩)),(7,.int .i64 0),(6,.bool false)],[boxA u4_1 42 (cw [u3_1,u3_2])],[boxA b18 42 (cw [w316,w417]),boxA b10 42 (cw [w76,w87]),boxA b9 42 (cw [w54,w65]),boxA b8 42 (cw [w32,w43]),boxA b1 33 [.int .i64 ar,.int .i64 le,.int .i64 tp,.int .i64 rt,.int .i64 bt,.int .i64 sx,.int .i64 sy,.int .i64 xx,.int .i64 xy,.int .i64 yy,.int .i64 ms,.int .i64 mx,.int .i64 my]],[qF true u3_1 u3_2 (qx+(- qz)),qF true u2_1 u2_2 (- qz),qF true w316 w417 (Rat.divInt num den),qF true w32 w43 qx,qF true w54 w65 qy,qF true w76 w87 qz])) ?_ (fun hD0=> ?_)
    ·
     rintro ⟨u2_1,u2_2,u3_1,u3_2,u4_1⟩
     dsimp only [cw]
     refine zY (by kernel_rfl)<|zf<|zi<|zaa (OW:=[]) (O:=[boxA u4_1 42 [u3_1.b,u3_1.l,u3_2.b,u3_2.l],boxA b18 42 [w316.b,w316.l,w417.b,w417.l],boxA b10 42 [w76.b,w76.l,w87.b,w87.l],boxA b9 42 [w54.b,w54.l,w65.b,w65.l],boxA b8 42 [w32.b,w32.l,w43.b,w43.l],boxA b1 33 [.int .i64 ar,.int .i64 le,.int .i64 tp,.int .i64 rt,.int .i64 bt,.int .i64 sx,.int .i64 sy,.int .i64 xx,.int .i64 xy,.int .i64 yy,.int .i64 ms,.int .i64 mx,.int .i64 my]]) 6 mixed (.then .ret) (by kernel_rfl)<|d_u 0 rfl rfl (by kernel_rfl) (by kernel_rfl) rfl rfl (zg 1 ty42 rfl rfl (.take (.take (.take (.take .nil)))))<|d_u 1 rfl rfl (by kernel_rfl) (by kernel_rfl) rfl rfl (zg 4 ty42 rfl rfl (.take (.take (.take (.take .nil)))))<|d_u 2 rfl rfl (by kernel_rfl) (by kernel_rfl) rfl rfl (zg 2 ty42 rfl rfl (.take (.take (.take (.take .nil)))))<|zUc (m':=[(47,.agg #[w76.b,w76.l,w87.b,w87.l]),(46,.agg #[w32.b,w32.l,w43.b,w43.l]),(45,.agg #[w316.b,w316.l,w417.b,w417.l]),(14,.pointer (some ⟨u4_1,0,none⟩)),(9,.pointer (some ⟨b9,0,none⟩)),(7,.int .i64 0),(6,.bool false)]) (R':=[qF true u3_1 u3_2 (qx+(- qz)),qF true u2_1 u2_2 (- qz),qF true w316 w417 (Rat.divInt num den),qF true w32 w43 qx,qF true w54 w65 qy,qF true w76 w87 qz]) ((.of rfl):SubM _ _) (List.Perm.refl _) (List.Perm.refl _) ((.of [0,1,2,3,4,5] rfl):SelR _ _ _)<|zka (X:=Wd×Wd×Wd×Wd×Nat) (k':=0) (L':=(lb 7 127)) (fun (u3_1r2,u3_2r2,u4_1r2,u4_2r2,u5_1r2)=>([(15,.pointer (some ⟨u5_1r2,0,none⟩)),(14,.pointer (some ⟨u4_1,0,none⟩)),(9,.pointer (some ⟨b9,0,none⟩)),(7,.int .i64 0),(6,.bool false)],[boxA u5_1r2 42 (cw [u4_1r2,u4_2r2])],[boxA u4_1 42 (cw [u3_1,u3_2]),boxA b18 42 (cw [w316,w417]),boxA b10 42 (cw [w76,w87]),boxA b9 42 (cw [w54,w65]),boxA b8 42 (cw [w32,w43]),boxA b1 33 [.int .i64 ar,.int .i64 le,.int .i64 tp,.int .i64 rt,.int .i64 bt,.int .i64 sx,.int .i64 sy,.int .i64 xx,.int .i64 xy,.int .i64 yy,.int .i64 ms,.int .i64 mx,.int .i64 my]],[qF true u4_1r2 u4_2r2 ((Rat.divInt num den)*(qx+qz)),qF true u3_1r2 u3_2r2 (qx+qz),qF true u3_1 u3_2 (qx+(- qz)),qF true u2_1 u2_2 (- qz),qF true w316 w417 (Rat.divInt num den),qF true w32 w43 qx,qF true w54 w65 qy,qF true w76 w87 qz])) ?_ (fun hD0=> ?_)
     ·
      rintro ⟨u3_1r2,u3_2r2,u4_1r2,u4_2r2,u5_1r2⟩
      dsimp only [cw]
      refine zY (by kernel_rfl)<|zf<|zi<|zaa (OW:=[]) (O:=[boxA u5_1r2 42 [u4_1r2.b,u4_1r2.l,u4_2r2.b,u4_2r2.l],boxA u4_1 42 [u3_1.b,u3_1.l,u3_2.b,u3_2.l],boxA b18 42 [w316.b,w316.l,w417.b,w417.l],boxA b10 42 [w76.b,w76.l,w87.b,w87.l],boxA b9 42 [w54.b,w54.l,w65.b,w65.l],boxA b8 42 [w32.b,w32.l,w43.b,w43.l],boxA b1 33 [.int .i64 ar,.int .i64 le,.int .i64 tp,.int .i64 rt,.int .i64 bt,.int .i64 sx,.int .i64 sy,.int .i64 xx,.int .i64 xy,.int .i64 yy,.int .i64 ms,.int .i64 mx,.int .i64 my]]) 10 mixed (.then .ret) (by kernel_rfl)<|d_u 0 rfl rfl (by kernel_rfl) (by kernel_rfl) rfl rfl (zg 1 ty42 rfl rfl (.take (.take (.take (.take .nil)))))<|d_u 1 rfl rfl (by kernel_rfl) (by kernel_rfl) rfl rfl (zg 1 ty42 rfl rfl (.take (.take (.take (.take .nil)))))<|d_u 4 rfl rfl (by kernel_rfl) (by kernel_rfl) rfl rfl (zg 4 ty42 rfl rfl (.take (.take (.take (.take .nil)))))<|d_u 5 rfl rfl (by kernel_rfl) (by kernel_rfl) rfl rfl (zg 4 ty42 rfl rfl (.take (.take (.take (.take .nil)))))<|zUc (m':=[(55,.agg #[w54.b,w54.l,w65.b,w65.l]),(54,.agg #[w54.b,w54.l,w65.b,w65.l]),(51,.agg #[u3_1.b,u3_1.l,u3_2.b,u3_2.l]),(50,.agg #[u3_1.b,u3_1.l,u3_2.b,u3_2.l]),(15,.pointer (some ⟨u5_1r2,0,none⟩)),(7,.int .i64 0),(6,.bool false)]) (R':=[qF true u4_1r2 u4_2r2 ((Rat.divInt num den)*(qx+qz)),qF true u3_1r2 u3_2r2 (qx+qz),qF true u3_1 u3_2 (qx+(- qz)),qF true u2_1 u2_2 (- qz),qF true w316 w417 (Rat.divInt num den),qF true w32 w43 qx,qF true w54 w65 qy,qF true w76 w87 qz]) ((.of rfl):SubM _ _) (List.Perm.refl _) (List.Perm.refl _) ((.of [0,1,2,3,4,5,6,7] rfl):SelR _ _ _)<|zka (X:=Wd×Wd×Wd×Wd×Wd×Wd×Wd×Wd×Wd×Wd×Nat) (k':=0) (L':=(lb 11 2047)) (fun (u2_1r3,u2_2r3,u3_1r3,u3_2r3,u6_1r3,u6_2r3,u7_1r3,u7_2r3,u8_1r3,u8_2r3,u9_1r3)=>([(16,.pointer (some ⟨u9_1r3,0,none⟩)),(15,.pointer (some ⟨u5_1r2,0,none⟩)),(7,.int .i64 0),(6,.bool false)],[boxA u9_1r3 42 (cw [u8_1r3,u8_2r3])],[boxA u5_1r2 42 (cw [u4_1r2,u4_2r2]),boxA u4_1 42 (cw [u3_1,u3_2]),boxA b18 42 (cw [w316,w417]),boxA b10 42 (cw [w76,w87]),boxA b9 42 (cw [w54,w65]),boxA b8 42 (cw [w32,w43]),boxA b1 33 [.int .i64 ar,.int .i64 le,.int .i64 tp,.int .i64 rt,.int .i64 bt,.int .i64 sx,.int .i64 sy,.int .i64 xx,.int .i64 xy,.int .i64 yy,.int .i64 ms,.int .i64 mx,.int .i64 my]],[qF true u8_1r3 u8_2r3 (((qx+(- qz))*(qx+(- qz)))+(((4:Int):Rat)*(qy*qy))),qF true u7_1r3 u7_2r3 (((4:Int):Rat)*(qy*qy)),qF true u6_1r3 u6_2r3 (qy*qy),qF true u3_1r3 u3_2r3 ((4:Int):Rat),qF true u2_1r3 u2_2r3 ((qx+(- qz))*(qx+(- qz))),qF true u4_1r2 u4_2r2 ((Rat.divInt num den)*(qx+qz)),qF true u3_1r2 u3_2r2 (qx+qz),qF true u3_1 u3_2 (qx+(- qz)),qF true u2_1 u2_2 (- qz),qF true w316 w417 (Rat.divInt num den),qF true w32 w43 qx,qF true w54 w65 qy,qF true w76 w87 qz])) ?_ (fun hD0=> ?_)
      ·
       rintro ⟨u2_1r3,u2_2r3,u3_1r3,u3_2r3,u6_1r3,u6_2r3,u7_1r3,u7_2r3,u8_1r3,u8_2r3,u9_1r3⟩
       dsimp only [cw]
       refine zY (by kernel_rfl)<|zf<|zi<|zaa (OW:=[]) (O:=[boxA u9_1r3 42 [u8_1r3.b,u8_1r3.l,u8_2r3.b,u8_2r3.l],boxA u5_1r2 42 [u4_1r2.b,u4_1r2.l,u4_2r2.b,u4_2r2.l],boxA u4_1 42 [u3_1.b,u3_1.l,u3_2.b,u3_2.l],boxA b18 42 [w316.b,w316.l,w417.b,w417.l],boxA b10 42 [w76.b,w76.l,w87.b,w87.l],boxA b9 42 [w54.b,w54.l,w65.b,w65.l],boxA b8 42 [w32.b,w32.l,w43.b,w43.l],boxA b1 33 [.int .i64 ar,.int .i64 le,.int .i64 tp,.int .i64 rt,.int .i64 bt,.int .i64 sx,.int .i64 sy,.int .i64 xx,.int .i64 xy,.int .i64 yy,.int .i64 ms,.int .i64 mx,.int .i64 my]]) 100000 mixed (.then .ret) (by kernel_rfl)<|d_u 0 rfl rfl (by kernel_rfl) (by kernel_rfl) rfl rfl (zg 0 ty42 rfl rfl (.take (.take (.take (.take .nil)))))<|d_u 1 rfl rfl (by kernel_rfl) (by kernel_rfl) rfl rfl (zg 1 ty42 rfl rfl (.take (.take (.take (.take .nil)))))<|d_u 2 rfl rfl (by kernel_rfl) (by kernel_rfl) rfl rfl (zg 1 ty42 rfl rfl (.take (.take (.take (.take .nil)))))<|zG 3 (by kernel_rfl) (zw rfl rfl rfl rfl (.c rfl (.c rfl .n)) ce46 (zeb (k1:=true) (u1:=u4_1r2) (v1:=u4_2r2) (q1:=(Rat.divInt num den)*(qx+qz)) (k2:=true) (u2:=u4_1r2) (v2:=u4_2r2) (q2:=(Rat.divInt num den)*(qx+qz)) (hl:=by first|rfl|assumption|omega)) (.c (j:=5) rfl (.c (j:=5) rfl .n)) ?_)
       rintro ⟨w319,w420⟩ -
       dsimp only [List.append_eq,List.nil_append,List.cons_append]
       refine zG 4 (by kernel_rfl) (zDb rfl rfl rfl rfl (.c rfl (.c rfl .n)) ce48 (zgc (k1:=true) (u1:=u8_1r3) (v1:=u8_2r3) (q1:=((qx+(- qz))*(qx+(- qz)))+(((4:Int):Rat)*(qy*qy))) (k2:=true) (u2:=w319) (v2:=w420) (q2:=((Rat.divInt num den)*(qx+qz))*((Rat.divInt num den)*(qx+qz))) (hl:=by first|rfl|assumption|omega)) (.c (j:=1) rfl (.c (j:=0) rfl .n)) ?_)
       refine d_pv 5 rfl rfl (by kernel_rfl) (by kernel_rfl) rfl rfl (zVb rfl rfl)<|d_pv 6 rfl rfl (by kernel_rfl) (by kernel_rfl) rfl rfl (zd rfl)<|d_pv 7 rfl rfl (by kernel_rfl) (by kernel_rfl) rfl rfl (zd rfl)<|zY (by kernel_rfl)<|zf<|zI ?_
       exact zpa Tryz.results19 () trivial (zt rfl) (zt rfl) (by rw [if_pos ⟨hok,hr9⟩,if_pos hok,if_pos hr9];unfold Fl.rndQ;rw [Rat.sub_eq_add_neg qx qz]) (ho:=(.n:PickO _ _ _)) (.n:SelR _ _ _)
      refine zka (X:=Wd×Wd×Wd×Wd×Wd×Wd×Wd×Wd×Wd×Wd×Nat) (k':=1) (L':=(lb 11 1023)) (fun (u2_1r3,u2_2r3,u3_1r3,u3_2r3,u6_1r3,u6_2r3,u7_1r3,u7_2r3,u8_1r3,u8_2r3,u9_1r3)=>([(16,.pointer (some ⟨u9_1r3,0,none⟩)),(58,.agg (cw [u8_1r3,u8_2r3]).toArray),(15,.pointer (some ⟨u5_1r2,0,none⟩)),(7,.int .i64 0),(6,.bool false)],[boxA u9_1r3 42 [.bool false,.slice none 0 0,.bool false,.slice none 0 0]],[boxA u5_1r2 42 (cw [u4_1r2,u4_2r2]),boxA u4_1 42 (cw [u3_1,u3_2]),boxA b18 42 (cw [w316,w417]),boxA b10 42 (cw [w76,w87]),boxA b9 42 (cw [w54,w65]),boxA b8 42 (cw [w32,w43]),boxA b1 33 [.int .i64 ar,.int .i64 le,.int .i64 tp,.int .i64 rt,.int .i64 bt,.int .i64 sx,.int .i64 sy,.int .i64 xx,.int .i64 xy,.int .i64 yy,.int .i64 ms,.int .i64 mx,.int .i64 my]],[qF true u8_1r3 u8_2r3 (((qx+(- qz))*(qx+(- qz)))+(((4:Int):Rat)*(qy*qy))),qF true u7_1r3 u7_2r3 (((4:Int):Rat)*(qy*qy)),qF true u6_1r3 u6_2r3 (qy*qy),qF true u3_1r3 u3_2r3 ((4:Int):Rat),qF true u2_1r3 u2_2r3 ((qx+(- qz))*(qx+(- qz))),qF true u4_1r2 u4_2r2 ((Rat.divInt num den)*(qx+qz)),qF true u3_1r2 u3_2r2 (qx+qz),qF true u3_1 u3_2 (qx+(- qz)),qF true u2_1 u2_2 (- qz),qF true w316 w417 (Rat.divInt num den),qF true w32 w43 qx,qF true w54 w65 qy,qF true w76 w87 qz])) ?_ (fun hD1=> ?_)
      ·
       rintro ⟨u2_1r3,u2_2r3,u3_1r3,u3_2r3,u6_1r3,u6_2r3,u7_1r3,u7_2r3,u8_1r3,u8_2r3,u9_1r3⟩
       dsimp only [cw]
       refine zG 10 (by kernel_rfl) ?_
       ·
        refine zz (by kernel_rfl) rfl rfl rfl rfl rfl sz42 rfl (.take (.take (.take (.take .nil)))) ?_
        exact zV (hD0 (u2_1r3,u2_2r3,u3_1r3,u3_2r3,u6_1r3,u6_2r3,u7_1r3,u7_2r3,u8_1r3,u8_2r3,u9_1r3)) (by kernel_rfl) ((.of rfl):SubM _ _) .rfl .rfl ((.of [0,1,2,3,4,5,6,7,8,9,10,11,12] rfl):SelR _ _ _)
      refine zka (X:=Wd×Wd×Wd×Wd×Wd×Wd×Wd×Wd×Wd×Wd) (k':=2) (L':=(lb 11 511)) (fun (u2_1r3,u2_2r3,u3_1r3,u3_2r3,u6_1r3,u6_2r3,u7_1r3,u7_2r3,u8_1r3,u8_2r3)=>([(58,.agg (cw [u8_1r3,u8_2r3]).toArray),(15,.pointer (some ⟨u5_1r2,0,none⟩)),(7,.int .i64 0),(6,.bool false)],[],[boxA u5_1r2 42 (cw [u4_1r2,u4_2r2]),boxA u4_1 42 (cw [u3_1,u3_2]),boxA b18 42 (cw [w316,w417]),boxA b10 42 (cw [w76,w87]),boxA b9 42 (cw [w54,w65]),boxA b8 42 (cw [w32,w43]),boxA b1 33 [.int .i64 ar,.int .i64 le,.int .i64 tp,.int .i64 rt,.int .i64 bt,.int .i64 sx,.int .i64 sy,.int .i64 xx,.int .i64 xy,.int .i64 yy,.int .i64 ms,.int .i64 mx,.int .i64 my]],[qF true u8_1r3 u8_2r3 (((qx+(- qz))*(qx+(- qz)))+(((4:Int):Rat)*(qy*qy))),qF true u7_1r3 u7_2r3 (((4:Int):Rat)*(qy*qy)),qF true u6_1r3 u6_2r3 (qy*qy),qF true u3_1r3 u3_2r3 ((4:Int):Rat),qF true u2_1r3 u2_2r3 ((qx+(- qz))*(qx+(- qz))),qF true u4_1r2 u4_2r2 ((Rat.divInt num den)*(qx+qz)),qF true u3_1r2 u3_2r2 (qx+qz),qF true u3_1 u3_2 (qx+(- qz)),qF true u2_1 u2_2 (- qz),qF true w316 w417 (Rat.divInt num den),qF true w32 w43 qx,qF true w54 w65 qy,qF true w76 w87 qz])) ?_ (fun hD2=> ?_)
      ·
       rintro ⟨u2_1r3,u2_2r3,u3_1r3,u3_2r3,u6_1r3,u6_2r3,u7_1r3,u7_2r3,u8_1r3,u8_2r3⟩
       dsimp only [cw]
       refine zG 9 (by kernel_rfl) ?_
       ·
        refine zKa rfl rfl rfl rfl (zu zr42 rfl) (fun u9_1r3 _=> ?_)
        exact zV (hD1 (u2_1r3,u2_2r3,u3_1r3,u3_2r3,u6_1r3,u6_2r3,u7_1r3,u7_2r3,u8_1r3,u8_2r3,u9_1r3)) (by kernel_rfl) ((.of rfl):SubM _ _) .rfl .rfl ((.of [0,1,2,3,4,5,6,7,8,9,10,11,12] rfl):SelR _ _ _)
      refine zka (X:=Wd×Wd×Wd×Wd×Wd×Wd×Wd×Wd×Nat) (k':=2) (L':=(lb 11 767)) (fun (u2_1r3,u2_2r3,u3_1r3,u3_2r3,u6_1r3,u6_2r3,u7_1r3,u7_2r3,u9_1r3)=>([(16,.pointer (some ⟨u9_1r3,0,none⟩)),(57,.agg (cw [u7_1r3,u7_2r3]).toArray),(52,.agg (cw [u2_1r3,u2_2r3]).toArray),(15,.pointer (some ⟨u5_1r2,0,none⟩)),(7,.int .i64 0),(6,.bool false)],[boxA u9_1r3 42 [.bool false,.slice none 0 0,.bool false,.slice none 0 0]],[boxA u5_1r2 42 (cw [u4_1r2,u4_2r2]),boxA u4_1 42 (cw [u3_1,u3_2]),boxA b18 42 (cw [w316,w417]),boxA b10 42 (cw [w76,w87]),boxA b9 42 (cw [w54,w65]),boxA b8 42 (cw [w32,w43]),boxA b1 33 [.int .i64 ar,.int .i64 le,.int .i64 tp,.int .i64 rt,.int .i64 bt,.int .i64 sx,.int .i64 sy,.int .i64 xx,.int .i64 xy,.int .i64 yy,.int .i64 ms,.int .i64 mx,.int .i64 my]],[qF true u7_1r3 u7_2r3 (((4:Int):Rat)*(qy*qy)),qF true u6_1r3 u6_2r3 (qy*qy),qF true u3_1r3 u3_2r3 ((4:Int):Rat),qF true u2_1r3 u2_2r3 ((qx+(- qz))*(qx+(- qz))),qF true u4_1r2 u4_2r2 ((Rat.divInt num den)*(qx+qz)),qF true u3_1r2 u3_2r2 (qx+qz),qF true u3_1 u3_2 (qx+(- qz)),qF true u2_1 u2_2 (- qz),qF true w316 w417 (Rat.divInt num den),qF true w32 w43 qx,qF true w54 w65 qy,qF true w76 w87 qz])) ?_ (fun hD3=> ?_)
      ·
       rintro ⟨u2_1r3,u2_2r3,u3_1r3,u3_2r3,u6_1r3,u6_2r3,u7_1r3,u7_2r3,u9_1r3⟩
       dsimp only [cw]
       refine zG 8 (by kernel_rfl) ?_
       ·
        refine zw rfl rfl rfl rfl (.c rfl (.c rfl .n)) ce44 (zqb (k1:=true) (u1:=u2_1r3) (v1:=u2_2r3) (q1:=(qx+(- qz))*(qx+(- qz))) (k2:=true) (u2:=u7_1r3) (v2:=u7_2r3) (q2:=((4:Int):Rat)*(qy*qy)) (hl:=by first|rfl|assumption|omega)) (.c (j:=3) rfl (.c (j:=0) rfl .n)) ?_
        rintro ⟨u8_1r3,u8_2r3⟩ -
        dsimp only [List.append_eq,List.nil_append,List.cons_append]
        exact zV (hD1 (u2_1r3,u2_2r3,u3_1r3,u3_2r3,u6_1r3,u6_2r3,u7_1r3,u7_2r3,u8_1r3,u8_2r3,u9_1r3)) (by kernel_rfl) ((.of rfl):SubM _ _) .rfl .rfl ((.of [0,1,2,3,4,5,6,7,8,9,10,11,12] rfl):SelR _ _ _)
      refine zka (X:=Wd×Wd×Wd×Wd×Wd×Wd×Wd×Wd) (k':=3) (L':=(lb 11 255)) (fun (u2_1r3,u2_2r3,u3_1r3,u3_2r3,u6_1r3,u6_2r3,u7_1r3,u7_2r3)=>([(57,.agg (cw [u7_1r3,u7_2r3]).toArray),(52,.agg (cw [u2_1r3,u2_2r3]).toArray),(15,.pointer (some ⟨u5_1r2,0,none⟩)),(7,.int .i64 0),(6,.bool false)],[],[boxA u5_1r2 42 (cw [u4_1r2,u4_2r2]),boxA u4_1 42 (cw [u3_1,u3_2]),boxA b18 42 (cw [w316,w417]),boxA b10 42 (cw [w76,w87]),boxA b9 42 (cw [w54,w65]),boxA b8 42 (cw [w32,w43]),boxA b1 33 [.int .i64 ar,.int .i64 le,.int .i64 tp,.int .i64 rt,.int .i64 bt,.int .i64 sx,.int .i64 sy,.int .i64 xx,.int .i64 xy,.int .i64 yy,.int .i64 ms,.int .i64 mx,.int .i64 my]],[qF true u7_1r3 u7_2r3 (((4:Int):Rat)*(qy*qy)),qF true u6_1r3 u6_2r3 (qy*qy),qF true u3_1r3 u3_2r3 ((4:Int):Rat),qF true u2_1r3 u2_2r3 ((qx+(- qz))*(qx+(- qz))),qF true u4_1r2 u4_2r2 ((Rat.divInt num den)*(qx+qz)),qF true u3_1r2 u3_2r2 (qx+qz),qF true u3_1 u3_2 (qx+(- qz)),qF true u2_1 u2_2 (- qz),qF true w316 w417 (Rat.divInt num den),qF true w32 w43 qx,qF true w54 w65 qy,qF true w76 w87 qz])) ?_ (fun hD4=> ?_)
      ·
       rintro ⟨u2_1r3,u2_2r3,u3_1r3,u3_2r3,u6_1r3,u6_2r3,u7_1r3,u7_2r3⟩
       dsimp only [cw]
       refine zvb 8 9 (by kernel_rfl) ?_ ?_
       ·
        refine zw rfl rfl rfl rfl (.c rfl (.c rfl .n)) ce44 (zqb (k1:=true) (u1:=u2_1r3) (v1:=u2_2r3) (q1:=(qx+(- qz))*(qx+(- qz))) (k2:=true) (u2:=u7_1r3) (v2:=u7_2r3) (q2:=((4:Int):Rat)*(qy*qy)) (hl:=by first|rfl|assumption|omega)) (.c (j:=3) rfl (.c (j:=0) rfl .n)) ?_
        rintro ⟨u8_1r3,u8_2r3⟩ -
        dsimp only [List.append_eq,List.nil_append,List.cons_append]
        exact zV (hD2 (u2_1r3,u2_2r3,u3_1r3,u3_2r3,u6_1r3,u6_2r3,u7_1r3,u7_2r3,u8_1r3,u8_2r3)) (by kernel_rfl) ((.of rfl):SubM _ _) .rfl .rfl ((.of [0,1,2,3,4,5,6,7,8,9,10,11,12] rfl):SelR _ _ _)
       ·
        refine zKa rfl rfl rfl rfl (zu zr42 rfl) (fun u9_1r3 _=> ?_)
        exact zV (hD3 (u2_1r3,u2_2r3,u3_1r3,u3_2r3,u6_1r3,u6_2r3,u7_1r3,u7_2r3,u9_1r3)) (by kernel_rfl) ((.of rfl):SubM _ _) .rfl .rfl ((.of [0,1,2,3,4,5,6,7,8,9,10,11] rfl):SelR _ _ _)
      refine zka (X:=Wd×Wd×Wd×Wd×Wd×Wd×Nat) (k':=3) (L':=(lb 11 639)) (fun (u2_1r3,u2_2r3,u3_1r3,u3_2r3,u6_1r3,u6_2r3,u9_1r3)=>([(16,.pointer (some ⟨u9_1r3,0,none⟩)),(56,.agg (cw [u6_1r3,u6_2r3]).toArray),(53,.agg (cw [u3_1r3,u3_2r3]).toArray),(52,.agg (cw [u2_1r3,u2_2r3]).toArray),(15,.pointer (some ⟨u5_1r2,0,none⟩)),(7,.int .i64 0),(6,.bool false)],[boxA u9_1r3 42 [.bool false,.slice none 0 0,.bool false,.slice none 0 0]],[boxA u5_1r2 42 (cw [u4_1r2,u4_2r2]),boxA u4_1 42 (cw [u3_1,u3_2]),boxA b18 42 (cw [w316,w417]),boxA b10 42 (cw [w76,w87]),boxA b9 42 (cw [w54,w65]),boxA b8 42 (cw [w32,w43]),boxA b1 33 [.int .i64 ar,.int .i64 le,.int .i64 tp,.int .i64 rt,.int .i64 bt,.int .i64 sx,.int .i64 sy,.int .i64 xx,.int .i64 xy,.int .i64 yy,.int .i64 ms,.int .i64 mx,.int .i64 my]],[qF true u6_1r3 u6_2r3 (qy*qy),qF true u3_1r3 u3_2r3 ((4:Int):Rat),qF true u2_1r3 u2_2r3 ((qx+(- qz))*(qx+(- qz))),qF true u4_1r2 u4_2r2 ((Rat.divInt num den)*(qx+qz)),qF true u3_1r2 u3_2r2 (qx+qz),qF true u3_1 u3_2 (qx+(- qz)),qF true u2_1 u2_2 (- qz),qF true w316 w417 (Rat.divInt num den),qF true w32 w43 qx,qF true w54 w65 qy,qF true w76 w87 qz])) ?_ (fun hD5=> ?_)
      ·
       rintro ⟨u2_1r3,u2_2r3,u3_1r3,u3_2r3,u6_1r3,u6_2r3,u9_1r3⟩
       dsimp only [cw]
       refine zG 7 (by kernel_rfl) ?_
       ·
        refine zw rfl rfl rfl rfl (.c rfl (.c rfl .n)) ce46 (zeb (k1:=true) (u1:=u3_1r3) (v1:=u3_2r3) (q1:=((4:Int):Rat)) (k2:=true) (u2:=u6_1r3) (v2:=u6_2r3) (q2:=qy*qy) (hl:=by first|rfl|assumption|omega)) (.c (j:=1) rfl (.c (j:=0) rfl .n)) ?_
        rintro ⟨u7_1r3,u7_2r3⟩ -
        dsimp only [List.append_eq,List.nil_append,List.cons_append]
        exact zV (hD3 (u2_1r3,u2_2r3,u3_1r3,u3_2r3,u6_1r3,u6_2r3,u7_1r3,u7_2r3,u9_1r3)) (by kernel_rfl) ((.of rfl):SubM _ _) .rfl .rfl ((.of [0,1,2,3,4,5,6,7,8,9,10,11] rfl):SelR _ _ _)
      refine zka (X:=Wd×Wd×Wd×Wd×Wd×Wd) (k':=4) (L':=(lb 11 127)) (fun (u2_1r3,u2_2r3,u3_1r3,u3_2r3,u6_1r3,u6_2r3)=>([(56,.agg (cw [u6_1r3,u6_2r3]).toArray),(53,.agg (cw [u3_1r3,u3_2r3]).toArray),(52,.agg (cw [u2_1r3,u2_2r3]).toArray),(15,.pointer (some ⟨u5_1r2,0,none⟩)),(7,.int .i64 0),(6,.bool false)],[],[boxA u5_1r2 42 (cw [u4_1r2,u4_2r2]),boxA u4_1 42 (cw [u3_1,u3_2]),boxA b18 42 (cw [w316,w417]),boxA b10 42 (cw [w76,w87]),boxA b9 42 (cw [w54,w65]),boxA b8 42 (cw [w32,w43]),boxA b1 33 [.int .i64 ar,.int .i64 le,.int .i64 tp,.int .i64 rt,.int .i64 bt,.int .i64 sx,.int .i64 sy,.int .i64 xx,.int .i64 xy,.int .i64 yy,.int .i64 ms,.int .i64 mx,.int .i64 my]],[qF true u6_1r3 u6_2r3 (qy*qy),qF true u3_1r3 u3_2r3 ((4:Int):Rat),qF true u2_1r3 u2_2r3 ((qx+(- qz))*(qx+(- qz))),qF true u4_1r2 u4_2r2 ((Rat.divInt num den)*(qx+qz)),qF true u3_1r2 u3_2r2 (qx+qz),qF true u3_1 u3_2 (qx+(- qz)),qF true u2_1 u2_2 (- qz),qF true w316 w417 (Rat.divInt num den),qF true w32 w43 qx,qF true w54 w65 qy,qF true w76 w87 qz])) ?_ (fun hD6=> ?_)
      ·
       rintro ⟨u2_1r3,u2_2r3,u3_1r3,u3_2r3,u6_1r3,u6_2r3⟩
       dsimp only [cw]
       refine zvb 7 9 (by kernel_rfl) ?_ ?_
       ·
        refine zw rfl rfl rfl rfl (.c rfl (.c rfl .n)) ce46 (zeb (k1:=true) (u1:=u3_1r3) (v1:=u3_2r3) (q1:=((4:Int):Rat)) (k2:=true) (u2:=u6_1r3) (v2:=u6_2r3) (q2:=qy*qy) (hl:=by first|rfl|assumption|omega)) (.c (j:=1) rfl (.c (j:=0) rfl .n)) ?_
        rintro ⟨u7_1r3,u7_2r3⟩ -
        dsimp only [List.append_eq,List.nil_append,List.cons_append]
        exact zV (hD4 (u2_1r3,u2_2r3,u3_1r3,u3_2r3,u6_1r3,u6_2r3,u7_1r3,u7_2r3)) (by kernel_rfl) ((.of rfl):SubM _ _) .rfl .rfl ((.of [0,1,2,3,4,5,6,7,8,9,10,11] rfl):SelR _ _ _)
       ·
        refine zKa rfl rfl rfl rfl (zu zr42 rfl) (fun u9_1r3 _=> ?_)
        exact zV (hD5 (u2_1r3,u2_2r3,u3_1r3,u3_2r3,u6_1r3,u6_2r3,u9_1r3)) (by kernel_rfl) ((.of rfl):SubM _ _) .rfl .rfl ((.of [0,1,2,3,4,5,6,7,8,9,10] rfl):SelR _ _ _)
      refine zka (X:=Wd×Wd×Wd×Wd×Nat) (k':=4) (L':=(lb 11 575)) (fun (u2_1r3,u2_2r3,u3_1r3,u3_2r3,u9_1r3)=>([(16,.pointer (some ⟨u9_1r3,0,none⟩)),(53,.agg (cw [u3_1r3,u3_2r3]).toArray),(52,.agg (cw [u2_1r3,u2_2r3]).toArray),(55,.agg (cw [w54,w65]).toArray),(54,.agg (cw [w54,w65]).toArray),(15,.pointer (some ⟨u5_1r2,0,none⟩)),(7,.int .i64 0),(6,.bool false)],[boxA u9_1r3 42 [.bool false,.slice none 0 0,.bool false,.slice none 0 0]],[boxA u5_1r2 42 (cw [u4_1r2,u4_2r2]),boxA u4_1 42 (cw [u3_1,u3_2]),boxA b18 42 (cw [w316,w417]),boxA b10 42 (cw [w76,w87]),boxA b9 42 (cw [w54,w65]),boxA b8 42 (cw [w32,w43]),boxA b1 33 [.int .i64 ar,.int .i64 le,.int .i64 tp,.int .i64 rt,.int .i64 bt,.int .i64 sx,.int .i64 sy,.int .i64 xx,.int .i64 xy,.int .i64 yy,.int .i64 ms,.int .i64 mx,.int .i64 my]],[qF true u3_1r3 u3_2r3 ((4:Int):Rat),qF true u2_1r3 u2_2r3 ((qx+(- qz))*(qx+(- qz))),qF true u4_1r2 u4_2r2 ((Rat.divInt num den)*(qx+qz)),qF true u3_1r2 u3_2r2 (qx+qz),qF true u3_1 u3_2 (qx+(- qz)),qF true u2_1 u2_2 (- qz),qF true w316 w417 (Rat.divInt num den),qF true w32 w43 qx,qF true w54 w65 qy,qF true w76 w87 qz])) ?_ (fun hD7=> ?_)
      ·
       rintro ⟨u2_1r3,u2_2r3,u3_1r3,u3_2r3,u9_1r3⟩
       dsimp only [cw]
       refine zG 6 (by kernel_rfl) ?_
       ·
        refine zw rfl rfl rfl rfl (.c rfl (.c rfl .n)) ce46 (zeb (k1:=true) (u1:=w54) (v1:=w65) (q1:=qy) (k2:=true) (u2:=w54) (v2:=w65) (q2:=qy) (hl:=by first|rfl|assumption|omega)) (.c (j:=8) rfl (.c (j:=8) rfl .n)) ?_
        rintro ⟨u6_1r3,u6_2r3⟩ -
        dsimp only [List.append_eq,List.nil_append,List.cons_append]
        exact zV (hD5 (u2_1r3,u2_2r3,u3_1r3,u3_2r3,u6_1r3,u6_2r3,u9_1r3)) (by kernel_rfl) ((.of rfl):SubM _ _) .rfl .rfl ((.of [0,1,2,3,4,5,6,7,8,9,10] rfl):SelR _ _ _)
      refine zka (X:=Wd×Wd×Wd×Wd) (k':=5) (L':=(lb 11 63)) (fun (u2_1r3,u2_2r3,u3_1r3,u3_2r3)=>([(53,.agg (cw [u3_1r3,u3_2r3]).toArray),(52,.agg (cw [u2_1r3,u2_2r3]).toArray),(55,.agg (cw [w54,w65]).toArray),(54,.agg (cw [w54,w65]).toArray),(15,.pointer (some ⟨u5_1r2,0,none⟩)),(7,.int .i64 0),(6,.bool false)],[],[boxA u5_1r2 42 (cw [u4_1r2,u4_2r2]),boxA u4_1 42 (cw [u3_1,u3_2]),boxA b18 42 (cw [w316,w417]),boxA b10 42 (cw [w76,w87]),boxA b9 42 (cw [w54,w65]),boxA b8 42 (cw [w32,w43]),boxA b1 33 [.int .i64 ar,.int .i64 le,.int .i64 tp,.int .i64 rt,.int .i64 bt,.int .i64 sx,.int .i64 sy,.int .i64 xx,.int .i64 xy,.int .i64 yy,.int .i64 ms,.int .i64 mx,.int .i64 my]],[qF true u3_1r3 u3_2r3 ((4:Int):Rat),qF true u2_1r3 u2_2r3 ((qx+(- qz))*(qx+(- qz))),qF true u4_1r2 u4_2r2 ((Rat.divInt num den)*(qx+qz)),qF true u3_1r2 u3_2r2 (qx+qz),qF true u3_1 u3_2 (qx+(- qz)),qF true u2_1 u2_2 (- qz),qF true w316 w417 (Rat.divInt num den),qF true w32 w43 qx,qF true w54 w65 qy,qF true w76 w87 qz])) ?_ (fun hD8=> ?_)
      ·
       rintro ⟨u2_1r3,u2_2r3,u3_1r3,u3_2r3⟩
       dsimp only [cw]
       refine zvb 6 9 (by kernel_rfl) ?_ ?_
       ·
        refine zw rfl rfl rfl rfl (.c rfl (.c rfl .n)) ce46 (zeb (k1:=true) (u1:=w54) (v1:=w65) (q1:=qy) (k2:=true) (u2:=w54) (v2:=w65) (q2:=qy) (hl:=by first|rfl|assumption|omega)) (.c (j:=8) rfl (.c (j:=8) rfl .n)) ?_
        rintro ⟨u6_1r3,u6_2r3⟩ -
        dsimp only [List.append_eq,List.nil_append,List.cons_append]
        exact zV (hD6 (u2_1r3,u2_2r3,u3_1r3,u3_2r3,u6_1r3,u6_2r3)) (by kernel_rfl) ((.of rfl):SubM _ _) .rfl .rfl ((.of [0,1,2,3,4,5,6,7,8,9,10] rfl):SelR _ _ _)
       ·
        refine zKa rfl rfl rfl rfl (zu zr42 rfl) (fun u9_1r3 _=> ?_)
        exact zV (hD7 (u2_1r3,u2_2r3,u3_1r3,u3_2r3,u9_1r3)) (by kernel_rfl) ((.of rfl):SubM _ _) .rfl .rfl ((.of [0,1,2,3,4,5,6,7,8,9] rfl):SelR _ _ _)
      refine zka (X:=Wd×Wd×Nat) (k':=5) (L':=(lb 11 567)) (fun (u2_1r3,u2_2r3,u9_1r3)=>([(16,.pointer (some ⟨u9_1r3,0,none⟩)),(52,.agg (cw [u2_1r3,u2_2r3]).toArray),(55,.agg (cw [w54,w65]).toArray),(54,.agg (cw [w54,w65]).toArray),(15,.pointer (some ⟨u5_1r2,0,none⟩)),(7,.int .i64 0),(6,.bool false)],[boxA u9_1r3 42 [.bool false,.slice none 0 0,.bool false,.slice none 0 0]],[boxA u5_1r2 42 (cw [u4_1r2,u4_2r2]),boxA u4_1 42 (cw [u3_1,u3_2]),boxA b18 42 (cw [w316,w417]),boxA b10 42 (cw [w76,w87]),boxA b9 42 (cw [w54,w65]),boxA b8 42 (cw [w32,w43]),boxA b1 33 [.int .i64 ar,.int .i64 le,.int .i64 tp,.int .i64 rt,.int .i64 bt,.int .i64 sx,.int .i64 sy,.int .i64 xx,.int .i64 xy,.int .i64 yy,.int .i64 ms,.int .i64 mx,.int .i64 my]],[qF true u2_1r3 u2_2r3 ((qx+(- qz))*(qx+(- qz))),qF true u4_1r2 u4_2r2 ((Rat.divInt num den)*(qx+qz)),qF true u3_1r2 u3_2r2 (qx+qz),qF true u3_1 u3_2 (qx+(- qz)),qF true u2_1 u2_2 (- qz),qF true w316 w417 (Rat.divInt num den),qF true w32 w43 qx,qF true w54 w65 qy,qF true w76 w87 qz])) ?_ (fun hD9=> ?_)
      ·
       rintro ⟨u2_1r3,u2_2r3,u9_1r3⟩
       dsimp only [cw]
       refine zG 3 (by kernel_rfl) ?_
       ·
        refine zw rfl rfl rfl rfl (.c rfl .n) ce47 (zpe (z:=(4:Int)) (hz:=by omega)) (.n) ?_
        rintro ⟨u3_1r3,u3_2r3⟩ -
        dsimp only [List.append_eq,List.nil_append,List.cons_append]
        exact zV (hD7 (u2_1r3,u2_2r3,u3_1r3,u3_2r3,u9_1r3)) (by kernel_rfl) ((.of rfl):SubM _ _) .rfl .rfl ((.of [0,1,2,3,4,5,6,7,8,9] rfl):SelR _ _ _)
      refine zka (X:=Wd×Wd) (k':=6) (L':=(lb 11 55)) (fun (u2_1r3,u2_2r3)=>([(52,.agg (cw [u2_1r3,u2_2r3]).toArray),(55,.agg (cw [w54,w65]).toArray),(54,.agg (cw [w54,w65]).toArray),(15,.pointer (some ⟨u5_1r2,0,none⟩)),(7,.int .i64 0),(6,.bool false)],[],[boxA u5_1r2 42 (cw [u4_1r2,u4_2r2]),boxA u4_1 42 (cw [u3_1,u3_2]),boxA b18 42 (cw [w316,w417]),boxA b10 42 (cw [w76,w87]),boxA b9 42 (cw [w54,w65]),boxA b8 42 (cw [w32,w43]),boxA b1 33 [.int .i64 ar,.int .i64 le,.int .i64 tp,.int .i64 rt,.int .i64 bt,.int .i64 sx,.int .i64 sy,.int .i64 xx,.int .i64 xy,.int .i64 yy,.int .i64 ms,.int .i64 mx,.int .i64 my]],[qF true u2_1r3 u2_2r3 ((qx+(- qz))*(qx+(- qz))),qF true u4_1r2 u4_2r2 ((Rat.divInt num den)*(qx+qz)),qF true u3_1r2 u3_2r2 (qx+qz),qF true u3_1 u3_2 (qx+(- qz)),qF true u2_1 u2_2 (- qz),qF true w316 w417 (Rat.divInt num den),qF true w32 w43 qx,qF true w54 w65 qy,qF true w76 w87 qz])) ?_ (fun hD10=> ?_)
      ·
       rintro ⟨u2_1r3,u2_2r3⟩
       dsimp only [cw]
       refine zvb 3 9 (by kernel_rfl) ?_ ?_
       ·
        refine zw rfl rfl rfl rfl (.c rfl .n) ce47 (zpe (z:=(4:Int)) (hz:=by omega)) (.n) ?_
        rintro ⟨u3_1r3,u3_2r3⟩ -
        dsimp only [List.append_eq,List.nil_append,List.cons_append]
        exact zV (hD8 (u2_1r3,u2_2r3,u3_1r3,u3_2r3)) (by kernel_rfl) ((.of rfl):SubM _ _) .rfl .rfl ((.of [0,1,2,3,4,5,6,7,8,9] rfl):SelR _ _ _)
       ·
        refine zKa rfl rfl rfl rfl (zu zr42 rfl) (fun u9_1r3 _=> ?_)
        exact zV (hD9 (u2_1r3,u2_2r3,u9_1r3)) (by kernel_rfl) ((.of rfl):SubM _ _) .rfl .rfl ((.of [0,1,2,3,4,5,6,7,8] rfl):SelR _ _ _)
      refine zka (X:=Nat) (k':=6) (L':=(lb 11 563)) (fun u9_1r3=>([(16,.pointer (some ⟨u9_1r3,0,none⟩)),(55,.agg (cw [w54,w65]).toArray),(54,.agg (cw [w54,w65]).toArray),(51,.agg (cw [u3_1,u3_2]).toArray),(50,.agg (cw [u3_1,u3_2]).toArray),(15,.pointer (some ⟨u5_1r2,0,none⟩)),(7,.int .i64 0),(6,.bool false)],[boxA u9_1r3 42 [.bool false,.slice none 0 0,.bool false,.slice none 0 0]],[boxA u5_1r2 42 (cw [u4_1r2,u4_2r2]),boxA u4_1 42 (cw [u3_1,u3_2]),boxA b18 42 (cw [w316,w417]),boxA b10 42 (cw [w76,w87]),boxA b9 42 (cw [w54,w65]),boxA b8 42 (cw [w32,w43]),boxA b1 33 [.int .i64 ar,.int .i64 le,.int .i64 tp,.int .i64 rt,.int .i64 bt,.int .i64 sx,.int .i64 sy,.int .i64 xx,.int .i64 xy,.int .i64 yy,.int .i64 ms,.int .i64 mx,.int .i64 my]],[qF true u4_1r2 u4_2r2 ((Rat.divInt num den)*(qx+qz)),qF true u3_1r2 u3_2r2 (qx+qz),qF true u3_1 u3_2 (qx+(- qz)),qF true u2_1 u2_2 (- qz),qF true w316 w417 (Rat.divInt num den),qF true w32 w43 qx,qF true w54 w65 qy,qF true w76 w87 qz])) ?_ (fun hD11=> ?_)
      ·
       rintro u9_1r3
       dsimp only [cw]
       refine zG 2 (by kernel_rfl) ?_
       ·
        refine zw rfl rfl rfl rfl (.c rfl (.c rfl .n)) ce46 (zeb (k1:=true) (u1:=u3_1) (v1:=u3_2) (q1:=qx+(- qz)) (k2:=true) (u2:=u3_1) (v2:=u3_2) (q2:=qx+(- qz)) (hl:=by first|rfl|assumption|omega)) (.c (j:=2) rfl (.c (j:=2) rfl .n)) ?_
        rintro ⟨u2_1r3,u2_2r3⟩ -
        dsimp only [List.append_eq,List.nil_append,List.cons_append]
        exact zV (hD9 (u2_1r3,u2_2r3,u9_1r3)) (by kernel_rfl) ((.of rfl):SubM _ _) .rfl .rfl ((.of [0,1,2,3,4,5,6,7,8] rfl):SelR _ _ _)
      refine zvb 2 9 (by kernel_rfl) ?_ ?_
      ·
       refine zw rfl rfl rfl rfl (.c rfl (.c rfl .n)) ce46 (zeb (k1:=true) (u1:=u3_1) (v1:=u3_2) (q1:=qx+(- qz)) (k2:=true) (u2:=u3_1) (v2:=u3_2) (q2:=qx+(- qz)) (hl:=by first|rfl|assumption|omega)) (.c (j:=2) rfl (.c (j:=2) rfl .n)) ?_
       rintro ⟨u2_1r3,u2_2r3⟩ -
       dsimp only [List.append_eq,List.nil_append,List.cons_append]
       exact zV (hD10 (u2_1r3,u2_2r3)) (by kernel_rfl) ((.of rfl):SubM _ _) .rfl .rfl ((.of [0,1,2,3,4,5,6,7,8] rfl):SelR _ _ _)
      ·
       refine zKa rfl rfl rfl rfl (zu zr42 rfl) (fun u9_1r3 _=> ?_)
       exact zV (hD11 u9_1r3) (by kernel_rfl) ((.of rfl):SubM _ _) .rfl .rfl ((.of [0,1,2,3,4,5,6,7] rfl):SelR _ _ _)
     refine zka (X:=Wd×Wd×Wd×Wd×Nat) (k':=1) (L':=(lb 7 63)) (fun (u3_1r2,u3_2r2,u4_1r2,u4_2r2,u5_1r2)=>([(15,.pointer (some ⟨u5_1r2,0,none⟩)),(49,.agg (cw [u4_1r2,u4_2r2]).toArray),(14,.pointer (some ⟨u4_1,0,none⟩)),(9,.pointer (some ⟨b9,0,none⟩)),(7,.int .i64 0),(6,.bool false)],[boxA u5_1r2 42 [.bool false,.slice none 0 0,.bool false,.slice none 0 0]],[boxA u4_1 42 (cw [u3_1,u3_2]),boxA b18 42 (cw [w316,w417]),boxA b10 42 (cw [w76,w87]),boxA b9 42 (cw [w54,w65]),boxA b8 42 (cw [w32,w43]),boxA b1 33 [.int .i64 ar,.int .i64 le,.int .i64 tp,.int .i64 rt,.int .i64 bt,.int .i64 sx,.int .i64 sy,.int .i64 xx,.int .i64 xy,.int .i64 yy,.int .i64 ms,.int .i64 mx,.int .i64 my]],[qF true u4_1r2 u4_2r2 ((Rat.divInt num den)*(qx+qz)),qF true u3_1r2 u3_2r2 (qx+qz),qF true u3_1 u3_2 (qx+(- qz)),qF true u2_1 u2_2 (- qz),qF true w316 w417 (Rat.divInt num den),qF true w32 w43 qx,qF true w54 w65 qy,qF true w76 w87 qz])) ?_ (fun hD1=> ?_)
     ·
      rintro ⟨u3_1r2,u3_2r2,u4_1r2,u4_2r2,u5_1r2⟩
      dsimp only [cw]
      refine zG 6 (by kernel_rfl) ?_
      ·
       refine zz (by kernel_rfl) rfl rfl rfl rfl rfl sz42 rfl (.take (.take (.take (.take .nil)))) ?_
       exact zV (hD0 (u3_1r2,u3_2r2,u4_1r2,u4_2r2,u5_1r2)) (by kernel_rfl) ((.of rfl):SubM _ _) .rfl .rfl ((.of [0,1,2,3,4,5,6,7] rfl):SelR _ _ _)
     refine zka (X:=Wd×Wd×Wd×Wd) (k':=2) (L':=(lb 7 31)) (fun (u3_1r2,u3_2r2,u4_1r2,u4_2r2)=>([(49,.agg (cw [u4_1r2,u4_2r2]).toArray),(14,.pointer (some ⟨u4_1,0,none⟩)),(9,.pointer (some ⟨b9,0,none⟩)),(7,.int .i64 0),(6,.bool false)],[],[boxA u4_1 42 (cw [u3_1,u3_2]),boxA b18 42 (cw [w316,w417]),boxA b10 42 (cw [w76,w87]),boxA b9 42 (cw [w54,w65]),boxA b8 42 (cw [w32,w43]),boxA b1 33 [.int .i64 ar,.int .i64 le,.int .i64 tp,.int .i64 rt,.int .i64 bt,.int .i64 sx,.int .i64 sy,.int .i64 xx,.int .i64 xy,.int .i64 yy,.int .i64 ms,.int .i64 mx,.int .i64 my]],[qF true u4_1r2 u4_2r2 ((Rat.divInt num den)*(qx+qz)),qF true u3_1r2 u3_2r2 (qx+qz),qF true u3_1 u3_2 (qx+(- qz)),qF true u2_1 u2_2 (- qz),qF true w316 w417 (Rat.divInt num den),qF true w32 w43 qx,qF true w54 w65 qy,qF true w76 w87 qz])) ?_ (fun hD2=> ?_)
     ·
      rintro ⟨u3_1r2,u3_2r2,u4_1r2,u4_2r2⟩
      dsimp only [cw]
      refine zG 5 (by kernel_rfl) ?_
      ·
       refine zKa rfl rfl rfl rfl (zu zr42 rfl) (fun u5_1r2 _=> ?_)
       exact zV (hD1 (u3_1r2,u3_2r2,u4_1r2,u4_2r2,u5_1r2)) (by kernel_rfl) ((.of rfl):SubM _ _) .rfl .rfl ((.of [0,1,2,3,4,5,6,7] rfl):SelR _ _ _)
     refine zka (X:=Wd×Wd×Nat) (k':=2) (L':=(lb 7 47)) (fun (u3_1r2,u3_2r2,u5_1r2)=>([(15,.pointer (some ⟨u5_1r2,0,none⟩)),(48,.agg (cw [u3_1r2,u3_2r2]).toArray),(45,.agg (cw [w316,w417]).toArray),(14,.pointer (some ⟨u4_1,0,none⟩)),(9,.pointer (some ⟨b9,0,none⟩)),(7,.int .i64 0),(6,.bool false)],[boxA u5_1r2 42 [.bool false,.slice none 0 0,.bool false,.slice none 0 0]],[boxA u4_1 42 (cw [u3_1,u3_2]),boxA b18 42 (cw [w316,w417]),boxA b10 42 (cw [w76,w87]),boxA b9 42 (cw [w54,w65]),boxA b8 42 (cw [w32,w43]),boxA b1 33 [.int .i64 ar,.int .i64 le,.int .i64 tp,.int .i64 rt,.int .i64 bt,.int .i64 sx,.int .i64 sy,.int .i64 xx,.int .i64 xy,.int .i64 yy,.int .i64 ms,.int .i64 mx,.int .i64 my]],[qF true u3_1r2 u3_2r2 (qx+qz),qF true u3_1 u3_2 (qx+(- qz)),qF true u2_1 u2_2 (- qz),qF true w316 w417 (Rat.divInt num den),qF true w32 w43 qx,qF true w54 w65 qy,qF true w76 w87 qz])) ?_ (fun hD3=> ?_)
     ·
      rintro ⟨u3_1r2,u3_2r2,u5_1r2⟩
      dsimp only [cw]
      refine zG 4 (by kernel_rfl) ?_
      ·
       refine zw rfl rfl rfl rfl (.c rfl (.c rfl .n)) ce46 (zeb (k1:=true) (u1:=w316) (v1:=w417) (q1:=Rat.divInt num den) (k2:=true) (u2:=u3_1r2) (v2:=u3_2r2) (q2:=qx+qz) (hl:=by first|rfl|assumption|omega)) (.c (j:=3) rfl (.c (j:=0) rfl .n)) ?_
       rintro ⟨u4_1r2,u4_2r2⟩ -
       dsimp only [List.append_eq,List.nil_append,List.cons_append]
       exact zV (hD1 (u3_1r2,u3_2r2,u4_1r2,u4_2r2,u5_1r2)) (by kernel_rfl) ((.of rfl):SubM _ _) .rfl .rfl ((.of [0,1,2,3,4,5,6,7] rfl):SelR _ _ _)
     refine zka (X:=Wd×Wd) (k':=3) (L':=(lb 7 15)) (fun (u3_1r2,u3_2r2)=>([(48,.agg (cw [u3_1r2,u3_2r2]).toArray),(45,.agg (cw [w316,w417]).toArray),(14,.pointer (some ⟨u4_1,0,none⟩)),(9,.pointer (some ⟨b9,0,none⟩)),(7,.int .i64 0),(6,.bool false)],[],[boxA u4_1 42 (cw [u3_1,u3_2]),boxA b18 42 (cw [w316,w417]),boxA b10 42 (cw [w76,w87]),boxA b9 42 (cw [w54,w65]),boxA b8 42 (cw [w32,w43]),boxA b1 33 [.int .i64 ar,.int .i64 le,.int .i64 tp,.int .i64 rt,.int .i64 bt,.int .i64 sx,.int .i64 sy,.int .i64 xx,.int .i64 xy,.int .i64 yy,.int .i64 ms,.int .i64 mx,.int .i64 my]],[qF true u3_1r2 u3_2r2 (qx+qz),qF true u3_1 u3_2 (qx+(- qz)),qF true u2_1 u2_2 (- qz),qF true w316 w417 (Rat.divInt num den),qF true w32 w43 qx,qF true w54 w65 qy,qF true w76 w87 qz])) ?_ (fun hD4=> ?_)
     ·
      rintro ⟨u3_1r2,u3_2r2⟩
      dsimp only [cw]
      refine zvb 4 5 (by kernel_rfl) ?_ ?_
      ·
       refine zw rfl rfl rfl rfl (.c rfl (.c rfl .n)) ce46 (zeb (k1:=true) (u1:=w316) (v1:=w417) (q1:=Rat.divInt num den) (k2:=true) (u2:=u3_1r2) (v2:=u3_2r2) (q2:=qx+qz) (hl:=by first|rfl|assumption|omega)) (.c (j:=3) rfl (.c (j:=0) rfl .n)) ?_
       rintro ⟨u4_1r2,u4_2r2⟩ -
       dsimp only [List.append_eq,List.nil_append,List.cons_append]
       exact zV (hD2 (u3_1r2,u3_2r2,u4_1r2,u4_2r2)) (by kernel_rfl) ((.of rfl):SubM _ _) .rfl .rfl ((.of [0,1,2,3,4,5,6,7] rfl):SelR _ _ _)
      ·
       refine zKa rfl rfl rfl rfl (zu zr42 rfl) (fun u5_1r2 _=> ?_)
       exact zV (hD3 (u3_1r2,u3_2r2,u5_1r2)) (by kernel_rfl) ((.of rfl):SubM _ _) .rfl .rfl ((.of [0,1,2,3,4,5,6] rfl):SelR _ _ _)
     refine zka (X:=Nat) (k':=3) (L':=(lb 7 39)) (fun u5_1r2=>([(15,.pointer (some ⟨u5_1r2,0,none⟩)),(47,.agg (cw [w76,w87]).toArray),(46,.agg (cw [w32,w43]).toArray),(45,.agg (cw [w316,w417]).toArray),(14,.pointer (some ⟨u4_1,0,none⟩)),(9,.pointer (some ⟨b9,0,none⟩)),(7,.int .i64 0),(6,.bool false)],[boxA u5_1r2 42 [.bool false,.slice none 0 0,.bool false,.slice none 0 0]],[boxA u4_1 42 (cw [u3_1,u3_2]),boxA b18 42 (cw [w316,w417]),boxA b10 42 (cw [w76,w87]),boxA b9 42 (cw [w54,w65]),boxA b8 42 (cw [w32,w43]),boxA b1 33 [.int .i64 ar,.int .i64 le,.int .i64 tp,.int .i64 rt,.int .i64 bt,.int .i64 sx,.int .i64 sy,.int .i64 xx,.int .i64 xy,.int .i64 yy,.int .i64 ms,.int .i64 mx,.int .i64 my]],[qF true u3_1 u3_2 (qx+(- qz)),qF true u2_1 u2_2 (- qz),qF true w316 w417 (Rat.divInt num den),qF true w32 w43 qx,qF true w54 w65 qy,qF true w76 w87 qz])) ?_ (fun hD5=> ?_)
     ·
      rintro u5_1r2
      dsimp only [cw]
      refine zG 3 (by kernel_rfl) ?_
      ·
       refine zw rfl rfl rfl rfl (.c rfl (.c rfl .n)) ce44 (zqb (k1:=true) (u1:=w32) (v1:=w43) (q1:=qx) (k2:=true) (u2:=w76) (v2:=w87) (q2:=qz) (hl:=by first|rfl|assumption|omega)) (.c (j:=3) rfl (.c (j:=5) rfl .n)) ?_
       rintro ⟨u3_1r2,u3_2r2⟩ -
       dsimp only [List.append_eq,List.nil_append,List.cons_append]
       exact zV (hD3 (u3_1r2,u3_2r2,u5_1r2)) (by kernel_rfl) ((.of rfl):SubM _ _) .rfl .rfl ((.of [0,1,2,3,4,5,6] rfl):SelR _ _ _)
     refine zvb 3 5 (by kernel_rfl) ?_ ?_
     ·
      refine zw rfl rfl rfl rfl (.c rfl (.c rfl .n)) ce44 (zqb (k1:=true) (u1:=w32) (v1:=w43) (q1:=qx) (k2:=true) (u2:=w76) (v2:=w87) (q2:=qz) (hl:=by first|rfl|assumption|omega)) (.c (j:=3) rfl (.c (j:=5) rfl .n)) ?_
      rintro ⟨u3_1r2,u3_2r2⟩ -
      dsimp only [List.append_eq,List.nil_append,List.cons_append]
      exact zV (hD4 (u3_1r2,u3_2r2)) (by kernel_rfl) ((.of rfl):SubM _ _) .rfl .rfl ((.of [0,1,2,3,4,5,6] rfl):SelR _ _ _)
     ·
      refine zKa rfl rfl rfl rfl (zu zr42 rfl) (fun u5_1r2 _=> ?_)
      exact zV (hD5 u5_1r2) (by kernel_rfl) ((.of rfl):SubM _ _) .rfl .rfl ((.of [0,1,2,3,4,5] rfl):SelR _ _ _)
    refine zka (X:=Wd×Wd×Wd×Wd×Nat) (k':=1) (L':=(lb 6 31)) (fun (u2_1,u2_2,u3_1,u3_2,u4_1)=>([(14,.pointer (some ⟨u4_1,0,none⟩)),(44,.agg (cw [u3_1,u3_2]).toArray),(12,.pointer (some ⟨b18,0,none⟩)),(10,.pointer (some ⟨b10,0,none⟩)),(9,.pointer (some ⟨b9,0,none⟩)),(8,.pointer (some ⟨b8,0,none⟩)),(7,.int .i64 0),(6,.bool false)],[boxA u4_1 42 [.bool false,.slice none 0 0,.bool false,.slice none 0 0]],[boxA b18 42 (cw [w316,w417]),boxA b10 42 (cw [w76,w87]),boxA b9 42 (cw [w54,w65]),boxA b8 42 (cw [w32,w43]),boxA b1 33 [.int .i64 ar,.int .i64 le,.int .i64 tp,.int .i64 rt,.int .i64 bt,.int .i64 sx,.int .i64 sy,.int .i64 xx,.int .i64 xy,.int .i64 yy,.int .i64 ms,.int .i64 mx,.int .i64 my]],[qF true u3_1 u3_2 (qx+(- qz)),qF true u2_1 u2_2 (- qz),qF true w316 w417 (Rat.divInt num den),qF true w32 w43 qx,qF true w54 w65 qy,qF true w76 w87 qz])) ?_ (fun hD1=> ?_)
    ·
     rintro ⟨u2_1,u2_2,u3_1,u3_2,u4_1⟩
     dsimp only [cw]
     refine zG 5 (by kernel_rfl) ?_
     ·
      refine zz (by kernel_rfl) rfl rfl rfl rfl rfl sz42 rfl (.take (.take (.take (.take .nil)))) ?_
      exact zV (hD0 (u2_1,u2_2,u3_1,u3_2,u4_1)) (by kernel_rfl) ((.of rfl):SubM _ _) .rfl .rfl ((.of [0,1,2,3,4,5] rfl):SelR _ _ _)
    refine zka (X:=Wd×Wd×Wd×Wd) (k':=2) (L':=(lb 6 15)) (fun (u2_1,u2_2,u3_1,u3_2)=>([(44,.agg (cw [u3_1,u3_2]).toArray),(12,.pointer (some ⟨b18,0,none⟩)),(10,.pointer (some ⟨b10,0,none⟩)),(9,.pointer (some ⟨b9,0,none⟩)),(8,.pointer (some ⟨b8,0,none⟩)),(7,.int .i64 0),(6,.bool false)],[],[boxA b18 42 (cw [w316,w417]),boxA b10 42 (cw [w76,w87]),boxA b9 42 (cw [w54,w65]),boxA b8 42 (cw [w32,w43]),boxA b1 33 [.int .i64 ar,.int .i64 le,.int .i64 tp,.int .i64 rt,.int .i64 bt,.int .i64 sx,.int .i64 sy,.int .i64 xx,.int .i64 xy,.int .i64 yy,.int .i64 ms,.int .i64 mx,.int .i64 my]],[qF true u3_1 u3_2 (qx+(- qz)),qF true u2_1 u2_2 (- qz),qF true w316 w417 (Rat.divInt num den),qF true w32 w43 qx,qF true w54 w65 qy,qF true w76 w87 qz])) ?_ (fun hD2=> ?_)
    ·
     rintro ⟨u2_1,u2_2,u3_1,u3_2⟩
     dsimp only [cw]
     refine zG 4 (by kernel_rfl) ?_
     ·
      refine zKa rfl rfl rfl rfl (zu zr42 rfl) (fun u4_1 _=> ?_)
      exact zV (hD1 (u2_1,u2_2,u3_1,u3_2,u4_1)) (by kernel_rfl) ((.of rfl):SubM _ _) .rfl .rfl ((.of [0,1,2,3,4,5] rfl):SelR _ _ _)
    refine zka (X:=Wd×Wd×Nat) (k':=2) (L':=(lb 6 23)) (fun (u2_1,u2_2,u4_1)=>([(14,.pointer (some ⟨u4_1,0,none⟩)),(43,.agg (cw [u2_1,u2_2]).toArray),(41,.agg (cw [w32,w43]).toArray),(12,.pointer (some ⟨b18,0,none⟩)),(10,.pointer (some ⟨b10,0,none⟩)),(9,.pointer (some ⟨b9,0,none⟩)),(8,.pointer (some ⟨b8,0,none⟩)),(7,.int .i64 0),(6,.bool false)],[boxA u4_1 42 [.bool false,.slice none 0 0,.bool false,.slice none 0 0]],[boxA b18 42 (cw [w316,w417]),boxA b10 42 (cw [w76,w87]),boxA b9 42 (cw [w54,w65]),boxA b8 42 (cw [w32,w43]),boxA b1 33 [.int .i64 ar,.int .i64 le,.int .i64 tp,.int .i64 rt,.int .i64 bt,.int .i64 sx,.int .i64 sy,.int .i64 xx,.int .i64 xy,.int .i64 yy,.int .i64 ms,.int .i64 mx,.int .i64 my]],[qF true u2_1 u2_2 (- qz),qF true w316 w417 (Rat.divInt num den),qF true w32 w43 qx,qF true w54 w65 qy,qF true w76 w87 qz])) ?_ (fun hD3=> ?_)
    ·
     rintro ⟨u2_1,u2_2,u4_1⟩
     dsimp only [cw]
     refine zG 3 (by kernel_rfl) ?_
     ·
      refine zw rfl rfl rfl rfl (.c rfl (.c rfl .n)) ce44 (zqb (k1:=true) (u1:=w32) (v1:=w43) (q1:=qx) (k2:=true) (u2:=u2_1) (v2:=u2_2) (q2:= - qz) (hl:=by first|rfl|assumption|omega)) (.c (j:=2) rfl (.c (j:=0) rfl .n)) ?_
      rintro ⟨u3_1,u3_2⟩ -
      dsimp only [List.append_eq,List.nil_append,List.cons_append]
      exact zV (hD1 (u2_1,u2_2,u3_1,u3_2,u4_1)) (by kernel_rfl) ((.of rfl):SubM _ _) .rfl .rfl ((.of [0,1,2,3,4,5] rfl):SelR _ _ _)
    refine zka (X:=Wd×Wd) (k':=3) (L':=(lb 6 7)) (fun (u2_1,u2_2)=>([(43,.agg (cw [u2_1,u2_2]).toArray),(41,.agg (cw [w32,w43]).toArray),(12,.pointer (some ⟨b18,0,none⟩)),(10,.pointer (some ⟨b10,0,none⟩)),(9,.pointer (some ⟨b9,0,none⟩)),(8,.pointer (some ⟨b8,0,none⟩)),(7,.int .i64 0),(6,.bool false)],[],[boxA b18 42 (cw [w316,w417]),boxA b10 42 (cw [w76,w87]),boxA b9 42 (cw [w54,w65]),boxA b8 42 (cw [w32,w43]),boxA b1 33 [.int .i64 ar,.int .i64 le,.int .i64 tp,.int .i64 rt,.int .i64 bt,.int .i64 sx,.int .i64 sy,.int .i64 xx,.int .i64 xy,.int .i64 yy,.int .i64 ms,.int .i64 mx,.int .i64 my]],[qF true u2_1 u2_2 (- qz),qF true w316 w417 (Rat.divInt num den),qF true w32 w43 qx,qF true w54 w65 qy,qF true w76 w87 qz])) ?_ (fun hD4=> ?_)
    ·
     rintro ⟨u2_1,u2_2⟩
     dsimp only [cw]
     refine zvb 3 4 (by kernel_rfl) ?_ ?_
     ·
      refine zw rfl rfl rfl rfl (.c rfl (.c rfl .n)) ce44 (zqb (k1:=true) (u1:=w32) (v1:=w43) (q1:=qx) (k2:=true) (u2:=u2_1) (v2:=u2_2) (q2:= - qz) (hl:=by first|rfl|assumption|omega)) (.c (j:=2) rfl (.c (j:=0) rfl .n)) ?_
      rintro ⟨u3_1,u3_2⟩ -
      dsimp only [List.append_eq,List.nil_append,List.cons_append]
      exact zV (hD2 (u2_1,u2_2,u3_1,u3_2)) (by kernel_rfl) ((.of rfl):SubM _ _) .rfl .rfl ((.of [0,1,2,3,4,5] rfl):SelR _ _ _)
     ·
      refine zKa rfl rfl rfl rfl (zu zr42 rfl) (fun u4_1 _=> ?_)
      exact zV (hD3 (u2_1,u2_2,u4_1)) (by kernel_rfl) ((.of rfl):SubM _ _) .rfl .rfl ((.of [0,1,2,3,4] rfl):SelR _ _ _)
    refine zka (X:=Nat) (k':=3) (L':=(lb 6 19)) (fun u4_1=>([(14,.pointer (some ⟨u4_1,0,none⟩)),(42,.agg (cw [w76,w87]).toArray),(41,.agg (cw [w32,w43]).toArray),(12,.pointer (some ⟨b18,0,none⟩)),(10,.pointer (some ⟨b10,0,none⟩)),(9,.pointer (some ⟨b9,0,none⟩)),(8,.pointer (some ⟨b8,0,none⟩)),(7,.int .i64 0),(6,.bool false)],[boxA u4_1 42 [.bool false,.slice none 0 0,.bool false,.slice none 0 0]],[boxA b18 42 (cw [w316,w417]),boxA b10 42 (cw [w76,w87]),boxA b9 42 (cw [w54,w65]),boxA b8 42 (cw [w32,w43]),boxA b1 33 [.int .i64 ar,.int .i64 le,.int .i64 tp,.int .i64 rt,.int .i64 bt,.int .i64 sx,.int .i64 sy,.int .i64 xx,.int .i64 xy,.int .i64 yy,.int .i64 ms,.int .i64 mx,.int .i64 my]],[qF true w316 w417 (Rat.divInt num den),qF true w32 w43 qx,qF true w54 w65 qy,qF true w76 w87 qz])) ?_ (fun hD5=> ?_)
    ·
     rintro u4_1
     dsimp only [cw]
     refine zG 2 (by kernel_rfl) ?_
     ·
      refine zw rfl rfl rfl rfl (.c rfl .n) ce45 (zLc (k1:=true) (u1:=w76) (v1:=w87) (q1:=qz) (hl:=by first|rfl|assumption|omega)) (.c (j:=3) rfl .n) ?_
      rintro ⟨u2_1,u2_2⟩ -
      dsimp only [List.append_eq,List.nil_append,List.cons_append]
      exact zV (hD3 (u2_1,u2_2,u4_1)) (by kernel_rfl) ((.of rfl):SubM _ _) .rfl .rfl ((.of [0,1,2,3,4] rfl):SelR _ _ _)
    refine zvb 2 4 (by kernel_rfl) ?_ ?_
    ·
     refine zw rfl rfl rfl rfl (.c rfl .n) ce45 (zLc (k1:=true) (u1:=w76) (v1:=w87) (q1:=qz) (hl:=by first|rfl|assumption|omega)) (.c (j:=3) rfl .n) ?_
     rintro ⟨u2_1,u2_2⟩ -
     dsimp only [List.append_eq,List.nil_append,List.cons_append]
     exact zV (hD4 (u2_1,u2_2)) (by kernel_rfl) ((.of rfl):SubM _ _) .rfl .rfl ((.of [0,1,2,3,4] rfl):SelR _ _ _)
    ·
     refine zKa rfl rfl rfl rfl (zu zr42 rfl) (fun u4_1 _=> ?_)
     exact zV (hD5 u4_1) (by kernel_rfl) ((.of rfl):SubM _ _) .rfl .rfl ((.of [0,1,2,3] rfl):SelR _ _ _)
end Go.Proofs.YtefbbhiaalcjfaaGreat.Sp
namespace Go.Proofs.YtefbbhiaalcjfaaGreat.Sp
open Go
set_option linter.unusedVariables false
set_option maxRecDepth 100000
set_option maxHeartbeats 1000000
theorem zNc {ar:Int} {le:Int} {tp:Int} {rt:Int} {bt:Int} {sx:Int} {sy:Int} {xx:Int} {xy:Int} {yy:Int} {ms:Int} {mx:Int} {my:Int} {num:Int} {den:Int} (hnum: -9223372036854775808≤num∧num≤9223372036854775807) (hden: -9223372036854775808≤den∧den≤9223372036854775807):Con Tryz.prog 4 [.agg #[.int .i64 ar,.int .i64 le,.int .i64 tp,.int .i64 rt,.int .i64 bt,.int .i64 sx,.int .i64 sy,.int .i64 xx,.int .i64 xy,.int .i64 yy,.int .i64 ms,.int .i64 mx,.int .i64 my],.int .i64 num,.int .i64 den] [] [] (Y:=Unit) (fun y=>True) (fun y=> .bool true) (fun y=>[]) (fun y=>[]):=by
 refine zr Tryz.func4 rfl rfl rfl (fun c=> ?_)
 show RunC _ _ _ _ _ [(0,.agg #[.int .i64 ar,.int .i64 le,.int .i64 tp,.int .i64 rt,.int .i64 bt,.int .i64 sx,.int .i64 sy,.int .i64 xx,.int .i64 xy,.int .i64 yy,.int .i64 ms,.int .i64 mx,.int .i64 my]),(1,.int .i64 num),(2,.int .i64 den)] [] []
 refine zi<|zc<|zJ rfl rfl (zT rfl rfl) (fun b1=> ?_)
 refine r_pv rfl rfl (zd rfl)<|zj<|zf<|zi<|zi<|zc<|zL rfl rfl (.n) ce5 (znf) (.n)<|r_pv rfl rfl (zrb rfl)<|zj<|zf<|zdb rfl rfl<|zD<|zf<|zi<|zc<|r_u rfl rfl (zg 0 ty33 rfl rfl (.take (.take (.take (.take (.take (.take (.take (.take (.take (.take (.take (.take (.take .nil))))))))))))))<|zx rfl rfl (.c rfl .n) ce13 (zbd (ar:=ar) (le:=le) (tp:=tp) (rt:=rt) (bt:=bt) (sx:=sx) (sy:=sy) (xx:=xx) (xy:=xy) (yy:=yy) (ms:=ms) (mx:=mx) (my:=my)) (.n) ?_
 rintro ⟨w32,w43,w54,w65⟩ -
 dsimp only [List.append_eq,List.nil_append,List.cons_append]
 refine r_pv rfl rfl (zb rfl)<|r_pv rfl rfl (zm rfl rfl)<|r_pv rfl rfl (zm rfl rfl)<|zJ rfl rfl (zu zr44 rfl) (fun b6=> ?_)
 refine zl 0 rfl rfl rfl rfl rfl sz44 rfl (.take (.take (.take (.take (.take (.take (.take (.take .nil)))))))) .z<|r_pv rfl rfl (zd rfl)<|zj<|zf<|zi<|zc<|r_u rfl rfl (zg 1 ty33 rfl rfl (.take (.take (.take (.take (.take (.take (.take (.take (.take (.take (.take (.take (.take .nil))))))))))))))<|zx rfl rfl (.c rfl .n) ce14 (zZd (ar:=ar) (le:=le) (tp:=tp) (rt:=rt) (bt:=bt) (sx:=sx) (sy:=sy) (xx:=xx) (xy:=xy) (yy:=yy) (ms:=ms) (mx:=mx) (my:=my)) (.n) ?_
 rintro ⟨w37,w48,w59,w610⟩ -
 dsimp only [List.append_eq,List.nil_append,List.cons_append]
 refine r_pv rfl rfl (zb rfl)<|r_pv rfl rfl (zm rfl rfl)<|r_pv rfl rfl (zm rfl rfl)<|zJ rfl rfl (zu zr44 rfl) (fun b11=> ?_)
 refine zl 0 rfl rfl rfl rfl rfl sz44 rfl (.take (.take (.take (.take (.take (.take (.take (.take .nil)))))))) .z<|r_pv rfl rfl (zd rfl)<|zj<|zf<|zi<|zQa (X:=Unit) (fun x=>True) (fun x=>[(53,.bool false),(10,.int .i64 (if Bl.ok ar le tp rt bt sx sy xx xy yy ms mx my then (if ms=0 then 13 else 0) else 1)),(8,.int .i64 (if Bl.ok ar le tp rt bt sx sy xx xy yy ms mx my then (if ms=0 then 13 else 0) else 1)),(6,.bool false),(3,.pointer (some ⟨b1,0,none⟩)),(1,.int .i64 num),(2,.int .i64 den)]) (fun x=>[boxA b11 44 (cw [w37,w48,w59,w610]),boxA b6 44 (cw [w32,w43,w54,w65]),boxA b1 33 [.int .i64 ar,.int .i64 le,.int .i64 tp,.int .i64 rt,.int .i64 bt,.int .i64 sx,.int .i64 sy,.int .i64 xx,.int .i64 xy,.int .i64 yy,.int .i64 ms,.int .i64 mx,.int .i64 my]]) (fun x=>[qF (decide (Bl.ok ar le tp rt bt sx sy xx xy yy ms mx my∧ms≠0)) w37 w48 (if Bl.ok ar le tp rt bt sx sy xx xy yy ms mx my∧ms≠0 then Rat.divInt (2*mx+ms) (2*ms) else 0),qF (decide (Bl.ok ar le tp rt bt sx sy xx xy yy ms mx my∧ms≠0)) w59 w610 (if Bl.ok ar le tp rt bt sx sy xx xy yy ms mx my∧ms≠0 then Rat.divInt (2*my+ms) (2*ms) else 0),qF (decide (Bl.ok ar le tp rt bt sx sy xx xy yy ms mx my∧ms≠0)) w32 w43 (if Bl.ok ar le tp rt bt sx sy xx xy yy ms mx my∧ms≠0 then Rat.divInt (2*mx+ms) (2*ms) else 0),qF (decide (Bl.ok ar le tp rt bt sx sy xx xy yy ms mx my∧ms≠0)) w54 w65 (if Bl.ok ar le tp rt bt sx sy xx xy yy ms mx my∧ms≠0 then Rat.divInt (2*my+ms) (2*ms) else 0)]) ?_ ?_
 ·
  refine zc<|r_pv rfl rfl (zb rfl)<|r_pv rfl rfl (zb rfl)<|r_pv rfl rfl (zJa rfl rfl) ?_
  rw [Fl.self_ne]
  refine r_pv rfl rfl (zb rfl)<|r_pv rfl rfl (zb rfl)<|r_pv rfl rfl (zza rfl rfl)<|zO rfl rfl (zb rfl) (fun hk=> ?_) (fun hk=> ?_)
  ·
   have hcm:=Fl.cen0.1 hk
   have e12:(decide (Bl.ok ar le tp rt bt sx sy xx xy yy ms mx my∧ms≠0))=true:=by exact decide_eq_true hcm
   rw [e12]
   have e13:(if Bl.ok ar le tp rt bt sx sy xx xy yy ms mx my∧ms≠0 then Rat.divInt (2*mx+ms) (2*ms) else 0)=Rat.divInt (2*mx+ms) (2*ms):=by exact if_pos hcm
   rw [e13]
   have e14:(if Bl.ok ar le tp rt bt sx sy xx xy yy ms mx my∧ms≠0 then Rat.divInt (2*my+ms) (2*ms) else 0)=Rat.divInt (2*my+ms) (2*ms):=by exact if_pos hcm
   rw [e14]
   have ho9:=hcm.1
   unfold Bl.ok at ho9
   have e0:=Bl.mul_b (x:=ar) (y:=le) (m:=4096) (n:=63) (by omega) (by omega)
   have e1:=Bl.mul_b (x:=ar) (y:=rt) (m:=4096) (n:=63) (by omega) (by omega)
   have e2:=Bl.mul_b (x:=ar) (y:=tp) (m:=4096) (n:=63) (by omega) (by omega)
   have e3:=Bl.mul_b (x:=ar) (y:=bt) (m:=4096) (n:=63) (by omega) (by omega)
   have e4:=Bl.mul_b (x:=ms) (y:=le) (m:=268431360) (n:=63) (by omega) (by omega)
   have e5:=Bl.mul_b (x:=ms) (y:=rt) (m:=268431360) (n:=63) (by omega) (by omega)
   have e6:=Bl.mul_b (x:=ms) (y:=tp) (m:=268431360) (n:=63) (by omega) (by omega)
   have e7:=Bl.mul_b (x:=ms) (y:=bt) (m:=268431360) (n:=63) (by omega) (by omega)
   have hx3:=Fl.hq_q (n:=2*mx+ms) (d:=2*ms) (by omega) (by omega) (by omega)
   have hy3:=Fl.hq_q (n:=2*my+ms) (d:=2*ms) (by omega) (by omega) (by omega)
   refine r_pv rfl rfl (zh Tryz.underlying44 rfl sz42 rfl rfl)<|r_u rfl rfl (zg 1 ty42 rfl rfl (.take (.take (.take (.take .nil)))))<|r_pv rfl rfl (zh Tryz.underlying44 rfl sz42 rfl rfl)<|r_u rfl rfl (zg 0 ty42 rfl rfl (.take (.take (.take (.take .nil)))))<|zL rfl rfl (.c rfl (.c rfl .n)) ce15 (zDa (u1:=w32) (v1:=w43) (q1:=Rat.divInt (2*mx+ms) (2*ms)) (u2:=w37) (v2:=w48) (q2:=Rat.divInt (2*mx+ms) (2*ms)) (hl:=by first|rfl|assumption|omega)) (.c (j:=2) rfl (.c (j:=0) rfl .n)) ?_
   rw [show (decide ((Rat.divInt (2*mx+ms) (2*ms))=(Rat.divInt (2*mx+ms) (2*ms))))=true from by exact decide_eq_true rfl]
   refine r_pv rfl rfl (zrb rfl)<|r_pv rfl rfl (zb rfl)<|r_pv rfl rfl (zh Tryz.underlying44 rfl sz42 rfl rfl)<|r_u rfl rfl (zg 1 ty42 rfl rfl (.skip (.skip (.skip (.skip (.take (.take (.take (.take .nil)))))))))<|r_pv rfl rfl (zh Tryz.underlying44 rfl sz42 rfl rfl)<|r_u rfl rfl (zg 0 ty42 rfl rfl (.skip (.skip (.skip (.skip (.take (.take (.take (.take .nil)))))))))<|zL rfl rfl (.c rfl (.c rfl .n)) ce15 (zDa (u1:=w54) (v1:=w65) (q1:=Rat.divInt (2*my+ms) (2*ms)) (u2:=w59) (v2:=w610) (q2:=Rat.divInt (2*my+ms) (2*ms)) (hl:=by first|rfl|assumption|omega)) (.c (j:=3) rfl (.c (j:=1) rfl .n)) ?_
   rw [show (decide ((Rat.divInt (2*my+ms) (2*ms))=(Rat.divInt (2*my+ms) (2*ms))))=true from by exact decide_eq_true rfl]
   refine r_pv rfl rfl (zrb rfl)<|r_pv rfl rfl (zk rfl rfl)<|r_pv rfl rfl (zk rfl rfl)<|r_pv rfl rfl (zk rfl rfl)<|zj ?_
   exact zZ () (show True from by first|trivial|omega|simp_all) ((.of rfl):SubM _ _) (ho:=((.of [0,0,0] rfl):PickO _ _ _)) ((.e (j:=0) rfl (by first|rfl|simp_all) (.e (j:=1) rfl (by first|rfl|simp_all) (.e (j:=2) rfl (by first|rfl|simp_all) (.e (j:=3) rfl (by first|rfl|simp_all) .n)))):SelR _ _ _)
  ·
   refine za rfl rfl<|za rfl rfl<|za rfl rfl<|za rfl rfl<|za rfl rfl<|za rfl rfl<|za rfl rfl<|za rfl rfl<|za rfl rfl<|za rfl rfl<|za rfl rfl<|za rfl rfl<|za rfl rfl<|za rfl rfl<|r_pv rfl rfl (zk rfl rfl)<|r_pv rfl rfl (zk rfl rfl)<|zj ?_
   exact zZ () (show True from by first|trivial|omega|simp_all) ((.of rfl):SubM _ _) (ho:=((.of [0,0,0] rfl):PickO _ _ _)) ((.of [0,1,2,3] rfl):SelR _ _ _)
 ·
  rintro ⟨⟩ -
  try dsimp only [cw]
  refine zdb rfl rfl<|zD<|zf<|zi<|zc<|r_u rfl rfl (zg 2 ty33 rfl rfl (.take (.take (.take (.take (.take (.take (.take (.take (.take (.take (.take (.take (.take .nil))))))))))))))<|zx rfl rfl (.c rfl .n) ce16 (zSb (ar:=ar) (le:=le) (tp:=tp) (rt:=rt) (bt:=bt) (sx:=sx) (sy:=sy) (xx:=xx) (xy:=xy) (yy:=yy) (ms:=ms) (mx:=mx) (my:=my)) (.n) ?_
  rintro ⟨w315,w416,w517,w618,w719,w820⟩ -
  dsimp only [List.append_eq,List.nil_append,List.cons_append]
  refine r_pv rfl rfl (zb rfl)<|r_pv rfl rfl (zm rfl rfl)<|r_pv rfl rfl (zm rfl rfl)<|r_pv rfl rfl (zm rfl rfl)<|r_pv rfl rfl (zm rfl rfl)<|zJ rfl rfl (zu zr42 rfl) (fun b21=> ?_)
  refine zJ rfl rfl (zu zr42 rfl) (fun b22=> ?_)
  refine zJ rfl rfl (zu zr42 rfl) (fun b23=> ?_)
  refine zl 2 rfl rfl rfl rfl rfl sz42 rfl (.take (.take (.take (.take .nil)))) (.s (.s .z))<|zl 1 rfl rfl rfl rfl rfl sz42 rfl (.take (.take (.take (.take .nil)))) (.s .z)<|zl 0 rfl rfl rfl rfl rfl sz42 rfl (.take (.take (.take (.take .nil)))) .z<|r_pv rfl rfl (zd rfl)<|zj<|zf<|zi<|zc<|r_u rfl rfl (zg 5 ty33 rfl rfl (.take (.take (.take (.take (.take (.take (.take (.take (.take (.take (.take (.take (.take .nil))))))))))))))<|zx rfl rfl (.c rfl .n) ce17 (zsc (ar:=ar) (le:=le) (tp:=tp) (rt:=rt) (bt:=bt) (sx:=sx) (sy:=sy) (xx:=xx) (xy:=xy) (yy:=yy) (ms:=ms) (mx:=mx) (my:=my)) (.n) ?_
  rintro ⟨w324,w425,w526,w627,w728,w829⟩ -
  dsimp only [List.append_eq,List.nil_append,List.cons_append]
  refine r_pv rfl rfl (zb rfl)<|r_pv rfl rfl (zm rfl rfl)<|r_pv rfl rfl (zm rfl rfl)<|r_pv rfl rfl (zm rfl rfl)<|r_pv rfl rfl (zm rfl rfl)<|zJ rfl rfl (zu zr42 rfl) (fun b30=> ?_)
  refine zJ rfl rfl (zu zr42 rfl) (fun b31=> ?_)
  refine zJ rfl rfl (zu zr42 rfl) (fun b32=> ?_)
  refine zl 2 rfl rfl rfl rfl rfl sz42 rfl (.take (.take (.take (.take .nil)))) (.s (.s .z))<|zl 1 rfl rfl rfl rfl rfl sz42 rfl (.take (.take (.take (.take .nil)))) (.s .z)<|zl 0 rfl rfl rfl rfl rfl sz42 rfl (.take (.take (.take (.take .nil)))) .z<|r_pv rfl rfl (zd rfl)<|zj<|zf<|zi<|zQa (X:=Unit) (fun x=>True) (fun x=>[(92,.bool false),(10,.int .i64 (if Bl.ok ar le tp rt bt sx sy xx xy yy ms mx my then 0 else 1)),(8,.int .i64 (if Bl.ok ar le tp rt bt sx sy xx xy yy ms mx my then 0 else 1)),(6,.bool false),(3,.pointer (some ⟨b1,0,none⟩)),(1,.int .i64 num),(2,.int .i64 den)]) (fun x=>[boxA b32 42 (cw [w728,w829]),boxA b31 42 (cw [w526,w627]),boxA b30 42 (cw [w324,w425]),boxA b23 42 (cw [w719,w820]),boxA b22 42 (cw [w517,w618]),boxA b21 42 (cw [w315,w416]),boxA b11 44 (cw [w37,w48,w59,w610]),boxA b6 44 (cw [w32,w43,w54,w65]),boxA b1 33 [.int .i64 ar,.int .i64 le,.int .i64 tp,.int .i64 rt,.int .i64 bt,.int .i64 sx,.int .i64 sy,.int .i64 xx,.int .i64 xy,.int .i64 yy,.int .i64 ms,.int .i64 mx,.int .i64 my]]) (fun x=>[qF (decide (Bl.ok ar le tp rt bt sx sy xx xy yy ms mx my)) w324 w425 (if Bl.ok ar le tp rt bt sx sy xx xy yy ms mx my then Rat.divInt (xx*ar - sx*sx) (ar*ar) else 0),qF (decide (Bl.ok ar le tp rt bt sx sy xx xy yy ms mx my)) w526 w627 (if Bl.ok ar le tp rt bt sx sy xx xy yy ms mx my then Rat.divInt (xy*ar - sx*sy) (ar*ar) else 0),qF (decide (Bl.ok ar le tp rt bt sx sy xx xy yy ms mx my)) w728 w829 (if Bl.ok ar le tp rt bt sx sy xx xy yy ms mx my then Rat.divInt (yy*ar - sy*sy) (ar*ar) else 0),qF (decide (Bl.ok ar le tp rt bt sx sy xx xy yy ms mx my)) w315 w416 (if Bl.ok ar le tp rt bt sx sy xx xy yy ms mx my then Rat.divInt (xx*ar - sx*sx) (ar*ar) else 0),qF (decide (Bl.ok ar le tp rt bt sx sy xx xy yy ms mx my)) w517 w618 (if Bl.ok ar le tp rt bt sx sy xx xy yy ms mx my then Rat.divInt (xy*ar - sx*sy) (ar*ar) else 0),qF (decide (Bl.ok ar le tp rt bt sx sy xx xy yy ms mx my)) w719 w820 (if Bl.ok ar le tp rt bt sx sy xx xy yy ms mx my then Rat.divInt (yy*ar - sy*sy) (ar*ar) else 0),qF (decide (Bl.ok ar le tp rt bt sx sy xx xy yy ms mx my∧ms≠0)) w37 w48 (if Bl.ok ar le tp rt bt sx sy xx xy yy ms mx my∧ms≠0 then Rat.divInt (2*mx+ms) (2*ms) else 0),qF (decide (Bl.ok ar le tp rt bt sx sy xx xy yy ms mx my∧ms≠0)) w59 w610 (if Bl.ok ar le tp rt bt sx sy xx xy yy ms mx my∧ms≠0 then Rat.divInt (2*my+ms) (2*ms) else 0),qF (decide (Bl.ok ar le tp rt bt sx sy xx xy yy ms mx my∧ms≠0)) w32 w43 (if Bl.ok ar le tp rt bt sx sy xx xy yy ms mx my∧ms≠0 then Rat.divInt (2*mx+ms) (2*ms) else 0),qF (decide (Bl.ok ar le tp rt bt sx sy xx xy yy ms mx my∧ms≠0)) w54 w65 (if Bl.ok ar le tp rt bt sx sy xx xy yy ms mx my∧ms≠0 then Rat.divInt (2*my+ms) (2*ms) else 0)]) ?_ ?_
  ·
   refine zc<|r_pv rfl rfl (zb rfl)<|r_pv rfl rfl (zb rfl)<|r_pv rfl rfl (zJa rfl rfl) ?_
   rw [Fl.self_ne]
   refine r_pv rfl rfl (zb rfl)<|r_pv rfl rfl (zb rfl)<|r_pv rfl rfl (zza rfl rfl)<|zO rfl rfl (zb rfl) (fun hk2=> ?_) (fun hk2=> ?_)
   ·
    have hok:=Bl.c0.1 hk2
    have e33:(decide (Bl.ok ar le tp rt bt sx sy xx xy yy ms mx my))=true:=by exact decide_eq_true hok
    rw [e33]
    have e34:(if Bl.ok ar le tp rt bt sx sy xx xy yy ms mx my then Rat.divInt (xx*ar - sx*sx) (ar*ar) else 0)=Rat.divInt (xx*ar - sx*sx) (ar*ar):=by exact if_pos hok
    rw [e34]
    have e35:(if Bl.ok ar le tp rt bt sx sy xx xy yy ms mx my then Rat.divInt (xy*ar - sx*sy) (ar*ar) else 0)=Rat.divInt (xy*ar - sx*sy) (ar*ar):=by exact if_pos hok
    rw [e35]
    have e36:(if Bl.ok ar le tp rt bt sx sy xx xy yy ms mx my then Rat.divInt (yy*ar - sy*sy) (ar*ar) else 0)=Rat.divInt (yy*ar - sy*sy) (ar*ar):=by exact if_pos hok
    rw [e36]
    have ho9:=hok
    unfold Bl.ok at ho9
    have e0:=Bl.mul_b (x:=ar) (y:=le) (m:=4096) (n:=63) (by omega) (by omega)
    have e1:=Bl.mul_b (x:=ar) (y:=rt) (m:=4096) (n:=63) (by omega) (by omega)
    have e2:=Bl.mul_b (x:=ar) (y:=tp) (m:=4096) (n:=63) (by omega) (by omega)
    have e3:=Bl.mul_b (x:=ar) (y:=bt) (m:=4096) (n:=63) (by omega) (by omega)
    have e4:=Bl.mul_b (x:=ms) (y:=le) (m:=268431360) (n:=63) (by omega) (by omega)
    have e5:=Bl.mul_b (x:=ms) (y:=rt) (m:=268431360) (n:=63) (by omega) (by omega)
    have e6:=Bl.mul_b (x:=ms) (y:=tp) (m:=268431360) (n:=63) (by omega) (by omega)
    have e7:=Bl.mul_b (x:=ms) (y:=bt) (m:=268431360) (n:=63) (by omega) (by omega)
    have p0:=Bl.mul_b (x:=ar) (y:=ar) (m:=4096) (n:=4096) (by omega) (by omega)
    have pne:ar*ar≠0:=Int.mul_ne_zero (by omega) (by omega)
    have px1:=Bl.mul_b (x:=xx) (y:=ar) (m:=16257024) (n:=4096) (by omega) (by omega)
    have px2:=Bl.mul_b (x:=sx) (y:=sx) (m:=258048) (n:=258048) (by omega) (by omega)
    have px3:=Fl.hq_q (n:=xx*ar - sx*sx) pne (by omega) (by omega)
    have py1:=Bl.mul_b (x:=xy) (y:=ar) (m:=16257024) (n:=4096) (by omega) (by omega)
    have py2:=Bl.mul_b (x:=sx) (y:=sy) (m:=258048) (n:=258048) (by omega) (by omega)
    have py3:=Fl.hq_q (n:=xy*ar - sx*sy) pne (by omega) (by omega)
    have pz1:=Bl.mul_b (x:=yy) (y:=ar) (m:=16257024) (n:=4096) (by omega) (by omega)
    have pz2:=Bl.mul_b (x:=sy) (y:=sy) (m:=258048) (n:=258048) (by omega) (by omega)
    have pz3:=Fl.hq_q (n:=yy*ar - sy*sy) pne (by omega) (by omega)
    refine r_u rfl rfl (zg 5 ty42 rfl rfl (.take (.take (.take (.take .nil)))))<|r_u rfl rfl (zg 2 ty42 rfl rfl (.take (.take (.take (.take .nil)))))<|zL rfl rfl (.c rfl (.c rfl .n)) ce15 (zDa (u1:=w315) (v1:=w416) (q1:=Rat.divInt (xx*ar - sx*sx) (ar*ar)) (u2:=w324) (v2:=w425) (q2:=Rat.divInt (xx*ar - sx*sx) (ar*ar)) (hl:=by first|rfl|assumption|omega)) (.c (j:=3) rfl (.c (j:=0) rfl .n)) ?_
    rw [show (decide ((Rat.divInt (xx*ar - sx*sx) (ar*ar))=(Rat.divInt (xx*ar - sx*sx) (ar*ar))))=true from by exact decide_eq_true rfl]
    refine r_pv rfl rfl (zrb rfl)<|r_pv rfl rfl (zb rfl)<|r_u rfl rfl (zg 4 ty42 rfl rfl (.take (.take (.take (.take .nil)))))<|r_u rfl rfl (zg 1 ty42 rfl rfl (.take (.take (.take (.take .nil)))))<|zL rfl rfl (.c rfl (.c rfl .n)) ce15 (zDa (u1:=w517) (v1:=w618) (q1:=Rat.divInt (xy*ar - sx*sy) (ar*ar)) (u2:=w526) (v2:=w627) (q2:=Rat.divInt (xy*ar - sx*sy) (ar*ar)) (hl:=by first|rfl|assumption|omega)) (.c (j:=4) rfl (.c (j:=1) rfl .n)) ?_
    rw [show (decide ((Rat.divInt (xy*ar - sx*sy) (ar*ar))=(Rat.divInt (xy*ar - sx*sy) (ar*ar))))=true from by exact decide_eq_true rfl]
    refine r_pv rfl rfl (zrb rfl)<|r_pv rfl rfl (zk rfl rfl)<|r_pv rfl rfl (zb rfl)<|r_u rfl rfl (zg 3 ty42 rfl rfl (.take (.take (.take (.take .nil)))))<|r_u rfl rfl (zg 0 ty42 rfl rfl (.take (.take (.take (.take .nil)))))<|zL rfl rfl (.c rfl (.c rfl .n)) ce15 (zDa (u1:=w719) (v1:=w820) (q1:=Rat.divInt (yy*ar - sy*sy) (ar*ar)) (u2:=w728) (v2:=w829) (q2:=Rat.divInt (yy*ar - sy*sy) (ar*ar)) (hl:=by first|rfl|assumption|omega)) (.c (j:=5) rfl (.c (j:=2) rfl .n)) ?_
    rw [show (decide ((Rat.divInt (yy*ar - sy*sy) (ar*ar))=(Rat.divInt (yy*ar - sy*sy) (ar*ar))))=true from by exact decide_eq_true rfl]
    refine r_pv rfl rfl (zrb rfl)<|r_pv rfl rfl (zk rfl rfl)<|r_pv rfl rfl (zk rfl rfl)<|r_pv rfl rfl (zk rfl rfl)<|zj ?_
    exact zZ () (show True from by first|trivial|omega|simp_all) ((.of rfl):SubM _ _) (ho:=((.of [0,0,0,0,0,0,0,0,0] rfl):PickO _ _ _)) ((.e (j:=0) rfl (by first|rfl|simp_all) (.e (j:=1) rfl (by first|rfl|simp_all) (.e (j:=2) rfl (by first|rfl|simp_all) (.e (j:=3) rfl (by first|rfl|simp_all) (.e (j:=4) rfl (by first|rfl|simp_all) (.e (j:=5) rfl (by first|rfl|simp_all) (.of [6,7,8,9] rfl))))))):SelR _ _ _)
   ·
    refine za rfl rfl<|za rfl rfl<|za rfl rfl<|za rfl rfl<|za rfl rfl<|za rfl rfl<|za rfl rfl<|za rfl rfl<|za rfl rfl<|za rfl rfl<|za rfl rfl<|za rfl rfl<|za rfl rfl<|za rfl rfl<|za rfl rfl<|za rfl rfl<|r_pv rfl rfl (zk rfl rfl)<|r_pv rfl rfl (zk rfl rfl)<|zj ?_
    exact zZ () (show True from by first|trivial|omega|simp_all) ((.of rfl):SubM _ _) (ho:=((.of [0,0,0,0,0,0,0,0,0] rfl):PickO _ _ _)) ((.of [0,1,2,3,4,5,6,7,8,9] rfl):SelR _ _ _)
  ·
   rintro ⟨⟩ -
   try dsimp only [cw]
   refine zdb rfl rfl<|zD<|zf<|zi<|zc<|r_u rfl rfl (zg 8 ty33 rfl rfl (.take (.take (.take (.take (.take (.take (.take (.take (.take (.take (.take (.take (.take .nil))))))))))))))<|r_pv rfl rfl (zb rfl)<|r_pv rfl rfl (zb rfl)<|zL rfl rfl (.c rfl (.c rfl (.c rfl .n))) ce18 (zof (ar:=ar) (le:=le) (tp:=tp) (rt:=rt) (bt:=bt) (sx:=sx) (sy:=sy) (xx:=xx) (xy:=xy) (yy:=yy) (ms:=ms) (mx:=mx) (my:=my) (num:=num) (den:=den) (hnum:=by assumption) (hden:=by assumption)) (.n)<|r_pv rfl rfl (zb rfl)<|r_pv rfl rfl (zm rfl rfl)<|r_pv rfl rfl (zm rfl rfl)<|r_pv rfl rfl (zd rfl)<|r_pv rfl rfl (zd rfl)<|zj<|zf<|zi<|zc<|r_u rfl rfl (zg 8 ty33 rfl rfl (.take (.take (.take (.take (.take (.take (.take (.take (.take (.take (.take (.take (.take .nil))))))))))))))<|r_pv rfl rfl (zb rfl)<|r_pv rfl rfl (zb rfl)<|zL rfl rfl (.c rfl (.c rfl (.c rfl .n))) ce19 (zEe (ar:=ar) (le:=le) (tp:=tp) (rt:=rt) (bt:=bt) (sx:=sx) (sy:=sy) (xx:=xx) (xy:=xy) (yy:=yy) (ms:=ms) (mx:=mx) (my:=my) (num:=num) (den:=den) (hnum:=by assumption) (hden:=by assumption)) (.n)<|r_pv rfl rfl (zb rfl)<|r_pv rfl rfl (zm rfl rfl)<|r_pv rfl rfl (zm rfl rfl)<|r_pv rfl rfl (zd rfl)<|r_pv rfl rfl (zd rfl)<|zj<|zf<|zi<|zc<|r_pv rfl rfl (zb rfl)<|r_pv rfl rfl (zb rfl)<|r_pv rfl rfl (zza rfl rfl) ?_
   rw [Fl.self_eq]
   refine r_pv rfl rfl (zb rfl)<|r_pv rfl rfl (zb rfl)<|r_pv rfl rfl (zb rfl)<|r_pv rfl rfl (zOb Tryz.underlying4 rfl rfl) ?_
   rw [show (decide ((if Bl.ok ar le tp rt bt sx sy xx xy yy ms mx my∧(0≤num∧num≤1000)∧(1≤den∧den≤1000) then Fl.rndQ (Rat.divInt (xx*ar - sx*sx) (ar*ar)) (Rat.divInt (xy*ar - sx*sy) (ar*ar)) (Rat.divInt (yy*ar - sy*sy) (ar*ar)) (Rat.divInt num den) else false)=(if Bl.ok ar le tp rt bt sx sy xx xy yy ms mx my∧(0≤num∧num≤1000)∧(1≤den∧den≤1000) then Fl.rndQ (Rat.divInt (xx*ar - sx*sx) (ar*ar)) (Rat.divInt (xy*ar - sx*sy) (ar*ar)) (Rat.divInt (yy*ar - sy*sy) (ar*ar)) (Rat.divInt num den) else false)))=true from by exact decide_eq_true rfl]
   refine r_pv rfl rfl (zk rfl rfl)<|r_pv rfl rfl (zd rfl)<|zj<|zf<|zI ?_
   exact zB Tryz.results4 () trivial (zt rfl) rfl (ho:=(.n:PickO _ _ _)) (.n:SelR _ _ _)
end Go.Proofs.YtefbbhiaalcjfaaGreat.Sp
